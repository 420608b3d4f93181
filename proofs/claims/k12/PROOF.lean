import PyProof.Rows.All
import Wide.All
import OpenK.AllK
import Wide.FinOn
import HandS.ForMost
import HandS.Defaults
import HandS.Conv
import HandS.Zip
import HandS.Rev
import HandS.Style
import HandS.IsInst
import HandS.SortKw
import HandS.SortInts
import HandS.SortOrd
import HandS.TupAny
import HandS.TupLe
import HandS.Wide
import HandS.Flow
import KE.DataMinMax
import KE.SortData
import HandS.TupSets
import KE.GoesEnum
import KE.DataEq
import HandS.Exc
import HandS.ExcOwn
import HandS.ExcInit
import HandS.ExcField
import HandS.ExcIs
import HandS.TryMany
import HandS.ExcCtx
import HandS.HotCalls
import KE.KExcIs
import HandS.Head0
import HandS.Head1
import HandS.Head2
import HandS.HeadEnd
import HandS.HeadHook1
import HandS.HeadHook2
import HandS.Gcd
import KE.KMathGC
import HandS.TupMul
import HandS.Dict
import HandS.Deep
import HandS.Comp
import KE.GoesEnumKw
import HandS.RevRange
import HandS.Head3
import PySem.Challenge.RW_sincemarks_k12_heights_records_open
set_option Elab.async false
set_option linter.all false
set_option maxRecDepth 100000
set_option maxHeartbeats 0
namespace DL
open PySem PySem.Spec PyProof.Rows L2
abbrev St := L2.St
/-- a thing that is only asked: a set of ints, a range -/
inductive Ok where
  | ints (is : List Int)
  | rng (lo hi : Int)
  | xc (a dd : Addr) (fs : List (Str × V)) (ds : List (Str × PyData))
def Ok.At : Ok → HO → Prop
  | .ints is, o => ∃ n, o = .set (fun j => decide (j ∈ is)) n
  | .rng lo hi, o => o = .rng lo hi
  | .xc _ _ _ _, _ => False
inductive Sl where
  | im (d : PyData)
  | ac (ds : List PyData)
  | nl (dss : List (Bool × List PyData))
  | ob (k : Ok)
  | dk (kvs : List (Key × PyData))
  | me (c : Str) (fs : List (Str × PyData))
abbrev Ev := List (Option Sl)
inductive Rs where
  | im (d : PyData)
  | ac (ds : List PyData)
  | br (i : Nat)
def isAc : Option (Option Sl) → Bool
  | some (some (.ac _)) => true
  | _ => false
theorem isAc_iff {o : Option (Option Sl)} : isAc o = true ↔ ∃ ds, o = some (some (.ac ds)) := by
  constructor
  · intro h
    match o, h with
    | some (some (.ac ds)), _ => exact ⟨ds, rfl⟩
  · rintro ⟨ds, rfl⟩
    rfl
/-- the name of the class at C -/
def clsNm (K : PySem.W.Frag) (C : Addr) : Option Str := match K.lookup C with
  | some ⟨_, _, .cls cd, _⟩ => some cd.name
  | _ => none
def kyD : Key → PyData
  | .inl i => .int i
  | .inr x => .str x
def insK (c : Str) (ns : List Str) (ds : List PyData) : List (PyData × PyData) := (.none, .str c) :: (ns.zip ds).map fun p => (.str p.1, p.2)
def dctK (ks : List Key) (ds : List PyData) : List (PyData × PyData) := (ks.zip ds).map fun p => (kyD p.1, p.2)
mutual
inductive Dp (K : PySem.W.Frag) (H : Hp) : V → PyData → Prop
  | non : Dp K H .non .none
  | bl (b : Bool) : Dp K H (.bl b) (.bool b)
  | int (i : Int) : Dp K H (.int i) (.int i)
  | str (x : Str) : Dp K H (.str x) (.str x)
  | lst {a : Addr} {xs : List V} {ds : List PyData} : SqL K H a xs → DpAll K H xs ds → Dp K H (.ref a) (.list ds)
  | tup {a : Addr} {xs : List V} {ds : List PyData} : SqT K H a xs → DpAll K H xs ds → Dp K H (.ref a) (.tuple ds)
  | ins {a C dx : Addr} {fs : List (Str × V)} {c : Str} {ds : List PyData} {kvs : List (PyData × PyData)} : H a = some (.ins C dx fs) → clsNm K C = some c → DpAll K H (fs.map (·.2)) ds → kvs = insK c (fs.map (·.1)) ds → Dp K H (.ref a) (.dict kvs)
  | dct {a : Addr} {ps : List (Key × V)} {ds : List PyData} {kvs : List (PyData × PyData)} : H a = some (.dK ps) → DpAll K H (ps.map (·.2)) ds → kvs = dctK (ps.map (·.1)) ds → Dp K H (.ref a) (.dict kvs)
inductive DpAll (K : PySem.W.Frag) (H : Hp) : List V → List PyData → Prop
  | nil : DpAll K H [] []
  | cons {v : V} {vs : List V} {d : PyData} {ds : List PyData} : Dp K H v d → DpAll K H vs ds → DpAll K H (v :: vs) (d :: ds)
end
mutual
def noDict : PyData → Bool
  | .list ds => noDicts ds
  | .tuple ds => noDicts ds
  | .dict _ => false
  | _ => true
def noDicts : List PyData → Bool
  | [] => true
  | d :: ds => noDict d && noDicts ds
end
mutual
theorem Dp.lib {K : PySem.W.Frag} {H : Hp} : ∀ {v : V} {d : PyData}, Dp K H v d → noDict d = true → L2.Dp K H v d
  | _, _, .non, _ => .non
  | _, _, .bl b, _ => .bl b
  | _, _, .int i, _ => .int i
  | _, _, .str x, _ => .str x
  | _, _, .lst h q, n => .lst h (DpAll.lib q n)
  | _, _, .tup h q, n => .tup h (DpAll.lib q n)
  | _, _, .ins _ _ _ _, n => by cases n
  | _, _, .dct _ _ _, n => by cases n
theorem DpAll.lib {K : PySem.W.Frag} {H : Hp} : ∀ {vs : List V} {ds : List PyData}, DpAll K H vs ds → noDicts ds = true → L2.DpAll K H vs ds
  | _, _, .nil, _ => .nil
  | _, _, .cons h q, n => by
    have n : (noDict _ && noDicts _) = true := n
    rw [Bool.and_eq_true] at n
    exact .cons (Dp.lib h n.1) (DpAll.lib q n.2)
end
mutual
theorem canNo : ∀ {d : PyData}, PyData.canLay0 d = true → noDict d = true
  | .none, _ => rfl
  | .bool _, _ => rfl
  | .int _, _ => rfl
  | .str _, _ => rfl
  | .list ds, h => by
    rw [PyData.canLay0] at h
    exact canNos h
  | .tuple ds, h => by
    rw [PyData.canLay0] at h
    exact canNos h
  | .dict _, h => by
    rw [PyData.canLay0] at h
    cases h
theorem canNos : ∀ {ds : List PyData}, PyData.canLayAll0 ds = true → noDicts ds = true
  | [], _ => rfl
  | d :: ds, h => by
    rw [PyData.canLayAll0, Bool.and_eq_true] at h
    show (noDict d && noDicts ds) = true
    rw [canNo h.1, canNos h.2]
    rfl
end
theorem noDicts_all : ∀ {ds : List PyData}, noDicts ds = true ↔ ∀ d ∈ ds, noDict d = true
  | [] => Iff.intro (fun _ d h => (by cases h)) (fun _ => rfl)
  | d :: ds => by
    show (noDict d && noDicts ds) = true ↔ _
    rw [Bool.and_eq_true, noDicts_all (ds := ds)]
    constructor
    · rintro ⟨h1, h2⟩ x hx
      rcases List.mem_cons.mp hx with z | z
      · rw [z]; exact h1
      · exact h2 x z
    · exact fun h => ⟨h d List.mem_cons_self, fun x hx => h x (List.mem_cons_of_mem _ hx)⟩
theorem noDict_ints (ns : List Int) : noDicts (ns.map PyData.int) = true := noDicts_all.mpr fun d h => by
  obtain ⟨_, _, rfl⟩ := List.mem_map.mp h
  rfl
section
variable {K : PySem.W.Frag} {E : Ef} {G G' G1 G2 H H' H1 G0 : Hp} {v : V} {vs ws : List V} {d : PyData} {ds : List PyData} {p a : Addr} {o : HO} {σ σ' : St} {e e' e1 : Ev} {m : Option Addr} {i : Nat} {r : Rs}
theorem seqT (s : Same G G') {xs : List V} (h : SqT K G a xs) : SqT K G' a xs := by
  rcases h with (h | ⟨q, h⟩) | h
  · exact .inl (.inl (s _ _ h))
  · exact .inl (.inr ⟨q, s _ _ h⟩)
  · exact .inr h
mutual
theorem dp_same (s : Same G G') : ∀ {v : V} {d : PyData}, Dp K G v d → Dp K G' v d
  | _, _, .non => .non
  | _, _, .bl b => .bl b
  | _, _, .int i => .int i
  | _, _, .str x => .str x
  | _, _, .lst h q => .lst (s.seq h) (dpAll_same s q)
  | _, _, .tup h q => .tup (seqT s h) (dpAll_same s q)
  | _, _, .ins h n q e => .ins (s _ _ h) n (dpAll_same s q) e
  | _, _, .dct h q e => .dct (s _ _ h) (dpAll_same s q) e
theorem dpAll_same (s : Same G G') : ∀ {vs : List V} {ds : List PyData}, DpAll K G vs ds → DpAll K G' vs ds
  | _, _, .nil => .nil
  | _, _, .cons h q => .cons (dp_same s h) (dpAll_same s q)
end
theorem dpAll_len : ∀ {vs : List V} {ds : List PyData}, DpAll K G vs ds → vs.length = ds.length
  | _, _, .nil => rfl
  | _, _, .cons _ q => congrArg (· + 1) (dpAll_len q)
theorem dpAll_get : ∀ {vs : List V} {ds : List PyData} {i : Nat} {d : PyData}, DpAll K G vs ds → ds[i]? = some d → ∃ v, vs[i]? = some v ∧ Dp K G v d
  | _, _, _, _, .nil, z => by simp at z
  | _, _, 0, _, .cons (v := v) h _, z => ⟨v, rfl, by
      have z2 := Option.some.inj z
      rw [← z2]
      exact h⟩
  | _, _, i + 1, _, .cons _ q, z => by
      obtain ⟨v, h1, h2⟩ := dpAll_get (i := i) q (by simpa using z)
      exact ⟨v, by simpa using h1, h2⟩
theorem dpAll_at : ∀ {vs : List V} {ds : List PyData} {i : Nat} {v : V}, DpAll K G vs ds → vs[i]? = some v → ∃ d, ds[i]? = some d ∧ Dp K G v d
  | _, _, _, _, .nil, z => by simp at z
  | _, _, 0, _, .cons (d := d) h _, z => ⟨d, rfl, by
      have z2 := Option.some.inj z
      rw [← z2]
      exact h⟩
  | _, _, i + 1, _, .cons _ q, z => by
      obtain ⟨v, h1, h2⟩ := dpAll_at (i := i) q (by simpa using z)
      exact ⟨v, by simpa using h1, h2⟩
theorem dpAll_app : ∀ {vs ws : List V} {ds es : List PyData}, DpAll K G vs ds → DpAll K G ws es → DpAll K G (vs ++ ws) (ds ++ es)
  | _, _, _, _, .nil, q => q
  | _, _, _, _, .cons h t, q => .cons h (dpAll_app t q)
theorem dpAll_set : ∀ {vs : List V} {ds : List PyData} (i : Nat), DpAll K G vs ds → Dp K G v d → DpAll K G (vs.set i v) (ds.set i d)
  | _, _, _, .nil, _ => .nil
  | _, _, 0, .cons _ t, q => .cons q t
  | _, _, i + 1, .cons h t, q => .cons h (dpAll_set i t q)
theorem dpAll_take : ∀ {vs : List V} {ds : List PyData} (n : Nat), DpAll K G vs ds → DpAll K G (vs.take n) (ds.take n)
  | _, _, 0, _ => .nil
  | _, _, _ + 1, .nil => .nil
  | _, _, n + 1, .cons h t => .cons h (dpAll_take n t)
theorem dpAll_drop : ∀ {vs : List V} {ds : List PyData} (n : Nat), DpAll K G vs ds → DpAll K G (vs.drop n) (ds.drop n)
  | _, _, 0, t => t
  | _, _, _ + 1, .nil => .nil
  | _, _, n + 1, .cons _ t => dpAll_drop n t
theorem dpAll_rev : ∀ {vs : List V} {ds : List PyData}, DpAll K G vs ds → DpAll K G vs.reverse ds.reverse
  | _, _, .nil => .nil
  | _, _, .cons h t => by
    rw [List.reverse_cons, List.reverse_cons]
    exact dpAll_app (dpAll_rev t) (.cons h .nil)
theorem dpAll_rep (h : DpAll K G vs ds) : ∀ k : Nat, DpAll K G (List.replicate k vs).flatten (List.replicate k ds).flatten
  | 0 => .nil
  | k + 1 => by
    rw [List.replicate_succ, List.replicate_succ, List.flatten_cons, List.flatten_cons]
    exact dpAll_app h (dpAll_rep h k)
theorem dpAll_ints : ∀ (ns : List Int), DpAll K G (ns.map V.int) (ns.map PyData.int)
  | [] => .nil
  | n :: ns => .cons (.int n) (dpAll_ints ns)
def Own (σ : St) (e : Ev) (a : Addr) : Prop := ∃ (i : Nat) (ds : List PyData), e[i]? = some (some (.ac ds)) ∧ σ[i]? = some (some (.ref a))
/-- what stood at the entry; the instance that is being made -/
structure Bs where
  f : Hp
  s : Option Addr
instance : CoeFun Bs (fun _ => Hp) := ⟨Bs.f⟩
/-- what stood at the entry (b), and what is kept beside it since (h) -/
structure Ef where
  h : Hp
  b : Bs
  sub : ∀ a o, b a = some o → h a = some o
instance : CoeFun Ef (fun _ => Hp) := ⟨Ef.h⟩
def Ef.of (H : Hp) : Ef := ⟨H, ⟨H, none⟩, fun _ _ z => z⟩
/-- an inner list: left as it is (true), or one's own -/
def NiF (K : PySem.W.Frag) (m : Option Addr) (E : Ef) (G0 G : Hp) (b : Bool) (ds : List PyData) (q : Addr) : Prop := match b with
  | true => Dp K G (.ref q) (.list ds)
  | false => E.b q = none ∧ G0 q = none ∧ m ≠ some q ∧ ∃ ws, E.h q = some (.lst ws) ∧ DpAll K G ws ds
/-- a list of one's own lists -/
def NlF (K : PySem.W.Frag) (m : Option Addr) (E : Ef) (G0 G : Hp) (o : Option (Option V)) (dss : List (Bool × List PyData)) : Prop :=
  ∃ (p : Addr) (qs : List Addr), o = some (some (.ref p)) ∧ E.h p = some (.lst (qs.map V.ref)) ∧ E.b p = none ∧ G0 p = none ∧ m ≠ some p ∧ qs.length = dss.length ∧ (p :: qs).Nodup ∧
    ∀ (j : Nat) (b : Bool) (ds : List PyData) (q : Addr), dss[j]? = some (b, ds) → qs[j]? = some q → NiF K m E G0 G b ds q
theorem NiF.mono {K : PySem.W.Frag} {m : Option Addr} {E : Ef} {G0 G G' : Hp} (s : Same G G') : ∀ {b : Bool} {ds : List PyData} {q : Addr}, NiF K m E G0 G b ds q → NiF K m E G0 G' b ds q
  | true, _, _, h => dp_same s h
  | false, _, _, ⟨h1, h2, h3, ws, h4, h5⟩ => ⟨h1, h2, h3, ws, h4, dpAll_same s h5⟩
theorem NlF.mono {K : PySem.W.Frag} {m : Option Addr} {E : Ef} {G0 G G' : Hp} {o : Option (Option V)} {dss : List (Bool × List PyData)} (s : Same G G') (h : NlF K m E G0 G o dss) : NlF K m E G0 G' o dss := by
  obtain ⟨p, qs, h1, h2, h3, h4, h5, h6, h7, h8⟩ := h
  exact ⟨p, qs, h1, h2, h3, h4, h5, h6, h7, fun j b ds q a1 a2 => (h8 j b ds q a1 a2).mono s⟩
/-- an exception that a clause holds: itself it lies outside, its dict is told -/
def ObF (K : PySem.W.Frag) (G : Hp) (o : Option (Option V)) : Ok → Prop
  | .xc a dd fs ds => o = some (some (.ref a)) ∧ G dd = some (.xd fs) ∧ fs.map (·.1) = ds.map (·.1) ∧ DpAll K G (fs.map (·.2)) (ds.map (·.2))
  | .ints is => ∃ (p : Addr) (u : HO), o = some (some (.ref p)) ∧ G p = some u ∧ (Ok.ints is).At u
  | .rng lo hi => ∃ (p : Addr) (u : HO), o = some (some (.ref p)) ∧ G p = some u ∧ (Ok.rng lo hi).At u
/-- a dict's items -/
def Dkv (K : PySem.W.Frag) (G : Hp) (ws : List (Key × V)) (kvs : List (Key × PyData)) : Prop := ws.map (·.1) = kvs.map (·.1) ∧ DpAll K G (ws.map (·.2)) (kvs.map (·.2))
/-- one's own dict -/
def DkF (K : PySem.W.Frag) (m : Option Addr) (E : Ef) (G0 G : Hp) (o : Option (Option V)) (kvs : List (Key × PyData)) : Prop :=
  ∃ (p : Addr) (ws : List (Key × V)), o = some (some (.ref p)) ∧ E.h p = some (.dK ws) ∧ E.b p = none ∧ G0 p = none ∧ m ≠ some p ∧ Dkv K G ws kvs
/-- an instance that is being made: its class, its fields so far -/
def MeF (K : PySem.W.Frag) (m : Option Addr) (E : Ef) (G0 G : Hp) (o : Option (Option V)) (c : Str) (fs : List (Str × PyData)) : Prop :=
  ∃ (p C dx : Addr) (ws : List (Str × V)), o = some (some (.ref p)) ∧ E.h p = some (.ins C dx ws) ∧ (E.b p = none ∧ E.b.s = some p) ∧ G0 p = none ∧ m ≠ some p ∧ clsNm K C = some c ∧ ws.map (·.1) = fs.map (·.1) ∧ DpAll K G (ws.map (·.2)) (fs.map (·.2))
def OtF (K : PySem.W.Frag) (m : Option Addr) (E : Ef) (G0 G : Hp) (o : Option (Option V)) : Sl → Prop
  | .nl dss => NlF K m E G0 G o dss
  | .dk kvs => DkF K m E G0 G o kvs
  | .me c fs => MeF K m E G0 G o c fs
  | .ob k => ObF K G o k
  | _ => True
theorem OtF.mono {K : PySem.W.Frag} {m : Option Addr} {E : Ef} {G0 G G' : Hp} {o : Option (Option V)} (s : Same G G') : ∀ {x : Sl}, OtF K m E G0 G o x → OtF K m E G0 G' o x
  | .nl _, h => NlF.mono s h
  | .dk _, ⟨p, ws, h1, h2, h3, h4, h5, h6, h7⟩ => ⟨p, ws, h1, h2, h3, h4, h5, h6, dpAll_same s h7⟩
  | .me _ _, ⟨p, C, dx, ws, h1, h2, h3, h4, h5, h6, h7, h8⟩ => ⟨p, C, dx, ws, h1, h2, h3, h4, h5, h6, h7, dpAll_same s h8⟩
  | .ob (.ints _), ⟨p, u, h1, h2, h3⟩ => ⟨p, u, h1, s p u h2, h3⟩
  | .ob (.rng _ _), ⟨p, u, h1, h2, h3⟩ => ⟨p, u, h1, s p u h2, h3⟩
  | .ob (.xc _ _ _ _), ⟨h1, h2, h3, h4⟩ => ⟨h1, s _ _ h2, h3, dpAll_same s h4⟩
  | .im _, _ => True.intro
  | .ac _, _ => True.intro
/-- the slots e are what σ holds: G what stays, H what stands, E what stood at the entry but the object at m -/
structure Rl (K : PySem.W.Frag) (m : Option Addr) (E : Ef) (G0 G : Hp) (e : Ev) (σ : St) (H : Hp) : Prop where
  gg : Same G0 G
  gh : Same G H
  eh : ∀ a o, E a = some o → m ≠ some a → H a = some o
  mh : ∀ a, m = some a → E a ≠ none ∧ H a ≠ none
  nw : ∀ a, G0 a = none → E a ≠ none → G a = none
  len : e.length = σ.length
  im : ∀ (i : Nat) (d : PyData), e[i]? = some (some (.im d)) → ∃ (v : V), σ[i]? = some (some v) ∧ Dp K G v d
  ac : ∀ (i : Nat) (ds : List PyData), e[i]? = some (some (.ac ds)) → ∃ (p : Addr) (ws : List V), σ[i]? = some (some (.ref p)) ∧ G p = none ∧ H p = some (.lst ws) ∧ DpAll K G ws ds ∧ (E p = none ∨ (m = some p ∧ i = 0))
  inj : ∀ (i j : Nat) (di dj : List PyData) (p : Addr), e[i]? = some (some (.ac di)) → e[j]? = some (some (.ac dj)) → σ[i]? = some (some (.ref p)) → σ[j]? = some (some (.ref p)) → i = j
  ot : ∀ (i : Nat) (s : Sl), e[i]? = some (some s) → OtF K m E G0 G σ[i]? s
theorem Rl.nl {K : PySem.W.Frag} {m : Option Addr} {E : Ef} {G0 G : Hp} {e : Ev} {σ : St} {H : Hp} (R : Rl K m E G0 G e σ H) (i : Nat) (dss : List (Bool × List PyData)) (h : e[i]? = some (some (.nl dss))) : NlF K m E G0 G σ[i]? dss := R.ot i (.nl dss) h
/-- from one moment of an expression to a later one -/
structure Stp (σ : St) (G H : Hp) (e : Ev) (G' H' : Hp) (e' : Ev) : Prop where
  gg : Same G G'
  nw : ∀ a, G a = none → H a ≠ none → G' a = none
  hh : ∀ a o, H a = some o → ¬ Own σ e a → H' a = some o
  kd : ∀ i : Nat, isAc e'[i]? = isAc e[i]?
  th : ∀ a, H a ≠ none → H' a ≠ none
theorem own_kd (k : ∀ i : Nat, isAc e'[i]? = isAc e[i]?) : Own σ e' a ↔ Own σ e a := by
  constructor
  · rintro ⟨i, ds, h1, h2⟩
    have z : isAc e[i]? = true := by rw [← k i, h1]; rfl
    obtain ⟨ds', q⟩ := isAc_iff.mp z
    exact ⟨i, ds', q, h2⟩
  · rintro ⟨i, ds, h1, h2⟩
    have z : isAc e'[i]? = true := by rw [k i, h1]; rfl
    obtain ⟨ds', q⟩ := isAc_iff.mp z
    exact ⟨i, ds', q, h2⟩
theorem Stp.refl : Stp σ G H e G H e := ⟨Same.refl _, fun _ h _ => h, fun _ _ h _ => h, fun _ => rfl, fun _ h => h⟩
theorem Stp.trans (a : Stp σ G H e G1 H1 e1) (b : Stp σ G1 H1 e1 G' H' e') : Stp σ G H e G' H' e' where
  gg := a.gg.trans b.gg
  nw := fun x h1 h2 => b.nw x (a.nw x h1 h2) (a.th x h2)
  hh := fun x o h1 h2 => b.hh x o (a.hh x o h1 h2) fun z => h2 ((own_kd a.kd).mp z)
  kd := fun i => (b.kd i).trans (a.kd i)
  th := fun x h => b.th x (a.th x h)
/-- a value as a result -/
def Vr (K : PySem.W.Frag) (E : Ef) (G H : Hp) (σ : St) (e : Ev) (v : V) : Rs → Prop
  | .im d => Dp K G v d
  | .ac ds => ∃ p ws, v = .ref p ∧ E p = none ∧ G p = none ∧ H p = some (.lst ws) ∧ DpAll K G ws ds ∧ ¬ Own σ e p
  | .br i => ∃ ds, e[i]? = some (some (.ac ds)) ∧ σ[i]? = some (some v)
/-- a new list was not there ahead -/
def Nw (H : Hp) (v : V) : Rs → Prop
  | .ac _ => ∀ p, v = .ref p → H p = none
  | _ => True
theorem Vr.stp (S : Stp σ G H e G' H' e') : ∀ {r : Rs}, Vr K E G H σ e v r → Vr K E G' H' σ e' v r
  | .im d, h => dp_same S.gg h
  | .ac ds, h => by
    obtain ⟨p, ws, rfl, h1, h2, h3, h4, h5⟩ := h
    exact ⟨p, ws, rfl, h1, S.nw p h2 (by rw [h3]; simp), S.hh p _ h3 h5, dpAll_same S.gg h4, fun z => h5 ((own_kd S.kd).mp z)⟩
  | .br i, h => by
    obtain ⟨ds, h1, h2⟩ := h
    have z : isAc e'[i]? = true := by rw [S.kd i, h1]; rfl
    obtain ⟨ds', q⟩ := isAc_iff.mp z
    exact ⟨ds', q, h2⟩
/-- the frozen form -/
def frzR : Rs → Rs
  | .ac ds => .im (.list ds)
  | r => r
/-- a new list is left as it is for good -/
theorem Rl.freeze (R : Rl K m E G0 G' e' σ H') (S : Stp σ G H e G' H' e') (h : Vr K E G' H' σ e' v r) (n : Nw H v r) :
    ∃ G2, Rl K m E G0 G2 e' σ H' ∧ Stp σ G H e G2 H' e' ∧ Same G' G2 ∧ Vr K E G2 H' σ e' v (frzR r) := by
  cases r with
  | im d => exact ⟨G', R, S, Same.refl _, h⟩
  | br i => exact ⟨G', R, S, Same.refl _, h⟩
  | ac ds =>
    obtain ⟨p, ws, rfl, h1, h2, h3, h4, h5⟩ := h
    have s1 : Same G' (upd G' p (.lst ws)) := fun b o q => by
      rw [upd_ne (ne_of_none q h2)]
      exact q
    have hp : H p = none := n p rfl
    refine ⟨upd G' p (.lst ws), ⟨R.gg.trans s1, fun b o q => ?_, R.eh, R.mh, fun b b1 b2 => ?_, R.len, fun i d q => ?_, fun i ds' q => ?_, R.inj, fun i dss q => (R.ot i dss q).mono s1⟩, ⟨S.gg.trans s1, fun b b1 b2 => ?_, S.hh, S.kd, S.th⟩, s1, ?_⟩
    · by_cases z : b = p
      · subst z
        rw [upd_same] at q
        rw [h3]
        exact q
      · rw [upd_ne z] at q
        exact R.gh b o q
    · have z : b ≠ p := fun z => b2 (by rw [z]; exact h1)
      rw [upd_ne z]
      exact R.nw b b1 b2
    · obtain ⟨u, q1, q2⟩ := R.im i d q
      exact ⟨u, q1, dp_same s1 q2⟩
    · obtain ⟨p', ws', q1, q2, q3, q4, q5⟩ := R.ac i ds' q
      have z : p' ≠ p := fun z => h5 ⟨i, ds', q, by rw [← z]; exact q1⟩
      exact ⟨p', ws', q1, by rw [upd_ne z]; exact q2, q3, dpAll_same s1 q4, q5⟩
    · have z : b ≠ p := fun z => b2 (by rw [z]; exact hp)
      rw [upd_ne z]
      exact S.nw b b1 b2
    · exact .lst (.inl (.inl upd_same)) (dpAll_same s1 h4)
/-- a list's own items may be in H, not in G -/
def Lv (K : PySem.W.Frag) (G H : Hp) (v : V) (d : PyData) : Prop := Dp K G v d ∨ ∃ p ws ds, v = .ref p ∧ d = .list ds ∧ H p = some (.lst ws) ∧ DpAll K G ws ds
/-- what a frozen result holds -/
def lookR (e : Ev) : Rs → Option PyData
  | .im d => some d
  | .ac _ => none
  | .br i => match e[i]? with
    | some (some (.ac ds)) => some (.list ds)
    | _ => none
theorem Rl.look (R : Rl K m E G0 G e σ H) (h : Vr K E G H σ e v r) (q : lookR e r = some d) : Lv K G H v d := by
  cases r with
  | im d' =>
    cases q
    exact .inl h
  | ac ds => cases q
  | br i =>
    obtain ⟨ds, h1, h2⟩ := h
    simp only [lookR, h1, Option.some.injEq] at q
    subst q
    obtain ⟨p, ws, q1, q2, q3, q4, q5⟩ := R.ac i ds h1
    rw [h2] at q1
    cases q1
    exact .inr ⟨p, ws, ds, rfl, rfl, q3, q4⟩
theorem Lv.dp (s : Same G H) (h : Lv K G H v d) : Dp K H v d := by
  rcases h with h | ⟨p, ws, ds, rfl, rfl, h1, h2⟩
  · exact dp_same s h
  · exact .lst (.inl (.inl h1)) (dpAll_same s h2)
/-- as a list -/
theorem Lv.list (s : Same G H) (h : Lv K G H v (.list ds)) : ∃ p ws, v = .ref p ∧ SqL K H p ws ∧ DpAll K G ws ds := by
  rcases h with h | ⟨p, ws, ds', rfl, e, h1, h2⟩
  · cases h with
    | lst h q => exact ⟨_, _, rfl, s.seq h, q⟩
  · cases e
    exact ⟨p, ws, rfl, .inl (.inl h1), h2⟩
theorem Lv.tup (s : Same G H) (h : Lv K G H v (.tuple ds)) : ∃ p ws, v = .ref p ∧ SqT K H p ws ∧ DpAll K G ws ds := by
  rcases h with h | ⟨p, ws, ds', rfl, e, h1, h2⟩
  · cases h with
    | tup h q => exact ⟨_, _, rfl, seqT s h, q⟩
  · cases e
theorem Lv.int {i : Int} (h : Lv K G H v (.int i)) : v = .int i := by
  rcases h with h | ⟨p, ws, ds, rfl, e, _⟩
  · cases h
    rfl
  · cases e
theorem Lv.bool {b : Bool} (h : Lv K G H v (.bool b)) : v = .bl b := by
  rcases h with h | ⟨p, ws, ds, rfl, e, _⟩
  · cases h
    rfl
  · cases e
theorem Lv.none (h : Lv K G H v .none) : v = .non := by
  rcases h with h | ⟨p, ws, ds, rfl, e, _⟩
  · cases h
    rfl
  · cases e
theorem Lv.str {x : Str} (h : Lv K G H v (.str x)) : v = .str x := by
  rcases h with h | ⟨p, ws, ds, rfl, e, _⟩
  · cases h
    rfl
  · cases e
theorem Rl.fresh (R : Rl K m E G0 G e σ H) (h : H p = none) : G p = none ∧ E p = none ∧ ¬ Own σ e p ∧ m ≠ some p := by
  refine ⟨R.gh.free h, ?_, ?_, ?_⟩
  · cases q : E p with
    | none => rfl
    | some o =>
      by_cases z : m = some p
      · exact absurd h (R.mh p z).2
      · rw [R.eh p o q z] at h
        cases h
  · rintro ⟨i, ds, h1, h2⟩
    obtain ⟨p', ws, q1, _, q3, _⟩ := R.ac i ds h1
    rw [h2] at q1
    cases q1
    rw [h] at q3
    cases q3
  · intro z
    exact absurd h (R.mh p z).2
theorem same_new (h : H p = none) : Same H (upd H p o) := fun b u q => by
  rw [upd_ne (ne_of_none q h)]
  exact q
/-- a new tuple -/
theorem Rl.newT (R : Rl K m E G0 G e σ H) (h : H p = none) (q : DpAll K G ws ds) :
    Rl K m E G0 (upd G p (.tup ws)) e σ (upd H p (.tup ws)) ∧ Stp σ G H e (upd G p (.tup ws)) (upd H p (.tup ws)) e ∧ Dp K (upd G p (.tup ws)) (.ref p) (.tuple ds) := by
  obtain ⟨hG, hE, hO, hm⟩ := R.fresh h
  have s1 : Same G (upd G p (.tup ws)) := same_new hG
  have nb : ∀ {b : Addr}, H b ≠ none → b ≠ p := fun {b} z y => z (by rw [y]; exact h)
  refine ⟨⟨R.gg.trans s1, fun b u z => ?_, fun b u b1 b2 => ?_, fun b b1 => ⟨(R.mh b b1).1, ?_⟩, fun b b1 b2 => ?_, R.len, fun i d z => ?_, fun i ds' z => ?_, R.inj, fun i dss z => (R.ot i dss z).mono s1⟩, ⟨s1, fun b b1 b2 => ?_, fun b u b1 _ => same_new h b u b1, fun _ => rfl, fun b b1 => ?_⟩, .tup (.inl (.inl upd_same)) (dpAll_same s1 q)⟩
  · by_cases y : b = p
    · subst y
      rw [upd_same] at z ⊢
      exact z
    · rw [upd_ne y] at z ⊢
      exact R.gh b u z
  · exact same_new h b u (R.eh b u b1 b2)
  · rw [upd_ne (nb (R.mh b b1).2)]
    exact (R.mh b b1).2
  · have y : b ≠ p := fun y => b2 (by rw [y]; exact hE)
    rw [upd_ne y]
    exact R.nw b b1 b2
  · obtain ⟨u, z1, z2⟩ := R.im i d z
    exact ⟨u, z1, dp_same s1 z2⟩
  · obtain ⟨p', ws', z1, z2, z3, z4, z5⟩ := R.ac i ds' z
    have y : p' ≠ p := nb (by rw [z3]; simp)
    exact ⟨p', ws', z1, by rw [upd_ne y]; exact z2, by rw [upd_ne y]; exact z3, dpAll_same s1 z4, z5⟩
  · rw [upd_ne (nb b2)]
    exact b1
  · rw [upd_ne (nb b1)]
    exact b1
/-- a new list -/
theorem Rl.newL (R : Rl K m E G0 G e σ H) (h : H p = none) (q : DpAll K G ws ds) :
    Rl K m E G0 G e σ (upd H p (.lst ws)) ∧ Stp σ G H e G (upd H p (.lst ws)) e ∧ Vr K E G (upd H p (.lst ws)) σ e (.ref p) (.ac ds) ∧ Nw H (.ref p) (.ac ds) := by
  obtain ⟨hG, hE, hO, hm⟩ := R.fresh h
  have nb : ∀ {b : Addr}, H b ≠ none → b ≠ p := fun {b} z y => z (by rw [y]; exact h)
  refine ⟨⟨R.gg, R.gh.trans (same_new h), fun b u b1 b2 => same_new h b u (R.eh b u b1 b2), fun b b1 => ⟨(R.mh b b1).1, ?_⟩, R.nw, R.len, R.im, fun i ds' z => ?_, R.inj, R.ot⟩, ⟨Same.refl _, fun _ b1 _ => b1, fun b u b1 _ => same_new h b u b1, fun _ => rfl, fun b b1 => ?_⟩, ⟨p, ws, rfl, hE, hG, upd_same, q, hO⟩, fun p' z => ?_⟩
  · rw [upd_ne (nb (R.mh b b1).2)]
    exact (R.mh b b1).2
  · obtain ⟨p', ws', z1, z2, z3, z4, z5⟩ := R.ac i ds' z
    have y : p' ≠ p := nb (by rw [z3]; simp)
    exact ⟨p', ws', z1, z2, by rw [upd_ne y]; exact z3, z4, z5⟩
  · rw [upd_ne (nb b1)]
    exact b1
  · cases z
    exact h
end
end DL
namespace DL
open PySem PySem.Spec PyProof.Rows L2
abbrev Fe := Ev → Option (Rs × Ev)
abbrev Ft := Ev → Option (Bool × Ev)
abbrev Fa := Ev → Option (List Rs × Ev)
inductive Fl where
  | nx (e : Ev)
  | bk (e : Ev)
  | ct (e : Ev)
  | rt (r : Rs) (e : Ev)
abbrev Fs := Ev → Option Fl
/-- what must follow a result -/
def Po (K : PySem.W.Frag) (m : Option Addr) (E : Ef) (G0 : Hp) (σ : St) (G H : Hp) (e : Ev) (r : Rs) (e' : Ev) (Q : VK) : Prop :=
  ∀ v G' H', Rl K m E G0 G' e' σ H' → Stp σ G H e G' H' e' → Vr K E G' H' σ e' v r → Nw H v r → Q v H'
structure ED (X : Cx) (x : Expr) (f : Fe) : Prop where
  ex : ∃ t : TE, PE X x t ∧ ∀ (m : Option Addr) (E : Ef) (G0 G : Hp) (e : Ev) (σ : St) (H : Hp) (r : Rs) (e' : Ev) (Q : VK),
    Rl X.K m E G0 G e σ H → f e = some (r, e') → Po X.K m E G0 σ G H e r e' Q → t σ H Q
structure TD (X : Cx) (x : Expr) (f : Ft) : Prop where
  ex : ∃ t : TT, PT X x t ∧ ∀ (m : Option Addr) (E : Ef) (G0 G : Hp) (e : Ev) (σ : St) (H : Hp) (b : Bool) (e' : Ev) (Q : Bool → Hp → Prop),
    Rl X.K m E G0 G e σ H → f e = some (b, e') → (∀ G' H', Rl X.K m E G0 G' e' σ H' → Stp σ G H e G' H' e' → Q b H') → t σ H Q
structure WD (X : Cx) (x : Expr) (f : Ft) : Prop where
  ex : ∃ t : TT, PW X x t ∧ ∀ (m : Option Addr) (E : Ef) (G0 G : Hp) (e : Ev) (σ : St) (H : Hp) (b : Bool) (e' : Ev) (Q : Bool → Hp → Prop),
    Rl X.K m E G0 G e σ H → f e = some (b, e') → (∀ G' H', Rl X.K m E G0 G' e' σ H' → Stp σ G H e G' H' e' → Q b H') → t σ H Q
def VrAll (K : PySem.W.Frag) (E : Ef) (G H : Hp) (σ : St) (e : Ev) : List V → List Rs → Prop
  | [], [] => True
  | v :: vs, r :: rs => Vr K E G H σ e v r ∧ VrAll K E G H σ e vs rs
  | _, _ => False
structure AD (X : Cx) (xs : List Expr) (f : Fa) : Prop where
  ex : ∃ t : TA, PA X xs t ∧ ∀ (m : Option Addr) (E : Ef) (G0 G : Hp) (e : Ev) (σ : St) (H : Hp) (rs : List Rs) (e' : Ev) (Q : List V → Hp → Prop),
    Rl X.K m E G0 G e σ H → f e = some (rs, e') → (∀ vs G' H', Rl X.K m E G0 G' e' σ H' → Stp σ G H e G' H' e' → VrAll X.K E G' H' σ e' vs rs → Q vs H') → t σ H Q
def lookAll (e : Ev) : List Rs → Option (List PyData)
  | [] => some []
  | r :: rs => match lookR e r with
    | some d => (match lookAll e rs with
      | some ds => some (d :: ds)
      | none => none)
    | none => none
def LvAll (K : PySem.W.Frag) (G H : Hp) : List V → List PyData → Prop
  | [], [] => True
  | v :: vs, d :: ds => Lv K G H v d ∧ LvAll K G H vs ds
  | _, _ => False
section
variable {K : PySem.W.Frag} {E : Ef} {G G' H H' G0 : Hp} {v : V} {d : PyData} {σ : St} {e e' e1 : Ev} {m : Option Addr} {r : Rs} {Q : VK}
theorem VrAll.stp (S : Stp σ G H e G' H' e') : ∀ {vs : List V} {rs : List Rs}, VrAll K E G H σ e vs rs → VrAll K E G' H' σ e' vs rs
  | [], [], _ => True.intro
  | _ :: _, _ :: _, h => ⟨h.1.stp S, VrAll.stp S h.2⟩
  | [], _ :: _, h => h.elim
  | _ :: _, [], h => h.elim
theorem Rl.lookAll (R : Rl K m E G0 G e σ H) : ∀ {vs : List V} {rs : List Rs} {ds : List PyData}, VrAll K E G H σ e vs rs → DL.lookAll e rs = some ds → LvAll K G H vs ds
  | [], [], ds, _, q => by
    cases q
    exact True.intro
  | v :: vs, r :: rs, ds, h, q => by
    simp only [DL.lookAll] at q
    cases h1 : lookR e r with
    | none =>
      rw [h1] at q
      cases q
    | some d =>
      rw [h1] at q
      cases h2 : DL.lookAll e rs with
      | none =>
        simp only [h2] at q
        cases q
      | some ds2 =>
        simp only [h2, Option.some.injEq] at q
        subst q
        exact ⟨R.look h.1 h1, R.lookAll h.2 h2⟩
  | [], _ :: _, _, h, _ => h.elim
  | _ :: _, [], _, h, _ => h.elim
theorem LvAll.len : ∀ {vs : List V} {ds : List PyData}, LvAll K G H vs ds → vs.length = ds.length
  | [], [], _ => rfl
  | _ :: _, _ :: _, h => congrArg (· + 1) (LvAll.len h.2)
  | [], _ :: _, h => h.elim
  | _ :: _, [], h => h.elim
theorem LvAll.dp (s : Same G H) : ∀ {vs : List V} {ds : List PyData}, LvAll K G H vs ds → DpAll K H vs ds
  | [], [], _ => .nil
  | _ :: _, _ :: _, h => .cons (h.1.dp s) (LvAll.dp s h.2)
  | [], _ :: _, h => h.elim
  | _ :: _, [], h => h.elim
/-- a result at the very moment -/
theorem Po.now (P : Po K m E G0 σ G H e r e Q) (R : Rl K m E G0 G e σ H) (h : Vr K E G H σ e v r) (n : Nw H v r) : Q v H := P v G H R Stp.refl h n
theorem Po.of (P : Po K m E G0 σ G H e r e' Q) (S : Stp σ G H e G' H' e1) : (∀ v, Nw H' v r → Nw H v r) → Po K m E G0 σ G' H' e1 r e' Q :=
  fun n v G2 H2 R2 S2 h2 n2 => P v G2 H2 R2 (S.trans S2) h2 (n v n2)
theorem nw_back (S : Stp σ G H e G' H' e1) : ∀ {r : Rs} (v : V), Nw H' v r → Nw H v r
  | .im _, _, _ => True.intro
  | .br _, _, _ => True.intro
  | .ac _, v, n => fun p z => by
    cases q : H p with
    | none => rfl
    | some o => exact absurd (n p z) (S.th p (by rw [q]; simp))
theorem Po.aft (P : Po K m E G0 σ G H e r e' Q) (S : Stp σ G H e G' H' e1) : Po K m E G0 σ G' H' e1 r e' Q := P.of S fun v n => nw_back S v n
end
def x_var (i : Nat) : Fe := fun e => match e[i]? with
  | some (some (.im d)) => some (.im d, e)
  | some (some (.ac _)) => some (.br i, e)
  | _ => none
def x_c (d : PyData) : Fe := fun e => some (.im d, e)
section
variable {X : Cx} {pos : Pos}
theorem ed_var (i : Nat) {x : Str} (hN : X.N[i]? = some x := by rfl) (hv : Vis X.env.scope x := by first | exact Or.inl rfl | exact Or.inr (Or.inl rfl) | exact Or.inr (Or.inr rfl)) (hd : (x == ("__debug__" : Str)) = false := by decide)
    (hcd : (x == ("__classdict__" : Str)) = false := by decide) : ED X (.Name x pos) (x_var i) := by
  refine ⟨_, pe_var hN hv hd hcd, fun m E G0 G e σ H r e' Q R q P => ?_⟩
  unfold x_var at q
  split at q
  · rename_i d h
    cases q
    obtain ⟨v, h1, h2⟩ := R.im i d h
    exact ⟨v, h1, P.now R h2 True.intro⟩
  · rename_i ds h
    cases q
    obtain ⟨p, ws, h1, _⟩ := R.ac i ds h
    exact ⟨.ref p, h1, P.now R ⟨ds, h, h1⟩ True.intro⟩
  · cases q
theorem ed_int {i j} : ED X (.Constant (.int i) j pos) (x_c (.int i)) := ⟨_, pe_int, fun m E G0 G e σ H r e' Q R q P => by
  cases q
  exact P.now R (.int i) True.intro⟩
theorem ed_bl {b j} : ED X (.Constant (.bool b) j pos) (x_c (.bool b)) := ⟨_, pe_bl, fun m E G0 G e σ H r e' Q R q P => by
  cases q
  exact P.now R (.bl b) True.intro⟩
theorem ed_non {j} : ED X (.Constant .none j pos) (x_c .none) := ⟨_, pe_non, fun m E G0 G e σ H r e' Q R q P => by
  cases q
  exact P.now R .non True.intro⟩
theorem ed_str {x j} : ED X (.Constant (.str x) j pos) (x_c (.str x)) := ⟨_, pe_str, fun m E G0 G e σ H r e' Q R q P => by
  cases q
  exact P.now R (.str x) True.intro⟩
end
/-- both sides, left to right -/
def two (fa fb : Fe) : Ev → Option (Rs × Rs × Ev) := fun e => match fa e with
  | some (ra, e1) => (match fb e1 with
    | some (rb, e2) => some (frzR ra, frzR rb, e2)
    | none => none)
  | none => none
def look2 (p : Rs × Rs × Ev) : Option (PyData × PyData × Ev) := match lookR p.2.2 p.1, lookR p.2.2 p.2.1 with
  | some a, some b => some (a, b, p.2.2)
  | _, _ => none
def x_bin (φ : PyData → PyData → Option Rs) (fa fb : Fe) : Fe := fun e => match two fa fb e with
  | some p => (match look2 p with
    | some (a, b, e2) => (match φ a b with
      | some r => some (r, e2)
      | none => none)
    | none => none)
  | none => none
section
variable {X : Cx} {a b : Expr} {fa fb : Fe} {pos : Pos}
theorem two_ok (ha : ED X a fa) (hb : ED X b fb) : ∃ ta tb, PE X a ta ∧ PE X b tb ∧ ∀ (m : Option Addr) (E : Ef) (G0 G : Hp) (e : Ev) (σ : St) (H : Hp) (ra rb : Rs) (e' : Ev) (R : V → V → Hp → Prop),
    Rl X.K m E G0 G e σ H → two fa fb e = some (ra, rb, e') → (∀ u v G' H', Rl X.K m E G0 G' e' σ H' → Stp σ G H e G' H' e' → Vr X.K E G' H' σ e' u ra → Vr X.K E G' H' σ e' v rb → R u v H') →
    ta σ H fun x H1 => tb σ H1 fun y H2 => R x y H2 := by
  obtain ⟨ta, pa, ka⟩ := ha
  obtain ⟨tb, pb, kb⟩ := hb
  refine ⟨ta, tb, pa, pb, fun m E G0 G e σ H ra rb e' R Rl0 q k => ?_⟩
  unfold two at q
  cases h1 : fa e with
  | none => simp only [h1] at q; cases q
  | some p1 =>
    obtain ⟨r1, e1⟩ := p1
    simp only [h1] at q
    cases h2 : fb e1 with
    | none => simp only [h2] at q; cases q
    | some p2 =>
      obtain ⟨r2, e2⟩ := p2
      simp only [h2, Option.some.injEq, Prod.mk.injEq] at q
      obtain ⟨rfl, rfl, rfl⟩ := q
      refine ka m E G0 G e σ H r1 e1 _ Rl0 h1 fun u G1 H1 R1 S1 V1 N1 => ?_
      obtain ⟨G1', R1', S1', s1, V1'⟩ := R1.freeze S1 V1 N1
      refine kb m E G0 G1' e1 σ H1 r2 e2 _ R1' h2 fun v G2 H2 R2 S2 V2 N2 => ?_
      obtain ⟨G2', R2', S2', s2, V2'⟩ := R2.freeze S2 V2 N2
      exact k u v G2' H2 R2' (S1'.trans S2') (V1'.stp S2') V2'
end
/-- a two-place rule by values, over data -/
def VB (K : PySem.W.Frag) (r : R2) (φ : PyData → PyData → Option Rs) : Prop :=
  ∀ (m : Option Addr) (E : Ef) (G0 G : Hp) (e : Ev) (σ : St) (H : Hp) (x y : V) (dx dy : PyData) (rr : Rs) (Q : VK), Rl K m E G0 G e σ H → Lv K G H x dx → Lv K G H y dy → φ dx dy = some rr → Po K m E G0 σ G H e rr e Q → r x y H Q
def orF {α β γ : Type} (φ ψ : α → β → Option γ) : α → β → Option γ := fun a b => match φ a b with
  | some r => some r
  | none => ψ a b
theorem VB.or {K : PySem.W.Frag} {r r' : R2} {φ ψ : PyData → PyData → Option Rs} (h : VB K r φ) (h' : VB K r' ψ) : VB K (fun x y H Q => r x y H Q ∨ r' x y H Q) (orF φ ψ) := by
  intro m E G0 G e σ H x y dx dy rr Q R lx ly q P
  unfold orF at q
  cases h1 : φ dx dy with
  | some r1 =>
    simp only [h1, Option.some.injEq] at q
    subst q
    exact .inl (h m E G0 G e σ H x y dx dy _ Q R lx ly h1 P)
  | none =>
    simp only [h1] at q
    exact .inr (h' m E G0 G e σ H x y dx dy _ Q R lx ly q P)
/-- its result is nothing new -/
theorem VB.pure {K : PySem.W.Frag} {r : R2} {φ : PyData → PyData → Option PyData}
    (h : ∀ (G H : Hp) (x y : V) (dx dy d : PyData) (Q : VK), Same G H → Lv K G H x dx → Lv K G H y dy → φ dx dy = some d → (∀ v, Dp K G v d → Q v H) → r x y H Q) : VB K r (fun a b => (φ a b).map Rs.im) := by
  intro m E G0 G e σ H x y dx dy rr Q R lx ly q P
  cases h1 : φ dx dy with
  | none => simp only [h1, Option.map_none] at q; cases q
  | some d =>
    simp only [h1, Option.map_some, Option.some.injEq] at q
    subst q
    exact h G H x y dx dy d Q R.gh lx ly h1 fun v z => P.now R z True.intro
section
variable {X : Cx} {a b : Expr} {fa fb : Fe} {pos : Pos} {op : Operator} {cop : CmpOp} {r : R2} {φ : PyData → PyData → Option Rs}
theorem bin_ok {ta tb : TE} (hv : VB X.K r φ) (k2 : ∀ (m : Option Addr) (E : Ef) (G0 G : Hp) (e : Ev) (σ : St) (H : Hp) (ra rb : Rs) (e' : Ev) (R : V → V → Hp → Prop),
    Rl X.K m E G0 G e σ H → two fa fb e = some (ra, rb, e') → (∀ u v G' H', Rl X.K m E G0 G' e' σ H' → Stp σ G H e G' H' e' → Vr X.K E G' H' σ e' u ra → Vr X.K E G' H' σ e' v rb → R u v H') → ta σ H fun x H1 => tb σ H1 fun y H2 => R x y H2)
    (m : Option Addr) (E : Ef) (G0 G : Hp) (e : Ev) (σ : St) (H : Hp) (rr : Rs) (e' : Ev) (Q : VK) (R : Rl X.K m E G0 G e σ H) (q : x_bin φ fa fb e = some (rr, e')) (P : Po X.K m E G0 σ G H e rr e' Q) : tOp r ta tb σ H Q := by
  unfold x_bin at q
  cases h1 : two fa fb e with
  | none => simp only [h1] at q; cases q
  | some p =>
    obtain ⟨ra, rb, e2⟩ := p
    simp only [h1] at q
    cases h2 : look2 (ra, rb, e2) with
    | none => simp only [h2] at q; cases q
    | some z =>
      obtain ⟨da, db, e3⟩ := z
      simp only [h2] at q
      cases h3 : φ da db with
      | none => simp only [h3] at q; cases q
      | some r3 =>
        simp only [h3, Option.some.injEq, Prod.mk.injEq] at q
        obtain ⟨rfl, rfl⟩ := q
        unfold look2 at h2
        dsimp only at h2
        cases h4 : lookR e2 ra with
        | none => simp only [h4] at h2; cases h2
        | some d1 =>
          cases h5 : lookR e2 rb with
          | none => simp only [h4, h5] at h2; cases h2
          | some d2 =>
            simp only [h4, h5, Option.some.injEq, Prod.mk.injEq] at h2
            obtain ⟨rfl, rfl, rfl⟩ := h2
            exact k2 m E G0 G e σ H ra rb e2 _ R h1 fun u v G' H' R' S' V1 V2 => hv m E G0 G' e2 σ H' u v _ _ _ Q R' (R'.look V1 h4) (R'.look V2 h5) h3 (P.aft S')
theorem ed_op (hv : VB X.K r φ) (ho : OpR X (binaryOp op) r) (ha : ED X a fa) (hb : ED X b fb) : ED X (.BinOp a op b pos) (x_bin φ fa fb) := by
  obtain ⟨ta, tb, pa, pb, k2⟩ := two_ok ha hb
  exact ⟨_, pe_op ho pa pb, bin_ok hv k2⟩
theorem ed_cmp (hv : VB X.K r φ) (ho : OpR X (compareOp cop) r) (hm : behindInMarks cop b = false) (ha : ED X a fa) (hb : ED X b fb) : ED X (.Compare a [cop] [b] pos) (x_bin φ fa fb) := by
  obtain ⟨ta, tb, pa, pb, k2⟩ := two_ok ha hb
  exact ⟨_, pe_cmpR ho pa pb hm, bin_ok hv k2⟩
end
/-- a result that is a bool, as a test -/
def t_of (f : Fe) : Ft := fun e => match f e with
  | some (.im (.bool b), e1) => some (b, e1)
  | _ => none
theorem t_of_ok {f : Fe} {e e' : Ev} {b : Bool} (q : t_of f e = some (b, e')) : f e = some (.im (.bool b), e') := by
  unfold t_of at q
  split at q
  · rename_i b1 e1 h
    cases q
    exact h
  · cases q
section
variable {X : Cx} {a b c : Expr} {fa fb fc : Fe} {pos : Pos} {cop cop' : CmpOp} {r r' : R2} {φ ψ : PyData → PyData → Option Rs}
theorem td_cmp (hv : VB X.K r φ) (ho : OpR X (compareOp cop) r) (hm : behindInMarks cop b = false) (ha : ED X a fa) (hb : ED X b fb) : TD X (.Compare a [cop] [b] pos) (t_of (x_bin φ fa fb)) := by
  obtain ⟨ta, tb, pa, pb, k2⟩ := two_ok ha hb
  refine ⟨_, pt_cmpR ho pa pb hm, fun m E G0 G e σ H k e' Q R q P => ?_⟩
  exact bin_ok hv k2 m E G0 G e σ H _ e' _ R (t_of_ok q) fun v G' H' R' S' V' _ => by
    cases V'
    exact ⟨k, rfl, P G' H' R' S'⟩
/-- an expression that gives a bool, as a test -/
theorem td_val {x : Expr} {f : Fe} (h : ED X x f) (he : ∀ whole, isTrue x X.env whole = (do let v ← whole; standAt x.pos; holding [v] (truthy v)) := by intro _; rfl) : TD X x (t_of f) := by
  obtain ⟨t, p, k⟩ := h
  refine ⟨_, pt_val p he, fun m E G0 G e σ H b e' Q R q P => ?_⟩
  exact k m E G0 G e σ H _ e' _ R (t_of_ok q) fun v G' H' R' S' V' _ => by
    cases V'
    exact ⟨b, rfl, P G' H' R' S'⟩
def t_not (f : Ft) : Ft := fun e => match f e with
  | some (b, e1) => some (!b, e1)
  | none => none
theorem td_not {f : Ft} (h : TD X a f) : TD X (.UnaryOp .Not a pos) (t_not f) := by
  obtain ⟨t, p, k⟩ := h
  refine ⟨_, pt_not p, fun m E G0 G e σ H b e' Q R q P => ?_⟩
  unfold t_not at q
  cases h1 : f e with
  | none => simp only [h1] at q; cases q
  | some z =>
    obtain ⟨b1, e1⟩ := z
    simp only [h1, Option.some.injEq, Prod.mk.injEq] at q
    obtain ⟨rfl, rfl⟩ := q
    exact k m E G0 G e σ H b1 e1 _ R h1 P
def t_and (f g : Ft) : Ft := fun e => match f e with
  | some (true, e1) => g e1
  | some (false, e1) => some (false, e1)
  | none => none
def t_or (f g : Ft) : Ft := fun e => match f e with
  | some (true, e1) => some (true, e1)
  | some (false, e1) => g e1
  | none => none
variable {f g : Ft} {rest : List Expr}
theorem wd_and1 (h : TD X a f) : WD X (.BoolOp .And [a] pos) f := by
  obtain ⟨t, p, k⟩ := h
  exact ⟨_, pw_and1 p, k⟩
theorem wd_or1 (h : TD X a f) : WD X (.BoolOp .Or [a] pos) f := by
  obtain ⟨t, p, k⟩ := h
  exact ⟨_, pw_or1 p, k⟩
theorem wd_and (h : TD X a f) (h2 : WD X (.BoolOp .And (b :: rest) pos) g) : WD X (.BoolOp .And (a :: b :: rest) pos) (t_and f g) := by
  obtain ⟨t, p, k⟩ := h
  obtain ⟨t2, p2, k2⟩ := h2
  refine ⟨_, pw_and p p2, fun m E G0 G e σ H c e' Q R q P => ?_⟩
  unfold t_and at q
  cases h1 : f e with
  | none => simp only [h1] at q; cases q
  | some z =>
    obtain ⟨b1, e1⟩ := z
    cases b1 with
    | true =>
      simp only [h1] at q
      refine k m E G0 G e σ H true e1 _ R h1 fun G' H' R' S' => ?_
      show if true = true then _ else _
      rw [if_pos rfl]
      exact k2 m E G0 G' e1 σ H' c e' Q R' q fun G2 H2 R2 S2 => P G2 H2 R2 (S'.trans S2)
    | false =>
      simp only [h1, Option.some.injEq, Prod.mk.injEq] at q
      obtain ⟨rfl, rfl⟩ := q
      refine k m E G0 G e σ H false e1 _ R h1 fun G' H' R' S' => ?_
      show if false = true then _ else _
      rw [if_neg Bool.false_ne_true]
      exact P G' H' R' S'
theorem wd_or (h : TD X a f) (h2 : WD X (.BoolOp .Or (b :: rest) pos) g) : WD X (.BoolOp .Or (a :: b :: rest) pos) (t_or f g) := by
  obtain ⟨t, p, k⟩ := h
  obtain ⟨t2, p2, k2⟩ := h2
  refine ⟨_, pw_or p p2, fun m E G0 G e σ H c e' Q R q P => ?_⟩
  unfold t_or at q
  cases h1 : f e with
  | none => simp only [h1] at q; cases q
  | some z =>
    obtain ⟨b1, e1⟩ := z
    cases b1 with
    | false =>
      simp only [h1] at q
      refine k m E G0 G e σ H false e1 _ R h1 fun G' H' R' S' => ?_
      show if false = true then _ else _
      rw [if_neg Bool.false_ne_true]
      exact k2 m E G0 G' e1 σ H' c e' Q R' q fun G2 H2 R2 S2 => P G2 H2 R2 (S'.trans S2)
    | true =>
      simp only [h1, Option.some.injEq, Prod.mk.injEq] at q
      obtain ⟨rfl, rfl⟩ := q
      refine k m E G0 G e σ H true e1 _ R h1 fun G' H' R' S' => ?_
      show if true = true then _ else _
      rw [if_pos rfl]
      exact P G' H' R' S'
theorem WD.td {x : Expr} (h : WD X x f) : TD X x f := by
  obtain ⟨t, p, k⟩ := h
  exact ⟨t, p.pt, k⟩
def x_and (f g : Fe) : Fe := fun e => match f e with
  | some (.im (.bool true), e1) => g e1
  | some (.im (.bool false), e1) => some (.im (.bool false), e1)
  | _ => none
def x_not (f : Fe) : Fe := fun e => match f e with
  | some (.im (.bool b), e1) => some (.im (.bool !b), e1)
  | _ => none
theorem ed_one {op : BoolOp} {f : Fe} (h : ED X a f) : ED X (.BoolOp op [a] pos) f := by
  obtain ⟨t, p, k⟩ := h
  exact ⟨t, pe_one p, k⟩
theorem ed_and (h : ED X a fa) (h2 : ED X (.BoolOp .And (b :: rest) pos) fb) : ED X (.BoolOp .And (a :: b :: rest) pos) (x_and fa fb) := by
  obtain ⟨t, p, k⟩ := h
  obtain ⟨t2, p2, k2⟩ := h2
  refine ⟨_, pe_and p p2, fun m E G0 G e σ H r e' Q R q P => ?_⟩
  unfold x_and at q
  split at q
  · rename_i e1 h1
    refine k m E G0 G e σ H _ e1 _ R h1 fun v G' H' R' S' V' _ => ?_
    cases V'
    refine ⟨true, rfl, ?_⟩
    rw [if_pos rfl]
    exact k2 m E G0 G' e1 σ H' r e' Q R' q (P.aft S')
  · rename_i e1 h1
    cases q
    refine k m E G0 G e σ H _ _ _ R h1 fun v G' H' R' S' V' _ => ?_
    cases V'
    refine ⟨false, rfl, ?_⟩
    rw [if_neg Bool.false_ne_true]
    exact P _ G' H' R' S' (.bl false) True.intro
  · cases q
theorem ed_not (h : ED X a fa) : ED X (.UnaryOp .Not a pos) (x_not fa) := by
  obtain ⟨t, p, k⟩ := h
  refine ⟨_, pe_not p, fun m E G0 G e σ H r e' Q R q P => ?_⟩
  unfold x_not at q
  split at q
  · rename_i b e1 h1
    cases q
    refine k m E G0 G e σ H _ _ _ R h1 fun v G' H' R' S' V' _ => ?_
    cases V'
    exact ⟨b, rfl, P _ G' H' R' S' (.bl (!b)) True.intro⟩
  · cases q
def x_chain (φ ψ : PyData → PyData → Option Rs) (fa fb fc : Fe) : Fe := fun e => match two fa fb e with
  | some p => (match look2 p with
    | some (a, b, e2) => (match φ a b with
      | some (.im (.bool true)) => (match fc e2 with
        | some (rc, e3) => (match lookR e3 p.2.1, lookR e3 (frzR rc) with
          | some b, some c => (match ψ b c with
            | some r => some (r, e3)
            | none => none)
          | _, _ => none)
        | none => none)
      | some (.im (.bool false)) => some (.im (.bool false), e2)
      | _ => none)
    | none => none)
  | none => none
theorem chain_ok {ta tb tc : TE} (hv : VB X.K r φ) (hv' : VB X.K r' ψ) (k2 : ∀ (m : Option Addr) (E : Ef) (G0 G : Hp) (e : Ev) (σ : St) (H : Hp) (ra rb : Rs) (e' : Ev) (R : V → V → Hp → Prop),
    Rl X.K m E G0 G e σ H → two fa fb e = some (ra, rb, e') → (∀ u v G' H', Rl X.K m E G0 G' e' σ H' → Stp σ G H e G' H' e' → Vr X.K E G' H' σ e' u ra → Vr X.K E G' H' σ e' v rb → R u v H') → ta σ H fun x H1 => tb σ H1 fun y H2 => R x y H2)
    (k3 : ∀ (m : Option Addr) (E : Ef) (G0 G : Hp) (e : Ev) (σ : St) (H : Hp) (r : Rs) (e' : Ev) (Q : VK), Rl X.K m E G0 G e σ H → fc e = some (r, e') → Po X.K m E G0 σ G H e r e' Q → tc σ H Q)
    (m : Option Addr) (E : Ef) (G0 G : Hp) (e : Ev) (σ : St) (H : Hp) (rr : Rs) (e' : Ev) (Q : VK) (R : Rl X.K m E G0 G e σ H) (q : x_chain φ ψ fa fb fc e = some (rr, e')) (P : Po X.K m E G0 σ G H e rr e' Q) : tChain r r' ta tb tc σ H Q := by
  unfold x_chain at q
  cases h1 : two fa fb e with
  | none => simp only [h1] at q; cases q
  | some p =>
    obtain ⟨ra, rb, e2⟩ := p
    simp only [h1] at q
    cases h2 : look2 (ra, rb, e2) with
    | none => simp only [h2] at q; cases q
    | some z =>
      obtain ⟨da, db, e3⟩ := z
      simp only [h2] at q
      have hl : lookR e2 ra = some da ∧ lookR e2 rb = some db ∧ e2 = e3 := by
        unfold look2 at h2
        dsimp only at h2
        cases h4 : lookR e2 ra with
        | none => simp only [h4] at h2; cases h2
        | some d1 =>
          cases h5 : lookR e2 rb with
          | none => simp only [h4, h5] at h2; cases h2
          | some d2 =>
            simp only [h4, h5, Option.some.injEq, Prod.mk.injEq] at h2
            obtain ⟨rfl, rfl, rfl⟩ := h2
            exact ⟨rfl, rfl, rfl⟩
      obtain ⟨l1, l2, rfl⟩ := hl
      refine k2 m E G0 G e σ H ra rb e2 _ R h1 fun u v G' H' R' S' V1 V2 => ?_
      split at q
      · rename_i h3
        refine hv m E G0 G' e2 σ H' u v _ _ _ _ R' (R'.look V1 l1) (R'.look V2 l2) h3 fun w G3 H3 R3 S3 V3 _ => ?_
        cases V3
        refine ⟨true, rfl, ?_⟩
        rw [if_pos rfl]
        cases h4 : fc e2 with
        | none => simp only [h4] at q; cases q
        | some z =>
          obtain ⟨rc, e4⟩ := z
          simp only [h4] at q
          refine k3 m E G0 G3 e2 σ H3 rc e4 _ R3 h4 fun w2 G4 H4 R4 S4 V4 N4 => ?_
          obtain ⟨G5, R5, S5, s5, V5⟩ := R4.freeze S4 V4 N4
          cases h5 : lookR e4 rb with
          | none => simp only [h5] at q; cases q
          | some d5 =>
            cases h6 : lookR e4 (frzR rc) with
            | none => simp only [h5, h6] at q; cases q
            | some d6 =>
              simp only [h5, h6] at q
              cases h7 : ψ d5 d6 with
              | none => simp only [h7] at q; cases q
              | some r7 =>
                simp only [h7, Option.some.injEq, Prod.mk.injEq] at q
                obtain ⟨rfl, rfl⟩ := q
                exact hv' m E G0 G5 e4 σ H4 v w2 _ _ _ Q R5 (R5.look ((V2.stp S3).stp S5) h5) (R5.look V5 h6) h7 (P.aft (S'.trans (S3.trans S5)))
      · rename_i h3
        cases q
        refine hv m E G0 G' _ σ H' u v _ _ _ _ R' (R'.look V1 l1) (R'.look V2 l2) h3 fun w G3 H3 R3 S3 V3 _ => ?_
        cases V3
        refine ⟨false, rfl, ?_⟩
        rw [if_neg Bool.false_ne_true]
        exact P _ G3 H3 R3 (S'.trans S3) (.bl false) True.intro
      · cases q
theorem td_chain (hv : VB X.K r φ) (ho : OpR X (compareOp cop) r) (hv' : VB X.K r' ψ) (ho' : OpR X (compareOp cop') r') (ha : ED X a fa) (hb : ED X b fb) (hc : ED X c fc)
    (hm : lastMarks [cop, cop'] [b, c] = false := by with_unfolding_all rfl) : TD X (.Compare a [cop, cop'] [b, c] pos) (t_of (x_chain φ ψ fa fb fc)) := by
  obtain ⟨ta, tb, pa, pb, k2⟩ := two_ok ha hb
  obtain ⟨tc, pc, k3⟩ := hc
  refine ⟨_, pt_chain ho ho' pa pb pc hm, fun m E G0 G e σ H k e' Q R q P => ?_⟩
  exact chain_ok hv hv' k2 k3 m E G0 G e σ H _ e' _ R (t_of_ok q) fun v G' H' R' S' V' _ => by
    cases V'
    exact ⟨k, rfl, P G' H' R' S'⟩
end
end DL
namespace DL
open PySem PySem.Spec PyProof.Rows L2
def d_int2 (f : Int → Int → PyData) (c : Int → Int → Bool) : PyData → PyData → Option PyData
  | .int i, .int j => if c i j = true then some (f i j) else none
  | _, _ => none
section
variable {K : PySem.W.Frag} {G H : Hp} {v : V} {d : PyData} {ds : List PyData} {vs ws : List V}
theorem int2_ok {f : Int → Int → PyData} {c : Int → Int → Bool} {dx dy d : PyData} (h : d_int2 f c dx dy = some d) : ∃ i j, dx = .int i ∧ dy = .int j ∧ c i j = true ∧ d = f i j := by
  unfold d_int2 at h
  split at h
  · rename_i i j
    by_cases z : c i j = true
    · rw [if_pos z] at h
      cases h
      exact ⟨i, j, rfl, rfl, z, rfl⟩
    · rw [if_neg z] at h
      cases h
  · cases h
theorem vb_int {C : Int → Int → Prop} {g : Int → Int → Int} {c : Int → Int → Bool} (hc : ∀ i j, c i j = true → C i j) : VB K (rI C fun i j => .int (g i j)) (fun a b => (d_int2 (fun i j => .int (g i j)) c a b).map Rs.im) :=
  VB.pure fun G H x y dx dy d Q s lx ly h k => by
    obtain ⟨i, j, rfl, rfl, z, rfl⟩ := int2_ok h
    exact ⟨i, j, lx.int, ly.int, hc i j z, k _ (.int _)⟩
theorem vb_int0 {g : Int → Int → Int} : VB K (rI0 fun i j => .int (g i j)) (fun a b => (d_int2 (fun i j => .int (g i j)) (fun _ _ => true) a b).map Rs.im) :=
  VB.pure fun G H x y dx dy d Q s lx ly h k => by
    obtain ⟨i, j, rfl, rfl, z, rfl⟩ := int2_ok h
    exact ⟨i, j, lx.int, ly.int, k _ (.int _)⟩
theorem vb_cmp0 {g : Int → Int → Bool} : VB K (rI0 fun i j => .bl (g i j)) (fun a b => (d_int2 (fun i j => .bool (g i j)) (fun _ _ => true) a b).map Rs.im) :=
  VB.pure fun G H x y dx dy d Q s lx ly h k => by
    obtain ⟨i, j, rfl, rfl, z, rfl⟩ := int2_ok h
    exact ⟨i, j, lx.int, ly.int, k _ (.bl _)⟩
end
def p_sub : PyData → PyData → Option Rs := fun a b => (d_int2 (fun i j => .int (i - j)) (fun _ _ => true) a b).map Rs.im
def p_lt : PyData → PyData → Option Rs := fun a b => (d_int2 (fun i j => .bool (decide (i < j))) (fun _ _ => true) a b).map Rs.im
def p_le : PyData → PyData → Option Rs := fun a b => (d_int2 (fun i j => .bool (decide (i ≤ j))) (fun _ _ => true) a b).map Rs.im
def p_gt : PyData → PyData → Option Rs := fun a b => (d_int2 (fun i j => .bool (decide (j < i))) (fun _ _ => true) a b).map Rs.im
def p_ge : PyData → PyData → Option Rs := fun a b => (d_int2 (fun i j => .bool (decide (j ≤ i))) (fun _ _ => true) a b).map Rs.im
/-- within 64 bits on one side -/
def mulC (i j : Int) : Bool := decide ((-18446744073709551616 < i ∧ i < 18446744073709551616) ∨ (-18446744073709551616 < j ∧ j < 18446744073709551616))
def mulWC (i j : Int) : Bool := decide (i.natAbs.log2 + j.natAbs.log2 < 1000000)
def p_mul : PyData → PyData → Option Rs := orF (fun a b => (d_int2 (fun i j => .int (i * j)) mulC a b).map Rs.im) (fun a b => (d_int2 (fun i j => .int (i * j)) mulWC a b).map Rs.im)
def divC (_ j : Int) : Bool := decide (0 < j ∧ j.natAbs.log2 < 9000)
def p_div : PyData → PyData → Option Rs := fun a b => (d_int2 (fun i j => .int (i / j)) divC a b).map Rs.im
def p_mod : PyData → PyData → Option Rs := fun a b => (d_int2 (fun i j => .int (i % j)) (fun _ j => decide (0 < j)) a b).map Rs.im
def powC (i j : Int) : Bool := decide (0 ≤ j ∧ j ≤ 1000000 ∧ i.natAbs < 18446744073709551616)
def p_pow : PyData → PyData → Option Rs := fun a b => (d_int2 (fun i j => .int (i ^ j.toNat)) powC a b).map Rs.im
section
variable {X : Cx}
theorem vb_sub : VB X.K (rI0 fun i j => .int (i - j)) p_sub := vb_int0
theorem vb_lt : VB X.K (rI0 fun i j => .bl (decide (i < j))) p_lt := vb_cmp0
theorem vb_le : VB X.K (rI0 fun i j => .bl (decide (i ≤ j))) p_le := vb_cmp0
theorem vb_gt : VB X.K (rI0 fun i j => .bl (decide (j < i))) p_gt := vb_cmp0
theorem vb_ge : VB X.K (rI0 fun i j => .bl (decide (j ≤ i))) p_ge := vb_cmp0
theorem mulC_ok {i j : Int} (h : mulC i j = true) : CMul i j := by
  have h1 := of_decide_eq_true h
  unfold CMul
  have e : (2 : Int) ^ 64 = 18446744073709551616 := by decide
  rw [e]
  exact h1
theorem vb_mul : VB X.K (fun x y H Q => (rI CMul fun i j => .int (i * j)) x y H Q ∨ (rI CMulW fun i j => .int (i * j)) x y H Q) p_mul :=
  VB.or (vb_int fun i j z => mulC_ok z) (vb_int fun i j z => (of_decide_eq_true z : i.natAbs.log2 + j.natAbs.log2 < 1000000))
theorem op_mul2 : OpR X (binaryOp .Mult) (fun x y H Q => (rI CMul fun i j => .int (i * j)) x y H Q ∨ (rI CMulW fun i j => .int (i * j)) x y H Q) := OpR.or op_mul op_mulW
theorem vb_div : VB X.K (rI CDivW fun i j => .int (i / j)) p_div := vb_int fun i j z => by
  have h := of_decide_eq_true z
  exact h
theorem vb_mod : VB X.K (rI (fun _ j => 0 < j) fun i j => .int (i % j)) p_mod := vb_int fun i j z => of_decide_eq_true z
theorem vb_pow : VB X.K (rI CPow fun i j => .int (i ^ j.toNat)) p_pow := vb_int fun i j z => by
  have h := of_decide_eq_true z
  unfold CPow
  rw [show (2 : Nat) ^ 64 = 18446744073709551616 by decide]
  exact h
end
def okLen (n : Nat) : Bool := decide (n ≤ 16777216)
theorem okLen_ok {n : Nat} (h : okLen n = true) : n ≤ sizeLine := by
  have h1 := of_decide_eq_true h
  rw [sizeLine_eq]
  exact h1
def rCatS (K : PySem.W.Frag) : R2 := fun x y H Q => ∃ a b xs zs, x = .ref a ∧ y = .ref b ∧ SqL K H a xs ∧ SqL K H b zs ∧ xs.length + zs.length ≤ sizeLine ∧ ∀ p, H p = none → Q (.ref p) (upd H p (.lst (xs ++ zs)))
theorem op_catS {X : Cx} : OpR X (binaryOp .Add) (rCatS X.K) := by
  rintro pins s σ H _ _ v u Q I rx ry ⟨a, b, xs, zs, rfl, rfl, ha, hb, small, fin⟩
  cases rx
  cases ry
  obtain ⟨us, va, ⟨⟨c1, d1, t1, sl1⟩, n1, at1, o1, _, p1⟩, z1⟩ := I.list ha
  obtain ⟨ws, vb, ⟨⟨c2, d2, t2, sl2⟩, n2, at2, o2, _, p2⟩, z2⟩ := I.list hb
  dsimp only at o1 p1 o2 p2
  subst o1 p1 o2 p2
  have la := va.length
  have lb := vb.length
  have fits : (xs ++ zs).length ≤ sizeLine := by
    rw [List.length_append]
    exact small
  have sum := PyProof.Rows.list_addW a b us.toArray ws.toArray n1 n2 d1 d2 sl1 sl2 (by simp only [List.size_toArray]; omega)
  refine concat_meets (T := "list") ⟨_, at1, rfl⟩ ⟨_, at2, rfl⟩ noFill_list_add seq_list_add F.slot_list_add F.entry_list_add (F.args_list_add_2 _ _) sum ⟨at1, at2, ?_⟩
  have laid := I.lnew (t' := s.toks) (va.append vb) fits
  rw [← List.append_toArray] at laid
  exact ⟨.ref s.heap.objs.size, _, laid, rfl, fin _ I.fresh⟩
def q_cat : PyData → PyData → Option Rs
  | .list a, .list b => if okLen (a.length + b.length) = true then some (.ac (a ++ b)) else none
  | _, _ => none
def q_catT : PyData → PyData → Option Rs
  | .tuple a, .tuple b => if okLen (a.length + b.length) = true then some (.im (.tuple (a ++ b))) else none
  | _, _ => none
def p_add : PyData → PyData → Option Rs := orF (fun a b => (d_int2 (fun i j => .int (i + j)) (fun _ _ => true) a b).map Rs.im) (orF q_cat q_catT)
section
variable {X : Cx}
theorem vb_cat {K : PySem.W.Frag} : VB K (rCatS K) q_cat := by
  intro m E G0 G e σ H x y dx dy rr Q R lx ly q P
  unfold q_cat at q
  split at q
  · rename_i a b
    by_cases z : okLen (a.length + b.length) = true
    · rw [if_pos z] at q
      cases q
      obtain ⟨p1, w1, rfl, s1, k1⟩ := lx.list R.gh
      obtain ⟨p2, w2, rfl, s2, k2⟩ := ly.list R.gh
      have z1 := okLen_ok z
      refine ⟨p1, p2, w1, w2, rfl, rfl, s1, s2, by rw [dpAll_len k1, dpAll_len k2]; exact z1, fun p hp => ?_⟩
      obtain ⟨R', S', V', N'⟩ := R.newL hp (dpAll_app k1 k2)
      exact P _ _ _ R' S' V' N'
    · rw [if_neg z] at q
      cases q
  · cases q
theorem vb_catT {K : PySem.W.Frag} : VB K (rCatA K) q_catT := by
  intro m E G0 G e σ H x y dx dy rr Q R lx ly q P
  unfold q_catT at q
  split at q
  · rename_i a b
    by_cases z : okLen (a.length + b.length) = true
    · rw [if_pos z] at q
      cases q
      obtain ⟨p1, w1, e1, s1, k1⟩ := lx.tup R.gh
      obtain ⟨p2, w2, e2, s2, k2⟩ := ly.tup R.gh
      have z1 := okLen_ok z
      refine ⟨p1, p2, w1, w2, e1, e2, s1, s2, by rw [dpAll_len k1, dpAll_len k2]; exact z1, fun h => ?_, fun h1 h2 => ?_, fun _ _ p hp => ?_⟩
      · have ea : a = [] := by
          subst h
          cases k1
          rfl
        subst ea
        rcases ly with ly | ⟨_, _, _, _, z, _⟩
        · rw [← e2]
          exact P.now R ly True.intro
        · cases z
      · have eb : b = [] := by
          subst h2
          cases k2
          rfl
        subst eb
        rcases lx with lx | ⟨_, _, _, _, z, _⟩
        · rw [← e1, List.append_nil] at *
          exact P.now R lx True.intro
        · cases z
      · obtain ⟨R', S', D'⟩ := R.newT hp (dpAll_app k1 k2)
        exact P _ _ _ R' S' D' True.intro
    · rw [if_neg z] at q
      cases q
  · cases q
theorem vb_add : VB X.K (fun x y H Q => (rI0 fun i j => .int (i + j)) x y H Q ∨ (rCatS X.K x y H Q ∨ rCatA X.K x y H Q)) p_add := VB.or vb_int0 (VB.or vb_cat vb_catT)
theorem op_add3 : OpR X (binaryOp .Add) (fun x y H Q => (rI0 fun i j => .int (i + j)) x y H Q ∨ (rCatS X.K x y H Q ∨ rCatA X.K x y H Q)) := OpR.or op_add (OpR.or op_catS op_catA)
end
def p_eq : PyData → PyData → Option Rs := fun a b => if (SeqAt.shaped a && SeqAt.shaped b) = true then some (.im (.bool (PyData.eqv a b))) else none
def p_ne : PyData → PyData → Option Rs := fun a b => if (SeqAt.shaped a && SeqAt.shaped b) = true then some (.im (.bool (!PyData.eqv a b))) else none
def flatD : PyData → Bool
  | .none => true
  | .bool _ => true
  | .int _ => true
  | .str _ => true
  | _ => false
def inD (x : PyData) (ds : List PyData) : Bool := ds.any fun y => PyData.eqv y x
def seqD : PyData → Option (List PyData)
  | .list ds => some ds
  | .tuple ds => some ds
  | _ => none
def p_inB (neg : Bool) : PyData → PyData → Option Rs := fun x y => match seqD y with
  | some ds => if (flatD x && ds.all flatD) = true then some (.im (.bool (if neg = true then !inD x ds else inD x ds))) else none
  | none => none
abbrev p_in := p_inB false
def p_isN (neg : Bool) : PyData → PyData → Option PyData
  | .none, .none => some (.bool (!neg))
  | .list _, .none => some (.bool neg)
  | .tuple _, .none => some (.bool neg)
  | .bool _, .none => some (.bool neg)
  | .int _, .none => some (.bool neg)
  | .str _, .none => some (.bool neg)
  | _, _ => none
def p_isB (neg : Bool) : PyData → PyData → Option PyData
  | .bool a, .bool b => some (.bool (if neg = true then !(decide (a = b)) else decide (a = b)))
  | _, _ => none
def p_is : PyData → PyData → Option Rs := orF (fun a b => (p_isN false a b).map Rs.im) (fun a b => (p_isB false a b).map Rs.im)
section
variable {X : Cx} {K : PySem.W.Frag}
theorem shp {a b : PyData} (h : (SeqAt.shaped a && SeqAt.shaped b) = true) : SeqAt.shaped a = true ∧ SeqAt.shaped b = true := Bool.and_eq_true_iff.mp h
theorem shp_no {d : PyData} (h : SeqAt.shaped d = true) : noDict d = true := by
  unfold SeqAt.shaped at h
  exact canNo (Bool.and_eq_true_iff.mp h).1
theorem vb_eq : VB K (rEqD K) p_eq := by
  intro m E G0 G e σ H x y dx dy rr Q R lx ly q P
  unfold p_eq at q
  by_cases z : (SeqAt.shaped dx && SeqAt.shaped dy) = true
  · rw [if_pos z] at q
    cases q
    exact ⟨dx, dy, (lx.dp R.gh).lib (shp_no (shp z).1), (ly.dp R.gh).lib (shp_no (shp z).2), (shp z).1, (shp z).2, P.now R (.bl _) True.intro⟩
  · rw [if_neg z] at q
    cases q
theorem vb_ne : VB K (rNeD K) p_ne := by
  intro m E G0 G e σ H x y dx dy rr Q R lx ly q P
  unfold p_ne at q
  by_cases z : (SeqAt.shaped dx && SeqAt.shaped dy) = true
  · rw [if_pos z] at q
    cases q
    exact ⟨dx, dy, (lx.dp R.gh).lib (shp_no (shp z).1), (ly.dp R.gh).lib (shp_no (shp z).2), (shp z).1, (shp z).2, P.now R (.bl _) True.intro⟩
  · rw [if_neg z] at q
    cases q
theorem dp_flat {G : Hp} {v : V} {d : PyData} (h : Dp K G v d) (f : flatD d = true) : flatV v = true := by
  cases h with
  | lst _ _ => cases f
  | tup _ _ => cases f
  | ins _ _ _ _ => cases f
  | dct _ _ _ => cases f
  | _ => rfl
theorem dp_eqV {G : Hp} {u v : V} {c d : PyData} (h1 : Dp K G u c) (h2 : Dp K G v d) (f1 : flatD c = true) (f2 : flatD d = true) : eqV u v = PyData.eqv c d := by
  cases h1 <;> cases h2 <;> first
    | (cases f1; done)
    | (cases f2; done)
    | rfl
    | (simp only [eqV, PyData.eqv]; done)
theorem flat_all {G : Hp} : ∀ {vs : List V} {ds : List PyData}, DpAll K G vs ds → ds.all flatD = true → vs.all flatV = true
  | _, _, .nil, _ => rfl
  | _, _, .cons h t, f => by
    rw [List.all_cons, Bool.and_eq_true] at f ⊢
    exact ⟨dp_flat h f.1, flat_all t f.2⟩
theorem in_all {G : Hp} {v : V} {d : PyData} (h : Dp K G v d) (f : flatD d = true) : ∀ {vs : List V} {ds : List PyData}, DpAll K G vs ds → ds.all flatD = true → inV v vs = inD d ds
  | _, _, .nil, _ => rfl
  | _, _, .cons h2 t, f2 => by
    rw [List.all_cons, Bool.and_eq_true] at f2
    have e := in_all h f t f2.2
    unfold inV inD at e ⊢
    rw [List.any_cons, List.any_cons, dp_eqV h2 h f2.1 f, e]
theorem vb_inB {neg : Bool} : VB K (rIn K neg) (p_inB neg) := by
  intro m E G0 G e σ H x y dx dy rr Q R lx ly q P
  unfold p_inB at q
  cases h : seqD dy with
  | none => simp only [h] at q; cases q
  | some ds =>
    simp only [h] at q
    by_cases z : (flatD dx && ds.all flatD) = true
    · rw [if_pos z] at q
      cases q
      obtain ⟨f1, f2⟩ := Bool.and_eq_true_iff.mp z
      have hx : Dp K G x dx := by
        rcases lx with lx | ⟨_, _, _, _, e, _⟩
        · exact lx
        · subst e
          cases f1
      have hs : ∃ p ws, y = .ref p ∧ (SqL K H p ws ∨ SqT K H p ws) ∧ DpAll K G ws ds := by
        unfold seqD at h
        split at h
        · cases h
          obtain ⟨p, ws, e, s1, k⟩ := ly.list R.gh
          exact ⟨p, ws, e, .inl s1, k⟩
        · cases h
          obtain ⟨p, ws, e, s1, k⟩ := ly.tup R.gh
          exact ⟨p, ws, e, .inr s1, k⟩
        · cases h
      obtain ⟨p, ws, e, s1, k⟩ := hs
      have ei := in_all hx f1 k f2
      refine ⟨p, ws, e, s1, dp_flat hx f1, flat_all k f2, ?_⟩
      rw [ei]
      cases neg with
      | true => exact P.now R (.bl _) True.intro
      | false => exact P.now R (.bl _) True.intro
    · rw [if_neg z] at q
      cases q
theorem lv_non {G H : Hp} {v : V} {d : PyData} (h : Lv K G H v d) : d = .none ∨ v ≠ .non := by
  rcases h with h | ⟨p, ws, ds, rfl, rfl, _⟩
  · cases h with
    | non => exact .inl rfl
    | _ => exact .inr fun z => by cases z
  · exact .inr fun z => by cases z
theorem isN_ok {neg : Bool} {a b d : PyData} {G H : Hp} {x y : V} (h : p_isN neg a b = some d) (lx : Lv K G H x a) (ly : Lv K G H y b) : y = .non ∧ d = .bool (if neg = true then !decide (x = .non) else decide (x = .non)) := by
  have hx := lv_non lx
  unfold p_isN at h
  split at h
  · have e := lx.none
    cases h
    subst e
    refine ⟨ly.none, ?_⟩
    cases neg <;> rfl
  all_goals first
    | (cases h
       refine ⟨ly.none, ?_⟩
       have z : x ≠ .non := by
         rcases hx with z | z
         · cases z
         · exact z
       rw [decide_eq_false z]
       cases neg <;> rfl)
    | (cases h; done)
theorem vb_is : VB K (fun x y H Q => (y = .non ∧ Q (.bl (decide (x = .non))) H) ∨ rIsB x y H Q) p_is :=
  VB.or (VB.pure fun G H x y dx dy d Q s lx ly h k => by
      obtain ⟨e1, rfl⟩ := isN_ok h lx ly
      exact ⟨e1, k _ (.bl _)⟩)
    (VB.pure fun G H x y dx dy d Q s lx ly h k => by
      unfold p_isB at h
      split at h
      · cases h
        exact ⟨_, _, lx.bool, ly.bool, k _ (.bl _)⟩
      · cases h)
theorem op_is2 : OpR X (compareOp .Is) (fun x y H Q => (y = .non ∧ Q (.bl (decide (x = .non))) H) ∨ rIsB x y H Q) := OpR.or op_isN op_isBl
end
end DL
namespace DL
open PySem PySem.Spec PyProof.Rows L2
def a_nil : Fa := fun e => some ([], e)
def a_cons (fa : Fe) (fr : Fa) : Fa := fun e => match fa e with
  | some (r, e1) => (match fr e1 with
    | some (rs, e2) => some (frzR r :: rs, e2)
    | none => none)
  | none => none
section
variable {X : Cx} {a : Expr} {es : List Expr} {fa : Fe} {fr : Fa} {pos : Pos}
theorem ad_nil : AD X [] a_nil := ⟨_, pa_nil, fun m E G0 G e σ H rs e' Q R q P => by
  cases q
  exact P [] G H R Stp.refl True.intro⟩
theorem ad_cons (ha : ED X a fa) (hr : AD X es fr) (hs : starEach (a :: es) X.env = (false, eval a X.env) :: starEach es X.env := by rfl) : AD X (a :: es) (a_cons fa fr) := by
  obtain ⟨t, p, k⟩ := ha
  obtain ⟨t2, p2, k2⟩ := hr
  refine ⟨_, pa_cons p p2 hs, fun m E G0 G e σ H rs e' Q R q P => ?_⟩
  unfold a_cons at q
  cases h1 : fa e with
  | none => simp only [h1] at q; cases q
  | some z =>
    obtain ⟨r, e1⟩ := z
    simp only [h1] at q
    cases h2 : fr e1 with
    | none => simp only [h2] at q; cases q
    | some z2 =>
      obtain ⟨rs2, e2⟩ := z2
      simp only [h2, Option.some.injEq, Prod.mk.injEq] at q
      obtain ⟨rfl, rfl⟩ := q
      refine k m E G0 G e σ H r e1 _ R h1 fun v G1 H1 R1 S1 V1 N1 => ?_
      obtain ⟨G1', R1', S1', s1, V1'⟩ := R1.freeze S1 V1 N1
      refine k2 m E G0 G1' e1 σ H1 rs2 e2 _ R1' h2 fun vs G2 H2 R2 S2 V2 => ?_
      exact P (v :: vs) G2 H2 R2 (S1'.trans S2) ⟨V1'.stp S2, V2⟩
end
/-- all arguments, as data -/
def argsD (fa : Fa) : Ev → Option (List PyData × Ev) := fun e => match fa e with
  | some (rs, e1) => (match lookAll e1 rs with
    | some ds => some (ds, e1)
    | none => none)
  | none => none
theorem argsD_ok {fa : Fa} {e e' : Ev} {ds : List PyData} (q : argsD fa e = some (ds, e')) : ∃ rs, fa e = some (rs, e') ∧ lookAll e' rs = some ds := by
  unfold argsD at q
  split at q
  · rename_i rs e1 h1
    split at q
    · rename_i ds2 h2
      cases q
      exact ⟨rs, h1, h2⟩
    · cases q
  · cases q
/-- every one of them is frozen data (no list of one's own) -/
def imR : Rs → Option PyData
  | .im d => some d
  | _ => none
def imAll : List Rs → Option (List PyData)
  | [] => some []
  | r :: rs => match imR r with
    | some d => (match imAll rs with
      | some ds => some (d :: ds)
      | none => none)
    | none => none
theorem vr_imAll {K : PySem.W.Frag} {E : Ef} {G H : Hp} {σ : St} {e : Ev} : ∀ {vs : List V} {rs : List Rs} {ds : List PyData}, VrAll K E G H σ e vs rs → imAll rs = some ds → DpAll K G vs ds
  | [], [], ds, _, q => by
    cases q
    exact .nil
  | v :: vs, r :: rs, ds, h, q => by
    simp only [imAll] at q
    cases r with
    | im d =>
      simp only [imR] at q
      cases h2 : imAll rs with
      | none => simp only [h2] at q; cases q
      | some ds2 =>
        simp only [h2, Option.some.injEq] at q
        subst q
        exact .cons h.1 (vr_imAll h.2 h2)
    | ac _ => simp only [imR] at q; cases q
    | br _ => simp only [imR] at q; cases q
  | [], _ :: _, _, h, _ => h.elim
  | _ :: _, [], _, h, _ => h.elim
def argsI (fa : Fa) : Ev → Option (List PyData × Ev) := fun e => match fa e with
  | some (rs, e1) => (match imAll rs with
    | some ds => some (ds, e1)
    | none => none)
  | none => none
theorem argsI_ok {fa : Fa} {e e' : Ev} {ds : List PyData} (q : argsI fa e = some (ds, e')) : ∃ rs, fa e = some (rs, e') ∧ imAll rs = some ds := by
  unfold argsI at q
  split at q
  · rename_i rs e1 h1
    split at q
    · rename_i ds2 h2
      cases q
      exact ⟨rs, h1, h2⟩
    · cases q
  · cases q
def x_tup (fa : Fa) : Fe := fun e => match argsI fa e with
  | some (ds, e1) => if okLen ds.length = true then some (.im (.tuple ds), e1) else none
  | none => none
def x_lst (fa : Fa) : Fe := fun e => match argsI fa e with
  | some (ds, e1) => if okLen ds.length = true then some (.ac ds, e1) else none
  | none => none
section
variable {X : Cx} {es : List Expr} {fa : Fa} {pos : Pos}
theorem ed_tup {n} (h : AD X es fa) : ED X (.Tuple es n pos) (x_tup fa) := by
  obtain ⟨t, p, k⟩ := h
  refine ⟨_, pe_tup p, fun m E G0 G e σ H r e' Q R q P => ?_⟩
  unfold x_tup at q
  cases h1 : argsI fa e with
  | none => simp only [h1] at q; cases q
  | some z =>
    obtain ⟨ds, e1⟩ := z
    simp only [h1] at q
    by_cases z : okLen ds.length = true
    · rw [if_pos z] at q
      simp only [Option.some.injEq, Prod.mk.injEq] at q
      obtain ⟨rfl, rfl⟩ := q
      obtain ⟨rs, q1, q2⟩ := argsI_ok h1
      refine k m E G0 G e σ H rs e1 _ R q1 fun vs G1 H1 R1 S1 V1 => ?_
      have dv := vr_imAll V1 q2
      refine ⟨by rw [dpAll_len dv]; exact okLen_ok z, fun p hp => ?_⟩
      obtain ⟨R', S', D'⟩ := R1.newT hp dv
      exact P _ _ _ R' (S1.trans S') D' True.intro
    · rw [if_neg z] at q
      cases q
theorem ed_lst (h : AD X es fa) : ED X (.List es pos) (x_lst fa) := by
  obtain ⟨t, p, k⟩ := h
  refine ⟨_, pe_lst p, fun m E G0 G e σ H r e' Q R q P => ?_⟩
  unfold x_lst at q
  cases h1 : argsI fa e with
  | none => simp only [h1] at q; cases q
  | some z =>
    obtain ⟨ds, e1⟩ := z
    simp only [h1] at q
    by_cases z : okLen ds.length = true
    · rw [if_pos z] at q
      simp only [Option.some.injEq, Prod.mk.injEq] at q
      obtain ⟨rfl, rfl⟩ := q
      obtain ⟨rs, q1, q2⟩ := argsI_ok h1
      refine k m E G0 G e σ H rs e1 _ R q1 fun vs G1 H1 R1 S1 V1 => ?_
      have dv := vr_imAll V1 q2
      refine ⟨by rw [dpAll_len dv]; exact okLen_ok z, fun p hp => ?_⟩
      obtain ⟨R', S', V', N'⟩ := R1.newL hp dv
      exact P _ _ _ R' (S1.trans S') V' (nw_back S1 _ N')
    · rw [if_neg z] at q
      cases q
/-- [..] * n -/
def x_rep (fa : Fa) (fb : Fe) : Fe := fun e => match argsI fa e with
  | some (ds, e1) => (match fb e1 with
    | some (.im (.int k), e2) => if (okLen ds.length && (decide (-9223372036854775808 ≤ k ∧ k < 9223372036854775808) && okLen (ds.length * k.toNat))) = true then some (.ac (List.replicate k.toNat ds).flatten, e2) else none
    | _ => none)
  | none => none
theorem ed_rep {b : Expr} {fb : Fe} {p1 : Pos} (h : AD X es fa) (hb : ED X b fb) : ED X (.BinOp (.List es p1) .Mult b pos) (x_rep fa fb) := by
  obtain ⟨t, p, k⟩ := h
  obtain ⟨t2, p2, k2⟩ := hb
  refine ⟨_, pe_op op_rep (pe_lst p) p2, fun m E G0 G e σ H r e' Q R q P => ?_⟩
  unfold x_rep at q
  cases h1 : argsI fa e with
  | none => simp only [h1] at q; cases q
  | some z =>
    obtain ⟨ds, e1⟩ := z
    simp only [h1] at q
    split at q
    · rename_i kk e2 h2
      by_cases z : (okLen ds.length && (decide (-9223372036854775808 ≤ kk ∧ kk < 9223372036854775808) && okLen (ds.length * kk.toNat))) = true
      · rw [if_pos z] at q
        simp only [Option.some.injEq, Prod.mk.injEq] at q
        obtain ⟨rfl, rfl⟩ := q
        obtain ⟨z1, z2⟩ := Bool.and_eq_true_iff.mp z
        obtain ⟨z2, z3⟩ := Bool.and_eq_true_iff.mp z2
        have z2 := of_decide_eq_true z2
        obtain ⟨rs, q1, q2⟩ := argsI_ok h1
        refine k m E G0 G e σ H rs e1 _ R q1 fun vs G1 H1 R1 S1 V1 => ?_
        have dv := vr_imAll V1 q2
        refine ⟨by rw [dpAll_len dv]; exact okLen_ok z1, fun p hp => ?_⟩
        obtain ⟨R', S', V', N'⟩ := R1.newL hp dv
        refine k2 m E G0 G1 e1 σ _ _ e2 _ R' h2 fun u G2 H2 R2 S2 V2 _ => ?_
        cases V2
        obtain ⟨p', ws', ep, _, g2, h3, d3, _⟩ := V'.stp S2
        cases ep
        refine ⟨_, kk, ws', rfl, rfl, h3, z2.1, z2.2, by rw [dpAll_len d3]; exact okLen_ok z3, fun p2 hp2 => ?_⟩
        obtain ⟨R3, S3, V3, N3⟩ := R2.newL hp2 (dpAll_rep d3 kk.toNat)
        exact P _ _ _ R3 (S1.trans (S'.trans (S2.trans S3))) V3 (nw_back (S1.trans (S'.trans S2)) _ N3)
      · rw [if_neg z] at q
        cases q
    · cases q
end
def p_ix : PyData → PyData → Option Rs := fun a b => match seqD a, b with
  | some ds, .int i => (atI ds i).map Rs.im
  | _, _ => none
theorem dpAll_atI {K : PySem.W.Frag} {G : Hp} {vs : List V} {ds : List PyData} {i : Int} {d : PyData} (h : DpAll K G vs ds) (q : atI ds i = some d) : ∃ v, atI vs i = some v ∧ Dp K G v d := by
  have e : atI vs i = (ixN vs.length i).bind fun j => vs[j]? := rfl
  rw [e, dpAll_len h]
  have q : ((ixN ds.length i).bind fun j => ds[j]?) = some d := q
  cases z : ixN ds.length i with
  | none => rw [z] at q; cases q
  | some j =>
    rw [z] at q
    exact dpAll_get h q
def rIx2 (K : PySem.W.Frag) : R2 := fun x y H Q => rIxL K x y H Q ∨ rIxT K x y H Q
theorem vb_ix {K : PySem.W.Frag} : VB K (rIx2 K) p_ix := by
  intro m E G0 G e σ H x y dx dy rr Q R lx ly q P
  unfold p_ix at q
  split at q
  · rename_i ds i h
    cases z : atI ds i with
    | none => rw [z] at q; cases q
    | some d =>
      rw [z] at q
      cases q
      unfold seqD at h
      split at h
      · cases h
        obtain ⟨p, ws, ex, s1, k⟩ := lx.list R.gh
        obtain ⟨v, e1, e2⟩ := dpAll_atI k z
        exact .inl ⟨p, ws, i, v, ex, ly.int, s1, e1, P.now R e2 True.intro⟩
      · cases h
        obtain ⟨p, ws, ex, s1, k⟩ := lx.tup R.gh
        obtain ⟨v, e1, e2⟩ := dpAll_atI k z
        exact .inr ⟨p, ws, i, v, ex, ly.int, s1, e1, P.now R e2 True.intro⟩
      · cases h
  · cases q
abbrev x_ix (fa fb : Fe) : Fe := x_bin p_ix fa fb
section
variable {X : Cx} {a b : Expr} {fa fb : Fe} {pos : Pos}
theorem ed_ix (ha : ED X a fa) (hb : ED X b fb) (hs : PlainIx b := by intro _ _; rfl) : ED X (.Subscript a b pos) (x_ix fa fb) := by
  obtain ⟨ta, tb, pa, pb, k2⟩ := two_ok ha hb
  exact ⟨_, pe_ix (ix_list.or ix_tup) pa pb hs, bin_ok (r := rIx2 X.K) vb_ix k2⟩
end
abbrev Fo := Ev → Option (Option Int × Ev)
structure OD (X : Cx) (o : Option Expr) (f : Fo) : Prop where
  ex : ∃ t, PO X o t ∧ ∀ (m : Option Addr) (E : Ef) (G0 G : Hp) (e : Ev) (σ : St) (H : Hp) (i : Option Int) (e' : Ev) (Q : Option Int → Hp → Prop),
    Rl X.K m E G0 G e σ H → f e = some (i, e') → (∀ G' H', Rl X.K m E G0 G' e' σ H' → Stp σ G H e G' H' e' → Q i H') → t σ H Q
def o_no : Fo := fun e => some (none, e)
def o_at (f : Fe) : Fo := fun e => match f e with
  | some (.im (.int i), e1) => some (some i, e1)
  | _ => none
def cutD {α : Type} (ds : List α) (lo hi : Option Int) : List α := (ds.drop (HT.sIx ds.length 0 lo)).take (HT.sIx ds.length ds.length hi - HT.sIx ds.length 0 lo)
def sliced (lo hi : Option Int) : PyData → Option Rs
  | .list ds => some (.ac (cutD ds lo hi))
  | .tuple ds => some (.im (.tuple (cutD ds lo hi)))
  | _ => none
def x_sl (fa : Fe) (fl fh : Fo) : Fe := fun e => match fa e with
  | some (r, e1) => (match fl e1 with
    | some (lo, e2) => (match fh e2 with
      | some (hi, e3) => (match lookR e3 (frzR r) with
        | some d => (match sliced lo hi d with
          | some r2 => some (r2, e3)
          | none => none)
        | none => none)
      | none => none)
    | none => none)
  | none => none
theorem dpAll_cut {K : PySem.W.Frag} {G : Hp} {vs : List V} {ds : List PyData} {lo hi : Option Int} (h : DpAll K G vs ds) : DpAll K G (cutV vs lo hi) (cutD ds lo hi) := by
  unfold cutV cutD
  rw [dpAll_len h]
  exact dpAll_take _ (dpAll_drop _ h)
theorem cutD_all {α : Type} {ds : List α} {lo hi : Option Int} (h1 : HT.sIx ds.length 0 lo = 0) (h2 : HT.sIx ds.length ds.length hi = ds.length) : cutD ds lo hi = ds := by
  unfold cutD
  rw [h1, h2]
  exact List.take_length
section
variable {X : Cx} {a b : Expr} {fa fb : Fe} {fl fh : Fo} {lo hi : Option Expr} {pos p2 : Pos}
theorem od_no : OD X none o_no := ⟨_, po_none, fun m E G0 G e σ H i e' Q R q P => by
  cases q
  exact P G H R Stp.refl⟩
theorem od_at (h : ED X a fa) : OD X (some a) (o_at fa) := by
  obtain ⟨t, p, k⟩ := h
  refine ⟨_, po_some p, fun m E G0 G e σ H i e' Q R q P => ?_⟩
  unfold o_at at q
  split at q
  · rename_i j e1 h1
    simp only [Option.some.injEq, Prod.mk.injEq] at q
    obtain ⟨rfl, rfl⟩ := q
    refine k m E G0 G e σ H _ e1 _ R h1 fun v G1 H1 R1 S1 V1 _ => ?_
    cases V1
    exact ⟨j, rfl, P G1 H1 R1 S1⟩
  · cases q
theorem ed_sl (ha : ED X a fa) (hl : OD X lo fl) (hh : OD X hi fh) : ED X (.Subscript a (.Slice lo hi none p2) pos) (x_sl fa fl fh) := by
  obtain ⟨t, p, k⟩ := ha
  obtain ⟨t1, q1, k1⟩ := hl
  obtain ⟨t2, q2, k2⟩ := hh
  refine ⟨_, pe_slice (sl_list.or sl_tupA) p q1 q2, fun m E G0 G e σ H r e' Q R q P => ?_⟩
  unfold x_sl at q
  cases h1 : fa e with
  | none => simp only [h1] at q; cases q
  | some z =>
    obtain ⟨r0, e1⟩ := z
    simp only [h1] at q
    cases h2 : fl e1 with
    | none => simp only [h2] at q; cases q
    | some z =>
      obtain ⟨i, e2⟩ := z
      simp only [h2] at q
      cases h3 : fh e2 with
      | none => simp only [h3] at q; cases q
      | some z =>
        obtain ⟨j, e3⟩ := z
        simp only [h3] at q
        cases h4 : lookR e3 (frzR r0) with
        | none => simp only [h4] at q; cases q
        | some d =>
          simp only [h4] at q
          cases h5 : sliced i j d with
          | none => simp only [h5] at q; cases q
          | some r2 =>
            simp only [h5, Option.some.injEq, Prod.mk.injEq] at q
            obtain ⟨rfl, rfl⟩ := q
            refine k m E G0 G e σ H r0 e1 _ R h1 fun v G1 H1 R1 S1 V1 N1 => ?_
            obtain ⟨G1', R1', S1', s1, V1'⟩ := R1.freeze S1 V1 N1
            refine k1 m E G0 G1' e1 σ H1 i e2 _ R1' h2 fun G2 H2 R2 S2 => ?_
            refine k2 m E G0 G2 e2 σ H2 j e3 _ R2 h3 fun G3 H3 R3 S3 => ?_
            have L := R3.look ((V1'.stp S2).stp S3) h4
            have S := S1'.trans (S2.trans S3)
            unfold sliced at h5
            split at h5
            · cases h5
              obtain ⟨p', ws, ex, s2, dk⟩ := L.list R3.gh
              refine .inl ⟨p', ws, ex, s2, fun p hp => ?_⟩
              obtain ⟨R', S', V', N'⟩ := R3.newL hp (dpAll_cut dk)
              exact P _ _ _ R' (S.trans S') V' (nw_back S _ N')
            · cases h5
              rename_i ds
              obtain ⟨p', ws, ex, s2, dk⟩ := L.tup R3.gh
              refine .inr ⟨p', ws, ex, s2, fun hw => ?_, fun _ p hp => ?_⟩
              · rw [dpAll_len dk] at hw
                rw [cutD_all hw.1 hw.2] at P
                rcases L with L | ⟨_, _, _, _, z, _⟩
                · rw [← ex]
                  exact P _ _ _ R3 S L True.intro
                · cases z
              · obtain ⟨R', S', D'⟩ := R3.newT hp (dpAll_cut dk)
                exact P _ _ _ R' (S.trans S') D' True.intro
            · cases h5
/-- -n -/
def x_neg (fa : Fe) : Fe := fun e => match fa e with
  | some (.im (.int i), e1) => some (.im (.int (-i)), e1)
  | _ => none
theorem ed_neg (ha : ED X a fa) : ED X (.UnaryOp .USub a pos) (x_neg fa) := by
  obtain ⟨t, p, k⟩ := ha
  refine ⟨_, pe_un un_neg p, fun m E G0 G e σ H r e' Q R q P => ?_⟩
  unfold x_neg at q
  split at q
  · rename_i i e1 h1
    cases q
    refine k m E G0 G e σ H _ _ _ R h1 fun v G1 H1 R1 S1 V1 _ => ?_
    cases V1
    exact ⟨i, rfl, P _ _ _ R1 S1 (.int _) True.intro⟩
  · cases q
end
/-- an n-place rule by values, over data -/
def VC (K : PySem.W.Frag) (r : List V → Hp → VK → Prop) (φ : List PyData → Option Rs) : Prop :=
  ∀ (m : Option Addr) (E : Ef) (G0 G : Hp) (e : Ev) (σ : St) (H : Hp) (vs : List V) (ds : List PyData) (rr : Rs) (Q : VK), Rl K m E G0 G e σ H → LvAll K G H vs ds → φ ds = some rr → Po K m E G0 σ G H e rr e Q → r vs H Q
def orC {α γ : Type} (φ ψ : α → Option γ) : α → Option γ := fun a => match φ a with
  | some r => some r
  | none => ψ a
theorem VC.or {K : PySem.W.Frag} {r r' : List V → Hp → VK → Prop} {φ ψ : List PyData → Option Rs} (h : VC K r φ) (h' : VC K r' ψ) : VC K (fun vs H Q => r vs H Q ∨ r' vs H Q) (orC φ ψ) := by
  intro m E G0 G e σ H vs ds rr Q R l q P
  unfold orC at q
  cases h1 : φ ds with
  | some r1 =>
    simp only [h1, Option.some.injEq] at q
    subst q
    exact .inl (h m E G0 G e σ H vs ds _ Q R l h1 P)
  | none =>
    simp only [h1] at q
    exact .inr (h' m E G0 G e σ H vs ds rr Q R l q P)
def x_cb (φ : List PyData → Option Rs) (fa : Fa) : Fe := fun e => match argsD fa e with
  | some (ds, e1) => (match φ ds with
    | some r => some (r, e1)
    | none => none)
  | none => none
section
variable {X : Cx} {a : Expr} {es : List Expr} {fa : Fa} {pos p : Pos} {x : Str} {id T : String} {r : List V → Hp → VK → Prop} {φ : List PyData → Option Rs}
theorem cb_ok {t : TA} (hv : VC X.K r φ) (k : ∀ (m : Option Addr) (E : Ef) (G0 G : Hp) (e : Ev) (σ : St) (H : Hp) (rs : List Rs) (e' : Ev) (Q : List V → Hp → Prop),
    Rl X.K m E G0 G e σ H → fa e = some (rs, e') → (∀ vs G' H', Rl X.K m E G0 G' e' σ H' → Stp σ G H e G' H' e' → VrAll X.K E G' H' σ e' vs rs → Q vs H') → t σ H Q)
    (m : Option Addr) (E : Ef) (G0 G : Hp) (e : Ev) (σ : St) (H : Hp) (rr : Rs) (e' : Ev) (Q : VK) (R : Rl X.K m E G0 G e σ H) (q : x_cb φ fa e = some (rr, e')) (P : Po X.K m E G0 σ G H e rr e' Q) : tCB r t σ H Q := by
  unfold x_cb at q
  cases h1 : argsD fa e with
  | none => simp only [h1] at q; cases q
  | some z =>
    obtain ⟨ds, e1⟩ := z
    simp only [h1] at q
    cases h2 : φ ds with
    | none => simp only [h2] at q; cases q
    | some r2 =>
      simp only [h2, Option.some.injEq, Prod.mk.injEq] at q
      obtain ⟨rfl, rfl⟩ := q
      obtain ⟨rs, q1, q2⟩ := argsD_ok h1
      exact k m E G0 G e σ H rs e1 _ R q1 fun vs G1 H1 R1 S1 V1 => hv m E G0 G1 e1 σ H1 vs ds _ Q R1 (R1.lookAll V1 q2) h2 (P.aft S1)
theorem ed_cb (hv : VC X.K r φ) (hc : CallR X (.builtin id) r) (hm : X.mg x = none) (h : AD X (a :: es) fa) (hb : bootBuiltins x = some (.builtin id) := by decide +kernel) (hg : Gl X x := by rfl) (hn : x ≠ "__name__" := by decide) (hdb : (x == ("__debug__" : Str)) = false := by decide)
    (he : starEach (a :: es) X.env = (false, eval a X.env) :: starEach es X.env := by rfl) (hpl : (backTo pos (starEach es X.env)).any (·.1) = false := by rfl) : ED X (.Call (.Name x p) (a :: es) [] pos) (x_cb φ fa) := by
  obtain ⟨t, pa, k⟩ := h
  exact ⟨_, pe_callB hc hg hm hb pa hn hdb he hpl, cb_ok hv k⟩
theorem ed_ct (hv : VC X.K r φ) (hc : CallR X (.type T) r) (hm : X.mg x = none) (h : AD X (a :: es) fa) (hb : bootBuiltins x = some (.type T) := by decide +kernel) (hg : Gl X x := by rfl) (hn : x ≠ "__name__" := by decide) (hdb : (x == ("__debug__" : Str)) = false := by decide)
    (he : starEach (a :: es) X.env = (false, eval a X.env) :: starEach es X.env := by rfl) (hpl : (backTo pos (starEach es X.env)).any (·.1) = false := by rfl) : ED X (.Call (.Name x p) (a :: es) [] pos) (x_cb φ fa) := by
  obtain ⟨t, pa, k⟩ := h
  exact ⟨_, pe_callTy hc hg hm hb pa hn hdb he hpl, cb_ok hv k⟩
end
theorem lv1 {K : PySem.W.Frag} {G H : Hp} {vs : List V} {d : PyData} (h : LvAll K G H vs [d]) : ∃ v, vs = [v] ∧ Lv K G H v d := by
  match vs, h with
  | [v], h => exact ⟨v, rfl, h.1⟩
  | _ :: _ :: _, h => exact h.2.elim
theorem lv2 {K : PySem.W.Frag} {G H : Hp} {vs : List V} {c d : PyData} (h : LvAll K G H vs [c, d]) : ∃ u v, vs = [u, v] ∧ Lv K G H u c ∧ Lv K G H v d := by
  match vs, h with
  | [u, v], h => exact ⟨u, v, rfl, h.1, h.2.1⟩
  | _ :: _ :: _ :: _, h => exact h.2.2.elim
  | [_], h => exact h.2.elim
def c_len : List PyData → Option Rs
  | [.list ds] => some (.im (.int ds.length))
  | [.tuple ds] => some (.im (.int ds.length))
  | _ => none
def c_abs : List PyData → Option Rs
  | [.int i] => some (.im (.int (if i < 0 then -i else i)))
  | _ => none
def c_min2 : List PyData → Option Rs
  | [.int i, .int j] => some (.im (.int (if j < i then j else i)))
  | _ => none
def c_int : List PyData → Option Rs
  | [.int i] => some (.im (.int i))
  | [.bool k] => some (.im (.int (if k = true then 1 else 0)))
  | _ => none
def c_list : List PyData → Option Rs
  | [.list ds] => some (.ac ds)
  | [.tuple ds] => some (.ac ds)
  | _ => none
def c_tuple : List PyData → Option Rs
  | [.list ds] => some (.im (.tuple ds))
  | [.tuple ds] => some (.im (.tuple ds))
  | _ => none
section
variable {K : PySem.W.Frag} {X : Cx}
theorem vc_len : VC K (fun xs H Q => ∃ p ys, xs = [.ref p] ∧ (SqL K H p ys ∨ SqT K H p ys) ∧ Q (.int ys.length) H) c_len := by
  intro m E G0 G e σ H vs ds rr Q R l q P
  unfold c_len at q
  split at q
  · cases q
    obtain ⟨v, rfl, lv⟩ := lv1 l
    obtain ⟨p, ws, rfl, s1, k⟩ := lv.list R.gh
    refine ⟨p, ws, rfl, .inl s1, ?_⟩
    rw [dpAll_len k]
    exact P.now R (.int _) True.intro
  · cases q
    obtain ⟨v, rfl, lv⟩ := lv1 l
    obtain ⟨p, ws, rfl, s1, k⟩ := lv.tup R.gh
    refine ⟨p, ws, rfl, .inr s1, ?_⟩
    rw [dpAll_len k]
    exact P.now R (.int _) True.intro
  · cases q
theorem vc_abs : VC K (fun xs H Q => ∃ i, xs = [.int i] ∧ Q (.int (if i < 0 then -i else i)) H) c_abs := by
  intro m E G0 G e σ H vs ds rr Q R l q P
  unfold c_abs at q
  split at q
  · cases q
    obtain ⟨v, rfl, lv⟩ := lv1 l
    exact ⟨_, by rw [lv.int], P.now R (.int _) True.intro⟩
  · cases q
theorem vc_min2 : VC K (fun xs H Q => ∃ i j, xs = [.int i, .int j] ∧ Q (.int (if j < i then j else i)) H) c_min2 := by
  intro m E G0 G e σ H vs ds rr Q R l q P
  unfold c_min2 at q
  split at q
  · cases q
    obtain ⟨u, v, rfl, l1, l2⟩ := lv2 l
    exact ⟨_, _, by rw [l1.int, l2.int], P.now R (.int _) True.intro⟩
  · cases q
theorem vc_int : VC K (fun xs H Q => (∃ i, xs = [.int i] ∧ Q (.int i) H) ∨ ∃ k, xs = [.bl k] ∧ Q (.int (if k then 1 else 0)) H) c_int := by
  intro m E G0 G e σ H vs ds rr Q R l q P
  unfold c_int at q
  split at q
  · cases q
    obtain ⟨v, rfl, lv⟩ := lv1 l
    exact .inl ⟨_, by rw [lv.int], P.now R (.int _) True.intro⟩
  · cases q
    obtain ⟨v, rfl, lv⟩ := lv1 l
    exact .inr ⟨_, by rw [lv.bool], P.now R (.int _) True.intro⟩
  · cases q
theorem vc_list : VC K (fun xs H Q => ∃ p ys, xs = [.ref p] ∧ (SqL K H p ys ∨ SqT K H p ys) ∧ ∀ l, H l = none → Q (.ref l) (upd H l (.lst ys))) c_list := by
  intro m E G0 G e σ H vs ds rr Q R l q P
  unfold c_list at q
  split at q
  · cases q
    obtain ⟨v, rfl, lv⟩ := lv1 l
    obtain ⟨p, ws, rfl, s1, k⟩ := lv.list R.gh
    refine ⟨p, ws, rfl, .inl s1, fun p2 hp => ?_⟩
    obtain ⟨R', S', V', N'⟩ := R.newL hp k
    exact P _ _ _ R' S' V' N'
  · cases q
    obtain ⟨v, rfl, lv⟩ := lv1 l
    obtain ⟨p, ws, rfl, s1, k⟩ := lv.tup R.gh
    refine ⟨p, ws, rfl, .inr s1, fun p2 hp => ?_⟩
    obtain ⟨R', S', V', N'⟩ := R.newL hp k
    exact P _ _ _ R' S' V' N'
  · cases q
theorem vc_tuple : VC K (fun xs H Q => ∃ p ys, xs = [.ref p] ∧ ((SqL K H p ys ∧ ∀ l, H l = none → Q (.ref l) (upd H l (.tup ys))) ∨ (SqT K H p ys ∧ Q (.ref p) H))) c_tuple := by
  intro m E G0 G e σ H vs ds rr Q R l q P
  unfold c_tuple at q
  split at q
  · cases q
    obtain ⟨v, rfl, lv⟩ := lv1 l
    obtain ⟨p, ws, rfl, s1, k⟩ := lv.list R.gh
    refine ⟨p, ws, rfl, .inl ⟨s1, fun p2 hp => ?_⟩⟩
    obtain ⟨R', S', D'⟩ := R.newT hp k
    exact P _ _ _ R' S' D' True.intro
  · cases q
    obtain ⟨v, rfl, lv⟩ := lv1 l
    obtain ⟨p, ws, rfl, s1, k⟩ := lv.tup R.gh
    refine ⟨p, ws, rfl, .inr ⟨s1, ?_⟩⟩
    rcases lv with lv | ⟨_, _, _, _, z, _⟩
    · exact P.now R lv True.intro
    · cases z
  · cases q
end
end DL
namespace DL
open PySem PySem.Spec PyProof.Rows L2
inductive Ty where
  | int | bool | str | tuple | list
def Ty.nm : Ty → String
  | .int => "int"
  | .bool => "bool"
  | .str => "str"
  | .tuple => "tuple"
  | .list => "list"
def isD : Ty → PyData → Option Bool
  | _, .dict _ => none
  | .int, .int _ => some true
  | .int, .bool _ => some true
  | .bool, .bool _ => some true
  | .str, .str _ => some true
  | .tuple, .tuple _ => some true
  | .list, .list _ => some true
  | _, _ => some false
def tyN : PyData → String
  | .none => "NoneType"
  | .bool _ => "bool"
  | .int _ => "int"
  | .str _ => "str"
  | .list _ => "list"
  | .tuple _ => "tuple"
  | .dict _ => "dict"
theorem isD_ok {T : Ty} {d : PyData} {b : Bool} (h : isD T d = some b) : kitB (tyN d) T.nm = some b := by
  cases d <;> cases T <;> first
    | (cases h; done)
    | (cases h; simp only [tyN, Ty.nm]; decide +kernel)
theorem lv_ty {K : PySem.W.Frag} {G H : Hp} {v : V} {d : PyData} (s : Same G H) (h : Lv K G H v d) {T : Ty} {b : Bool} (hd : isD T d = some b) : TyX K H v (.type (tyN d)) := by
  have h := h.dp s
  cases h with
  | non => exact .base .non
  | bl b => exact .base (.bl b)
  | int i => exact .base (.int i)
  | str x => exact .base (.str x)
  | lst h1 _ =>
    rcases h1 with (h2 | ⟨o, h2⟩) | ⟨o, its, n, hk, hc, _⟩
    · exact .base (.lst h2)
    · exact .base (.frz h2)
    · exact .kList hk hc
  | tup h1 _ =>
    rcases h1 with (h2 | ⟨o, h2⟩) | ⟨o, its, n, hk, hc, _⟩
    · exact .base (.tup h2)
    · exact .fTuple h2
    · exact .kTuple hk hc
  | ins _ _ _ _ => cases T <;> cases hd
  | dct _ _ _ => cases T <;> cases hd
def x_isi (T : Ty) (f : Fe) : Fe := fun e => match f e with
  | some (r, e1) => (match lookR e1 (frzR r) with
    | some d => (match isD T d with
      | some b => some (.im (.bool b), e1)
      | none => none)
    | none => none)
  | none => none
section
variable {X : Cx} {a : Expr} {fa : Fe} {pos p p2 : Pos}
theorem ed_isi (T : Ty) (ha : ED X a fa) {y : Str} (hm : X.mg "isinstance" = none) (hmT : X.mg y = none) (hy : y = Str.ofString T.nm := by rfl) (hb : bootBuiltins y = some (.type T.nm) := by decide +kernel) (hg : Gl X "isinstance" := by rfl) (hgT : Gl X y := by rfl)
    (hny : y ≠ "__name__" := by decide) (hdy : (y == ("__debug__" : Str)) = false := by decide)
    (h1 : starEach [.Name y p2] X.env = (false, eval (.Name y p2) X.env) :: starEach [] X.env := by rfl)
    (he : starEach [a, .Name y p2] X.env = (false, eval a X.env) :: starEach [.Name y p2] X.env := by rfl) (hpl : (backTo pos (starEach [.Name y p2] X.env)).any (·.1) = false := by rfl) :
    ED X (.Call (.Name "isinstance" p) [a, .Name y p2] [] pos) (x_isi T fa) := by
  obtain ⟨t, pa, k⟩ := ha
  refine ⟨_, pe_callB call_isi hg hm (by decide +kernel) (pa_cons pa (pa_cons (pe_bltn (v := .ty T.nm) hgT hmT hb rfl hny hdy) pa_nil h1) he) (by decide) (by decide) he hpl, fun m E G0 G e σ H r e' Q R q P => ?_⟩
  unfold x_isi at q
  cases h1 : fa e with
  | none => simp only [h1] at q; cases q
  | some z =>
    obtain ⟨r0, e1⟩ := z
    simp only [h1] at q
    cases h4 : lookR e1 (frzR r0) with
    | none => simp only [h4] at q; cases q
    | some d =>
      simp only [h4] at q
      cases h5 : isD T d with
      | none => simp only [h5] at q; cases q
      | some b =>
        simp only [h5, Option.some.injEq, Prod.mk.injEq] at q
        obtain ⟨rfl, rfl⟩ := q
        refine k m E G0 G e σ H r0 e1 _ R h1 fun v G1 H1 R1 S1 V1 N1 => ?_
        obtain ⟨G1', R1', S1', s1, V1'⟩ := R1.freeze S1 V1 N1
        have L := R1'.look V1' h4
        exact ⟨v, .ty T.nm, .type (tyN d), .type T.nm, b, rfl, .ty _, lv_ty R1'.gh L h5, kit_ty (isD_ok h5), P _ _ _ R1' S1' (.bl _) True.intro⟩
end
def unI : List PyData → Option (List Int)
  | [] => some []
  | .int i :: ds => (unI ds).map (i :: ·)
  | _ :: _ => none
def unB : List PyData → Option (List Bool)
  | [] => some []
  | .bool b :: ds => (unB ds).map (b :: ·)
  | _ :: _ => none
theorem unI_ok : ∀ {ds : List PyData} {ns : List Int}, unI ds = some ns → ds = ns.map PyData.int
  | [], ns, h => by
    cases h
    rfl
  | d :: ds, ns, h => by
    cases d with
    | int i =>
      simp only [unI] at h
      cases z : unI ds with
      | none => rw [z] at h; cases h
      | some ms =>
        rw [z] at h
        cases h
        rw [unI_ok z]
        rfl
    | _ => simp only [unI] at h; cases h
theorem unB_ok : ∀ {ds : List PyData} {ns : List Bool}, unB ds = some ns → ds = ns.map PyData.bool
  | [], ns, h => by
    cases h
    rfl
  | d :: ds, ns, h => by
    cases d with
    | bool i =>
      simp only [unB] at h
      cases z : unB ds with
      | none => rw [z] at h; cases h
      | some ms =>
        rw [z] at h
        cases h
        rw [unB_ok z]
        rfl
    | _ => simp only [unB] at h; cases h
theorem unB_map : ∀ ns : List Bool, unB (ns.map PyData.bool) = some ns
  | [] => rfl
  | n :: ns => by
    show (unB (ns.map PyData.bool)).map (n :: ·) = _
    rw [unB_map ns]
    rfl
theorem dp_ints {K : PySem.W.Frag} {G : Hp} : ∀ {vs : List V} {ns : List Int}, DpAll K G vs (ns.map PyData.int) → vs = ns.map V.int
  | [], [], _ => rfl
  | [], _ :: _, h => by cases h
  | _ :: _, [], h => by cases h
  | v :: vs, n :: ns, h => by
    cases h with
    | cons h t =>
      cases h
      rw [dp_ints t]
      rfl
theorem dp_bools {K : PySem.W.Frag} {G : Hp} : ∀ {vs : List V} {ns : List Bool}, DpAll K G vs (ns.map PyData.bool) → vs = ns.map V.bl
  | [], [], _ => rfl
  | [], _ :: _, h => by cases h
  | _ :: _, [], h => by cases h
  | v :: vs, n :: ns, h => by
    cases h with
    | cons h t =>
      cases h
      rw [dp_bools t]
      rfl
/-- the greatest, the least of what is there -/
def maxI : List Int → Int
  | [] => 0
  | [a] => a
  | a :: b :: r => max a (maxI (b :: r))
theorem maxI_uniq : ∀ {ns : List Int} {m : Int}, m ∈ ns → (∀ y, y ∈ ns → y ≤ m) → m = maxI ns
  | [], _, h, _ => by cases h
  | [a], m, h, _ => by simpa [maxI] using h
  | a :: b :: r, m, h, k => by
    show m = max a (maxI (b :: r))
    have ka := k a List.mem_cons_self
    have mem : maxI (b :: r) ∈ (b :: r) := by
      have : ∀ (l : List Int), l ≠ [] → maxI l ∈ l := by
        intro l
        induction l with
        | nil => intro z; exact absurd rfl z
        | cons x l ih =>
          intro _
          cases l with
          | nil => simp [maxI]
          | cons y l =>
            have q := ih (by simp)
            show max x (maxI (y :: l)) ∈ _
            by_cases z : x ≤ maxI (y :: l)
            · rw [show max x (maxI (y :: l)) = maxI (y :: l) by omega]
              exact List.mem_cons_of_mem _ q
            · rw [show max x (maxI (y :: l)) = x by omega]
              exact List.mem_cons_self
      exact this _ (by simp)
    have kb := k _ (List.mem_cons_of_mem _ mem)
    rcases List.mem_cons.mp h with e | h'
    · omega
    · have q := maxI_uniq h' fun y hy => k y (List.mem_cons_of_mem _ hy)
      omega
def c_intsL (g : List Int → Option Rs) : List PyData → Option Rs
  | [.list ds] => (match unI ds with
    | some ns => g ns
    | none => none)
  | _ => none
def c_max : List PyData → Option Rs := c_intsL fun ns => if ns.isEmpty = true then none else some (.im (.int (maxI ns)))
def c_all : List PyData → Option Rs
  | [.list ds] => (match unB ds with
    | some bs => some (.im (.bool (bs.all id)))
    | none => none)
  | _ => none
/-- sorted, ascending, falling, by insertion (what the kernel can reckon) -/
def insB {α : Type} (le : α → α → Bool) (x : α) : List α → List α
  | [] => [x]
  | y :: l => match le x y with
    | true => x :: y :: l
    | false => y :: insB le x l
def sortB {α : Type} (le : α → α → Bool) : List α → List α
  | [] => []
  | x :: l => insB le x (sortB le l)
theorem insB_perm {α : Type} (le : α → α → Bool) (x : α) : ∀ l : List α, (insB le x l).Perm (x :: l)
  | [] => List.Perm.refl _
  | y :: l => by
    unfold insB
    split
    · exact List.Perm.refl _
    · exact (List.Perm.cons _ (insB_perm le x l)).trans (List.Perm.swap ..)
theorem sortB_perm {α : Type} (le : α → α → Bool) : ∀ l : List α, (sortB le l).Perm l
  | [] => List.Perm.refl _
  | x :: l => (insB_perm le x _).trans (List.Perm.cons _ (sortB_perm le l))
theorem insB_pw {α : Type} {le : α → α → Bool} (tr : ∀ a b c, le a b = true → le b c = true → le a c = true) (to : ∀ a b, (le a b || le b a) = true) (x : α) : ∀ {l : List α}, l.Pairwise (fun a b => le a b = true) → (insB le x l).Pairwise (fun a b => le a b = true)
  | [], _ => List.pairwise_singleton _ _
  | y :: l, h => by
    obtain ⟨h1, h2⟩ := List.pairwise_cons.mp h
    unfold insB
    split
    · rename_i e
      refine List.pairwise_cons.mpr ⟨fun z hz => ?_, h⟩
      rcases List.mem_cons.mp hz with q | q
      · rw [q]; exact e
      · exact tr _ _ _ e (h1 z q)
    · rename_i e
      refine List.pairwise_cons.mpr ⟨fun z hz => ?_, insB_pw tr to x h2⟩
      rcases List.mem_cons.mp ((insB_perm le x l).mem_iff.mp hz) with q | q
      · rw [q]
        have := to x y
        rwa [e, Bool.false_or] at this
      · exact h1 z q
theorem sortB_pw {α : Type} {le : α → α → Bool} (tr : ∀ a b c, le a b = true → le b c = true → le a c = true) (to : ∀ a b, (le a b || le b a) = true) : ∀ l : List α, (sortB le l).Pairwise (fun a b => le a b = true)
  | [] => .nil
  | x :: l => insB_pw tr to x (sortB_pw tr to l)
def downI (ns : List Int) : List Int := sortB (fun a b => decide (b ≤ a)) ns
theorem downI_uniq {ns ms : List Int} (h : ms.Perm ns) (k : ms.Pairwise (· ≥ ·)) : ms = downI ns := by
  have p1 : (downI ns).Perm ns := sortB_perm _ ns
  have s1 : (downI ns).Pairwise (fun a b => decide (b ≤ a) = true) := sortB_pw (fun a b c h1 h2 => by simp at *; omega) (fun a b => by simp; omega) ns
  refine List.Perm.eq_of_pairwise (le := (· ≥ ·)) (fun a b _ _ h1 h2 => by omega) k (s1.imp fun h => of_decide_eq_true h) (h.trans p1.symm)
section
variable {K : PySem.W.Frag} {X : Cx}
theorem intsL_ok {g : List Int → Option Rs} {ds : List PyData} {r : Rs} (q : c_intsL g ds = some r) : ∃ ns, ds = [.list (ns.map PyData.int)] ∧ g ns = some r := by
  unfold c_intsL at q
  split at q
  · rename_i es
    cases z : unI es with
    | none => simp only [z] at q; cases q
    | some ns =>
      simp only [z] at q
      exact ⟨ns, by rw [unI_ok z], q⟩
  · cases q
theorem lv_ints {G H : Hp} {vs : List V} {ns : List Int} (s : Same G H) (l : LvAll K G H vs [.list (ns.map PyData.int)]) : ∃ p, vs = [.ref p] ∧ SqL K H p (ns.map V.int) := by
  obtain ⟨v, rfl, lv⟩ := lv1 l
  obtain ⟨p, ws, rfl, s1, k⟩ := lv.list s
  rw [dp_ints k] at s1
  exact ⟨p, rfl, s1⟩
theorem vc_max : VC K (rMax K) c_max := by
  intro m E G0 G e σ H vs ds rr Q R l q P
  obtain ⟨ns, rfl, q2⟩ := intsL_ok q
  clear q
  obtain ⟨p, rfl, s1⟩ := lv_ints R.gh l
  cases ns with
  | nil => cases q2
  | cons a r =>
    cases q2
    refine ⟨p, _, rfl, s1, Nat.succ_pos _, fun M h1 h2 => ?_⟩
    rw [maxI_uniq h1 h2]
    exact P.now R (.int _) True.intro
theorem vc_all : VC K (rAll K) c_all := by
  intro m E G0 G e σ H vs ds rr Q R l q P
  unfold c_all at q
  split at q
  · rename_i es
    cases z : unB es with
    | none => simp only [z] at q; cases q
    | some bs =>
      simp only [z, Option.some.injEq] at q
      subst q
      obtain ⟨v, rfl, lv⟩ := lv1 l
      obtain ⟨p, ws, rfl, s1, k⟩ := lv.list R.gh
      rw [unB_ok z] at k
      rw [dp_bools k] at s1
      exact ⟨p, bs, rfl, s1, P.now R (.bl _) True.intro⟩
  · cases q
end
end DL
namespace DL
open PySem PySem.Spec PyProof.Rows L2 RT RZ
def teOf (K : PySem.W.Frag) (f : Fe) : TE := fun σ H Q => ∃ m E G0 G e r e', Rl K m E G0 G e σ H ∧ f e = some (r, e') ∧ Po K m E G0 σ G H e r e' Q
def ttOf (K : PySem.W.Frag) (f : Ft) : TT := fun σ H Q => ∃ m E G0 G e b e', Rl K m E G0 G e σ H ∧ f e = some (b, e') ∧ ∀ G' H', Rl K m E G0 G' e' σ H' → Stp σ G H e G' H' e' → Q b H'
theorem ED.can {X : Cx} {x : Expr} {f : Fe} (h : ED X x f) : PE X x (teOf X.K f) := by
  obtain ⟨t, p, k⟩ := h
  refine ⟨fun pins s σ H Q I q => p.run pins s σ H Q I ?_⟩
  obtain ⟨m, E, G0, G, e, r, e', R, q, P⟩ := q
  exact k m E G0 G e σ H r e' Q R q P
theorem TD.can {X : Cx} {x : Expr} {f : Ft} (h : TD X x f) : PT X x (ttOf X.K f) := by
  obtain ⟨t, p, k⟩ := h
  refine ⟨fun pins s σ H Q I q => p.run pins s σ H Q I ?_⟩
  obtain ⟨m, E, G0, G, e, b, e', R, q, P⟩ := q
  exact k m E G0 G e σ H b e' Q R q P
section
variable {K : PySem.W.Frag} {m : Option Addr} {E : Ef} {G0 G H : Hp} {e : Ev} {σ : St} {v : V} {d : PyData}
theorem set_get {α : Type} {l : List α} {i j : Nat} {a : α} : (l.set i a)[j]? = if i = j ∧ j < l.length then some a else l[j]? := by
  rw [List.getElem?_set]
  by_cases h : i = j
  · subst h
    by_cases k : i < l.length
    · simp [k]
    · simp [k]
  · simp [h]
theorem Rl.setI (R : Rl K m E G0 G e σ H) (i : Nat) (h : Dp K G v d) : Rl K m E G0 G (e.set i (some (.im d))) (σ.set i (some v)) H := by
  have hl := R.len
  refine ⟨R.gg, R.gh, R.eh, R.mh, R.nw, by rw [List.length_set, List.length_set]; exact hl, fun j d' q => ?_, fun j ds q => ?_, fun j k dj dk p q1 q2 q3 q4 => ?_, fun j dss q => ?_⟩
  · rw [set_get] at q ⊢
    by_cases z : i = j ∧ j < e.length
    · rw [if_pos z] at q
      cases q
      rw [if_pos ⟨z.1, by omega⟩]
      exact ⟨v, rfl, h⟩
    · rw [if_neg z] at q
      rw [if_neg (by omega)]
      exact R.im j d' q
  · rw [set_get] at q ⊢
    by_cases z : i = j ∧ j < e.length
    · rw [if_pos z] at q
      cases q
    · rw [if_neg z] at q
      rw [if_neg (by omega)]
      exact R.ac j ds q
  · rw [set_get] at q1 q2 q3 q4
    by_cases z1 : i = j ∧ j < e.length
    · rw [if_pos z1] at q1
      cases q1
    · by_cases z2 : i = k ∧ k < e.length
      · rw [if_pos z2] at q2
        cases q2
      · rw [if_neg z1] at q1
        rw [if_neg z2] at q2
        rw [if_neg (by omega)] at q3
        rw [if_neg (by omega)] at q4
        exact R.inj j k dj dk p q1 q2 q3 q4
  · rw [set_get] at q ⊢
    by_cases z : i = j ∧ j < e.length
    · rw [if_pos z] at q
      cases q
      exact True.intro
    · rw [if_neg z] at q
      rw [if_neg (by omega)]
      exact R.ot j dss q
theorem Rl.setA {ds : List PyData} (R : Rl K m E G0 G e σ H) (i : Nat) (h : Vr K E G H σ e v (.ac ds)) : Rl K m E G0 G (e.set i (some (.ac ds))) (σ.set i (some v)) H := by
  have hl := R.len
  obtain ⟨p0, ws0, rfl, h1, h2, h3, h4, h5⟩ := h
  refine ⟨R.gg, R.gh, R.eh, R.mh, R.nw, by rw [List.length_set, List.length_set]; exact hl, fun j d' q => ?_, fun j ds q => ?_, fun j k dj dk p q1 q2 q3 q4 => ?_, fun j dss q => ?_⟩
  · rw [set_get] at q ⊢
    by_cases z : i = j ∧ j < e.length
    · rw [if_pos z] at q
      cases q
    · rw [if_neg z] at q
      rw [if_neg (by omega)]
      exact R.im j d' q
  · rw [set_get] at q ⊢
    by_cases z : i = j ∧ j < e.length
    · rw [if_pos z] at q
      cases q
      rw [if_pos ⟨z.1, by omega⟩]
      exact ⟨p0, ws0, rfl, h2, h3, h4, .inl h1⟩
    · rw [if_neg z] at q
      rw [if_neg (by omega)]
      exact R.ac j ds q
  · rw [set_get] at q1 q2 q3 q4
    by_cases z1 : i = j ∧ j < e.length
    · rw [if_pos ⟨z1.1, by omega⟩] at q3
      cases q3
      by_cases z2 : i = k ∧ k < e.length
      · omega
      · rw [if_neg z2] at q2
        rw [if_neg (by omega)] at q4
        exact absurd ⟨k, dk, q2, q4⟩ h5
    · by_cases z2 : i = k ∧ k < e.length
      · rw [if_pos ⟨z2.1, by omega⟩] at q4
        cases q4
        rw [if_neg z1] at q1
        rw [if_neg (by omega)] at q3
        exact absurd ⟨j, dj, q1, q3⟩ h5
      · rw [if_neg z1] at q1
        rw [if_neg z2] at q2
        rw [if_neg (by omega)] at q3
        rw [if_neg (by omega)] at q4
        exact R.inj j k dj dk p q1 q2 q3 q4
  · rw [set_get] at q ⊢
    by_cases z : i = j ∧ j < e.length
    · rw [if_pos z] at q
      cases q
      exact True.intro
    · rw [if_neg z] at q
      rw [if_neg (by omega)]
      exact R.ot j dss q
/-- slots forgotten -/
theorem Rl.forget {e' : Ev} {σ' : St} (R : Rl K m E G0 G e σ H) (hl : e'.length = e.length) (hs : σ'.length = σ.length) (h : ∀ (i : Nat) (s : Sl), e'[i]? = some (some s) → e[i]? = some (some s) ∧ σ'[i]? = σ[i]?) : Rl K m E G0 G e' σ' H := by
  refine ⟨R.gg, R.gh, R.eh, R.mh, R.nw, by rw [hl, hs]; exact R.len, fun i d q => ?_, fun i ds q => ?_, fun i j di dj p q1 q2 q3 q4 => ?_, fun i dss q => ?_⟩
  · obtain ⟨h1, h2⟩ := h i _ q
    rw [h2]
    exact R.im i d h1
  · obtain ⟨h1, h2⟩ := h i _ q
    rw [h2]
    exact R.ac i ds h1
  · obtain ⟨h1, h2⟩ := h i _ q1
    obtain ⟨h3, h4⟩ := h j _ q2
    rw [h2] at q3
    rw [h4] at q4
    exact R.inj i j di dj p h1 h3 q3 q4
  · obtain ⟨h1, h2⟩ := h i _ q
    rw [h2]
    exact R.ot i dss h1
end
structure GD (X : Cx) (tg : Expr) (S : List Nat) (γ : PyData → Ev → Option Ev) : Prop where
  ex : ∃ g, PG X tg g ∧ ∀ (m : Option Addr) (E : Ef) (G0 G : Hp) (e : Ev) (σ : St) (H : Hp) (v : V) (d : PyData) (e' : Ev) (Q : St → Hp → Prop),
    Rl X.K m E G0 G e σ H → Dp X.K G v d → γ d e = some e' → (∀ σ', Rl X.K m E G0 G e' σ' H → (∀ i : Nat, i ∉ S → σ'[i]? = σ[i]? ∧ e'[i]? = e[i]?) → σ'.length = σ.length → e'.length = e.length → (∀ i ∈ S, isAc e'[i]? = true → isAc e[i]? = true) → Q σ' H) → g v σ H Q
def tgOf (K : PySem.W.Frag) (S : List Nat) (γ : PyData → Ev → Option Ev) : TG := fun v σ H Q => ∃ m E G0 G e d e', Rl K m E G0 G e σ H ∧ Dp K G v d ∧ γ d e = some e' ∧
  ∀ σ', Rl K m E G0 G e' σ' H → (∀ i : Nat, i ∉ S → σ'[i]? = σ[i]? ∧ e'[i]? = e[i]?) → σ'.length = σ.length → e'.length = e.length → (∀ i ∈ S, isAc e'[i]? = true → isAc e[i]? = true) → Q σ' H
theorem GD.can {X : Cx} {tg : Expr} {S : List Nat} {γ : PyData → Ev → Option Ev} (h : GD X tg S γ) : PG X tg (tgOf X.K S γ) := by
  obtain ⟨g, p, k⟩ := h
  refine ⟨fun pins s σ H v u Q I r q => p.run pins s σ H v u Q I r ?_⟩
  obtain ⟨m, E, G0, G, e, d, e', R, D, q, P⟩ := q
  exact k m E G0 G e σ H v d e' Q R D q P
def g_name (i : Nat) : PyData → Ev → Option Ev := fun d e => some (e.set i (some (.im d)))
def setAll : List Nat → List PyData → Ev → Option Ev
  | [], [], e => some e
  | i :: is, d :: ds, e => setAll is ds (e.set i (some (.im d)))
  | _, _, _ => none
def g_tup (S : List Nat) : PyData → Ev → Option Ev := fun d e => match d with
  | .tuple ds => setAll S ds e
  | _ => none
theorem isAc_set {e : Ev} {i j : Nat} {d : PyData} (h : isAc (e.set i (some (.im d)))[j]? = true) : isAc e[j]? = true := by
  rw [set_get] at h
  by_cases z : i = j ∧ j < e.length
  · rw [if_pos z] at h
    cases h
  · rw [if_neg z] at h
    exact h
/-- names in order -/
structure GsD (X : Cx) (tgs : List Expr) (S : List Nat) : Prop where
  ex : ∃ g : TGs, PGs X tgs g ∧ ∀ (m : Option Addr) (E : Ef) (G0 G : Hp) (e : Ev) (σ : St) (H : Hp) (vs : List V) (ds : List PyData) (e' : Ev) (Q : St → Hp → Prop),
    Rl X.K m E G0 G e σ H → DpAll X.K G vs ds → setAll S ds e = some e' → (∀ σ', Rl X.K m E G0 G e' σ' H → (∀ i : Nat, i ∉ S → σ'[i]? = σ[i]? ∧ e'[i]? = e[i]?) → σ'.length = σ.length → e'.length = e.length → (∀ i ∈ S, isAc e'[i]? = true → isAc e[i]? = true) → Q σ' H) → g vs σ H Q
section
variable {X : Cx} {pos : Pos}
theorem gd_name {i : Nat} {x : Str} (hN : X.N.Nodup) (hi : X.N[i]? = some x) (hx : Loc X.env.scope x) (hf : X.fn x = true ∨ X.env.scope.names.lookup x = some .local := by first | exact .inl rfl | exact .inr rfl | assumption) : GD X (.Name x pos) [i] (g_name i) := by
  refine ⟨_, pg_name hN hi hx hf, fun m E G0 G e σ H v d e' Q R D q P => ?_⟩
  cases q
  refine P _ (R.setI i D) (fun j hj => ?_) (List.length_set ..) (List.length_set ..) fun j _ h => isAc_set h
  have z : i ≠ j := fun z => hj (by rw [z]; exact List.mem_singleton.mpr rfl)
  exact ⟨List.getElem?_set_ne z, List.getElem?_set_ne z⟩
theorem gsd_nil : GsD X [] [] := by
  refine ⟨_, pgs_nil, fun m E G0 G e σ H vs ds e' Q R D q P => ?_⟩
  cases D with
  | nil =>
    cases q
    exact ⟨rfl, P σ R (fun _ _ => ⟨rfl, rfl⟩) rfl rfl fun _ h => by cases h⟩
  | cons _ _ => cases q
theorem gsd_cons {i : Nat} {x : Str} {tgs : List Expr} {S : List Nat} (hN : X.N.Nodup) (hi : X.N[i]? = some x) (hx : Loc X.env.scope x) (hr : GsD X tgs S) (hf : X.fn x = true ∨ X.env.scope.names.lookup x = some .local := by first | exact .inl rfl | exact .inr rfl | assumption)
    (hs : (assignEach (.Name x pos :: tgs) X.env).map (·.2) = assign (.Name x pos) X.env :: (assignEach tgs X.env).map (·.2) := by rfl) : GsD X (.Name x pos :: tgs) (i :: S) := by
  obtain ⟨g, p, k⟩ := hr
  refine ⟨_, pgs_cons (pg_name hN hi hx hf) p hs, fun m E G0 G e σ H vs ds e' Q R D q P => ?_⟩
  cases D with
  | nil => cases q
  | cons h t =>
    refine ⟨_, _, rfl, ?_⟩
    refine k m E G0 G _ _ H _ _ e' Q (R.setI i h) t q fun σ' R' a1 a2 a3 a4 => ?_
    refine P σ' R' (fun j hj => ?_) (a2.trans (List.length_set ..)) (a3.trans (List.length_set ..)) fun j hj h2 => ?_
    · have z : i ≠ j := fun z => hj (by rw [z]; exact List.mem_cons_self)
      obtain ⟨b1, b2⟩ := a1 j fun y => hj (List.mem_cons_of_mem _ y)
      exact ⟨b1.trans (List.getElem?_set_ne z), b2.trans (List.getElem?_set_ne z)⟩
    · by_cases y : j ∈ S
      · exact isAc_set (a4 j y h2)
      · have b2 := (a1 j y).2
        rw [b2] at h2
        exact isAc_set h2
theorem gd_tup {tgs : List Expr} {n : Nat} {S : List Nat} (hc : X.calm = true) (h : GsD X tgs S) (hn : (assignEach tgs X.env).length = S.length := by rfl) (hst : (assignEach tgs X.env).findIdx? (·.1) = none := by rfl) : GD X (.Tuple tgs n pos) S (g_tup S) := by
  obtain ⟨g, p, k⟩ := h
  refine ⟨_, pg_tup (n := S.length) hc p hn hst, fun m E G0 G e σ H v d e' Q R D q P => ?_⟩
  unfold g_tup at q
  split at q
  · rename_i ds
    cases D with
    | tup hT hA =>
      have hl : ∀ {S : List Nat} {ds : List PyData} {e e' : Ev}, setAll S ds e = some e' → S.length = ds.length := by
        intro S
        induction S with
        | nil =>
          intro ds e e' h
          cases ds with
          | nil => rfl
          | cons _ _ => cases h
        | cons i S ih =>
          intro ds e e' h
          cases ds with
          | nil => cases h
          | cons d ds => exact congrArg (· + 1) (ih h)
      exact ⟨_, _, rfl, seqT R.gh hT, by rw [dpAll_len hA, hl q], k m E G0 G e σ H _ _ e' Q R hA q P⟩
  · cases q
end
def Yd (K : PySem.W.Frag) (G H : Hp) (x : V) (H2 : Hp) (d : PyData) : Prop :=
  (H2 = H ∧ Dp K G x d) ∨ ∃ T ws es, x = .ref T ∧ H T = none ∧ H2 = upd H T (.tup ws) ∧ d = .tuple es ∧ DpAll K G ws es
def WalkD (K : PySem.W.Frag) (G0 : Hp) (J : It) (ds : List PyData) : Prop :=
  ∀ G H, Same G0 G → Same G H → (∀ i d, ds[i]? = some d → J.go i H ∧ ∀ x H2, J.yld i H x H2 → Yd K G H x H2 d) ∧ J.stop ds.length H
abbrev Fi := Ev → Option (List PyData × Ev)
structure ID (X : Cx) (tg it : Expr) (f : Fi) : Prop where
  ex : ∃ wi, PI X tg it wi ∧ ∀ (m : Option Addr) (E : Ef) (G0 G : Hp) (e : Ev) (σ : St) (H : Hp) (ds : List PyData) (e' : Ev) (Q : It → Hp → Prop),
    Rl X.K m E G0 G e σ H → f e = some (ds, e') → (∀ J G' H', Rl X.K m E G0 G' e' σ H' → Stp σ G H e G' H' e' → WalkD X.K G' J ds → Q J H') → wi σ H Q
theorem pi_or {X : Cx} {tg it : Expr} {w1 w2 : TI} (h1 : PI X tg it w1) (h2 : PI X tg it w2) : PI X tg it (fun σ H R => w1 σ H R ∨ w2 σ H R) :=
  ⟨fun pins s σ H R I h => h.elim (h1.run pins s σ H R I) (h2.run pins s σ H R I)⟩
section
variable {K : PySem.W.Frag} {G0 : Hp} {a b : Addr} {xs ys : List V} {ds es : List PyData}
theorem walk_list (h : SqL K G0 a xs) (q : DpAll K G0 xs ds) : WalkD K G0 (Itl K a) ds := by
  intro G H s1 s2
  have hq : SqL K H a xs := (s1.trans s2).seq h
  refine ⟨fun i d e => ?_, xs, hq, by rw [dpAll_len q]; exact Nat.le_refl _⟩
  obtain ⟨v, e1, e2⟩ := dpAll_get q e
  refine ⟨⟨xs, v, hq, e1⟩, fun x H2 y => .inl ⟨y.1, ?_⟩⟩
  have z := y.2 xs hq
  rw [e1] at z
  cases z
  exact dp_same s1 e2
theorem walk_tup (h : SqT K G0 a xs) (q : DpAll K G0 xs ds) : WalkD K G0 (Itt K a) ds := by
  intro G H s1 s2
  have hq : SqT K H a xs := seqT (s1.trans s2) h
  refine ⟨fun i d e => ?_, xs, hq, by rw [dpAll_len q]; exact Nat.le_refl _⟩
  obtain ⟨v, e1, e2⟩ := dpAll_get q e
  refine ⟨⟨xs, v, hq, e1⟩, fun x H2 y => .inl ⟨y.1, ?_⟩⟩
  have z := y.2 xs hq
  rw [e1] at z
  cases z
  exact dp_same s1 e2
def rngD (lo : Int) (n : Nat) (c : Int) : List PyData := (List.range n).map fun (i : Nat) => PyData.int (lo + (i : Int) * c)
theorem rng_at {lo : Int} {n : Nat} {c : Int} {i : Nat} {d : PyData} (e : (rngD lo n c)[i]? = some d) : i < n ∧ d = .int (lo + (i : Int) * c) := by
  unfold rngD at e
  rw [List.getElem?_map] at e
  cases z : (List.range n)[i]? with
  | none => rw [z] at e; cases e
  | some j =>
    rw [z] at e
    obtain ⟨h1, h2⟩ := List.getElem?_eq_some_iff.mp z
    rw [List.length_range] at h1
    rw [List.getElem_range] at h2
    subst h2
    cases e
    exact ⟨h1, rfl⟩
theorem walk_rng {lo : Int} {n : Nat} : WalkD K G0 (Itr lo n) (rngD lo n 1) := by
  intro G H s1 s2
  refine ⟨fun i d e => ?_, by unfold rngD; rw [List.length_map, List.length_range]; exact Nat.le_refl n⟩
  obtain ⟨h1, rfl⟩ := rng_at e
  refine ⟨h1, fun x H2 y => .inl ⟨y.1, ?_⟩⟩
  rw [y.2, Int.mul_one]
  exact .int _
def zipD (ds es : List PyData) : List PyData := List.zipWith (fun a b => PyData.tuple [a, b]) ds es
theorem zip_at {i : Nat} {d : PyData} (e : (zipD ds es)[i]? = some d) : ∃ x y, ds[i]? = some x ∧ es[i]? = some y ∧ d = .tuple [x, y] := by
  unfold zipD at e
  rw [List.getElem?_zipWith] at e
  cases h1 : ds[i]? with
  | none => rw [h1] at e; cases e
  | some x =>
    cases h2 : es[i]? with
    | none => rw [h1, h2] at e; cases e
    | some y =>
      rw [h1, h2] at e
      cases e
      exact ⟨x, y, rfl, rfl, rfl⟩
theorem walk_zip (h : SqL K G0 a xs) (q : DpAll K G0 xs ds) (h' : SqL K G0 b ys) (q' : DpAll K G0 ys es) : WalkD K G0 (Itz K a b) (zipD ds es) := by
  intro G H s1 s2
  have hq : SqL K H a xs := (s1.trans s2).seq h
  have hq' : SqL K H b ys := (s1.trans s2).seq h'
  refine ⟨fun i d e => ?_, xs, ys, hq, hq', ?_⟩
  · obtain ⟨x, y, e1, e2, rfl⟩ := zip_at e
    obtain ⟨v, f1, f2⟩ := dpAll_get q e1
    obtain ⟨v', f1', f2'⟩ := dpAll_get q' e2
    refine ⟨⟨xs, ys, v, v', hq, hq', f1, f1'⟩, fun w H2 y => .inr ?_⟩
    obtain ⟨T, x1, x2, rfl, nT, rfl, z1, z2⟩ := y
    have g1 := z1 xs hq
    have g2 := z2 ys hq'
    rw [f1] at g1
    rw [f1'] at g2
    cases g1
    cases g2
    exact ⟨T, [v, v'], _, rfl, nT, rfl, rfl, .cons (dp_same s1 f2) (.cons (dp_same s1 f2') .nil)⟩
  · unfold zipD
    rw [List.length_zipWith, ← dpAll_len q, ← dpAll_len q']
    omega
theorem walk_zipT (h : SqT K G0 a xs) (q : DpAll K G0 xs ds) (h' : SqT K G0 b ys) (q' : DpAll K G0 ys es) : WalkD K G0 (ItzT K a b) (zipD ds es) := by
  intro G H s1 s2
  have hq : SqT K H a xs := seqT (s1.trans s2) h
  have hq' : SqT K H b ys := seqT (s1.trans s2) h'
  refine ⟨fun i d e => ?_, xs, ys, hq, hq', ?_⟩
  · obtain ⟨x, y, e1, e2, rfl⟩ := zip_at e
    obtain ⟨v, f1, f2⟩ := dpAll_get q e1
    obtain ⟨v', f1', f2'⟩ := dpAll_get q' e2
    refine ⟨⟨xs, ys, v, v', hq, hq', f1, f1'⟩, fun w H2 y => .inr ?_⟩
    obtain ⟨T, x1, x2, rfl, nT, rfl, z1, z2⟩ := y
    have g1 := z1 xs hq
    have g2 := z2 ys hq'
    rw [f1] at g1
    rw [f1'] at g2
    cases g1
    cases g2
    exact ⟨T, [v, v'], _, rfl, nT, rfl, rfl, .cons (dp_same s1 f2) (.cons (dp_same s1 f2') .nil)⟩
  · unfold zipD
    rw [List.length_zipWith, ← dpAll_len q, ← dpAll_len q']
    omega
end
/-- a list or a tuple that stays -/
def i_seq (f : Fe) : Fi := fun e => match f e with
  | some (r, e1) => (match frzR r with
    | .im (.list ds) => some (ds, e1)
    | .im (.tuple ds) => some (ds, e1)
    | _ => none)
  | none => none
theorem i_seq_ok {f : Fe} {e e' : Ev} {ds : List PyData} (q : i_seq f e = some (ds, e')) : ∃ r, f e = some (r, e') ∧ (frzR r = .im (.list ds) ∨ frzR r = .im (.tuple ds)) := by
  unfold i_seq at q
  split at q
  · rename_i r e1 h
    split at q
    · rename_i es h2
      cases q
      exact ⟨r, h, .inl h2⟩
    · rename_i es h2
      cases q
      exact ⟨r, h, .inr h2⟩
    · cases q
  · cases q
section
variable {X : Cx} {tg a b c : Expr} {fa fb fc : Fe} {pos p : Pos}
theorem id_seq (ha : ED X a fa) : ID X tg a (i_seq fa) := by
  obtain ⟨t, pa, k⟩ := ha
  refine ⟨_, pi_or (pi_list pa) (pi_tup pa), fun m E G0 G e σ H ds e' Q R q P => ?_⟩
  obtain ⟨r, q1, q2⟩ := i_seq_ok q
  rcases q2 with q2 | q2
  · refine .inl (k m E G0 G e σ H r e' _ R q1 fun v G1 H1 R1 S1 V1 N1 => ?_)
    obtain ⟨G1', R1', S1', s1, V1'⟩ := R1.freeze S1 V1 N1
    rw [q2] at V1'
    have V2 : Dp X.K G1' v (.list ds) := V1'
    cases V2 with
    | lst h z => exact ⟨_, rfl, ⟨_, R1'.gh.seq h⟩, P _ _ _ R1' S1' (walk_list h z)⟩
  · refine .inr (k m E G0 G e σ H r e' _ R q1 fun v G1 H1 R1 S1 V1 N1 => ?_)
    obtain ⟨G1', R1', S1', s1, V1'⟩ := R1.freeze S1 V1 N1
    rw [q2] at V1'
    have V2 : Dp X.K G1' v (.tuple ds) := V1'
    cases V2 with
    | tup h z => exact ⟨_, rfl, ⟨_, seqT R1'.gh h⟩, P _ _ _ R1' S1' (walk_tup h z)⟩
/-- range -/
def rgC (i : Int) : Bool := decide (-4611686018427387904 ≤ i ∧ i < 4611686018427387904)
theorem rgC_ok {i : Int} (h : rgC i = true) : -(2 ^ 62) ≤ i ∧ i < 2 ^ 62 := by
  have h := of_decide_eq_true h
  have e : (2 : Int) ^ 62 = 4611686018427387904 := by decide
  rw [e]
  exact h
def i_rng1 (fa : Fe) : Fi := fun e => match fa e with
  | some (.im (.int j), e1) => if rgC j = true then some (rngD 0 j.toNat 1, e1) else none
  | _ => none
def i_rng2 (fa fb : Fe) : Fi := fun e => match fa e with
  | some (.im (.int i), e1) => (match fb e1 with
    | some (.im (.int j), e2) => if (rgC i && rgC j) = true then some (rngD i (j - i).toNat 1, e2) else none
    | _ => none)
  | _ => none
theorem rng1_read {t : TE} (k : ∀ (m : Option Addr) (E : Ef) (G0 G : Hp) (e : Ev) (σ : St) (H : Hp) (r : Rs) (e' : Ev) (Q : VK), Rl X.K m E G0 G e σ H → fa e = some (r, e') → Po X.K m E G0 σ G H e r e' Q → t σ H Q)
    (m : Option Addr) (E : Ef) (G0 G : Hp) (e : Ev) (σ : St) (H : Hp) (ds : List PyData) (e' : Ev) (Q : It → Hp → Prop) (R : Rl X.K m E G0 G e σ H) (q : i_rng1 fa e = some (ds, e')) (P : ∀ J G' H', Rl X.K m E G0 G' e' σ H' → Stp σ G H e G' H' e' → WalkD X.K G' J ds → Q J H') : iRng1 (tCons t tNil) σ H Q := by
  unfold i_rng1 at q
  split at q
  · rename_i j e1 h1
    by_cases z : rgC j = true
    · rw [if_pos z] at q
      simp only [Option.some.injEq, Prod.mk.injEq] at q
      obtain ⟨rfl, rfl⟩ := q
      refine k m E G0 G e σ H _ e1 _ R h1 fun v G1 H1 R1 S1 V1 _ => ?_
      cases V1
      obtain ⟨z1, z2⟩ := rgC_ok z
      exact ⟨j, rfl, z1, z2, P _ _ _ R1 S1 walk_rng⟩
    · rw [if_neg z] at q
      cases q
  · cases q
theorem id_rng1 (ha : ED X a fa) (hm : X.mg "range" = none) (hg : Gl X "range" := by rfl) (hs : starEach [a] X.env = [(false, eval a X.env)] := by rfl) : ID X tg (.Call (.Name "range" p) [a] [] pos) (i_rng1 fa) := by
  obtain ⟨t, pa, k⟩ := ha
  exact ⟨_, pi_range1 hg hm (pa_cons pa pa_nil hs) hs, rng1_read k⟩
theorem id_rng2 (ha : ED X a fa) (hb : ED X b fb) (hm : X.mg "range" = none) (hg : Gl X "range" := by rfl) (hs : starEach [a, b] X.env = [(false, eval a X.env), (false, eval b X.env)] := by rfl) (hs2 : starEach [b] X.env = [(false, eval b X.env)] := by rfl) : ID X tg (.Call (.Name "range" p) [a, b] [] pos) (i_rng2 fa fb) := by
  obtain ⟨t, pa, k⟩ := ha
  obtain ⟨t2, pb, k2⟩ := hb
  refine ⟨_, pi_range2 hg hm (pa_cons pa (pa_cons pb pa_nil hs2) (by rw [hs, hs2])) hs hs2, fun m E G0 G e σ H ds e' Q R q P => ?_⟩
  unfold i_rng2 at q
  split at q
  · rename_i i e1 h1
    split at q
    · rename_i j e2 h2
      by_cases z : (rgC i && rgC j) = true
      · rw [if_pos z] at q
        simp only [Option.some.injEq, Prod.mk.injEq] at q
        obtain ⟨rfl, rfl⟩ := q
        refine k m E G0 G e σ H _ e1 _ R h1 fun v G1 H1 R1 S1 V1 _ => ?_
        refine k2 m E G0 G1 e1 σ H1 _ e2 _ R1 h2 fun v2 G2 H2 R2 S2 V2 _ => ?_
        cases V1
        cases V2
        obtain ⟨z1, z2⟩ := Bool.and_eq_true_iff.mp z
        have z1 := rgC_ok z1
        have z2 := rgC_ok z2
        exact ⟨i, j, rfl, ⟨z1.1, z1.2, z2.1, z2.2⟩, P _ _ _ R2 (S1.trans S2) walk_rng⟩
      · rw [if_neg z] at q
        cases q
    · cases q
  · cases q
/-- zip of two lists, of two tuples -/
def i_zip (fa fb : Fe) : Fi := fun e => match two fa fb e with
  | some (.im (.list xs), .im (.list ys), e1) => some (zipD xs ys, e1)
  | some (.im (.tuple xs), .im (.tuple ys), e1) => some (zipD xs ys, e1)
  | _ => none
theorem id_zip {es : List Expr} {kk : Nat} {tpos : Pos} (ha : ED X a fa) (hb : ED X b fb) (hm : X.mg "zip" = none) (hg : Gl X "zip" := by rfl) (hs : starEach [a, b] X.env = (false, eval a X.env) :: starEach [b] X.env := by rfl) (hs2 : starEach [b] X.env = (false, eval b X.env) :: starEach [] X.env := by rfl)
    (hpl : (backTo pos (starEach [b] X.env)).any (·.1) = false := by rfl) : ID X (.Tuple es kk tpos) (.Call (.Name "zip" p) [a, b] [] pos) (i_zip fa fb) := by
  obtain ⟨ta, tb, pa, pb, k2⟩ := two_ok ha hb
  refine ⟨_, pi_zipA hg hm (pa_cons pa (pa_cons pb pa_nil hs2) hs) hs hpl, fun m E G0 G e σ H ds e' Q R q P => ?_⟩
  unfold i_zip at q
  split at q
  · rename_i xs ys e1 h1
    simp only [Option.some.injEq, Prod.mk.injEq] at q
    obtain ⟨rfl, rfl⟩ := q
    refine k2 m E G0 G e σ H _ _ e1 _ R h1 fun u v G' H' R' S' V1 V2 => ?_
    have V1 : Dp X.K G' u (.list xs) := V1
    have V2 : Dp X.K G' v (.list ys) := V2
    cases V1 with
    | lst h1 d1 =>
      cases V2 with
      | lst h2 d2 => exact ⟨_, _, _, _, rfl, .inl ⟨R'.gh.seq h1, R'.gh.seq h2, P _ _ _ R' S' (walk_zip h1 d1 h2 d2)⟩⟩
  · rename_i xs ys e1 h1
    simp only [Option.some.injEq, Prod.mk.injEq] at q
    obtain ⟨rfl, rfl⟩ := q
    refine k2 m E G0 G e σ H _ _ e1 _ R h1 fun u v G' H' R' S' V1 V2 => ?_
    have V1 : Dp X.K G' u (.tuple xs) := V1
    have V2 : Dp X.K G' v (.tuple ys) := V2
    cases V1 with
    | tup h1 d1 =>
      cases V2 with
      | tup h2 d2 => exact ⟨_, _, _, _, rfl, .inr ⟨seqT R'.gh h1, seqT R'.gh h2, P _ _ _ R' S' (walk_zipT h1 d1 h2 d2)⟩⟩
  · cases q
end
end DL
namespace DL
open PySem PySem.Spec PyProof.Rows L2
def wipeE (e : Ev) : List Nat → Ev
  | [] => e
  | v :: vs => (wipeE e vs).set v none
def restE (e e' : Ev) : List Nat → Ev
  | [] => e'
  | v :: vs => (restE e e' vs).set v (match e[v]? with
    | some s => s
    | none => none)
def noAc (e : Ev) (vs : List Nat) : Bool := vs.all fun i => !isAc e[i]?
def lcGo (γ : PyData → Ev → Option Ev) (tst : Ft) (fe : Fe) (vs : List Nat) : List PyData → Ev → List PyData → Option (List PyData × Ev)
  | [], e, acc => some (acc, e)
  | d :: ds, e, acc => match γ d e with
    | some e1 => (match tst e1 with
      | some (true, e2) => (match fe e2 with
        | some (r, e3) => (match imR (frzR r) with
          | some y => if okLen (acc.length + 1) = true then lcGo γ tst fe vs ds (wipeE e3 vs) (acc ++ [y]) else none
          | none => none)
        | none => none)
      | some (false, e2) => lcGo γ tst fe vs ds (wipeE e2 vs) acc
      | none => none)
    | none => none
def x_lc (fi : Fi) (γ : PyData → Ev → Option Ev) (tst : Ft) (fe : Fe) (vs : List Nat) : Fe := fun e => match fi e with
  | some (ds, e1) => if noAc e1 vs = true then (match lcGo γ tst fe vs ds (wipeE e1 vs) [] with
    | some (acc, e2) => some (.ac acc, restE e1 e2 vs)
    | none => none) else none
  | none => none
section
variable {e e' : Ev} {vs : List Nat} {σ σ' : St} {i : Nat}
theorem wipeE_len : ∀ vs : List Nat, (wipeE e vs).length = e.length
  | [] => rfl
  | v :: vs => (List.length_set ..).trans (wipeE_len vs)
theorem wipeE_out : ∀ {vs : List Nat}, i ∉ vs → (wipeE e vs)[i]? = e[i]?
  | [], _ => rfl
  | v :: vs, h => by
    have h1 : v ≠ i := fun z => h (by rw [z]; exact List.mem_cons_self)
    unfold wipeE
    rw [List.getElem?_set_ne h1]
    exact wipeE_out fun z => h (List.mem_cons_of_mem _ z)
theorem wipeE_in : ∀ {vs : List Nat} {s : Sl}, (wipeE e vs)[i]? = some (some s) → i ∉ vs
  | [], _, _ => by simp
  | v :: vs, s, h => by
    unfold wipeE at h
    rw [set_get] at h
    by_cases z : v = i ∧ i < (wipeE e vs).length
    · rw [if_pos z] at h
      cases h
    · rw [if_neg z] at h
      have hl := (List.getElem?_eq_some_iff.mp h).1
      intro q
      rcases List.mem_cons.mp q with q | q
      · exact z ⟨q.symm, hl⟩
      · exact wipeE_in h q
theorem wipe_in : ∀ {vs : List Nat}, i ∈ vs → (wipe σ vs)[i]? = if i < σ.length then some none else none
  | [], h => by cases h
  | v :: vs, h => by
    unfold wipe
    rw [set_get, wipe_length]
    by_cases z : v = i ∧ i < σ.length
    · rw [if_pos z, if_pos z.2]
    · rw [if_neg z]
      by_cases y : i ∈ vs
      · exact wipe_in y
      · have e1 : i = v := by
          rcases List.mem_cons.mp h with q | q
          · exact q
          · exact absurd q y
        have hl : ¬ i < σ.length := fun q => z ⟨e1.symm, q⟩
        rw [if_neg hl, wipe_out y]
        exact List.getElem?_eq_none (by omega)
theorem wipe_same (h : ∀ i : Nat, i ∉ vs → σ'[i]? = σ[i]?) (hl : σ'.length = σ.length) : wipe σ' vs = wipe σ vs := by
  apply List.ext_getElem?
  intro i
  by_cases z : i ∈ vs
  · rw [wipe_in z, wipe_in z, hl]
  · rw [wipe_out z, wipe_out z]
    exact h i z
theorem wipe_wipe : wipe (wipe σ vs) vs = wipe σ vs := wipe_same (fun i z => wipe_out z) (wipe_length _ _)
theorem restE_len : ∀ vs : List Nat, (restE e e' vs).length = e'.length
  | [] => rfl
  | v :: vs => (List.length_set ..).trans (restE_len vs)
theorem restE_out : ∀ {vs : List Nat}, i ∉ vs → (restE e e' vs)[i]? = e'[i]?
  | [], _ => rfl
  | v :: vs, h => by
    have h1 : v ≠ i := fun z => h (by rw [z]; exact List.mem_cons_self)
    unfold restE
    rw [List.getElem?_set_ne h1]
    exact restE_out fun z => h (List.mem_cons_of_mem _ z)
theorem restE_in (hl : e'.length = e.length) : ∀ {vs : List Nat}, i ∈ vs → (restE e e' vs)[i]? = e[i]?
  | [], h => by cases h
  | v :: vs, h => by
    unfold restE
    rw [set_get, restE_len]
    by_cases z : v = i ∧ i < e'.length
    · rw [if_pos z]
      have h2 : i < e.length := by omega
      rw [z.1, List.getElem?_eq_getElem h2]
    · rw [if_neg z]
      by_cases y : i ∈ vs
      · exact restE_in hl y
      · have e1 : i = v := by
          rcases List.mem_cons.mp h with q | q
          · exact q
          · exact absurd q y
        have h2 : ¬ i < e'.length := fun q => z ⟨e1.symm, q⟩
        rw [restE_out y, List.getElem?_eq_none (by omega), List.getElem?_eq_none (by omega)]
theorem noAc_at (h : noAc e vs = true) (hi : i ∈ vs) : isAc e[i]? = false := by
  have q := List.all_eq_true.mp h i hi
  simpa using q
end
section
variable {K : PySem.W.Frag} {m : Option Addr} {E : Ef} {G0 G H : Hp} {e : Ev} {σ : St} {vs : List Nat} {D : Addr} {ws : List V}
theorem Rl.wipe (R : Rl K m E G0 G e σ H) (vs : List Nat) : Rl K m E G0 G (wipeE e vs) (L2.wipe σ vs) H :=
  R.forget (wipeE_len _) (wipe_length _ _) fun i s h => by
    have z := wipeE_in h
    rw [wipeE_out z] at h
    exact ⟨h, wipe_out z⟩
theorem own_wipe (h : noAc e vs = true) {a : Addr} : Own (L2.wipe σ vs) (wipeE e vs) a ↔ Own σ e a := by
  constructor
  · rintro ⟨i, ds, h1, h2⟩
    have z := wipeE_in h1
    rw [wipeE_out z] at h1
    rw [wipe_out z] at h2
    exact ⟨i, ds, h1, h2⟩
  · rintro ⟨i, ds, h1, h2⟩
    have z : i ∉ vs := fun z => by
      have q := noAc_at h z
      rw [h1] at q
      cases q
    exact ⟨i, ds, by rw [wipeE_out z]; exact h1, by rw [wipe_out z]; exact h2⟩
/-- a list that is nobody's is written -/
theorem Rl.updD (R : Rl K m E G0 G e σ H) (hG : G D = none) (hE : E D = none) (hO : ¬ Own σ e D) : Rl K m E G0 G e σ (upd H D (.lst ws)) := by
  refine ⟨R.gg, fun b o q => ?_, fun b o q1 q2 => ?_, fun b q => ⟨(R.mh b q).1, ?_⟩, R.nw, R.len, R.im, fun i ds q => ?_, R.inj, R.ot⟩
  · rw [upd_ne (ne_of_none q hG)]
    exact R.gh b o q
  · rw [upd_ne (ne_of_none q1 hE)]
    exact R.eh b o q1 q2
  · have z : b ≠ D := fun z => (R.mh b q).1 (by rw [z]; exact hE)
    rw [upd_ne z]
    exact (R.mh b q).2
  · obtain ⟨p, ws', h1, h2, h3, h4, h5⟩ := R.ac i ds q
    have z : p ≠ D := fun z => hO ⟨i, ds, q, by rw [← z]; exact h1⟩
    exact ⟨p, ws', h1, h2, by rw [upd_ne z]; exact h3, h4, h5⟩
end
section
variable {X : Cx}
/-- the loop -/
theorem lc_ok {m : Option Addr} {E : Ef} {G0 G1 H1 : Hp} {e1 : Ev} {σ : St} {ds : List PyData} {J : It} {S vs : List Nat} {γ : PyData → Ev → Option Ev} {tst : Ft} {fe : Fe} {acc : List PyData} {eF : Ev} {K : PySem.W.Frag} {Q : VK} {D : Addr}
    (R1 : Rl K m E G0 G1 e1 σ H1) (WD : WalkD K G1 J ds) (hS : ∀ i ∈ S, i ∈ vs) (hn : noAc e1 vs = true) (q : lcGo γ tst fe vs ds (wipeE e1 vs) [] = some (acc, eF)) (hD : H1 D = none)
    (P : ∀ G H, Rl K m E G0 G (restE e1 eF vs) σ H → Stp σ G1 H1 e1 G H (restE e1 eF vs) → Vr K E G H σ (restE e1 eF vs) (.ref D) (.ac acc) → Q (.ref D) H) :
    ∃ W : Nat → Nat → Hp → Prop, (∃ mm, W 0 mm (upd H1 D (.lst []))) ∧ ∀ i mm H, W i mm H →
      (J.stop i H ∧ Q (.ref D) H) ∨ (J.go i H ∧ ∃ Nx : Hp → Prop, (∀ H', Nx H' → ∃ m', m' < mm ∧ W (i + 1) m' H') ∧ ∀ x H', J.yld i H x H' → tgOf K S γ x (L2.wipe σ vs) H' fun σ2 H2 => L2.wipe σ2 vs = L2.wipe σ vs ∧ ttOf K tst σ2 H2 fun b H3 =>
        if b = true then teOf K fe σ2 H3 fun y H4 => ∃ acc, H4 D = some (.lst acc) ∧ acc.length < sizeLine ∧ Nx (upd H4 D (.lst (acc ++ [y]))) else Nx H3) := by
  obtain ⟨gD, eD, oD, mD⟩ := R1.fresh hD
  let W : Nat → Nat → Hp → Prop := fun i mm H => ∃ G e ac ws, mm = ds.length - i ∧ i ≤ ds.length ∧ Rl K m E G0 G e (L2.wipe σ vs) H ∧ Stp (L2.wipe σ vs) G1 H1 (wipeE e1 vs) G H e ∧ G D = none ∧ H D = some (.lst ws) ∧ DpAll K G ws ac ∧ lcGo γ tst fe vs (ds.drop i) e ac = some (acc, eF)
  refine ⟨W, ⟨ds.length, G1, wipeE e1 vs, [], [], by simp, Nat.zero_le _, ?_, ?_, gD, upd_same, .nil, by simpa using q⟩, ?_⟩
  · exact ((R1.wipe vs).newL hD .nil).1
  · exact ((R1.wipe vs).newL hD (ds := []) .nil).2.1
  rintro i mm H ⟨G, e, ac, ws, rfl, hi, R, S1, hG, hH, dv, lc⟩
  -- what is nobody's
  have noD : ¬ Own (L2.wipe σ vs) e D := fun z => oD ((own_wipe hn).mp ((own_kd S1.kd).mp z))
  obtain ⟨wk, stop⟩ := WD G H S1.gg R.gh
  by_cases hlt : i < ds.length
  · have hd : ds.drop i = ds[i] :: ds.drop (i + 1) := by rw [List.drop_eq_getElem_cons hlt]
    have hget : ds[i]? = some ds[i] := List.getElem?_eq_getElem hlt
    rw [hd] at lc
    generalize ds[i] = d at lc hget hd
    obtain ⟨go, yl⟩ := wk i d hget
    refine .inr ⟨go, W (i + 1) (ds.length - (i + 1)), fun H' h => ⟨_, by omega, h⟩, fun x H' y => ?_⟩
    -- what is yielded
    have hY : ∃ G', Rl K m E G0 G' e (L2.wipe σ vs) H' ∧ Stp (L2.wipe σ vs) G H e G' H' e ∧ Dp K G' x d := by
      rcases yl x H' y with ⟨rfl, h⟩ | ⟨T, us, es, rfl, nT, rfl, rfl, h⟩
      · exact ⟨G, R, Stp.refl, h⟩
      · obtain ⟨R', S', D'⟩ := R.newT nT h
        exact ⟨_, R', S', D'⟩
    obtain ⟨G', R', S', dx⟩ := hY
    have gD' : G' D = none := S'.nw D hG (by rw [hH]; simp)
    have hD' : H' D = some (.lst ws) := S'.hh D _ hH noD
    -- the turn's own steps
    simp only [lcGo] at lc
    cases h1 : γ d e with
    | none => simp only [h1] at lc; cases lc
    | some e2 =>
      simp only [h1] at lc
      refine ⟨m, E, G0, G', e, d, e2, R', dx, h1, fun σ' R2 out sl el ac1 => ?_⟩
      have wsame : L2.wipe σ' vs = L2.wipe σ vs := by
        have z := wipe_same (vs := vs) (σ' := σ') (σ := L2.wipe σ vs) (fun i hi => (out i fun z => hi (hS i z)).1) sl
        rw [wipe_wipe] at z
        exact z
      refine ⟨wsame, ?_⟩
      have vsE : ∀ i ∈ vs, isAc e[i]? = false := fun i hi => by
        rw [S1.kd i]
        cases z : (wipeE e1 vs)[i]? with
        | none => rfl
        | some s =>
          cases s with
          | none => rfl
          | some s => exact absurd hi (wipeE_in z)
      have own2 : ∀ a, Own σ' e2 a → Own (L2.wipe σ vs) e a := fun a ⟨j, dj, z1, z2⟩ => by
        by_cases hj : j ∈ S
        · have q1 := ac1 j hj (by rw [z1]; rfl)
          rw [vsE j (hS j hj)] at q1
          cases q1
        · obtain ⟨o1, o2⟩ := out j hj
          exact ⟨j, dj, by rw [← o2]; exact z1, by rw [← o1]; exact z2⟩
      -- closing a turn: from the state behind the element
      have fin : ∀ {G5 H4 : Hp} {e3 : Ev} {ws2 : List V} {ac2 : List PyData}, Rl K m E G0 G5 e3 σ' H4 → Stp σ' G' H' e2 G5 H4 e3 → DpAll K G5 ws2 ac2 → lcGo γ tst fe vs (ds.drop (i + 1)) (wipeE e3 vs) ac2 = some (acc, eF) →
          W (i + 1) (ds.length - (i + 1)) (upd H4 D (.lst ws2)) := by
        intro G5 H4 e3 ws2 ac2 R5 S5 d5 lc5
        have g5 : G5 D = none := S5.nw D gD' (by rw [hD']; simp)
        have o5 : ¬ Own σ' e3 D := fun z => noD (own2 D ((own_kd S5.kd).mp z))
        have R6 := (R5.updD (ws := ws2) g5 eD o5).wipe vs
        rw [wsame] at R6
        refine ⟨G5, wipeE e3 vs, ac2, ws2, rfl, hlt, R6, ⟨S1.gg.trans (S'.gg.trans S5.gg), fun a h1 h2 => ?_, fun a o h1 h2 => ?_, fun j => ?_, fun a h1 => ?_⟩, g5, upd_same, d5, lc5⟩
        · exact S5.nw a (S'.nw a (S1.nw a h1 h2) (S1.th a h2)) (S'.th a (S1.th a h2))
        · have z : a ≠ D := ne_of_none h1 hD
          rw [upd_ne z]
          have n1 : ¬ Own (L2.wipe σ vs) e a := fun y => h2 ((own_kd S1.kd).mp y)
          exact S5.hh a o (S'.hh a o (S1.hh a o h1 h2) n1) fun y => n1 (own2 a y)
        · by_cases hj : j ∈ vs
          · have b1 : ∀ {e : Ev}, isAc (wipeE e vs)[j]? = false := fun {e} => by
              cases z : (wipeE e vs)[j]? with
              | none => rfl
              | some s =>
                cases s with
                | none => rfl
                | some s => exact absurd hj (wipeE_in z)
            rw [b1, b1]
          · rw [wipeE_out hj, S5.kd j, (out j fun z => hj (hS j z)).2]
            exact S1.kd j
        · by_cases z : a = D
          · rw [z, upd_same]
            simp
          · rw [upd_ne z]
            exact S5.th a (S'.th a (S1.th a h1))
      cases h2 : tst e2 with
      | none => simp only [h2] at lc; cases lc
      | some z =>
        obtain ⟨b, e3⟩ := z
        cases b with
        | false =>
          simp only [h2] at lc
          refine ⟨m, E, G0, G', e2, false, e3, R2, h2, fun G3 H3 R3 S3 => ?_⟩
          show (if false = true then _ else _)
          rw [if_neg Bool.false_ne_true]
          have w3 : H3 D = some (.lst ws) := S3.hh D _ hD' fun z => noD (own2 D z)
          have eu : upd H3 D (.lst ws) = H3 := by
            funext b
            by_cases z : b = D
            · rw [z, upd_same, w3]
            · rw [upd_ne z]
          have z := fin R3 S3 (dpAll_same (S'.gg.trans S3.gg) dv) lc
          rw [eu] at z
          exact z
        | true =>
          simp only [h2] at lc
          refine ⟨m, E, G0, G', e2, true, e3, R2, h2, fun G3 H3 R3 S3 => ?_⟩
          show (if true = true then _ else _)
          rw [if_pos rfl]
          cases h3 : fe e3 with
          | none => simp only [h3] at lc; cases lc
          | some z =>
            obtain ⟨r, e4⟩ := z
            simp only [h3] at lc
            refine ⟨m, E, G0, G3, e3, r, e4, R3, h3, fun v G4 H4 R4 S4 V4 N4 => ?_⟩
            obtain ⟨G5, R5, S5, s5, V5⟩ := R4.freeze (S3.trans S4) V4 (nw_back S3 v N4)
            cases h4 : imR (frzR r) with
            | none => simp only [h4] at lc; cases lc
            | some yd =>
              simp only [h4] at lc
              have er : frzR r = .im yd := by
                cases r with
                | im d =>
                  cases h4
                  rfl
                | ac ds =>
                  cases h4
                  rfl
                | br i => cases h4
              rw [er] at V5
              by_cases h5 : okLen (ac.length + 1) = true
              · rw [if_pos h5] at lc
                have w4 : H4 D = some (.lst ws) := S5.hh D _ hD' fun z => noD (own2 D z)
                have hl := okLen_ok h5
                refine ⟨ws, w4, by rw [dpAll_len dv]; omega, ?_⟩
                exact fin R5 S5 (dpAll_app (dpAll_same (S'.gg.trans S5.gg) dv) (.cons V5 .nil)) lc
              · rw [if_neg h5] at lc
                cases lc
  · have hi2 : i = ds.length := by omega
    subst hi2
    rw [List.drop_length] at lc
    simp only [lcGo, Option.some.injEq, Prod.mk.injEq] at lc
    obtain ⟨rfl, rfl⟩ := lc
    have hl : e.length = e1.length := by
      have z1 := R.len
      have z2 := R1.len
      rw [wipe_length] at z1
      omega
    have vsE : ∀ i ∈ vs, isAc e[i]? = false := fun i hi => by
      rw [S1.kd i]
      cases z : (wipeE e1 vs)[i]? with
      | none => rfl
      | some s =>
        cases s with
        | none => rfl
        | some s => exact absurd hi (wipeE_in z)
    have kd : ∀ j : Nat, isAc (restE e1 e vs)[j]? = isAc e1[j]? := fun j => by
      by_cases hj : j ∈ vs
      · rw [restE_in hl hj]
      · rw [restE_out hj, S1.kd j, wipeE_out hj]
    have get : ∀ {j : Nat} {s : Sl}, (restE e1 e vs)[j]? = some (some s) → (j ∈ vs ∧ e1[j]? = some (some s)) ∨ (j ∉ vs ∧ e[j]? = some (some s)) := fun {j s} z => by
      by_cases hj : j ∈ vs
      · rw [restE_in hl hj] at z
        exact .inl ⟨hj, z⟩
      · rw [restE_out hj] at z
        exact .inr ⟨hj, z⟩
    have ac1 : ∀ {j : Nat} {dj : List PyData}, (restE e1 e vs)[j]? = some (some (.ac dj)) → j ∉ vs ∧ e[j]? = some (some (.ac dj)) := fun {j dj} z => by
      rcases get z with ⟨h1, h2⟩ | z
      · have q1 := noAc_at hn h1
        rw [h2] at q1
        cases q1
      · exact z
    have RF : Rl K m E G0 G (restE e1 e vs) σ H := by
      refine ⟨R.gg, R.gh, R.eh, R.mh, R.nw, by rw [restE_len, hl]; exact R1.len, fun j d z => ?_, fun j dj z => ?_, fun j k dj dk p z1 z2 z3 z4 => ?_, fun j dss z => ?_⟩
      · rcases get z with ⟨h1, h2⟩ | ⟨h1, h2⟩
        · obtain ⟨v, a1, a2⟩ := R1.im j d h2
          exact ⟨v, a1, dp_same S1.gg a2⟩
        · obtain ⟨v, a1, a2⟩ := R.im j d h2
          rw [wipe_out h1] at a1
          exact ⟨v, a1, a2⟩
      · obtain ⟨h1, h2⟩ := ac1 z
        obtain ⟨p, w, a1, a2⟩ := R.ac j dj h2
        rw [wipe_out h1] at a1
        exact ⟨p, w, a1, a2⟩
      · obtain ⟨h1, h2⟩ := ac1 z1
        obtain ⟨h3, h4⟩ := ac1 z2
        exact R.inj j k dj dk p h2 h4 (by rw [wipe_out h1]; exact z3) (by rw [wipe_out h3]; exact z4)
      · rcases get z with ⟨h1, h2⟩ | ⟨h1, h2⟩
        · exact (R1.ot j dss h2).mono S1.gg
        · have a1 := R.ot j dss h2
          rw [wipe_out h1] at a1
          exact a1
    refine .inl ⟨stop, P G H RF ⟨S1.gg, S1.nw, fun a o h1 h2 => S1.hh a o h1 fun z => h2 ((own_wipe hn).mp z), kd, S1.th⟩ ⟨D, ws, rfl, eD, hG, hH, dv, fun z => oD ((own_kd kd).mp z)⟩⟩
structure PTD (X : Cx) (ifs : List Expr) (f : Ft) : Prop where
  ex : PTs X ifs (ttOf X.K f)
def t_yes : Ft := fun e => some (true, e)
theorem ptd_nil : PTD X [] t_yes := ⟨⟨fun pins s σ H Q I h => by
  obtain ⟨m, E, G0, G, e, b, e', R, q, P⟩ := h
  cases q
  exact pts_nil.run pins s σ H Q I (P G H R Stp.refl)⟩⟩
theorem ptd_one {c : Expr} {f : Ft} (h : TD X c f) : PTD X [c] f := ⟨pts_one h.can⟩
variable {elt tg it : Expr} {ifs : List Expr} {scope : Scope} {own : List (Str × Nat)} {pos spos : Pos} {fi : Fi} {S : List Nat} {γ : PyData → Ev → Option Ev} {tst : Ft} {fe : Fe}
theorem x_lc_ok {wi : TI} (hS : ∀ i ∈ S, i ∈ own.map (·.2)) (k : ∀ (m : Option Addr) (E : Ef) (G0 G : Hp) (e : Ev) (σ : St) (H : Hp) (ds : List PyData) (e' : Ev) (Q : It → Hp → Prop),
      Rl X.K m E G0 G e σ H → fi e = some (ds, e') → (∀ J G' H', Rl X.K m E G0 G' e' σ H' → Stp σ G H e G' H' e' → WalkD X.K G' J ds → Q J H') → wi σ H Q)
    (m : Option Addr) (E : Ef) (G0 G : Hp) (e : Ev) (σ : St) (H : Hp) (r : Rs) (e' : Ev) (Q : VK) (R : Rl X.K m E G0 G e σ H) (q : x_lc fi γ tst fe (own.map (·.2)) e = some (r, e')) (P : Po X.K m E G0 σ G H e r e' Q) :
    tLc wi (tgOf X.K S γ) (ttOf X.K tst) (teOf X.K fe) (own.map (·.2)) σ H Q := by
  unfold x_lc at q
  cases h1 : fi e with
  | none => simp only [h1] at q; cases q
  | some z =>
    obtain ⟨ds, e1⟩ := z
    simp only [h1] at q
    by_cases h2 : noAc e1 (own.map (·.2)) = true
    · rw [if_pos h2] at q
      cases h3 : lcGo γ tst fe (own.map (·.2)) ds (wipeE e1 (own.map (·.2))) [] with
      | none => simp only [h3] at q; cases q
      | some z =>
        obtain ⟨acc, e2⟩ := z
        simp only [h3, Option.some.injEq, Prod.mk.injEq] at q
        obtain ⟨rfl, rfl⟩ := q
        refine k m E G0 G e σ H ds e1 _ R h1 fun J G1 H1 R1 S1 W1 D hD => ?_
        exact lc_ok R1 W1 hS h2 h3 hD fun G2 H2 R2 S2 V2 => P _ G2 H2 R2 (S1.trans S2) V2 (nw_back S1 _ fun p z => by
          cases z
          exact hD)
    · rw [if_neg h2] at q
      cases q
/-- [elt for tg in it if ..] -/
theorem ed_lc (hc : X.calm = true) (hN : X.N.Nodup) (hi : ID X tg it fi) (ok : blkC X.N X.env.scope scope own = true) (hS : ∀ i ∈ S, i ∈ own.map (·.2))
    (hg : ∀ (s : Shared) (H : Hp) (C : Addr) (cl : List (Str × Addr)) (fp : List Addr), GD (X.blk s H scope (compEnvC scope cl C X.env) fp) tg S γ) (ht : ∀ (s : Shared) (H : Hp) (C : Addr) (cl : List (Str × Addr)) (fp : List Addr), PTD (X.blk s H scope (compEnvC scope cl C X.env) fp) ifs tst)
    (he : ∀ (s : Shared) (H : Hp) (C : Addr) (cl : List (Str × Addr)) (fp : List Addr), ED (X.blk s H scope (compEnvC scope cl C X.env) fp) elt fe) (hs : ∀ x, foldedSetIterable it X.env x = pure x := by intro _; rfl) :
    ED X (.ListComp elt [⟨tg, it, ifs, 0⟩] scope pos) (x_lc fi γ tst fe (own.map (·.2))) := by
  obtain ⟨wi, pi, k⟩ := hi
  exact ⟨_, pe_lc hc hN pi (blkOk_by ok) (fun s H C cl fp => (hg s H C cl fp).can) (fun s H C cl fp => (ht s H C cl fp).ex) (fun s H C cl fp => (he s H C cl fp).can) hs, x_lc_ok hS k⟩
end
end DL
namespace DL
open PySem PySem.Spec PyProof.Rows L2
/-- the first slot stays the caller's list, if there is one -/
structure Rz (K : PySem.W.Frag) (m : Option Addr) (E : Ef) (G0 G : Hp) (e : Ev) (σ : St) (H : Hp) : Prop where
  r : Rl K m E G0 G e σ H
  z : ∀ p, m = some p → isAc e[0]? = true ∧ σ[0]? = some (some (.ref p))
def PoS (K : PySem.W.Frag) (m : Option Addr) (E : Ef) (G0 G : Hp) (D : Ends) : Fl → Prop
  | .nx e => ∀ G' σ H, Same G G' → Rz K m E G0 G' e σ H → D.nx σ H
  | .bk e => ∀ G' σ H, Same G G' → Rz K m E G0 G' e σ H → D.bk σ H
  | .ct e => ∀ G' σ H, Same G G' → Rz K m E G0 G' e σ H → D.ct σ H
  | .rt r e => ∀ v G' σ H, Same G G' → Rz K m E G0 G' e σ H → Vr K E G' H σ e v r → D.rt v H
structure SD (X : Cx) (st : Stmt) (f : Fs) : Prop where
  ex : ∃ t : TS, PS X st t ∧ ∀ (m : Option Addr) (E : Ef) (G0 G : Hp) (e : Ev) (σ : St) (H : Hp) (fl : Fl) (D : Ends),
    Rz X.K m E G0 G e σ H → f e = some fl → PoS X.K m E G0 G D fl → t D σ H
structure SsD (X : Cx) (sts : List Stmt) (f : Fs) : Prop where
  ex : ∃ t : TS, PSs X sts t ∧ ∀ (m : Option Addr) (E : Ef) (G0 G : Hp) (e : Ev) (σ : St) (H : Hp) (fl : Fl) (D : Ends),
    Rz X.K m E G0 G e σ H → f e = some fl → PoS X.K m E G0 G D fl → t D σ H
section
variable {K : PySem.W.Frag} {m : Option Addr} {E : Ef} {G0 G G' H H' : Hp} {e e' : Ev} {σ σ' : St} {v : V} {d : PyData} {D D' : Ends} {fl : Fl} {i : Nat}
theorem PoS.aft (P : PoS K m E G0 G D fl) (s : Same G G') : PoS K m E G0 G' D fl := by
  cases fl with
  | nx e => exact fun G2 σ H s2 R => P G2 σ H (s.trans s2) R
  | bk e => exact fun G2 σ H s2 R => P G2 σ H (s.trans s2) R
  | ct e => exact fun G2 σ H s2 R => P G2 σ H (s.trans s2) R
  | rt r e => exact fun v G2 σ H s2 R V => P v G2 σ H (s.trans s2) R V
theorem Rz.exp (R : Rz K m E G0 G e σ H) (R' : Rl K m E G0 G' e' σ H') (S : Stp σ G H e G' H' e') : Rz K m E G0 G' e' σ H' :=
  ⟨R', fun p z => ⟨by rw [S.kd 0]; exact (R.z p z).1, (R.z p z).2⟩⟩
def okS (S : List Nat) (e : Ev) : Bool := !(S.contains 0 && isAc e[0]?)
theorem okS_no (h : okS S e = true) (q : isAc e[0]? = true) : 0 ∉ S := by
  intro z
  unfold okS at h
  rw [q, List.contains_iff_mem.mpr z] at h
  cases h
theorem Rz.setI (R : Rz K m E G0 G e σ H) (h : Dp K G v d) (ok : okS [i] e = true) : Rz K m E G0 G (e.set i (some (.im d))) (σ.set i (some v)) H :=
  ⟨R.r.setI i h, fun p z => by
    obtain ⟨z1, z2⟩ := R.z p z
    have n := okS_no ok z1
    have n : i ≠ 0 := fun q => n (by rw [q]; exact List.mem_singleton.mpr rfl)
    rw [List.getElem?_set_ne n, List.getElem?_set_ne n]
    exact ⟨z1, z2⟩⟩
theorem Rz.setA {ds : List PyData} (R : Rz K m E G0 G e σ H) (h : Vr K E G H σ e v (.ac ds)) (ok : okS [i] e = true) : Rz K m E G0 G (e.set i (some (.ac ds))) (σ.set i (some v)) H :=
  ⟨R.r.setA i h, fun p z => by
    obtain ⟨z1, z2⟩ := R.z p z
    have n := okS_no ok z1
    have n : i ≠ 0 := fun q => n (by rw [q]; exact List.mem_singleton.mpr rfl)
    rw [List.getElem?_set_ne n, List.getElem?_set_ne n]
    exact ⟨z1, z2⟩⟩
end
def s_seq (f g : Fs) : Fs := fun e => match f e with
  | some (.nx e1) => g e1
  | some x => some x
  | none => none
def s_nx : Fs := fun e => some (.nx e)
def s_no : Fs := fun _ => none
section
variable {X : Cx} {st : Stmt} {rest : List Stmt} {f g : Fs} {pos : Pos} {a : Expr} {fe : Fe}
theorem ssd_nil : SsD X [] s_nx := ⟨_, pss_nil, fun m E G0 G e σ H fl D R q P => by
  cases q
  exact P G σ H (Same.refl _) R⟩
theorem ssd_cons (h : SD X st f) (h2 : SsD X rest g) : SsD X (st :: rest) (s_seq f g) := by
  obtain ⟨t, p, k⟩ := h
  obtain ⟨t2, p2, k2⟩ := h2
  refine ⟨_, pss_cons p p2, fun m E G0 G e σ H fl D R q P => ?_⟩
  unfold s_seq at q
  split at q
  · rename_i e1 h1
    refine k m E G0 G e σ H _ _ R h1 ?_
    exact fun G' σ' H' s R' => k2 m E G0 G' e1 σ' H' fl D R' q (P.aft s)
  · rename_i x h2 h1
    cases q
    refine k m E G0 G e σ H _ _ R h1 ?_
    cases fl with
    | nx e1 => exact (h2 e1 rfl).elim
    | bk e => exact P
    | ct e => exact P
    | rt r e => exact P
  · cases q
theorem ssd_one (h : SD X st f) : SsD X [st] f := by
  obtain ⟨t, p, k⟩ := h
  exact ⟨_, pss_one p, k⟩
theorem sd_never : SD X st s_no := ⟨_, ps_never, fun m E G0 G e σ H fl D R q P => by cases q⟩
def s_drop (f : Fe) : Fs := fun e => match f e with
  | some (_, e1) => some (.nx e1)
  | none => none
theorem sd_expr (h : ED X a fe) (hs : swapsWith a none pos.line X.env = pure false := by rfl) : SD X (.Expr a pos) (s_drop fe) := by
  obtain ⟨t, p, k⟩ := h
  refine ⟨_, ps_expr p hs, fun m E G0 G e σ H fl D R q P => ?_⟩
  unfold s_drop at q
  split at q
  · rename_i r e1 h1
    cases q
    exact k m E G0 G e σ H _ _ _ R.r h1 fun v G' H' R' S' V N => P G' σ H' S'.gg (R.exp R' S')
  · cases q
def s_ret (f : Fe) : Fs := fun e => match f e with
  | some (r, e1) => some (.rt r e1)
  | none => none
theorem sd_ret (h : ED X a fe) : SD X (.Return (some a) pos) (s_ret fe) := by
  obtain ⟨t, p, k⟩ := h
  refine ⟨_, ps_ret p, fun m E G0 G e σ H fl D R q P => ?_⟩
  unfold s_ret at q
  split at q
  · rename_i r e1 h1
    cases q
    exact k m E G0 G e σ H _ _ _ R.r h1 fun v G' H' R' S' V N => P v G' σ H' S'.gg (R.exp R' S') V
  · cases q
def s_if (c : Ft) (f g : Fs) : Fs := fun e => match c e with
  | some (true, e1) => f e1
  | some (false, e1) => g e1
  | none => none
theorem sd_if {tst : Expr} {A B : List Stmt} {c : Ft} (hc : TD X tst c) (ha : SsD X A f) (hb : SsD X B g) : SD X (.If tst A B pos) (s_if c f g) := by
  obtain ⟨t, p, k⟩ := hc
  obtain ⟨t1, p1, k1⟩ := ha
  obtain ⟨t2, p2, k2⟩ := hb
  refine ⟨_, ps_if p p1 p2, fun m E G0 G e σ H fl D R q P => ?_⟩
  unfold s_if at q
  split at q
  · rename_i e1 h1
    refine k m E G0 G e σ H true e1 _ R.r h1 fun G' H' R' S' => ?_
    rw [if_pos rfl]
    exact k1 m E G0 G' e1 σ H' fl D (R.exp R' S') q (P.aft S'.gg)
  · rename_i e1 h1
    refine k m E G0 G e σ H false e1 _ R.r h1 fun G' H' R' S' => ?_
    rw [if_neg Bool.false_ne_true]
    exact k2 m E G0 G' e1 σ H' fl D (R.exp R' S') q (P.aft S'.gg)
  · cases q
def putA (i : Nat) (e : Ev) : Rs → Option Ev
  | .im d => some (e.set i (some (.im d)))
  | .ac ds => some (e.set i (some (.ac ds)))
  | .br _ => none
def s_set (i : Nat) (f : Fe) : Fs := fun e => match f e with
  | some (r, e1) => if okS [i] e1 = true then (match putA i e1 r with
    | some e2 => some (.nx e2)
    | none => none) else none
  | none => none
def s_setF (i : Nat) (f : Fe) : Fs := s_set i fun e => match f e with
  | some (r, e1) => some (frzR r, e1)
  | none => none
theorem set_ok {i : Nat} {te : TE} (k : ∀ (m : Option Addr) (E : Ef) (G0 G : Hp) (e : Ev) (σ : St) (H : Hp) (r : Rs) (e' : Ev) (Q : VK), Rl X.K m E G0 G e σ H → fe e = some (r, e') → Po X.K m E G0 σ G H e r e' Q → te σ H Q)
    (m : Option Addr) (E : Ef) (G0 G : Hp) (e : Ev) (σ : St) (H : Hp) (fl : Fl) (D : Ends) (R : Rz X.K m E G0 G e σ H) (q : s_set i fe e = some fl) (P : PoS X.K m E G0 G D fl) : tAsg te (gName i) D σ H := by
  unfold s_set at q
  split at q
  · rename_i r e1 h1
    by_cases ok : okS [i] e1 = true
    · rw [if_pos ok] at q
      refine k m E G0 G e σ H _ _ _ R.r h1 fun v G' H' R' S' V N => ?_
      have Rx := R.exp R' S'
      cases r with
      | im d =>
        cases q
        exact P G' _ H' S'.gg (Rx.setI V ok)
      | ac ds =>
        cases q
        exact P G' _ H' S'.gg (Rx.setA V ok)
      | br j => cases q
    · rw [if_neg ok] at q
      cases q
  · cases q
theorem frz_k {te : TE} (k : ∀ (m : Option Addr) (E : Ef) (G0 G : Hp) (e : Ev) (σ : St) (H : Hp) (r : Rs) (e' : Ev) (Q : VK), Rl X.K m E G0 G e σ H → fe e = some (r, e') → Po X.K m E G0 σ G H e r e' Q → te σ H Q)
    (m : Option Addr) (E : Ef) (G0 G : Hp) (e : Ev) (σ : St) (H : Hp) (r : Rs) (e' : Ev) (Q : VK) (R : Rl X.K m E G0 G e σ H) (q : (match fe e with
      | some (r, e1) => some (frzR r, e1)
      | none => none) = some (r, e')) (P : Po X.K m E G0 σ G H e r e' Q) : te σ H Q := by
  split at q
  · rename_i r1 e1 h1
    cases q
    refine k m E G0 G e σ H _ _ _ R h1 fun v G' H' R' S' V N => ?_
    obtain ⟨G2, R2, S2, s2, V2⟩ := R'.freeze S' V N
    exact P v G2 H' R2 S2 V2 (by cases r1 <;> exact True.intro)
  · cases q
section
variable {i : Nat} {x : Str} {pos' : Pos}
theorem sd_set (i : Nat) (hN : X.N.Nodup) (h : ED X a fe) (hi : X.N[i]? = some x := by rfl) (hx : Loc X.env.scope x := by first | exact .inl rfl | exact .inr rfl) (hs : swapsWith a (some (.Name x pos')) pos.line X.env = pure false := by rfl) (hf : X.fn x = true ∨ X.env.scope.names.lookup x = some .local := by first | exact .inl rfl | exact .inr rfl | assumption) :
    SD X (.Assign [.Name x pos'] a pos) (s_set i fe) := by
  obtain ⟨t, p, k⟩ := h
  exact ⟨_, ps_set hN hi hx p hs hf, set_ok k⟩
theorem sd_setF (i : Nat) (hN : X.N.Nodup) (h : ED X a fe) (hi : X.N[i]? = some x := by rfl) (hx : Loc X.env.scope x := by first | exact .inl rfl | exact .inr rfl) (hs : swapsWith a (some (.Name x pos')) pos.line X.env = pure false := by rfl) (hf : X.fn x = true ∨ X.env.scope.names.lookup x = some .local := by first | exact .inl rfl | exact .inr rfl | assumption) :
    SD X (.Assign [.Name x pos'] a pos) (s_setF i fe) := by
  obtain ⟨t, p, k⟩ := h
  exact ⟨_, ps_set hN hi hx p hs hf, set_ok (frz_k k)⟩
end
def forGo (γ : PyData → Ev → Option Ev) (S : List Nat) (fb : Fs) : List PyData → Ev → Option Fl
  | [], e => some (.nx e)
  | d :: ds, e => if okS S e = true then (match γ d e with
    | some e2 => (match fb e2 with
      | some (.nx e3) => forGo γ S fb ds e3
      | some (.ct e3) => forGo γ S fb ds e3
      | some (.bk e3) => some (.nx e3)
      | some (.rt r e3) => some (.rt r e3)
      | none => none)
    | none => none) else none
def s_for (fi : Fi) (γ : PyData → Ev → Option Ev) (S : List Nat) (fb : Fs) : Fs := fun e => match fi e with
  | some (ds, e1) => forGo γ S fb ds e1
  | none => none
/-- whatever the rule of the statement: the items are told, the body is read -/
theorem sd_forG {PIx : TI → Prop} {st : Stmt} {tg : Expr} {body : List Stmt} {fi : Fi} {S : List Nat} {γ : PyData → Ev → Option Ev} {fb : Fs} (mk : ∀ {wi : TI} {g : TG} {tb : TS}, PIx wi → PG X tg g → PSs X body tb → PS X st (tFor wi g tb))
    (hi : ∃ wi, PIx wi ∧ ∀ (m : Option Addr) (E : Ef) (G0 G : Hp) (e : Ev) (σ : St) (H : Hp) (ds : List PyData) (e' : Ev) (Q : It → Hp → Prop),
    Rl X.K m E G0 G e σ H → fi e = some (ds, e') → (∀ J G' H', Rl X.K m E G0 G' e' σ H' → Stp σ G H e G' H' e' → WalkD X.K G' J ds → Q J H') → wi σ H Q) (hg : GD X tg S γ) (hb : SsD X body fb) : SD X st (s_for fi γ S fb) := by
  obtain ⟨wi, pi, ki⟩ := hi
  obtain ⟨g, pg, kg⟩ := hg
  obtain ⟨tb, pb, kb⟩ := hb
  refine ⟨_, mk pi pg pb, fun m E G0 G e σ H fl D R q P => ?_⟩
  unfold s_for at q
  cases h1 : fi e with
  | none => simp only [h1] at q; cases q
  | some z =>
    obtain ⟨ds, e1⟩ := z
    simp only [h1] at q
    refine ki m E G0 G e σ H ds e1 _ R.r h1 fun J G1 H1 R1 S1 W1 => ?_
    let W : Nat → Nat → St → Hp → Prop := fun i mm σ H => ∃ G2 e2, mm = ds.length - i ∧ i ≤ ds.length ∧ Rz X.K m E G0 G2 e2 σ H ∧ Same G1 G2 ∧ forGo γ S fb (ds.drop i) e2 = some fl
    refine ⟨W, ⟨ds.length, G1, e1, by simp, Nat.zero_le _, R.exp R1 S1, Same.refl _, by simpa using q⟩, ?_⟩
    rintro i mm σ2 H2 ⟨G2, e2, rfl, hi, R2, s2, lc⟩
    obtain ⟨wk, stop⟩ := W1 G2 H2 s2 R2.r.gh
    by_cases hlt : i < ds.length
    · have hd : ds.drop i = ds[i] :: ds.drop (i + 1) := by rw [List.drop_eq_getElem_cons hlt]
      have hget : ds[i]? = some ds[i] := List.getElem?_eq_getElem hlt
      rw [hd] at lc
      generalize ds[i] = d at lc hget hd
      obtain ⟨go, yl⟩ := wk i d hget
      refine .inr ⟨go, W (i + 1) (ds.length - (i + 1)), fun σ' H' h => ⟨_, by omega, h⟩, fun x H' y => ?_⟩
      have hY : ∃ G', Rz X.K m E G0 G' e2 σ2 H' ∧ Same G2 G' ∧ Dp X.K G' x d := by
        rcases yl x H' y with ⟨rfl, h⟩ | ⟨T, us, es, rfl, nT, rfl, rfl, h⟩
        · exact ⟨G2, R2, Same.refl _, h⟩
        · obtain ⟨R', S', D'⟩ := R2.r.newT nT h
          exact ⟨_, R2.exp R' S', S'.gg, D'⟩
      obtain ⟨G', R', s', dx⟩ := hY
      simp only [forGo] at lc
      by_cases ok : okS S e2 = true
      · rw [if_pos ok] at lc
        cases h2 : γ d e2 with
        | none => simp only [h2] at lc; cases lc
        | some e3 =>
          simp only [h2] at lc
          refine kg m E G0 G' e2 σ2 H' x d e3 _ R'.r dx h2 fun σ3 R3 out sl el ac1 => ?_
          have R3' : Rz X.K m E G0 G' e3 σ3 H' := ⟨R3, fun p z => by
            obtain ⟨z1, z2⟩ := R'.z p z
            obtain ⟨o1, o2⟩ := out 0 (okS_no ok z1)
            rw [o1, o2]
            exact ⟨z1, z2⟩⟩
          cases h3 : fb e3 with
          | none => simp only [h3] at lc; cases lc
          | some x3 =>
            refine kb m E G0 G' e3 σ3 H' x3 _ R3' h3 ?_
            cases x3 with
            | nx e4 =>
              simp only [h3] at lc
              exact fun G4 σ4 H4 s4 R4 => ⟨G4, e4, rfl, hlt, R4, s2.trans (s'.trans s4), lc⟩
            | ct e4 =>
              simp only [h3] at lc
              exact fun G4 σ4 H4 s4 R4 => ⟨G4, e4, rfl, hlt, R4, s2.trans (s'.trans s4), lc⟩
            | bk e4 =>
              simp only [h3, Option.some.injEq] at lc
              subst lc
              exact fun G4 σ4 H4 s4 R4 => P G4 σ4 H4 (S1.gg.trans (s2.trans (s'.trans s4))) R4
            | rt r e4 =>
              simp only [h3, Option.some.injEq] at lc
              subst lc
              exact fun v G4 σ4 H4 s4 R4 V => P v G4 σ4 H4 (S1.gg.trans (s2.trans (s'.trans s4))) R4 V
      · rw [if_neg ok] at lc
        cases lc
    · have hi2 : i = ds.length := by omega
      subst hi2
      rw [List.drop_length] at lc
      cases lc
      exact .inl ⟨stop, P G2 σ2 H2 (S1.gg.trans s2) R2⟩
theorem sd_for {tg it : Expr} {body : List Stmt} {fi : Fi} {S : List Nat} {γ : PyData → Ev → Option Ev} {fb : Fs} (hc : X.calm = true) (hp : PassesOwn (model X.prog X.w) X.A X.env X.xe) (hi : ID X tg it fi) (hg : GD X tg S γ) (hb : SsD X body fb)
    (hs : ∀ x, foldedSetIterable it X.env x = pure x := by intro _; rfl) : SD X (.For tg it body [] pos) (s_for fi γ S fb) := sd_forG (fun pi pg pb => ps_for hp hc pi pg pb hs) hi.ex hg hb
def whGo (tst : Ft) (fb : Fs) : Nat → Ev → Option Fl
  | 0, _ => none
  | n + 1, e => match tst e with
    | some (false, e1) => some (.nx e1)
    | some (true, e1) => (match fb e1 with
      | some (.nx e3) => whGo tst fb n e3
      | some (.ct e3) => whGo tst fb n e3
      | some (.bk e3) => some (.nx e3)
      | some (.rt r e3) => some (.rt r e3)
      | none => none)
    | none => none
def s_while (n : Ev → Nat) (tst : Ft) (fb : Fs) : Fs := fun e => whGo tst fb (n e) e
theorem sd_while (n : Ev → Nat) {c : Expr} {body : List Stmt} {tst : Ft} {fb : Fs} (hp : PassesOwn (model X.prog X.w) X.A X.env X.xe) (hc : TD X c tst) (hb : SsD X body fb) : SD X (.While c body [] pos) (s_while n tst fb) := by
  obtain ⟨tc, pc, kc⟩ := hc
  obtain ⟨tb, pb, kb⟩ := hb
  refine ⟨_, ps_while hp pc pb, fun m E G0 G e σ H fl D R q P => ?_⟩
  let W : Nat → St → Hp → Prop := fun mm σ H => ∃ G2 e2, Rz X.K m E G0 G2 e2 σ H ∧ Same G G2 ∧ whGo tst fb mm e2 = some fl
  refine ⟨W, ⟨n e, G, e, R, Same.refl _, q⟩, ?_⟩
  rintro mm σ2 H2 ⟨G2, e2, R2, s2, lc⟩
  cases mm with
  | zero => cases lc
  | succ mm =>
    simp only [whGo] at lc
    cases h1 : tst e2 with
    | none => simp only [h1] at lc; cases lc
    | some z =>
      obtain ⟨b, e3⟩ := z
      refine kc m E G0 G2 e2 σ2 H2 b e3 _ R2.r h1 fun G3 H3 R3 S3 => ?_
      have Rx := R2.exp R3 S3
      cases b with
      | false =>
        simp only [h1, Option.some.injEq] at lc
        subst lc
        rw [if_neg Bool.false_ne_true]
        exact P G3 σ2 H3 (s2.trans S3.gg) Rx
      | true =>
        simp only [h1] at lc
        rw [if_pos rfl]
        refine ⟨W mm, fun σ' H' h => ⟨mm, Nat.lt_succ_self _, h⟩, ?_⟩
        cases h3 : fb e3 with
        | none => simp only [h3] at lc; cases lc
        | some x3 =>
          refine kb m E G0 G3 e3 σ2 H3 x3 _ Rx h3 ?_
          cases x3 with
          | nx e4 =>
            simp only [h3] at lc
            exact fun G4 σ4 H4 s4 R4 => ⟨G4, e4, R4, s2.trans (S3.gg.trans s4), lc⟩
          | ct e4 =>
            simp only [h3] at lc
            exact fun G4 σ4 H4 s4 R4 => ⟨G4, e4, R4, s2.trans (S3.gg.trans s4), lc⟩
          | bk e4 =>
            simp only [h3, Option.some.injEq] at lc
            subst lc
            exact fun G4 σ4 H4 s4 R4 => P G4 σ4 H4 (s2.trans (S3.gg.trans s4)) R4
          | rt r e4 =>
            simp only [h3, Option.some.injEq] at lc
            subst lc
            exact fun v G4 σ4 H4 s4 R4 V => P v G4 σ4 H4 (s2.trans (S3.gg.trans s4)) R4 V
def fzE (j : Nat) (e : Ev) : Ev := match e[j]? with
  | some (some (.ac ds)) => e.set j (some (.im (.list ds)))
  | _ => e
theorem Rz.fz {K : PySem.W.Frag} {m : Option Addr} {E : Ef} {G0 G H : Hp} {e : Ev} {σ : St} {j : Nat} (R : Rz K m E G0 G e σ H) (hj : j ≠ 0) : ∃ G', Same G G' ∧ Rz K m E G0 G' (fzE j e) σ H := by
  unfold fzE
  split
  · rename_i ds h
    obtain ⟨p, ws, h1, h2, h3, h4, h5⟩ := R.r.ac j ds h
    have hE : E p = none := by
      rcases h5 with h5 | h5
      · exact h5
      · exact absurd h5.2 hj
    have s1 : Same G (upd G p (.lst ws)) := same_new h2
    have hl : j < e.length := (List.getElem?_eq_some_iff.mp h).1
    refine ⟨upd G p (.lst ws), s1, ⟨⟨R.r.gg.trans s1, fun b o q => ?_, R.r.eh, R.r.mh, fun b b1 b2 => ?_, by rw [List.length_set]; exact R.r.len, fun i d q => ?_, fun i di q => ?_, fun i k di dk p' q1 q2 q3 q4 => ?_, fun i dss q => ?_⟩, fun p' z => ?_⟩⟩
    · by_cases z : b = p
      · rw [z, upd_same] at q
        rw [z, h3]
        exact q
      · rw [upd_ne z] at q
        exact R.r.gh b o q
    · have z : b ≠ p := fun z => b2 (by rw [z]; exact hE)
      rw [upd_ne z]
      exact R.r.nw b b1 b2
    · rw [set_get] at q
      by_cases z : j = i ∧ i < e.length
      · rw [if_pos z] at q
        cases q
        rw [← z.1]
        exact ⟨_, h1, .lst (.inl (.inl upd_same)) (dpAll_same s1 h4)⟩
      · rw [if_neg z] at q
        obtain ⟨v, a1, a2⟩ := R.r.im i d q
        exact ⟨v, a1, dp_same s1 a2⟩
    · rw [set_get] at q
      by_cases z : j = i ∧ i < e.length
      · rw [if_pos z] at q
        cases q
      · rw [if_neg z] at q
        obtain ⟨p', ws', a1, a2, a3, a4, a5⟩ := R.r.ac i di q
        have n : p' ≠ p := fun y => by
          rw [y] at a1
          have := R.r.inj j i ds di p h q h1 a1
          exact z ⟨this, by rw [← this]; exact hl⟩
        exact ⟨p', ws', a1, by rw [upd_ne n]; exact a2, a3, dpAll_same s1 a4, a5⟩
    · rw [set_get] at q1 q2
      by_cases z : j = i ∧ i < e.length
      · rw [if_pos z] at q1
        cases q1
      · rw [if_neg z] at q1
        by_cases z : j = k ∧ k < e.length
        · rw [if_pos z] at q2
          cases q2
        · rw [if_neg z] at q2
          exact R.r.inj i k di dk p' q1 q2 q3 q4
    · rw [set_get] at q
      by_cases z : j = i ∧ i < e.length
      · rw [if_pos z] at q
        cases q
        exact True.intro
      · rw [if_neg z] at q
        exact (R.r.ot i dss q).mono s1
    · obtain ⟨z1, z2⟩ := R.z p' z
      rw [List.getElem?_set_ne hj]
      exact ⟨z1, z2⟩
  · exact ⟨G, Same.refl _, R⟩
def s_fz (j : Nat) (f : Fs) : Fs := fun e => f (fzE j e)
theorem SD.fz (j : Nat) (h : SD X st f) (hj : j ≠ 0 := by decide) : SD X st (s_fz j f) := by
  obtain ⟨t, p, k⟩ := h
  refine ⟨_, p, fun m E G0 G e σ H fl D R q P => ?_⟩
  obtain ⟨G', s, R'⟩ := R.fz hj
  exact k m E G0 G' _ σ H fl D R' q (P.aft s)
end
end DL
namespace DL
open PySem PySem.Spec PyProof.Rows L2
section
variable {K : PySem.W.Frag} {m : Option Addr} {E : Ef} {G0 G H : Hp} {e : Ev} {σ : St} {i : Nat} {p : Addr} {d0 ds : List PyData} {ws : List V}
theorem Rl.put (R : Rl K m E G0 G e σ H) (h : e[i]? = some (some (.ac d0))) (hp : σ[i]? = some (some (.ref p))) (q : DpAll K G ws ds) :
    Rl K m E G0 G (e.set i (some (.ac ds))) σ (upd H p (.lst ws)) ∧ Stp σ G H e G (upd H p (.lst ws)) (e.set i (some (.ac ds))) := by
  obtain ⟨p', w0, h1, h2, h3, h4, h5⟩ := R.ac i d0 h
  rw [hp] at h1
  cases h1
  have hl : i < e.length := (List.getElem?_eq_some_iff.mp h).1
  refine ⟨⟨R.gg, fun b o z => ?_, fun b o z1 z2 => ?_, fun b z => ⟨(R.mh b z).1, ?_⟩, R.nw, by rw [List.length_set]; exact R.len, fun j d z => ?_, fun j dj z => ?_, fun j k dj dk p' q1 q2 q3 q4 => ?_, fun j dss z => ?_⟩,
    Same.refl _, fun _ z _ => z, fun a o z1 z2 => ?_, fun j => ?_, fun a z => ?_⟩
  · rw [upd_ne (ne_of_none z h2)]
    exact R.gh b o z
  · have n : b ≠ p := fun y => by
      rcases h5 with h5 | h5
      · rw [y, h5] at z1
        cases z1
      · exact z2 (by rw [y]; exact h5.1)
    rw [upd_ne n]
    exact R.eh b o z1 z2
  · by_cases n : b = p
    · rw [n, upd_same]
      simp
    · rw [upd_ne n]
      exact (R.mh b z).2
  · rw [set_get] at z
    by_cases y : i = j ∧ j < e.length
    · rw [if_pos y] at z
      cases z
    · rw [if_neg y] at z
      exact R.im j d z
  · rw [set_get] at z
    by_cases y : i = j ∧ j < e.length
    · rw [if_pos y] at z
      cases z
      rw [← y.1]
      exact ⟨p, ws, hp, h2, upd_same, q, h5⟩
    · rw [if_neg y] at z
      obtain ⟨p', ws', a1, a2, a3, a4, a5⟩ := R.ac j dj z
      have n : p' ≠ p := fun y2 => by
        rw [y2] at a1
        have := R.inj i j d0 dj p h z hp a1
        exact y ⟨this, by rw [← this]; exact hl⟩
      exact ⟨p', ws', a1, a2, by rw [upd_ne n]; exact a3, a4, a5⟩
  · have old : ∀ {j : Nat} {dj : List PyData}, (e.set i (some (.ac ds)))[j]? = some (some (.ac dj)) → ∃ dj', e[j]? = some (some (.ac dj')) := fun {j dj} z => by
      rw [set_get] at z
      by_cases y : i = j ∧ j < e.length
      · exact ⟨d0, by rw [← y.1]; exact h⟩
      · rw [if_neg y] at z
        exact ⟨dj, z⟩
    obtain ⟨d1, o1⟩ := old q1
    obtain ⟨d2, o2⟩ := old q2
    exact R.inj j k d1 d2 p' o1 o2 q3 q4
  · rw [set_get] at z
    by_cases y : i = j ∧ j < e.length
    · rw [if_pos y] at z
      cases z
      exact True.intro
    · rw [if_neg y] at z
      exact R.ot j dss z
  · have n : a ≠ p := fun y => z2 ⟨i, d0, h, by rw [y]; exact hp⟩
    rw [upd_ne n]
    exact z1
  · rw [set_get]
    by_cases y : i = j ∧ j < e.length
    · rw [if_pos y, ← y.1, h]
      rfl
    · rw [if_neg y]
  · by_cases n : a = p
    · rw [n, upd_same]
      simp
    · rw [upd_ne n]
      exact z
end
section
variable {X : Cx} {a b : Expr} {fa fb : Fe} {pos : Pos}
def x_app (i : Nat) (fa : Fe) : Fe := fun e => if isAc e[i]? = true then (match fa e with
  | some (r, e1) => (match imR (frzR r), e1[i]? with
    | some d, some (some (.ac ds)) => if okLen (ds.length + 1) = true then some (.im .none, e1.set i (some (.ac (ds ++ [d])))) else none
    | _, _ => none)
  | none => none) else none
theorem frz_im {r : Rs} {d : PyData} (h : imR (frzR r) = some d) : frzR r = .im d := by
  cases r with
  | im d =>
    cases h
    rfl
  | ac ds =>
    cases h
    rfl
  | br i => cases h
theorem Rl.acP {K : PySem.W.Frag} {m : Option Addr} {E : Ef} {G0 G H : Hp} {e : Ev} {σ : St} {i : Nat} (R : Rl K m E G0 G e σ H) (h : isAc e[i]? = true) :
    ∃ p ws, σ[i]? = some (some (.ref p)) ∧ H p = some (.lst ws) := by
  obtain ⟨ds', q⟩ := isAc_iff.mp h
  obtain ⟨p, ws, h1, h2, h3, _⟩ := R.ac i ds' q
  exact ⟨p, ws, h1, h3⟩
theorem len_lt {n : Nat} (h : okLen (n + 1) = true) : n < sizeLine := by
  have := okLen_ok h
  omega
/-- xs.append(e) -/
theorem ed_app (i : Nat) {x : Str} {np apos : Pos} (ha : ED X a fa) (hN : X.N[i]? = some x := by rfl)
    (hv : Vis X.env.scope x := by first | exact Or.inl rfl | exact Or.inr (Or.inl rfl) | exact Or.inr (Or.inr rfl)) (hd : (x == ("__debug__" : Str)) = false := by decide) (hcd : (x == ("__classdict__" : Str)) = false := by decide)
    (hbase : attributeBase (.Name x np) "append" X.env (eval (.Name x np) X.env) = eval (.Name x np) X.env := by rfl)
    (hfew : ((backTo pos (starEach [a] X.env)).all (fun x => !x.1) && (backToKw pos (keywordEach [] X.env)).all (fun x => x.1.isSome)
      && decide (([a] : List Expr).length + ([] : List Keyword).length + (if ([] : List Keyword).isEmpty then 0 else 1) < 30)) = true := by rfl)
    (hline : (apos.endLine == pos.line) = true := by rfl) (hs : starEach [a] X.env = (false, eval a X.env) :: starEach [] X.env := by rfl) (hplain : (backTo pos (starEach [] X.env)).any (·.1) = false := by rfl) :
    ED X (.Call (.Attribute (.Name x np) "append" apos) [a] [] pos) (x_app i fa) := by
  obtain ⟨t, p, k⟩ := ha
  refine ⟨_, pe_bm PySem.F.plainAttrs_list PySem.F.slot_list_append PySem.F.type_list_append mt_append (pe_var hN hv hd hcd) (pa_cons p pa_nil hs) hbase hfew hline hs hplain, fun m E G0 G e σ H r e' Q R q P => ?_⟩
  unfold x_app at q
  by_cases h0 : isAc e[i]? = true
  · rw [if_pos h0] at q
    obtain ⟨l, w0, hσ, hl⟩ := R.acP h0
    refine ⟨.ref l, hσ, .inl ⟨rfl, w0, .inl (.inl hl)⟩, ?_⟩
    split at q
    · rename_i r1 e1 h1
      split at q
      · rename_i d ds h2 h3
        by_cases h4 : okLen (ds.length + 1) = true
        · rw [if_pos h4] at q
          cases q
          refine k m E G0 G e σ H r1 e1 _ R h1 fun v G1 H1 R1 S1 V1 N1 => ?_
          obtain ⟨G2, R2, S2, s2, V2⟩ := R1.freeze S1 V1 N1
          rw [frz_im h2] at V2
          obtain ⟨p', ws, q1, q2, q3, q4, q5⟩ := R2.ac i ds h3
          rw [hσ] at q1
          cases q1
          obtain ⟨R3, S3⟩ := R2.put h3 hσ (dpAll_app q4 (.cons V2 .nil))
          exact ⟨l, ws, v, rfl, rfl, q3, by rw [dpAll_len q4]; exact len_lt h4, P .non G2 _ R3 (S2.trans S3) .non True.intro⟩
        · rw [if_neg h4] at q
          cases q
      · cases q
    · cases q
  · rw [if_neg h0] at q
    cases q
def s_put (i : Nat) (fv fk : Fe) : Fs := fun e => match fv e with
  | some (r, e1) => if isAc e1[i]? = true then (match imR (frzR r), fk e1 with
    | some d, some (.im (.int k), e2) => (match e2[i]? with
      | some (some (.ac ds)) => (match ixN ds.length k with
        | some j => some (.nx (e2.set i (some (.ac (ds.set j d)))))
        | none => none)
      | _ => none)
    | _, _ => none) else none
  | none => none
theorem sd_put (i : Nat) {x : Str} {np tp : Pos} (hv' : ED X a fa) (hk : ED X b fb) (hN : X.N[i]? = some x := by rfl)
    (hv : Vis X.env.scope x := by first | exact Or.inl rfl | exact Or.inr (Or.inl rfl) | exact Or.inr (Or.inr rfl)) (hd : (x == ("__debug__" : Str)) = false := by decide) (hcd : (x == ("__classdict__" : Str)) = false := by decide)
    (hs : swapsWithSole [.Subscript (.Name x np) b tp] a pos.line X.env = pure false := by rfl) (hw : swappedStores [.Subscript (.Name x np) b tp] a X.env = pure none := by rfl)
    (h1 : (assignEach [.Subscript (.Name x np) b tp] X.env).map (·.2) = [assign (.Subscript (.Name x np) b tp) X.env] := by rfl)
    (hz : ∀ v, assign (.Subscript (.Name x np) b tp) X.env v = (do
      let ov ← holding [v] (eval (.Name x np) X.env)
      let iv ← holding [v, ov] (eval b X.env)
      standAt tp
      holding [v, ov, iv] (setItem ov iv v)
      release [v, ov, iv] []) := by intros; rfl) : SD X (.Assign [.Subscript (.Name x np) b tp] a pos) (s_put i fa fb) := by
  obtain ⟨t, p, k⟩ := hv'
  obtain ⟨t2, p2, k2⟩ := hk
  refine ⟨_, ps_asg p (pg_sub (pe_var hN hv hd hcd) p2 set_list hz) hs hw h1, fun m E G0 G e σ H fl D R q P => ?_⟩
  unfold s_put at q
  split at q
  · rename_i r e1 h1
    by_cases h0 : isAc e1[i]? = true
    · rw [if_pos h0] at q
      split at q
      · rename_i d kk e2 h2 h3
        split at q
        · rename_i ds h4
          split at q
          · rename_i j h5
            cases q
            refine k m E G0 G e σ H r e1 _ R.r h1 fun v G1 H1 R1 S1 V1 N1 => ?_
            obtain ⟨G2, R2, S2, s2, V2⟩ := R1.freeze S1 V1 N1
            rw [frz_im h2] at V2
            obtain ⟨l, w0, hσ, hl⟩ := R2.acP h0
            refine ⟨.ref l, hσ, ?_⟩
            refine k2 m E G0 G2 e1 σ H1 _ e2 _ R2 h3 fun u G3 H3 R3 S3 V3 N3 => ?_
            cases V3
            obtain ⟨p', ws, q1, q2, q3, q4, q5⟩ := R3.ac i ds h4
            rw [hσ] at q1
            cases q1
            obtain ⟨R4, S4⟩ := R3.put h4 hσ (dpAll_set j q4 (dp_same S3.gg V2))
            exact ⟨l, ws, kk, j, rfl, rfl, q3, by rw [dpAll_len q4]; exact h5, P G3 σ _ (S2.gg.trans S3.gg) (R.exp R4 (S2.trans (S3.trans S4)))⟩
          · cases q
        · cases q
      · cases q
    · rw [if_neg h0] at q
      cases q
  · cases q
end
end DL
namespace DL
open PySem PySem.Spec PyProof.Rows L2
def VrF (K : PySem.W.Frag) (G H H' : Hp) (v : V) : Rs → Prop
  | .im d => Dp K G v d
  | .ac ds => ∃ p ws, v = .ref p ∧ H p = none ∧ G p = none ∧ H' p = some (.lst ws) ∧ DpAll K G ws ds
  | .br _ => False
/-- n data in, a result out -/
def spD (K : PySem.W.Frag) (n : Nat) (φ : List PyData → Option Rs) : Sp := fun vs H Q _ => ∃ G ds r, Same G H ∧ DpAll K G vs ds ∧ vs.length = n ∧ φ ds = some r ∧
  ∀ v G' H', Same G G' → Same G' H' → Same H H' → (∀ a, G a = none → H a ≠ none → G' a = none) → VrF K G' H H' v r → Q v H'
/-- a def of the module that is kept: where it lies, what it promises, how it is called -/
inductive Kf (P : Program) (w : World) (K : PySem.W.Frag) (mg : Str → Option Value) (base : Heap) (k : Nat) (x : Str) (sp : Sp) (dvs : List V) : Prop where
  | kept (at_ : Addr) (fd : FuncData) (names : List Str) (given : List Value) (fn : FnOk P w K mg base CX0 k at_ fd names sp) (here : mg x = some (.ref at_)) (stays : PySem.W.keepIn K (.ref at_) = true) (binds : Binds K fd names given) (vals : Vals dvs given)
def x_call (φ : List PyData → Option Rs) (dds : List PyData) (fa : Fa) : Fe := fun e => match argsI fa e with
  | some (ds, e1) => (match φ (ds ++ dds) with
    | some (.im d) => some (.im d, e1)
    | some (.ac cs) => some (.ac cs, e1)
    | _ => none)
  | none => none
section
variable {K : PySem.W.Frag} {m : Option Addr} {E : Ef} {G0 G G' H H' : Hp} {e : Ev} {σ : St} {v : V} {r : Rs}
/-- behind a call that writes nothing -/
theorem Rl.called (R : Rl K m E G0 G e σ H) (s1 : Same G G') (s2 : Same G' H') (s3 : Same H H') (n : ∀ a, G a = none → H a ≠ none → G' a = none) : Rl K m E G0 G' e σ H' ∧ Stp σ G H e G' H' e := by
  have th : ∀ a, H a ≠ none → H' a ≠ none := fun a z => by
    cases q : H a with
    | none => exact absurd q z
    | some o => rw [s3 a o q]; simp
  refine ⟨⟨R.gg.trans s1, s2, fun a o z1 z2 => s3 a o (R.eh a o z1 z2), fun a z => ⟨(R.mh a z).1, th a (R.mh a z).2⟩, fun a z1 z2 => n a (R.nw a z1 z2) ?_, R.len, fun i d q => ?_, fun i ds q => ?_, R.inj, fun i dss q => (R.ot i dss q).mono s1⟩, s1, n, fun a o z _ => s3 a o z, fun _ => rfl, th⟩
  · by_cases y : m = some a
    · exact (R.mh a y).2
    · cases q : E a with
      | none => exact absurd q z2
      | some o => rw [R.eh a o q y]; simp
  · obtain ⟨v, h1, h2⟩ := R.im i d q
    exact ⟨v, h1, dp_same s1 h2⟩
  · obtain ⟨p, ws, h1, h2, h3, h4, h5⟩ := R.ac i ds q
    exact ⟨p, ws, h1, n p h2 (by rw [h3]; simp), s3 p _ h3, dpAll_same s1 h4, h5⟩
theorem Rl.vrf (R : Rl K m E G0 G e σ H) (h : VrF K G' H H' v r) : Vr K E G' H' σ e v r ∧ Nw H v r := by
  cases r with
  | im d => exact ⟨h, True.intro⟩
  | br i => exact h.elim
  | ac ds =>
    obtain ⟨p, ws, rfl, h1, h2, h3, h4⟩ := h
    obtain ⟨f1, f2, f3, f4⟩ := R.fresh h1
    exact ⟨⟨p, ws, rfl, f2, h2, h3, h4, f3⟩, fun q z => by
      cases z
      exact h1⟩
end
def dvsD (K : PySem.W.Frag) (dvs : List V) (dds : List PyData) : Prop := ∀ G : Hp, DpAll K G dvs dds
theorem dvs0 {K : PySem.W.Frag} : dvsD K [] [] := fun _ => .nil
theorem dvsI {K : PySem.W.Frag} {i : Int} {vs : List V} {ds : List PyData} (h : dvsD K vs ds) : dvsD K (.int i :: vs) (.int i :: ds) := fun G => .cons (.int i) (h G)
section
variable {X : Cx} {a : Expr} {es : List Expr} {fa : Fa} {p pos : Pos} {x : Str} {j k n : Nat} {dvs : List V} {dds : List PyData}
theorem call_ok {φ : List PyData → Option Rs} {t : TA} (hd : dvsD X.K dvs dds) (hn : ∀ ds, (φ ds).isSome = true → ds.length = n)
    (kk : ∀ (m : Option Addr) (E : Ef) (G0 G : Hp) (e : Ev) (σ : St) (H : Hp) (rs : List Rs) (e' : Ev) (Q : List V → Hp → Prop),
    Rl X.K m E G0 G e σ H → fa e = some (rs, e') → (∀ vs G' H', Rl X.K m E G0 G' e' σ H' → Stp σ G H e G' H' e' → VrAll X.K E G' H' σ e' vs rs → Q vs H') → t σ H Q)
    (m : Option Addr) (E : Ef) (G0 G : Hp) (e : Ev) (σ : St) (H : Hp) (rr : Rs) (e' : Ev) (Q : VK) (R : Rl X.K m E G0 G e σ H) (q : x_call φ dds fa e = some (rr, e')) (P : Po X.K m E G0 σ G H e rr e' Q) : tCall (spD X.K n φ) dvs E0 t σ H Q := by
  unfold x_call at q
  cases h1 : argsI fa e with
  | none => simp only [h1] at q; cases q
  | some z =>
    obtain ⟨ds, e1⟩ := z
    simp only [h1] at q
    obtain ⟨rs, q1, q2⟩ := argsI_ok h1
    have main : ∀ r, φ (ds ++ dds) = some r → r = rr ∧ e1 = e' → tCall (spD X.K n φ) dvs E0 t σ H Q := fun r h2 ⟨z1, z2⟩ => by
      subst z1 z2
      refine kk m E G0 G e σ H rs e1 _ R q1 fun vs G1 H1 R1 S1 V1 => ?_
      have D1 := vr_imAll V1 q2
      have D2 := dpAll_app D1 (hd G1)
      refine ⟨G1, ds ++ dds, r, R1.gh, D2, ?_, h2, fun v G' H' s1 s2 s3 nw vr => ?_⟩
      · rw [dpAll_len D2]
        exact hn _ (by rw [h2]; rfl)
      · obtain ⟨R2, S2⟩ := R1.called s1 s2 s3 nw
        obtain ⟨V2, N2⟩ := R1.vrf vr
        exact P v G' H' R2 (S1.trans S2) V2 (nw_back S1 v N2)
    cases h2 : φ (ds ++ dds) with
    | none => simp only [h2] at q; cases q
    | some r =>
      cases r with
      | im d =>
        simp only [h2, Option.some.injEq, Prod.mk.injEq] at q
        exact main _ h2 q
      | ac d =>
        simp only [h2, Option.some.injEq, Prod.mk.injEq] at q
        exact main _ h2 q
      | br d => simp only [h2] at q; cases q
theorem ed_call {φ : List PyData → Option Rs} (F : Kf X.prog X.w X.K X.mg X.base k x (spD X.K n φ) dvs) (hr : Room j X.A) (hk : k ≤ j) (hd : dvsD X.K dvs dds) (hn : ∀ ds, (φ ds).isSome = true → ds.length = n) (h : AD X (a :: es) fa) (hg : Gl X x := by rfl)
    (hdb : (x == ("__debug__" : Str)) = false := by decide) (he : starEach (a :: es) X.env = (false, eval a X.env) :: starEach es X.env := by rfl) (hpl : (backTo pos (starEach es X.env)).any (·.1) = false := by rfl) :
    ED X (.Call (.Name x p) (a :: es) [] pos) (x_call φ dds fa) := by
  obtain ⟨f, fd, ps, ds, F, hm, kp, hb, hv⟩ := F
  obtain ⟨t, pa, kk⟩ := h
  exact ⟨_, pe_call F (hr.mono hk) hg hm kp hb hv (E := E0) (fun _ _ _ _ _ _ _ z => z.elim) pa hdb he hpl, call_ok hd hn kk⟩
end
def finR (r : Rs) (e : Ev) : Option Rs := match r with
  | .im d => some (.im d)
  | .ac ds => some (.ac ds)
  | .br i => (match e[i]? with
    | some (some (.ac ds)) => some (.ac ds)
    | _ => none)
def env0 (ds : List PyData) (nl : Nat) : Ev := ds.map (fun d => some (Sl.im d)) ++ List.replicate nl none
def runF (n nl : Nat) (g : Fs) (ds : List PyData) : Option Rs := if ds.length = n then (match g (env0 ds nl) with
  | some (.rt r e) => finR r e
  | some (.nx _) => some (.im .none)
  | _ => none) else none
theorem runF_len {n nl : Nat} {g : Fs} : ∀ ds, (runF n nl g ds).isSome = true → ds.length = n := fun ds h => by
  unfold runF at h
  by_cases z : ds.length = n
  · exact z
  · rw [if_neg z] at h
    cases h
section
variable {K : PySem.W.Frag} {G H : Hp} {vs us : List V} {ds c : List PyData} {nl : Nat}
theorem env0_at {i : Nat} {s : Sl} (h : (env0 ds nl)[i]? = some (some s)) : ∃ d, ds[i]? = some d ∧ s = .im d := by
  unfold env0 at h
  by_cases hi : i < ds.length
  · rw [List.getElem?_append_left (by rw [List.length_map]; exact hi), List.getElem?_map] at h
    cases z : ds[i]? with
    | none => rw [z] at h; cases h
    | some d =>
      rw [z] at h
      cases h
      exact ⟨d, rfl, rfl⟩
  · rw [List.getElem?_append_right (by rw [List.length_map]; omega)] at h
    rw [List.getElem?_replicate] at h
    split at h
    · cases h
    · cases h
theorem st_at {i : Nat} {v : V} {N : List Str} (h : vs[i]? = some v) : (L2.start N vs)[i]? = some (some v) := by
  unfold L2.start
  have hi := (List.getElem?_eq_some_iff.mp h).1
  rw [List.getElem?_append_left (by rw [List.length_map]; exact hi), List.getElem?_map, h]
  rfl
theorem rz_start {N : List Str} (s : Same G H) (q : DpAll K G vs ds) (hl : vs.length + nl = N.length) : Rz K none (Ef.of H) G G (env0 ds nl) (L2.start N vs) H := by
  refine ⟨⟨Same.refl _, s, fun a o z _ => z, fun a z => (by cases z), fun a z _ => z, ?_, fun i d z => ?_, fun i d z => ?_, fun i j di dj p z => ?_, fun i dss z => ?_⟩, fun p z => by cases z⟩
  · unfold env0 L2.start
    simp only [List.length_append, List.length_map, List.length_replicate]
    rw [dpAll_len q] at hl ⊢
    omega
  · obtain ⟨d', z1, z2⟩ := env0_at z
    cases z2
    obtain ⟨v, z3, z4⟩ := dpAll_get q z1
    exact ⟨v, st_at z3, z4⟩
  · obtain ⟨d', z1, z2⟩ := env0_at z
    cases z2
  · obtain ⟨d', z1, z2⟩ := env0_at z
    cases z2
  · obtain ⟨d', z1, z2⟩ := env0_at z
    cases z2
    exact True.intro
end
section
variable {P : Program} {w : World} {K : PySem.W.Frag} {mg : Str → Option Value} {base : Heap} {x qual : Str} {params : Arguments} {body : List Stmt} {scope : Scope} {dvs : List V} {kws : List (Str × V)} {f : Addr} {fd : FuncData} {N ps : List Str} {k n nl : Nat} {g : Fs}
theorem fnD (F : FunD K x qual params body scope dvs kws f fd) (S : FnScope N ps scope) (hp : ps.length = n) (hl : n + nl = N.length)
    (hb : ∀ (cdv : Value) (A : Around) (outer : List Env) (s : Shared) (H : Hp) (E : XK), Room k (A.deeper (envOfC qual scope s.heap.objs.size f cdv)) → SsD (cxOf CX0 P w K mg base N qual scope f cdv A outer s H E).nox body g) :
    FnOk P w K mg base CX0 (k + 1) f fd ps (spD K n (runF n nl g)) := by
  refine F.ok S (fun vs H Q E h => ?_) fun cdv A outer s H vs Q E hr h => ?_
  · obtain ⟨_, _, _, _, _, h, _⟩ := h
    rw [h, hp]
  · obtain ⟨t, pt, kt⟩ := hb cdv A outer s H E hr
    obtain ⟨G, ds, r, s1, hd, hv, hr2, hQ⟩ := h
    refine ⟨t, pt.nox, ?_⟩
    have Rz0 : Rz K none (Ef.of H) G G (env0 ds nl) (L2.start N vs) H := rz_start s1 hd (by omega)
    unfold runF at hr2
    rw [if_pos (by rw [← dpAll_len hd]; exact hv)] at hr2
    split at hr2
    · rename_i r' e' h1
      refine kt none (Ef.of H) G G _ _ H _ _ Rz0 h1 fun v G' σ' H' s2 R' V' => ?_
      have hh : Same H H' := fun a o z => R'.r.eh a o z (by simp)
      have nw : ∀ a, G a = none → H a ≠ none → G' a = none := R'.r.nw
      refine hQ v G' H' s2 R'.r.gh hh nw ?_
      unfold finR at hr2
      cases r' with
      | im d =>
        cases hr2
        exact V'
      | ac d =>
        cases hr2
        obtain ⟨p, ws, a1, a2, a3, a4, a5, _⟩ := V'
        exact ⟨p, ws, a1, a2, a3, a4, a5⟩
      | br i =>
        dsimp only at hr2
        split at hr2
        · rename_i d h2
          cases hr2
          obtain ⟨d', b1, b2⟩ := V'
          obtain ⟨p, ws, a1, a2, a3, a4, a5⟩ := R'.r.ac i d h2
          rw [a1] at b2
          cases b2
          have a5 : H p = none := by
            rcases a5 with a5 | a5
            · exact a5
            · cases a5.1
          exact ⟨p, ws, rfl, a5, a2, a3, a4⟩
        · cases hr2
    · rename_i e' h1
      cases hr2
      refine kt none (Ef.of H) G G _ _ H _ _ Rz0 h1 fun G' σ' H' s2 R' => ?_
      exact hQ .non G' H' s2 R'.r.gh (fun a o z => R'.r.eh a o z (by simp)) R'.r.nw .non
    · cases hr2
end
end DL
namespace DL
open PySem PySem.Spec PyProof.Rows L2
end DL
namespace DL
open PySem PySem.Spec PySem.W PyProof.Rows L2 Calls
def tI (k : List Int) : PyData := .tuple (k.map PyData.int)
end DL
namespace DL
open PySem PySem.Spec PyProof.Rows L2
theorem enumNew1 {v : Value} {ob : Obj} {P : Heap → Prop} (B : Begins v ob P) :
    Meets (Builtin.«enumerate.__new__» ⟨[.type "enumerate", v], []⟩) fun _ R st => P st.heap ∧
      R (.ok (.ret (.ref (st.heap.push ob).objs.size))) { st with heap := (st.heap.push ob).push { cls := .type "enumerate", data := .fields #[.none, .bool false, .ref st.heap.objs.size, rawInt 0, .none, .none] } } :=
  .of_wp fun pr wo Ar R st z => by
    obtain ⟨he, ge, dr, to, oo⟩ := st
    obtain ⟨z1, z2⟩ := z
    have sb := sub_enumerate
    have it1 : ∀ {A' : Around} {E' : Value → Shared → Prop} {Q' : Value → Shared → Prop}, Q' (.ref he.objs.size) ⟨he.push ob, ge, dr, to, oo⟩ → wpAny (model pr wo) A' (pyIter v) Q' E' ⟨he, ge, dr, to, oo⟩ := fun y => B.iter pr wo _ _ ⟨he, ge, dr, to, oo⟩ _ z1 y
    wp_walk using it1
    refine wpAny_stack_any fun sk => wpAny_pure ?_
    split
    · rename_i cc _ _ _ _ _
      cases (cc == Value.type "enumerate") <;> (wp_walk using it1; exact ⟨_, rfl, z2⟩)
    · wp_walk using it1
      exact ⟨_, rfl, z2⟩
theorem enumCall1 {prog : Program} {w : World} {A : Around} {E : Value → Shared → Prop} {s : Shared} {v : Value} {ob : Obj} {P : Heap → Prop} {Q : Value → Shared → Prop} (B : Begins v ob P) (h1 : P s.heap)
    (h : ∀ g, IsEnum g (s.heap.objs.size + 1) s.heap.objs.size 0 .none → g.get? s.heap.objs.size = some ob → (∀ b u, s.heap.get? b = some u → g.get? b = some u) → Q (.ref (s.heap.objs.size + 1)) { s with heap := g }) :
    wpAny (model prog w) A (call (.type "enumerate") [v]) Q E s := by
  refine callType_new F.called_enumerate (by decide) (F.typeCall_enumerate_1 _) (F.newCall_enumerate_1 _) (fun x => F.args_object_init_2 x _) F.entry_enumerate_new (enumNew1 B) ⟨h1, ?_⟩
  have sz : (s.heap.push ob).objs.size = s.heap.objs.size + 1 := Heap.size_push ..
  have old : ∀ b u, s.heap.get? b = some u → ((s.heap.push ob).push { cls := .type "enumerate", data := .fields #[.none, .bool false, .ref s.heap.objs.size, rawInt 0, .none, .none] }).get? b = some u := fun b u y => Heap.get?_push_of_some _ (Heap.get?_push_of_some _ y)
  have en := Heap.get?_push_size (s.heap.push ob) (o := { cls := .type "enumerate", data := .fields #[.none, .bool false, .ref s.heap.objs.size, rawInt 0, .none, .none] }) rfl
  show _ ∧ _
  rw [sz] at en ⊢
  exact ⟨⟨_, en, rfl⟩, h _ en (Heap.get?_push_of_some _ (Heap.get?_push_size _ B.free)) old⟩
/-- the tuple at a, each item in a new pair -/
def ItE (K : PySem.W.Frag) (a : Addr) : It where
  go := fun i H => ∃ xs x, SqT K H a xs ∧ xs[i]? = some x
  yld := fun i H v H' => ∃ T x, v = .ref T ∧ H T = none ∧ H' = upd H T (.tup [.int (i : Nat), x]) ∧ ∀ xs, SqT K H a xs → xs[i]? = some x
  stop := fun i H => ∃ xs : List V, SqT K H a xs ∧ xs.length = i
theorem turn_enumT {P : Program} {w : World} {K : PySem.W.Frag} {elts : List Expr} {kk : Nat} {tpos : Pos} (a e it : Addr) :
    Turn P w K (.Tuple elts kk tpos) (ItE K a) [e, it] e fun i h => (∃ old, IsEnum h e it ((i : Nat) : Int) old) ∧ h.IsTupleIter it a i ∧ e ≠ it ∧ a ≠ it ∧ a ≠ e where
  mem := List.mem_cons_self
  obj := fun i h ⟨⟨old, z1⟩, ⟨o, z2, z3, z4⟩, _⟩ b hb => by
    rcases List.mem_cons.mp hb with y | y
    · subst y
      exact ⟨_, z1, fun v q => nomatch q⟩
    · rw [List.mem_singleton.mp y]
      exact ⟨o, z2, fun v q => by rw [z4] at q; cases q⟩
  keep := fun i h h' ⟨⟨old, z1⟩, z2, z3⟩ k => ⟨⟨old, k e List.mem_cons_self _ z1⟩, z2.at fun o q => k it (List.mem_cons_of_mem _ List.mem_cons_self) o q, z3⟩
  item := by
    intro X e1 e2 e3 hc i pins s σ H E I hf ⟨⟨old, z1⟩, z2, z3, z4, z5⟩ ⟨xs, x, hq, hx⟩
    subst e1 e2 e3
    obtain ⟨its, rv, tp, hz⟩ := I.tuple hq
    obtain ⟨u, hu, ru⟩ := rv.get hx
    have li : i < its.toArray.size := by
      rw [List.size_toArray]
      exact (List.getElem?_eq_some_iff.mp hu).1
    have le : e < s.heap.objs.size := Heap.lt_size z1
    have lt : it < s.heap.objs.size := by
      obtain ⟨_, q, _⟩ := z2
      exact Heap.lt_size q
    have D := Draws.tuple (prog := X.prog) (w := X.w) (A := X.A.in1) (by exact I.ok.hd hc) it a z4 its.toArray
    refine wpAny_pyNext_enum_itemD D z1 ⟨z2, tp⟩ li z3 (by
      intro m
      rcases List.mem_cons.mp m with y | y
      · exact z3 y
      · exact z5 (List.mem_singleton.mp y).symm) fun u2 g tk hu2 eo st gT gs gk => ?_
    have eu : u2 = u := by
      have y : its.toArray[i]? = some u2 := hu2
      rw [List.getElem?_toArray, hu] at y
      exact (Option.some.inj y).symm
    subst eu
    refine ⟨_, rfl, wpAny_letOwnedTupleGo_enum (s := { s with heap := g, toks := tk + 1 }) eo fun g2 eo2 sb => ?_⟩
    have nT : s.heap.objs.size ≠ e := Nat.ne_of_gt le
    have gT2 := (sb.2 _ nT).trans gT
    have new : ObjOk X.prog X.w (upd H s.heap.objs.size (.tup [.int (i : Nat), x])) g2 s.heap.objs.size (.tup [.int (i : Nat), x]) := ⟨by show 2 ≤ sizeLine; decide, [.int i tk, u2], .cons ⟨_, rfl⟩ (.cons ru .nil), ⟨_, gT2, rfl, _, rfl⟩⟩
    have out : ∀ {b : Addr}, b ∉ [e, it] → b ≠ e ∧ b ≠ it := fun {b} m => ⟨fun y => m (by rw [y]; exact List.mem_cons_self), fun y => m (by rw [y]; exact List.mem_cons_of_mem _ List.mem_cons_self)⟩
    have J := I.turnedNew (t' := tk + 1) (ch := [e, it]) (fun b ob m y => (sb.2 b (out m).1).trans (gk b ob (out m).1 (out m).2 y)) hf (Nat.le_refl _) new
    refine ⟨.ref s.heap.objs.size, _, J, rfl, ⟨_, x, rfl, I.hok.fresh (Nat.le_refl _), rfl, fun ys hy => by rw [I.tuple_inj hy hq]; exact hx⟩, ⟨⟨u2, ?_⟩, st.1.at fun o q => (sb.2 it z3.symm).trans q, z3, z4, z5⟩, fun b m => ?_⟩
    · rw [show (((i + 1 : Nat) : Nat) : Int) = (i : Int) + 1 by omega]
      exact eo2
    · have lb : b < s.heap.objs.size := by
        rcases List.mem_cons.mp m with y | y
        · rw [y]; exact le
        · rw [List.mem_singleton.mp y]; exact lt
      rw [upd_ne (Nat.ne_of_lt lb)]
      exact (hf b m).1
  done := by
    intro X e1 e2 e3 hc i pins s σ H E I hf ⟨⟨old, z1⟩, z2, z3, z4, z5⟩ ⟨xs, hq, hx⟩
    subst e1 e2 e3
    obtain ⟨its, rv, tp, hz⟩ := I.tuple hq
    have le : e < s.heap.objs.size := Heap.lt_size z1
    have D := Draws.tuple (prog := X.prog) (w := X.w) (A := X.A.in1) (by exact I.ok.hd hc) it a z4 its.toArray
    obtain ⟨f0, f1, f2, f3, f4, f5⟩ := hf it (List.mem_cons_of_mem _ List.mem_cons_self)
    have big : its.toArray.size = i := by
      rw [List.size_toArray, ← rv.length]
      exact hx
    rw [← big] at z2
    exact wpAny_pyNext_enum_endD D z1 ⟨z2, tp⟩ fun g eb => ⟨rfl, I.turned (t' := s.toks) (fun b o m y => eb b o m y) f0 f1 f3 f4 f5⟩
  self := fun A i s Q E ⟨⟨_, z⟩, _⟩ h => wpAny_pyIter_enum z h
def iEnumT (K : PySem.W.Frag) (ta : TA) : TI := fun σ H R => ta σ H fun vs H1 => ∃ a xs, vs = [.ref a] ∧ SqT K H1 a xs ∧ R (ItE K a) H1
theorem pi_enumT {X : Cx} {e : Expr} {ta : TA} {p pos tpos : Pos} {elts : List Expr} {kk : Nat} (hg : Gl X "enumerate") (hm : X.mg "enumerate" = none) (ha : PA X [e] ta) (hs : starEach [e] X.env = [(false, eval e X.env)] := by rfl) :
    PI X (.Tuple elts kk tpos) (.Call (.Name "enumerate" p) [e] [] pos) (iEnumT X.K ta) := by
  refine ⟨fun pins s σ H R I h => Call_ (ld_blt I hg hm boot_enumerate (callWith_type1 (thn (ha.run pos pins s σ H _ I h) fun us s1 z => ?_) hs rfl))⟩
  obtain ⟨vs, H1, I1, r1, a, xs, rfl, hq, q⟩ := z
  rw [Vals.ref1 r1]
  obtain ⟨its, rv, tp, hz⟩ := I1.tuple hq
  have la : a < s1.heap.objs.size := by
    obtain ⟨o, ho, _⟩ := tp
    exact Heap.lt_size ho
  refine enumCall1 (begins_tuple a its.toArray) tp fun g z1 z2 z3 => wpAny_pyIter_enum z1 ?_
  have nn : ∀ b ∈ [s1.heap.objs.size + 1, s1.heap.objs.size], s1.heap.objs.size ≤ b := fun b m => by
    rcases List.mem_cons.mp m with y | y
    · omega
    · rw [List.mem_singleton.mp y]
      exact Nat.le_refl _
  exact ⟨_, _, _, _, H1, rfl, I1.kept (t' := s1.toks) z3, turn_enumT a (s1.heap.objs.size + 1) s1.heap.objs.size, ⟨⟨.none, z1⟩, ⟨_, z2, rfl, rfl⟩, Nat.succ_ne_self _, Nat.ne_of_lt la, Nat.ne_of_lt (Nat.lt_succ_of_lt la)⟩, fun b m => I1.fpOk (nn b m) (I1.hok.fresh (nn b m)), q⟩
def enumD (ds : List PyData) : List PyData := (List.range ds.length).zipWith (fun (i : Nat) d => PyData.tuple [.int (i : Int), d]) ds
theorem enumD_at {ds : List PyData} {i : Nat} {d : PyData} (h : (enumD ds)[i]? = some d) : ∃ x, ds[i]? = some x ∧ d = .tuple [.int (i : Int), x] := by
  unfold enumD at h
  rw [List.getElem?_zipWith] at h
  cases z1 : (List.range ds.length)[i]? with
  | none => rw [z1] at h; cases h
  | some j =>
    cases z2 : ds[i]? with
    | none => rw [z1, z2] at h; cases h
    | some x =>
      rw [z1, z2] at h
      obtain ⟨y1, y2⟩ := List.getElem?_eq_some_iff.mp z1
      rw [List.getElem_range] at y2
      subst y2
      cases h
      exact ⟨x, rfl, rfl⟩
theorem enumD_len {ds : List PyData} : (enumD ds).length = ds.length := by
  unfold enumD
  rw [List.length_zipWith, List.length_range, Nat.min_self]
section
variable {K : PySem.W.Frag} {G0 : Hp} {a : Addr} {xs : List V} {ds : List PyData}
theorem walk_enumT (h : SqT K G0 a xs) (q : DpAll K G0 xs ds) : WalkD K G0 (ItE K a) (enumD ds) := by
  intro G H s1 s2
  have hq : SqT K H a xs := seqT (s1.trans s2) h
  refine ⟨fun i d e => ?_, xs, hq, by rw [enumD_len, dpAll_len q]⟩
  obtain ⟨x, e1, rfl⟩ := enumD_at e
  obtain ⟨v, e2, e3⟩ := dpAll_get q e1
  refine ⟨⟨xs, v, hq, e2⟩, fun u H2 ⟨T, y, z1, z2, z3, z4⟩ => .inr ⟨T, [.int (i : Nat), y], _, z1, z2, z3, rfl, ?_⟩⟩
  have z5 := z4 xs hq
  rw [e2] at z5
  cases z5
  exact .cons (.int _) (.cons (dp_same s1 e3) .nil)
theorem walk_enumL (h : SqL K G0 a xs) (q : DpAll K G0 xs ds) : WalkD K G0 (Ite K a) (enumD ds) := by
  intro G H s1 s2
  have hq : SqL K H a xs := (s1.trans s2).seq h
  refine ⟨fun i d e => ?_, xs, hq, by rw [enumD_len, dpAll_len q]; exact Nat.le_refl _⟩
  obtain ⟨x, e1, rfl⟩ := enumD_at e
  obtain ⟨v, e2, e3⟩ := dpAll_get q e1
  refine ⟨⟨xs, v, hq, e2⟩, fun u H2 ⟨T, y, z1, z2, z3, z4⟩ => .inr ⟨T, [.int (i : Nat), y], _, z1, z2, z3, rfl, ?_⟩⟩
  have z5 := z4 xs hq
  rw [e2] at z5
  cases z5
  exact .cons (.int _) (.cons (dp_same s1 e3) .nil)
end
def i_enum (f : Fe) : Fi := fun e => match i_seq f e with
  | some (ds, e1) => some (enumD ds, e1)
  | none => none
theorem id_enum {X : Cx} {a : Expr} {fa : Fe} {pos p tpos : Pos} {elts : List Expr} {kk : Nat} (ha : ED X a fa) (hm : X.mg "enumerate" = none) (hg : Gl X "enumerate" := by rfl) (hs : starEach [a] X.env = [(false, eval a X.env)] := by rfl) :
    ID X (.Tuple elts kk tpos) (.Call (.Name "enumerate" p) [a] [] pos) (i_enum fa) := by
  obtain ⟨t, pa, k⟩ := ha
  refine ⟨_, pi_or (pi_enum hg hm (pa_cons pa pa_nil hs) hs) (pi_enumT hg hm (pa_cons pa pa_nil hs) hs), fun m E G0 G e σ H ds e' Q R q P => ?_⟩
  unfold i_enum at q
  cases h1 : i_seq fa e with
  | none => rw [h1] at q; cases q
  | some z =>
    obtain ⟨ds0, e1⟩ := z
    rw [h1] at q
    cases q
    obtain ⟨r, q1, q2⟩ := i_seq_ok h1
    rcases q2 with q2 | q2
    · refine .inl (k m E G0 G e σ H r _ _ R q1 fun v G1 H1 R1 S1 V1 N1 => ?_)
      obtain ⟨G2, R2, S2, s2, V2⟩ := R1.freeze S1 V1 N1
      rw [q2] at V2
      have V3 : Dp X.K G2 v (.list ds0) := V2
      cases V3 with
      | lst h z => exact ⟨_, _, rfl, R2.gh.seq h, P _ _ _ R2 S2 (walk_enumL h z)⟩
    · refine .inr (k m E G0 G e σ H r _ _ R q1 fun v G1 H1 R1 S1 V1 N1 => ?_)
      obtain ⟨G2, R2, S2, s2, V2⟩ := R1.freeze S1 V1 N1
      rw [q2] at V2
      have V3 : Dp X.K G2 v (.tuple ds0) := V2
      cases V3 with
      | tup h z => exact ⟨_, _, rfl, seqT R2.gh h, P _ _ _ R2 S2 (walk_enumT h z)⟩
end DL
namespace DL
open PySem PySem.Spec PySem.W PyProof.Rows L2
theorem fold_maxI : ∀ (r : List Int) (a b : Int), r.foldl max (max a b) = max a (r.foldl max b)
  | [], _, _ => rfl
  | c :: r, a, b => by
    rw [List.foldl_cons, List.foldl_cons, show max (max a b) c = max a (max b c) by omega]
    exact fold_maxI r a (max b c)
theorem maxI_fold : ∀ (r : List Int) (a : Int), r.foldl max a = maxI (a :: r)
  | [], _ => rfl
  | b :: r, a => by
    rw [List.foldl_cons, fold_maxI, maxI_fold r b]
    rfl
theorem alikeAll_ints (ns : List Int) : AlikeAll (ns.map PyData.int) := by
  refine ⟨fun x hx y hy => ?_, fun x hx => ?_⟩
  · obtain ⟨i, _, rfl⟩ := List.mem_map.mp hx
    obtain ⟨j, _, rfl⟩ := List.mem_map.mp hy
    rfl
  · obtain ⟨i, _, rfl⟩ := List.mem_map.mp hx
    exact fun z => by cases z
section
variable {X : Cx}
def rMaxT (K : PySem.W.Frag) : List V → Hp → VK → Prop := fun vs H Q => ∃ (a : Addr) (n : Int) (ns : List Int), vs = [.ref a] ∧ SqT K H a ((n :: ns).map V.int) ∧ Q (.int (maxI (n :: ns))) H
theorem cr_maxT (hc : X.calm = true) (hu : X.A.units + 64 < cLine) : CallR X (.builtin "max") (rMaxT X.K) := by
  intro pins s σ H vs us Q I r h
  obtain ⟨a, n, ns, rfl, hs, q⟩ := h
  obtain ⟨its, rv, tp, hz⟩ := I.tuple hs
  rw [Vals.ref1 r]
  obtain ⟨as, hr⟩ := L2.Dp.readsAll I _ _ its ((dpAll_ints (n :: ns)).lib (noDict_ints _)) rv
  refine max_tuple_data (x := .int n) (xs := ns.map PyData.int) (as := as) (I.ok.hd hc) tp hr (alikeAll_ints (n :: ns)) (by
    have z := depth_ints (n :: ns)
    rw [List.map_cons] at z
    rw [z]
    omega) fun i v g tk bs _ rd hk => ?_
  rw [maxD_ints, maxI_fold] at rd
  cases rd with
  | int _ t => exact ⟨.int _, H, I.kept hk, ⟨t, rfl⟩, q⟩
end
def c_intsT (g : List Int → Option Rs) : List PyData → Option Rs
  | [.tuple ds] => (match unI ds with
    | some ns => g ns
    | none => none)
  | _ => none
theorem intsT_ok {g : List Int → Option Rs} {ds : List PyData} {r : Rs} (q : c_intsT g ds = some r) : ∃ ns, ds = [.tuple (ns.map PyData.int)] ∧ g ns = some r := by
  unfold c_intsT at q
  split at q
  · rename_i es
    split at q
    · rename_i ns h
      rw [unI_ok h]
      exact ⟨ns, rfl, q⟩
    · cases q
  · cases q
def c_maxT : List PyData → Option Rs := c_intsT fun ns => if ns.isEmpty = true then none else some (.im (.int (maxI ns)))
section
variable {K : PySem.W.Frag}
theorem lv_intsT {G H : Hp} {vs : List V} {ns : List Int} (s : Same G H) (l : LvAll K G H vs [.tuple (ns.map PyData.int)]) : ∃ p, vs = [.ref p] ∧ SqT K H p (ns.map V.int) := by
  obtain ⟨v, rfl, lv⟩ := lv1 l
  obtain ⟨p, ws, rfl, s1, k⟩ := lv.tup s
  rw [dp_ints k] at s1
  exact ⟨p, rfl, s1⟩
theorem vc_maxT : VC K (rMaxT K) c_maxT := by
  intro m E G0 G e σ H vs ds rr Q R l q P
  obtain ⟨ns, rfl, q2⟩ := intsT_ok q
  clear q
  obtain ⟨p, rfl, s1⟩ := lv_intsT R.gh l
  cases ns with
  | nil => cases q2
  | cons a r =>
    cases q2
    exact ⟨p, a, r, rfl, s1, P.now R (.int _) True.intro⟩
end
def c_maxA : List PyData → Option Rs := orC c_max c_maxT
theorem vc_maxA {K : PySem.W.Frag} : VC K (fun vs H Q => rMax K vs H Q ∨ rMaxT K vs H Q) c_maxA := VC.or vc_max vc_maxT
theorem cr_maxA {X : Cx} (hc : X.calm = true) (hu : X.A.units + 64 < cLine) : CallR X (.builtin "max") (fun vs H Q => rMax X.K vs H Q ∨ rMaxT X.K vs H Q) := CallR.or (cr_max hc) (cr_maxT hc hu)
def rgOkB (a b : Int) : Bool := decide (-(2 ^ 62) ≤ a) && (decide (a < 2 ^ 62) && (decide (-(2 ^ 62) ≤ b) && (decide (b < 2 ^ 62) && decide ((b - a).toNat ≤ 2 ^ 24))))
theorem rgOkB_ok {a b : Int} (h : rgOkB a b = true) : RgOk a b := by
  unfold rgOkB at h
  simp only [Bool.and_eq_true, decide_eq_true_eq] at h
  exact h
def rgL (a b : Int) : List PyData := (List.range (b - a).toNat).map fun (j : Nat) => PyData.int (a + (j : Int))
theorem rgV_dp {K : PySem.W.Frag} {G : Hp} (a b : Int) : DpAll K G (rgV a b) (rgL a b) := by
  unfold rgV rgL
  induction (List.range (b - a).toNat) with
  | nil => exact .nil
  | cons i r ih => exact .cons (.int _) ih
abbrev Fg := Ev → Option (Int × Int × Ev)
def g_rg2 (fa fb : Fe) : Fg := fun e => match fa e with
  | some (.im (.int a), e1) => (match fb e1 with
    | some (.im (.int b), e2) => some (a, b, e2)
    | _ => none)
  | _ => none
structure RgD (X : Cx) (x : Expr) (f : Fg) : Prop where
  ex : ∃ t, PRg X x t ∧ ∀ (m : Option Addr) (E : Ef) (G0 G : Hp) (e : Ev) (σ : St) (H : Hp) (a b : Int) (e' : Ev) (Q : Int → Int → Hp → Prop),
    Rl X.K m E G0 G e σ H → f e = some (a, b, e') → (∀ G' H', Rl X.K m E G0 G' e' σ H' → Stp σ G H e G' H' e' → Q a b H') → t σ H Q
section
variable {X : Cx} {a b : Expr} {fa fb : Fe} {p pos : Pos}
theorem rgd2 (ha : ED X a fa) (hb : ED X b fb) (hm : X.mg "range" = none) (hg : Gl X "range" := by rfl) (na : starEach [a, b] X.env = (false, eval a X.env) :: starEach [b] X.env := by rfl) (nb : starEach [b] X.env = (false, eval b X.env) :: starEach [] X.env := by rfl)
    (hp : (backTo pos (starEach [b] X.env)).any (·.1) = false := by rfl) : RgD X (.Call (.Name "range" p) [a, b] [] pos) (g_rg2 fa fb) := by
  obtain ⟨t, pa, k⟩ := ha
  obtain ⟨t2, pb, k2⟩ := hb
  refine ⟨_, prg_2 hg hm pa pb na nb hp, fun m E G0 G e σ H i j e' Q R q P => ?_⟩
  unfold g_rg2 at q
  split at q
  · rename_i a1 e1 h1
    split at q
    · rename_i b1 e2 h2
      cases q
      refine k m E G0 G e σ H _ _ _ R h1 fun v G1 H1 R1 S1 V1 _ => ?_
      cases V1
      refine k2 m E G0 G1 e1 σ H1 _ _ _ R1 h2 fun v G2 H2 R2 S2 V2 _ => ?_
      cases V2
      exact ⟨_, _, rfl, rfl, P _ _ R2 (S1.trans S2)⟩
    · cases q
  · cases q
def x_lrg (f : Fg) : Fe := fun e => match f e with
  | some (a, b, e1) => if rgOkB a b = true then some (.ac (rgL a b), e1) else none
  | none => none
theorem ed_lrg {f : Fg} (h : RgD X a f) (hc : X.calm = true) (hm : X.mg "list" = none) (hg : Gl X "list" := by rfl) (na : starEach [a] X.env = (false, eval a X.env) :: starEach [] X.env := by rfl) : ED X (.Call (.Name "list" p) [a] [] pos) (x_lrg f) := by
  obtain ⟨t, pr, k⟩ := h
  refine ⟨_, pe_listRg hc hg hm pr na, fun m E G0 G e σ H r e' Q R q P => ?_⟩
  unfold x_lrg at q
  split at q
  · rename_i i j e1 h1
    by_cases z : rgOkB i j = true
    · rw [if_pos z] at q
      cases q
      refine k m E G0 G e σ H i j _ _ R h1 fun G1 H1 R1 S1 => ⟨rgOkB_ok z, fun l hl => ?_⟩
      obtain ⟨R', S', V', N'⟩ := R1.newL hl (rgV_dp (K := X.K) (G := G1) i j)
      exact P _ _ _ R' (S1.trans S') V' (nw_back S1 _ N')
    · rw [if_neg z] at q
      cases q
  · cases q
end
end DL
namespace DL
open PySem PySem.Spec PySem.W PyProof.Rows L2 Calls
end DL
namespace DL
open PySem PySem.Spec PySem.W PyProof.Rows L2 Calls
end DL
namespace DL
open PySem PySem.Spec PySem.W PyProof.Rows L2
/-- fuel for a loop that goes down by the int in a slot -/
def fuI (j : Nat) (e : Ev) : Nat := match e[j]? with
  | some (some (.im (.int i))) => i.toNat + 1
  | _ => 0
/-- a def under its name, every parameter written -/
theorem kfN {P : Program} {w : World} {K : PySem.W.Frag} {mg : Str → Option Value} {base : Heap} {x qual : Str} {params : Arguments} {body : List Stmt} {scope : Scope} {kws : List (Str × V)} {f : Addr} {fd : FuncData} {k : Nat} {sp : Sp} {ps : List Str}
    (F : FunD K x qual params body scope [] kws f fd) (ok : FnOk P w K mg base CX0 k f fd ps sp) (g : mg x = some (.ref f))
    (h : ∀ (kV doc pm : Value) (an : Option Addr) (cdv ct : Value) (us : List Value), us.length = ps.length → bindArgs (PySem.W.fnOf x qual params body scope .none kV doc pm an cdv ct) ⟨us, []⟩ = pure (ps.zip us)) : Kf P w K mg base k x sp [] :=
  ⟨f, fd, ps, [], ok, g, F.kp, F.bindsN h, .nil⟩
/-- .. the defaults behind the first j fill up -/
theorem kfD {P : Program} {w : World} {K : PySem.W.Frag} {mg : Str → Option Value} {base : Heap} {x qual : Str} {params : Arguments} {body : List Stmt} {scope : Scope} {dvs dvs' : List V} {kws : List (Str × V)} {f : Addr} {fd : FuncData} {k : Nat} {sp : Sp} {ps : List Str}
    (F : FunD K x qual params body scope dvs kws f fd) (ok : FnOk P w K mg base CX0 k f fd ps sp) (g : mg x = some (.ref f)) (b : ∃ ds, Vals dvs' ds ∧ Binds K fd ps ds) : Kf P w K mg base k x sp dvs' := by
  obtain ⟨ds, h1, h2⟩ := b
  exact ⟨f, fd, ps, ds, ok, g, F.kp, h2, h1⟩
end DL
namespace DL
open PySem PySem.Spec PySem.W PyProof.Rows L2
def nD (n : Nat) : PyData := .int (n : Int)
section
variable {i j : Int}
theorem e_add : p_add (.int i) (.int j) = some (.im (.int (i + j))) := rfl
theorem e_sub : p_sub (.int i) (.int j) = some (.im (.int (i - j))) := rfl
theorem e_eq : p_eq (.int i) (.int j) = some (.im (.bool (decide (i = j)))) := by
  show some (Rs.im (.bool (i == j))) = _
  rw [Bool.beq_eq_decide_eq]
theorem e_ne : p_ne (.int i) (.int j) = some (.im (.bool (!decide (i = j)))) := by
  show some (Rs.im (.bool (!(i == j)))) = _
  rw [Bool.beq_eq_decide_eq]
theorem e_mod (h : 0 < j) : p_mod (.int i) (.int j) = some (.im (.int (i % j))) := by
  show ((if decide (0 < j) = true then some (PyData.int (i % j)) else none).map Rs.im) = _
  rw [if_pos (decide_eq_true h)]
  rfl
theorem e_divW (h : 0 < j) (h2 : j.natAbs.log2 < 9000) : p_div (.int i) (.int j) = some (.im (.int (i / j))) := by
  show ((if divC i j = true then some (PyData.int (i / j)) else none).map Rs.im) = _
  rw [show divC i j = true from decide_eq_true ⟨h, h2⟩]
  rfl
theorem log_few {j : Int} (h : 0 < j) (h2 : j < 1073741824) : j.natAbs.log2 < 9000 := Nat.lt_trans ((Nat.log2_lt (by omega)).mpr (show j.natAbs < 2 ^ 30 by omega)) (by decide)
theorem e_div (h : 0 < j) (h2 : j < 1073741824) : p_div (.int i) (.int j) = some (.im (.int (i / j))) := e_divW h (log_few h h2)
theorem e_mul (h : (-18446744073709551616 < i ∧ i < 18446744073709551616) ∨ (-18446744073709551616 < j ∧ j < 18446744073709551616)) : p_mul (.int i) (.int j) = some (.im (.int (i * j))) := by
  unfold p_mul orF
  have e : (d_int2 (fun i j => .int (i * j)) mulC (.int i) (.int j)).map Rs.im = some (.im (.int (i * j))) := by
    show ((if mulC i j = true then some (PyData.int (i * j)) else none).map Rs.im) = _
    rw [show mulC i j = true from decide_eq_true h]
    rfl
  simp only [e]
end
theorem okLen_yes {n : Nat} (h : n ≤ 16777216) : okLen n = true := decide_eq_true h
theorem e_cat {a b : List PyData} (h : a.length + b.length ≤ 16777216) : p_add (.list a) (.list b) = some (.ac (a ++ b)) := by
  show orF _ (orF q_cat q_catT) (.list a) (.list b) = _
  have e : q_cat (.list a) (.list b) = some (.ac (a ++ b)) := if_pos (okLen_yes h)
  simp only [orF, d_int2, Option.map_none, e]
theorem e_catT {a b : List PyData} (h : a.length + b.length ≤ 16777216) : p_add (.tuple a) (.tuple b) = some (.im (.tuple (a ++ b))) := by
  show orF _ (orF q_cat q_catT) (.tuple a) (.tuple b) = _
  have e : q_catT (.tuple a) (.tuple b) = some (.im (.tuple (a ++ b))) := if_pos (okLen_yes h)
  simp only [orF, d_int2, Option.map_none, q_cat, e]
theorem e_eqB {a b : Bool} : p_eq (.bool a) (.bool b) = some (.im (.bool (decide (a = b)))) := by
  cases a <;> cases b <;> rfl
theorem atI_nat {α : Type} (ds : List α) (j : Nat) : atI ds (j : Int) = ds[j]? := by
  unfold atI ixN
  rw [if_pos (by omega)]
  by_cases h : j < ds.length
  · rw [if_pos (by omega)]
    simp
  · rw [if_neg (by omega), List.getElem?_eq_none (by omega)]
    rfl
theorem ixN_nat {n j : Nat} (h : j < n) : ixN n (j : Int) = some j := by
  unfold ixN
  rw [if_pos (by omega), if_pos (by omega)]
  simp
theorem flat_ints (ns : List Int) : (ns.map PyData.int).all flatD = true := by
  rw [List.all_eq_true]
  intro d m
  obtain ⟨i, _, rfl⟩ := List.mem_map.mp m
  rfl
theorem inD_ints (x : Int) : ∀ ns : List Int, inD (.int x) (ns.map PyData.int) = decide (x ∈ ns)
  | [] => by simp [inD]
  | n :: ns => by
    have ih := inD_ints x ns
    unfold inD at ih ⊢
    rw [List.map_cons, List.any_cons, ih]
    simp only [PyData.eqv, List.mem_cons]
    by_cases h : n = x
    · subst h
      simp
    · have h2 : ¬ x = n := fun z => h z.symm
      simp [h, h2]
theorem e_in (x : Int) (ns : List Int) : p_in (.int x) (.list (ns.map PyData.int)) = some (.im (.bool (decide (x ∈ ns)))) := by
  show (if (flatD (.int x) && (ns.map PyData.int).all flatD) = true then some (Rs.im (.bool (inD (.int x) (ns.map PyData.int)))) else none) = _
  rw [flat_ints, inD_ints]
  rfl
def iN (l : List Nat) : List Int := l.map fun (n : Nat) => (n : Int)
theorem mem_iN {x : Nat} {l : List Nat} : (x : Int) ∈ iN l ↔ x ∈ l := by
  unfold iN
  rw [List.mem_map]
  constructor
  · rintro ⟨y, m, e⟩
    have : y = x := by omega
    rw [← this]
    exact m
  · intro m
    exact ⟨x, m, rfl⟩
theorem unI_ints : ∀ (ns : List Int), unI (ns.map PyData.int) = some ns
  | [] => rfl
  | n :: ns => by
    show (unI (ns.map PyData.int)).map (n :: ·) = _
    rw [unI_ints ns]
    rfl
theorem forGo_nx {γ : PyData → Ev → Option Ev} {S : List Nat} {fb : Fs} (ds : List PyData) (E : Nat → Ev)
    (h : ∀ i d, ds[i]? = some d → okS S (E i) = true ∧ ∃ e2, γ d (E i) = some e2 ∧ (fb e2 = some (.nx (E (i + 1))) ∨ fb e2 = some (.ct (E (i + 1))))) : forGo γ S fb ds (E 0) = some (.nx (E ds.length)) := by
  induction ds generalizing E with
  | nil => rfl
  | cons d ds ih =>
    obtain ⟨h1, e2, h2, h3⟩ := h 0 d rfl
    have q := ih (fun i => E (i + 1)) fun i d hd => h (i + 1) d (by simpa using hd)
    show (if okS S (E 0) = true then _ else none) = _
    rw [if_pos h1, h2]
    rcases h3 with h3 | h3
    · simp only [h3]
      exact q
    · simp only [h3]
      exact q
theorem rest_wipe (e : Ev) (vs : List Nat) : restE e (wipeE e vs) vs = e := by
  refine List.ext_getElem? fun j => ?_
  by_cases h : j ∈ vs
  · rw [restE_in (wipeE_len vs) h]
  · rw [restE_out h, wipeE_out h]
end DL
namespace DL
open PySem PySem.Spec PySem.W PyProof.Rows L2
theorem r_x_var (i : Nat) (e : Ev) : x_var i e = (match e[i]? with
  | some (some (.im d)) => some (.im d, e)
  | some (some (.ac _)) => some (.br i, e)
  | _ => none) := of_eq_true (eq_self _)
theorem r_two (fa fb : Fe) (e : Ev) : two fa fb e = (match fa e with
  | some (ra, e1) => (match fb e1 with
    | some (rb, e2) => some (frzR ra, frzR rb, e2)
    | none => none)
  | none => none) := of_eq_true (eq_self _)
theorem r_x_bin (φ : PyData → PyData → Option Rs) (fa fb : Fe) (e : Ev) : x_bin φ fa fb e = (match two fa fb e with
  | some p => (match look2 p with
    | some (a, b, e2) => (match φ a b with
      | some r => some (r, e2)
      | none => none)
    | none => none)
  | none => none) := of_eq_true (eq_self _)
theorem r_t_of (f : Fe) (e : Ev) : t_of f e = (match f e with
  | some (.im (.bool b), e1) => some (b, e1)
  | _ => none) := of_eq_true (eq_self _)
theorem r_t_not (f : Ft) (e : Ev) : t_not f e = (match f e with
  | some (b, e1) => some (!b, e1)
  | none => none) := of_eq_true (eq_self _)
theorem r_t_and (f g : Ft) (e : Ev) : t_and f g e = (match f e with
  | some (true, e1) => g e1
  | some (false, e1) => some (false, e1)
  | none => none) := of_eq_true (eq_self _)
theorem r_t_or (f g : Ft) (e : Ev) : t_or f g e = (match f e with
  | some (true, e1) => some (true, e1)
  | some (false, e1) => g e1
  | none => none) := of_eq_true (eq_self _)
theorem r_x_and (f g : Fe) (e : Ev) : x_and f g e = (match f e with
  | some (.im (.bool true), e1) => g e1
  | some (.im (.bool false), e1) => some (.im (.bool false), e1)
  | _ => none) := of_eq_true (eq_self _)
theorem r_x_not (f : Fe) (e : Ev) : x_not f e = (match f e with
  | some (.im (.bool b), e1) => some (.im (.bool !b), e1)
  | _ => none) := of_eq_true (eq_self _)
theorem r_x_chain (φ ψ : PyData → PyData → Option Rs) (fa fb fc : Fe) (e : Ev) : x_chain φ ψ fa fb fc e = (match two fa fb e with
  | some p => (match look2 p with
    | some (a, b, e2) => (match φ a b with
      | some (.im (.bool true)) => (match fc e2 with
        | some (rc, e3) => (match lookR e3 p.2.1, lookR e3 (frzR rc) with
          | some b, some c => (match ψ b c with
            | some r => some (r, e3)
            | none => none)
          | _, _ => none)
        | none => none)
      | some (.im (.bool false)) => some (.im (.bool false), e2)
      | _ => none)
    | none => none)
  | none => none) := of_eq_true (eq_self _)
theorem r_a_cons (fa : Fe) (fr : Fa) (e : Ev) : a_cons fa fr e = (match fa e with
  | some (r, e1) => (match fr e1 with
    | some (rs, e2) => some (frzR r :: rs, e2)
    | none => none)
  | none => none) := of_eq_true (eq_self _)
theorem r_argsD (fa : Fa) (e : Ev) : argsD fa e = (match fa e with
  | some (rs, e1) => (match lookAll e1 rs with
    | some ds => some (ds, e1)
    | none => none)
  | none => none) := of_eq_true (eq_self _)
theorem r_argsI (fa : Fa) (e : Ev) : argsI fa e = (match fa e with
  | some (rs, e1) => (match imAll rs with
    | some ds => some (ds, e1)
    | none => none)
  | none => none) := of_eq_true (eq_self _)
theorem r_x_tup (fa : Fa) (e : Ev) : x_tup fa e = (match argsI fa e with
  | some (ds, e1) => if okLen ds.length = true then some (.im (.tuple ds), e1) else none
  | none => none) := of_eq_true (eq_self _)
theorem r_x_lst (fa : Fa) (e : Ev) : x_lst fa e = (match argsI fa e with
  | some (ds, e1) => if okLen ds.length = true then some (.ac ds, e1) else none
  | none => none) := of_eq_true (eq_self _)
theorem r_x_rep (fa : Fa) (fb : Fe) (e : Ev) : x_rep fa fb e = (match argsI fa e with
  | some (ds, e1) => (match fb e1 with
    | some (.im (.int k), e2) => if (okLen ds.length && (decide (-9223372036854775808 ≤ k ∧ k < 9223372036854775808) && okLen (ds.length * k.toNat))) = true then some (.ac (List.replicate k.toNat ds).flatten, e2) else none
    | _ => none)
  | none => none) := of_eq_true (eq_self _)
theorem r_o_at (f : Fe) (e : Ev) : o_at f e = (match f e with
  | some (.im (.int i), e1) => some (some i, e1)
  | _ => none) := of_eq_true (eq_self _)
theorem r_x_sl (fa : Fe) (fl fh : Fo) (e : Ev) : x_sl fa fl fh e = (match fa e with
  | some (r, e1) => (match fl e1 with
    | some (lo, e2) => (match fh e2 with
      | some (hi, e3) => (match lookR e3 (frzR r) with
        | some d => (match sliced lo hi d with
          | some r2 => some (r2, e3)
          | none => none)
        | none => none)
      | none => none)
    | none => none)
  | none => none) := of_eq_true (eq_self _)
theorem r_x_neg (fa : Fe) (e : Ev) : x_neg fa e = (match fa e with
  | some (.im (.int i), e1) => some (.im (.int (-i)), e1)
  | _ => none) := of_eq_true (eq_self _)
theorem r_x_cb (φ : List PyData → Option Rs) (fa : Fa) (e : Ev) : x_cb φ fa e = (match argsD fa e with
  | some (ds, e1) => (match φ ds with
    | some r => some (r, e1)
    | none => none)
  | none => none) := of_eq_true (eq_self _)
theorem r_x_isi (T : Ty) (f : Fe) (e : Ev) : x_isi T f e = (match f e with
  | some (r, e1) => (match lookR e1 (frzR r) with
    | some d => (match isD T d with
      | some b => some (.im (.bool b), e1)
      | none => none)
    | none => none)
  | none => none) := of_eq_true (eq_self _)
theorem r_i_seq (f : Fe) (e : Ev) : i_seq f e = (match f e with
  | some (r, e1) => (match frzR r with
    | .im (.list ds) => some (ds, e1)
    | .im (.tuple ds) => some (ds, e1)
    | _ => none)
  | none => none) := of_eq_true (eq_self _)
theorem r_i_rng1 (fa : Fe) (e : Ev) : i_rng1 fa e = (match fa e with
  | some (.im (.int j), e1) => if rgC j = true then some (rngD 0 j.toNat 1, e1) else none
  | _ => none) := of_eq_true (eq_self _)
theorem r_i_rng2 (fa fb : Fe) (e : Ev) : i_rng2 fa fb e = (match fa e with
  | some (.im (.int i), e1) => (match fb e1 with
    | some (.im (.int j), e2) => if (rgC i && rgC j) = true then some (rngD i (j - i).toNat 1, e2) else none
    | _ => none)
  | _ => none) := of_eq_true (eq_self _)
theorem r_i_zip (fa fb : Fe) (e : Ev) : i_zip fa fb e = (match two fa fb e with
  | some (.im (.list xs), .im (.list ys), e1) => some (zipD xs ys, e1)
  | some (.im (.tuple xs), .im (.tuple ys), e1) => some (zipD xs ys, e1)
  | _ => none) := of_eq_true (eq_self _)
theorem r_s_seq (f g : Fs) (e : Ev) : s_seq f g e = (match f e with
  | some (.nx e1) => g e1
  | some x => some x
  | none => none) := of_eq_true (eq_self _)
theorem r_s_drop (f : Fe) (e : Ev) : s_drop f e = (match f e with
  | some (_, e1) => some (.nx e1)
  | none => none) := of_eq_true (eq_self _)
theorem r_s_ret (f : Fe) (e : Ev) : s_ret f e = (match f e with
  | some (r, e1) => some (.rt r e1)
  | none => none) := of_eq_true (eq_self _)
theorem r_s_if (c : Ft) (f g : Fs) (e : Ev) : s_if c f g e = (match c e with
  | some (true, e1) => f e1
  | some (false, e1) => g e1
  | none => none) := of_eq_true (eq_self _)
theorem r_s_set (i : Nat) (f : Fe) (e : Ev) : s_set i f e = (match f e with
  | some (r, e1) => if okS [i] e1 = true then (match putA i e1 r with
    | some e2 => some (.nx e2)
    | none => none) else none
  | none => none) := of_eq_true (eq_self _)
theorem r_s_for (fi : Fi) (γ : PyData → Ev → Option Ev) (S : List Nat) (fb : Fs) (e : Ev) : s_for fi γ S fb e = (match fi e with
  | some (ds, e1) => forGo γ S fb ds e1
  | none => none) := of_eq_true (eq_self _)
theorem r_x_app (i : Nat) (fa : Fe) (e : Ev) : x_app i fa e = (if isAc e[i]? = true then (match fa e with
  | some (r, e1) => (match imR (frzR r), e1[i]? with
    | some d, some (some (.ac ds)) => if okLen (ds.length + 1) = true then some (.im .none, e1.set i (some (.ac (ds ++ [d])))) else none
    | _, _ => none)
  | none => none) else none) := of_eq_true (eq_self _)
theorem r_s_put (i : Nat) (fv fk : Fe) (e : Ev) : s_put i fv fk e = (match fv e with
  | some (r, e1) => if isAc e1[i]? = true then (match imR (frzR r), fk e1 with
    | some d, some (.im (.int k), e2) => (match e2[i]? with
      | some (some (.ac ds)) => (match ixN ds.length k with
        | some j => some (.nx (e2.set i (some (.ac (ds.set j d)))))
        | none => none)
      | _ => none)
    | _, _ => none) else none
  | none => none) := of_eq_true (eq_self _)
theorem r_x_call (φ : List PyData → Option Rs) (dds : List PyData) (fa : Fa) (e : Ev) : x_call φ dds fa e = (match argsI fa e with
  | some (ds, e1) => (match φ (ds ++ dds) with
    | some (.im d) => some (.im d, e1)
    | some (.ac cs) => some (.ac cs, e1)
    | _ => none)
  | none => none) := of_eq_true (eq_self _)
theorem r_i_enum (f : Fe) (e : Ev) : i_enum f e = (match i_seq f e with
  | some (ds, e1) => some (enumD ds, e1)
  | none => none) := of_eq_true (eq_self _)
theorem r_g_rg2 (fa fb : Fe) (e : Ev) : g_rg2 fa fb e = (match fa e with
  | some (.im (.int a), e1) => (match fb e1 with
    | some (.im (.int b), e2) => some (a, b, e2)
    | _ => none)
  | _ => none) := of_eq_true (eq_self _)
theorem r_x_lrg (f : Fg) (e : Ev) : x_lrg f e = (match f e with
  | some (a, b, e1) => if rgOkB a b = true then some (.ac (rgL a b), e1) else none
  | none => none) := of_eq_true (eq_self _)
theorem r_s_setF (i : Nat) (f : Fe) (e : Ev) : s_setF i f e = (match f e with
  | some (r, e1) => if okS [i] e1 = true then (match putA i e1 (frzR r) with
    | some e2 => some (.nx e2)
    | none => none) else none
  | none => none) := by
  unfold s_setF s_set
  cases h : f e with
  | none => simp only [h]
  | some z => simp only [h] <;> rfl
end DL
namespace DL
open PySem PySem.Spec PySem.W PyProof.Rows L2
section
variable {f g : Fs} {e e1 : Ev} {r : Rs} {o : Option Fl} {x : Fe} {ds : List PyData} {fi : Fi} {γ : PyData → Ev → Option Ev} {S : List Nat} {fb : Fs} {c : Ft} {b : Bool} {n nl : Nat} {r' : Rs}
theorem sq (h : f e = some (.nx e1)) (k : g e1 = o) : s_seq f g e = o := by
  rw [r_s_seq, h]
  exact k
theorem ifT (h : c e = some (true, e1)) (k : f e1 = o) : s_if c f g e = o := by
  rw [r_s_if, h]
  exact k
theorem ifF (h : c e = some (false, e1)) (k : g e1 = o) : s_if c f g e = o := by
  rw [r_s_if, h]
  exact k
theorem sf (h : fi e = some (ds, e1)) (k : forGo γ S fb ds e1 = o) : s_for fi γ S fb e = o := by
  rw [r_s_for, h]
  exact k
theorem ret (h : x e = some (r, e1)) : s_ret x e = some (.rt r e1) := by
  rw [r_s_ret, h]
theorem setF {i : Nat} {d : PyData} (h : x e = some (r, e1)) (ok : okS [i] e1 = true) (hr : frzR r = .im d) : s_setF i x e = some (.nx (e1.set i (some (.im d)))) := by
  rw [r_s_setF, h]
  simp only [ok, hr, putA]
  rfl
theorem setX {i : Nat} {e2 : Ev} (h : x e = some (r, e1)) (ok : okS [i] e1 = true) (hr : putA i e1 r = some e2) : s_set i x e = some (.nx e2) := by
  rw [r_s_set, h]
  simp only [ok, hr]
  rfl
theorem drop (h : x e = some (r, e1)) : s_drop x e = some (.nx e1) := by
  rw [r_s_drop, h]
theorem iseqA (h : x e = some (.ac ds, e1)) : i_seq x e = some (ds, e1) := by
  simp [r_i_seq, h, frzR]
theorem iseqL (h : x e = some (.im (.list ds), e1)) : i_seq x e = some (ds, e1) := by
  simp [r_i_seq, h, frzR]
theorem iseqT (h : x e = some (.im (.tuple ds), e1)) : i_seq x e = some (ds, e1) := by
  simp [r_i_seq, h, frzR]
theorem bang (h : x e = some (.im (.bool b), e1)) : t_of x e = some (b, e1) := by
  rw [r_t_of, h]
end
theorem callI {φ : List PyData → Option Rs} {dds ds ds' : List PyData} {fa : Fa} {e e1 : Ev} {d : PyData} (ha : argsI fa e = some (ds, e1)) (hd : ds ++ dds = ds') (h : φ ds' = some (.im d)) : x_call φ dds fa e = some (.im d, e1) := by
  rw [r_x_call, ha]
  simp only [hd, h]
theorem callA {φ : List PyData → Option Rs} {dds ds ds' cs : List PyData} {fa : Fa} {e e1 : Ev} (ha : argsI fa e = some (ds, e1)) (hd : ds ++ dds = ds') (h : φ ds' = some (.ac cs)) : x_call φ dds fa e = some (.ac cs, e1) := by
  rw [r_x_call, ha]
  simp only [hd, h]
theorem a0 {e : Ev} : argsI a_nil e = some ([], e) := rfl
theorem aI {f : Fe} {fa : Fa} {e e1 e2 : Ev} {d : PyData} {ds : List PyData} (h : f e = some (.im d, e1)) (k : argsI fa e1 = some (ds, e2)) : argsI (a_cons f fa) e = some (d :: ds, e2) := by
  rw [r_argsI] at k ⊢
  rw [r_a_cons, h]
  cases z : fa e1 with
  | none => rw [z] at k; cases k
  | some p =>
    obtain ⟨rs, e3⟩ := p
    rw [z] at k
    cases y : imAll rs with
    | none => simp only [y] at k; cases k
    | some es =>
      simp only [y, Option.some.injEq, Prod.mk.injEq] at k
      obtain ⟨rfl, rfl⟩ := k
      simp only [z, imAll, frzR, imR, y]
theorem aA {f : Fe} {fa : Fa} {e e1 e2 : Ev} {cs : List PyData} {ds : List PyData} (h : f e = some (.ac cs, e1)) (k : argsI fa e1 = some (ds, e2)) : argsI (a_cons f fa) e = some (.list cs :: ds, e2) := by
  rw [r_argsI] at k ⊢
  rw [r_a_cons, h]
  cases z : fa e1 with
  | none => rw [z] at k; cases k
  | some p =>
    obtain ⟨rs, e3⟩ := p
    rw [z] at k
    cases y : imAll rs with
    | none => simp only [y] at k; cases k
    | some es =>
      simp only [y, Option.some.injEq, Prod.mk.injEq] at k
      obtain ⟨rfl, rfl⟩ := k
      simp only [z, imAll, frzR, imR, y]
theorem vI {i : Nat} {e : Ev} {d : PyData} (h : e[i]? = some (some (.im d))) : x_var i e = some (.im d, e) := by
  rw [r_x_var, h]
theorem cI {d : PyData} {e : Ev} : x_c d e = some (.im d, e) := rfl
theorem binI {φ : PyData → PyData → Option Rs} {f g : Fe} {e e1 e2 : Ev} {a b : PyData} {r : Rs} (h1 : f e = some (.im a, e1)) (h2 : g e1 = some (.im b, e2)) (h : φ a b = some r) : x_bin φ f g e = some (r, e2) := by
  rw [r_x_bin, r_two, h1]
  simp only [h2, look2, lookR, frzR, h]
theorem andF {f g : Fe} {e e1 : Ev} (h : f e = some (.im (.bool false), e1)) : x_and f g e = some (.im (.bool false), e1) := by
  rw [r_x_and, h]
theorem tandT {f g : Ft} {e e1 : Ev} {o : Option (Bool × Ev)} (h : f e = some (true, e1)) (k : g e1 = o) : t_and f g e = o := by
  rw [r_t_and, h]
  exact k
theorem tandF {f g : Ft} {e e1 : Ev} (h : f e = some (false, e1)) : t_and f g e = some (false, e1) := by
  rw [r_t_and, h]
theorem torT {f g : Ft} {e e1 : Ev} (h : f e = some (true, e1)) : t_or f g e = some (true, e1) := by
  rw [r_t_or, h]
theorem torF {f g : Ft} {e e1 : Ev} {o : Option (Bool × Ev)} (h : f e = some (false, e1)) (k : g e1 = o) : t_or f g e = o := by
  rw [r_t_or, h]
  exact k
theorem tnot {f : Ft} {e e1 : Ev} {b : Bool} (h : f e = some (b, e1)) : t_not f e = some (!b, e1) := by
  rw [r_t_not, h]
theorem rngD0 (m : Nat) : rngD 0 m 1 = (List.range m).map nD := by
  unfold rngD
  refine List.map_congr_left fun k _ => ?_
  unfold nD
  congr 1
  omega
theorem i_rng1_at {fa : Fe} {e e1 : Ev} {m : Nat} (h1 : fa e = some (.im (.int (m : Int)), e1)) (hm : m ≤ 1000000) : i_rng1 fa e = some ((List.range m).map nD, e1) := by
  rw [r_i_rng1, h1]
  have c : rgC (m : Int) = true := decide_eq_true (by omega)
  simp only [c, if_true]
  rw [show (m : Int).toNat = m by omega, rngD0]
end DL
namespace DL
open PySem PySem.Spec PyProof.Rows L2
/-- the values in the order of the parameters -/
def perm {α : Type} (π : List Nat) (xs : List α) : List α := π.filterMap fun i => xs[i]?
theorem vals_get : ∀ {vs : List V} {us : List Value} (i : Nat), Vals vs us → (∃ v u, vs[i]? = some v ∧ us[i]? = some u ∧ RelV v u) ∨ (vs[i]? = none ∧ us[i]? = none)
  | _, _, _, .nil => .inr ⟨rfl, rfl⟩
  | _, _, 0, .cons h _ => .inl ⟨_, _, rfl, rfl, h⟩
  | _, _, i + 1, .cons _ t => by simpa using vals_get i t
theorem vals_perm {vs : List V} {us : List Value} (h : Vals vs us) : ∀ π : List Nat, Vals (perm π vs) (perm π us)
  | [] => .nil
  | i :: π => by
    unfold perm
    rcases vals_get i h with ⟨v, u, h1, h2, h3⟩ | ⟨h1, h2⟩
    · rw [List.filterMap_cons_some h1, List.filterMap_cons_some h2]
      exact .cons h3 (vals_perm h π)
    · rw [List.filterMap_cons_none h1, List.filterMap_cons_none h2]
      exact vals_perm h π
theorem vals_app : ∀ {vs zs : List V} {us ws : List Value}, Vals vs us → Vals zs ws → Vals (vs ++ zs) (us ++ ws)
  | _, _, _, _, .nil, q => q
  | _, _, _, _, .cons h t, q => .cons h (vals_app t q)
theorem dpAll_perm {K : PySem.W.Frag} {G : Hp} {vs : List V} {ds : List PyData} (h : DpAll K G vs ds) : ∀ π : List Nat, DpAll K G (perm π vs) (perm π ds)
  | [] => .nil
  | i :: π => by
    unfold perm
    cases h1 : ds[i]? with
    | some d =>
      obtain ⟨v, h2, h3⟩ := dpAll_get h h1
      rw [List.filterMap_cons_some h1, List.filterMap_cons_some h2]
      exact .cons h3 (dpAll_perm h π)
    | none =>
      have h2 : vs[i]? = none := by
        rw [List.getElem?_eq_none_iff] at h1 ⊢
        rw [dpAll_len h]
        exact h1
      rw [List.filterMap_cons_none h1, List.filterMap_cons_none h2]
      exact dpAll_perm h π
/-- a def that is called with n values by place and the keywords ks -/
structure KfK (P : Program) (w : World) (K : PySem.W.Frag) (mg : Str → Option Value) (base : Heap) (k : Nat) (x : Str) (sp : Sp) (n : Nat) (ks : List Str) (π : List Nat) : Prop where
  ex : ∃ (f : Addr) (fd : FuncData) (ps : List Str), FnOk P w K mg base CX0 k f fd ps sp ∧ mg x = some (.ref f) ∧ PySem.W.keepIn K (.ref f) = true ∧ KBn K fd ps n ks (fun us ws => perm π (us ++ ws)) (fun vs zs => perm π (vs ++ zs))
theorem kbn_of {K : PySem.W.Frag} {x qual : Str} {params : Arguments} {body : List Stmt} {scope : Scope} {kws : List (Str × V)} {f : Addr} {fd : FuncData} {ps : List Str} (F : FunD K x qual params body scope [] kws f fd) (n : Nat) (ks : List Str) (π : List Nat)
    (h : ∀ (kV doc pm : Value) (an : Option Addr) (cdv ct : Value) (us ws : List Value), us.length = n → ws.length = ks.length → bindArgs (PySem.W.fnOf x qual params body scope .none kV doc pm an cdv ct) ⟨us, ks.zip ws⟩ = pure (ps.zip (perm π (us ++ ws)))) :
    KBn K fd ps n ks (fun us ws => perm π (us ++ ws)) (fun vs zs => perm π (vs ++ zs)) := by
  obtain ⟨_, _, _, kv, dc, md, an, cd, cl, _, same, _, _, noDefaults, _⟩ := F.ex
  subst same
  cases noDefaults with
  | inr some_ => exact absurd rfl some_.1
  | inl none_ =>
    obtain ⟨_, rfl⟩ := none_
    exact ⟨fun _ us ws _ n1 n2 => .of_eq (h kv dc md an cd cl us ws n1 n2), fun r1 r2 => vals_perm (vals_app r1 r2) π⟩
structure KD (X : Cx) (kws : List Keyword) (f : Fa) : Prop where
  ex : ∃ t : TA, PK X kws t ∧ ∀ (m : Option Addr) (E : Ef) (G0 G : Hp) (e : Ev) (σ : St) (H : Hp) (rs : List Rs) (e' : Ev) (Q : List V → Hp → Prop),
    Rl X.K m E G0 G e σ H → f e = some (rs, e') → (∀ vs G' H', Rl X.K m E G0 G' e' σ H' → Stp σ G H e G' H' e' → VrAll X.K E G' H' σ e' vs rs → Q vs H') → t σ H Q
section
variable {X : Cx} {a : Expr} {kws : List Keyword} {fa : Fe} {fr : Fa} {nm : Option Str} {kpos : Pos}
theorem kd_nil : KD X [] a_nil := ⟨_, pk_nil, fun m E G0 G e σ H rs e' Q R q P => by
  cases q
  exact P [] G H R Stp.refl True.intro⟩
theorem kd_cons (ha : ED X a fa) (hr : KD X kws fr) : KD X (⟨nm, a, kpos⟩ :: kws) (a_cons fa fr) := by
  obtain ⟨t, p, k⟩ := ha
  obtain ⟨t2, p2, k2⟩ := hr
  refine ⟨_, pk_cons p p2, fun m E G0 G e σ H rs e' Q R q P => ?_⟩
  unfold a_cons at q
  cases h1 : fa e with
  | none => simp only [h1] at q; cases q
  | some z =>
    obtain ⟨r, e1⟩ := z
    simp only [h1] at q
    cases h2 : fr e1 with
    | none => simp only [h2] at q; cases q
    | some z2 =>
      obtain ⟨rs2, e2⟩ := z2
      simp only [h2, Option.some.injEq, Prod.mk.injEq] at q
      obtain ⟨rfl, rfl⟩ := q
      refine k m E G0 G e σ H r e1 _ R h1 fun v G1 H1 R1 S1 V1 N1 => ?_
      obtain ⟨G1', R1', S1', s1, V1'⟩ := R1.freeze S1 V1 N1
      refine k2 m E G0 G1' e1 σ H1 rs2 e2 _ R1' h2 fun vs G2 H2 R2 S2 V2 => ?_
      exact P (v :: vs) G2 H2 R2 (S1'.trans S2) ⟨V1'.stp S2, V2⟩
end
def x_callK (φ : List PyData → Option Rs) (π : List Nat) (fa fk : Fa) : Fe := fun e => match argsI fa e with
  | some (ds, e1) => (match argsI fk e1 with
    | some (zs, e2) => (match φ (perm π (ds ++ zs)) with
      | some (.im d) => some (.im d, e2)
      | some (.ac cs) => some (.ac cs, e2)
      | _ => none)
    | none => none)
  | none => none
section
variable {X : Cx} {a : Expr} {es : List Expr} {kws : List Keyword} {fa fk : Fa} {p pos : Pos} {x : Str} {j k n m : Nat} {ks : List Str} {π : List Nat}
theorem vrAll_len {K : PySem.W.Frag} {E : Ef} {G H : Hp} {σ : St} {e : Ev} : ∀ {vs : List V} {rs : List Rs}, VrAll K E G H σ e vs rs → vs.length = rs.length
  | [], [], _ => rfl
  | _ :: _, _ :: _, h => congrArg (· + 1) (vrAll_len h.2)
  | [], _ :: _, h => h.elim
  | _ :: _, [], h => h.elim
theorem callK_ok {φ : List PyData → Option Rs} {t tk : TA} (hn : ∀ ds, (φ ds).isSome = true → ds.length = n)
    (kk : ∀ (m : Option Addr) (E : Ef) (G0 G : Hp) (e : Ev) (σ : St) (H : Hp) (rs : List Rs) (e' : Ev) (Q : List V → Hp → Prop),
    Rl X.K m E G0 G e σ H → fa e = some (rs, e') → (∀ vs G' H', Rl X.K m E G0 G' e' σ H' → Stp σ G H e G' H' e' → VrAll X.K E G' H' σ e' vs rs → Q vs H') → t σ H Q)
    (kz : ∀ (m : Option Addr) (E : Ef) (G0 G : Hp) (e : Ev) (σ : St) (H : Hp) (rs : List Rs) (e' : Ev) (Q : List V → Hp → Prop),
    Rl X.K m E G0 G e σ H → fk e = some (rs, e') → (∀ vs G' H', Rl X.K m E G0 G' e' σ H' → Stp σ G H e G' H' e' → VrAll X.K E G' H' σ e' vs rs → Q vs H') → tk σ H Q)
    (l1 : ∀ {e e' : Ev} {rs : List Rs}, fa e = some (rs, e') → rs.length = j) (l2 : ∀ {e e' : Ev} {rs : List Rs}, fk e = some (rs, e') → rs.length = k)
    (m : Option Addr) (E : Ef) (G0 G : Hp) (e : Ev) (σ : St) (H : Hp) (rr : Rs) (e' : Ev) (Q : VK) (R : Rl X.K m E G0 G e σ H) (q : x_callK φ π fa fk e = some (rr, e')) (P : Po X.K m E G0 σ G H e rr e' Q) :
    tCallN j k (spD X.K n φ) (fun vs zs => perm π (vs ++ zs)) E0 t tk σ H Q := by
  unfold x_callK at q
  cases h1 : argsI fa e with
  | none => simp only [h1] at q; cases q
  | some z =>
    obtain ⟨ds, e1⟩ := z
    simp only [h1] at q
    obtain ⟨rs, q1, q2⟩ := argsI_ok h1
    cases h3 : argsI fk e1 with
    | none => simp only [h3] at q; cases q
    | some z2 =>
      obtain ⟨zs, e2⟩ := z2
      simp only [h3] at q
      obtain ⟨rs2, q3, q4⟩ := argsI_ok h3
      have main : ∀ r, φ (perm π (ds ++ zs)) = some r → r = rr ∧ e2 = e' → tCallN j k (spD X.K n φ) (fun vs zs => perm π (vs ++ zs)) E0 t tk σ H Q := fun r h2 ⟨z1, z2⟩ => by
        subst z1 z2
        refine kk m E G0 G e σ H rs e1 _ R q1 fun vs G1 H1 R1 S1 V1 => ?_
        refine kz m E G0 G1 e1 σ H1 rs2 e2 _ R1 q3 fun ws G2 H2 R2 S2 V2 => ?_
        have D1 := vr_imAll V1 q2
        have D2 := vr_imAll V2 q4
        have D3 := dpAll_perm (dpAll_app (dpAll_same S2.gg D1) D2) π
        refine ⟨(vrAll_len V1).trans (l1 q1), (vrAll_len V2).trans (l2 q3), G2, perm π (ds ++ zs), r, R2.gh, D3, ?_, h2, fun v G' H' s1 s2 s3 nw vr => ?_⟩
        · rw [dpAll_len D3]
          exact hn _ (by rw [h2]; rfl)
        · obtain ⟨R3, S3⟩ := R2.called s1 s2 s3 nw
          obtain ⟨V3, N3⟩ := R2.vrf vr
          have S12 := S1.trans S2
          exact P v G' H' R3 (S12.trans S3) V3 (nw_back S12 v N3)
      cases h2 : φ (perm π (ds ++ zs)) with
      | none => simp only [h2] at q; cases q
      | some r =>
        cases r with
        | im d =>
          simp only [h2, Option.some.injEq, Prod.mk.injEq] at q
          exact main _ h2 q
        | ac d =>
          simp only [h2, Option.some.injEq, Prod.mk.injEq] at q
          exact main _ h2 q
        | br d => simp only [h2] at q; cases q
theorem pe_callN0 {CX : CXT} {f : Addr} {fd : FuncData} {ps : List Str} {sp : Sp} {E : XK} {tk : TA} {g : List Value → List Value → List Value} {gV : List V → List V → List V} (F : FnOk X.prog X.w X.K X.mg X.base CX k f fd ps sp) (hr : Room k X.A) (hg : Gl X x) (hm : X.mg x = some (.ref f))
    (hk : PySem.W.keepIn X.K (.ref f) = true) (hb : KBn X.K fd ps 0 ks g gV) (hx : Passes CX X E) (hkw : PK X kws tk)
    (hall : (backToKw pos (keywordEach kws X.env)).all (·.1.isSome) = true) (hks : (backToKw pos (keywordEach kws X.env)).filterMap (·.1) = ks)
    (hpl : ((backTo pos (starEach [] X.env)).any (·.1) || (backToKw pos (keywordEach kws X.env)).any (·.1.isNone)) = false) (hdb : (x == ("__debug__" : Str)) = false) :
    PE X (.Call (.Name x p) [] kws pos) (tCallN 0 ks.length sp gV E tNil tk) :=
  ⟨fun pins s σ H Q I h => wpAny_Call_Name_kw (ld_glob I hg hm (PySem.W.callWith_KW0 (h₀ := X.base) I.ok.mod.kin hk hall (thn (hkw.run pos pins s σ H _ I h) fun ws s' ⟨zs, H', I', rz, len0, lenK, q⟩ =>
    ⟨I'.kIn, hks.symm ▸ run_fnN F hr hb hx I' .nil rz len0 lenK q⟩) hpl) hdb)⟩
theorem ed_callK0 {φ : List PyData → Option Rs} (F : KfK X.prog X.w X.K X.mg X.base k x (spD X.K n φ) 0 ks π) (hr : Room j X.A) (hk : k ≤ j) (hn : ∀ ds, (φ ds).isSome = true → ds.length = n) (h : KD X kws fk)
    (l2 : ∀ {e e' : Ev} {rs : List Rs}, fk e = some (rs, e') → rs.length = ks.length) (hg : Gl X x := by rfl)
    (hall : (backToKw pos (keywordEach kws X.env)).all (·.1.isSome) = true := by rfl) (hks : (backToKw pos (keywordEach kws X.env)).filterMap (·.1) = ks := by rfl)
    (hpl : ((backTo pos (starEach [] X.env)).any (·.1) || (backToKw pos (keywordEach kws X.env)).any (·.1.isNone)) = false := by rfl) (hdb : (x == ("__debug__" : Str)) = false := by decide) :
    ED X (.Call (.Name x p) [] kws pos) (x_callK φ π a_nil fk) := by
  obtain ⟨f, fd, ps, F, hm, kp, hb⟩ := F.ex
  obtain ⟨t, pk, kz⟩ := h
  refine ⟨_, pe_callN0 F (hr.mono hk) hg hm kp hb (E := E0) (fun _ _ _ _ _ _ _ z => z.elim) pk hall hks hpl hdb, callK_ok hn (fun m E G0 G e σ H rs e' Q R q P => ?_) kz (fun q => ?_) l2⟩
  · cases q
    exact P [] G H R Stp.refl True.intro
  · cases q
    rfl
theorem len_nil {e e' : Ev} {rs : List Rs} (q : a_nil e = some (rs, e')) : rs.length = 0 := by
  cases q
  rfl
theorem len_cons {fe : Fe} {fr : Fa} {n : Nat} (h : ∀ {e e' : Ev} {rs : List Rs}, fr e = some (rs, e') → rs.length = n) {e e' : Ev} {rs : List Rs} (q : a_cons fe fr e = some (rs, e')) : rs.length = n + 1 := by
  unfold a_cons at q
  split at q
  · split at q
    · rename_i z
      cases q
      exact congrArg (· + 1) (h z)
    · cases q
  · cases q
end
end DL
namespace DL
open PySem PySem.Spec PyProof.Rows L2
theorem spD_void {K : PySem.W.Frag} {n : Nat} {vs : List V} {H : Hp} {Q : VK} {E : XK} (h : spD K n (fun _ => none) vs H Q E) : False := by
  obtain ⟨_, _, _, _, _, _, h, _⟩ := h
  cases h
theorem fn_void {P : Program} {w : World} {K : PySem.W.Frag} {mg : Str → Option Value} {base : Heap} {CX : CXT} {k n : Nat} {f : Addr} {fd : FuncData} {ps : List Str} : FnOk P w K mg base CX k f fd ps (spD K n (fun _ => none)) :=
  ⟨fun _ _ _ _ h => (spD_void h).elim, by
    intros
    exact (spD_void (by assumption)).elim⟩
end DL
namespace DL
open L2 PySem PySem.Spec PySem.W PyProof.Rows
section
variable {K : PySem.W.Frag} {m : Option Addr} {E : Ef} {G0 G H H1 H2 : Hp} {e : Ev} {σ : St} {i : Nat} {p q : Addr}
/-- the frame, an object exchanged -/
def Ef.put (E : Ef) (q : Addr) (hb : E.b q = none) (o : Option HO) : Ef := ⟨fun a => if a = q then o else E.h a, E.b, fun a u z => by
  have n : a ≠ q := ne_of_none z hb
  rw [if_neg n]
  exact E.sub a u z⟩
end
end DL
namespace DL
open L2 PySem PySem.Spec PySem.W PyProof.Rows
def PoSN (K : PySem.W.Frag) (m : Option Addr) (B : Bs) (G0 G : Hp) (D : Ends) : Fl → Prop
  | .nx e => ∀ (E : Ef) G' σ H, E.b = B → Same G G' → Rz K m E G0 G' e σ H → D.nx σ H
  | .bk e => ∀ (E : Ef) G' σ H, E.b = B → Same G G' → Rz K m E G0 G' e σ H → D.bk σ H
  | .ct e => ∀ (E : Ef) G' σ H, E.b = B → Same G G' → Rz K m E G0 G' e σ H → D.ct σ H
  | .rt r e => ∀ (E : Ef) v G' σ H, E.b = B → Same G G' → Rz K m E G0 G' e σ H → Vr K E G' H σ e v r → D.rt v H
structure SDN (X : Cx) (st : Stmt) (f : Fs) : Prop where
  ex : ∃ t : TS, PS X st t ∧ ∀ (m : Option Addr) (E : Ef) (G0 G : Hp) (e : Ev) (σ : St) (H : Hp) (fl : Fl) (D : Ends),
    Rz X.K m E G0 G e σ H → f e = some fl → PoSN X.K m E.b G0 G D fl → t D σ H
section
variable {K : PySem.W.Frag} {m : Option Addr} {B : Bs} {G0 G G' H : Hp} {E : Ef} {D : Ends} {fl : Fl} {e : Ev} {σ : St}
theorem PoSN.aft (P : PoSN K m B G0 G D fl) (s : Same G G') : PoSN K m B G0 G' D fl := by
  cases fl with
  | nx e => exact fun E G2 σ H b s2 R => P E G2 σ H b (s.trans s2) R
  | bk e => exact fun E G2 σ H b s2 R => P E G2 σ H b (s.trans s2) R
  | ct e => exact fun E G2 σ H b s2 R => P E G2 σ H b (s.trans s2) R
  | rt r e => exact fun E v G2 σ H b s2 R V => P E v G2 σ H b (s.trans s2) R V
theorem PoSN.pos (P : PoSN K m E.b G0 G D fl) : PoS K m E G0 G D fl := by
  cases fl with
  | nx e => exact fun G' σ H s R => P E G' σ H rfl s R
  | bk e => exact fun G' σ H s R => P E G' σ H rfl s R
  | ct e => exact fun G' σ H s R => P E G' σ H rfl s R
  | rt r e => exact fun v G' σ H s R V => P E v G' σ H rfl s R V
end
section
variable {X : Cx} {st : Stmt} {rest sts : List Stmt} {f g : Fs} {pos : Pos} {a : Expr} {fe : Fe}
theorem SDN.fz (j : Nat) (h : SDN X st f) (hj : j ≠ 0 := by decide) : SDN X st (s_fz j f) := by
  obtain ⟨t, p, k⟩ := h
  refine ⟨_, p, fun m E G0 G e σ H fl D R q P => ?_⟩
  obtain ⟨G', s, R'⟩ := R.fz hj
  exact k m E G0 G' _ σ H fl D R' q (P.aft s)
end
section
variable {K : PySem.W.Frag} {m : Option Addr} {E : Ef} {G0 G H : Hp} {e : Ev} {σ : St} {i : Nat}
/-- slot i is not the caller's list -/
theorem Rz.set (R : Rz K m E G0 G e σ H) {E' : Ef} {G' H' : Hp} {s : Option Sl} (ok : okS [i] e = true) (R' : Rl K m E' G0 G' (e.set i s) σ H') : Rz K m E' G0 G' (e.set i s) σ H' :=
  ⟨R', fun p z => by
    obtain ⟨z1, z2⟩ := R.z p z
    have n : i ≠ 0 := fun y => okS_no ok z1 (by rw [y]; exact List.mem_singleton.mpr rfl)
    rw [List.getElem?_set_ne n]
    exact ⟨z1, z2⟩⟩
end
end DL
namespace DL
open L2 PySem PySem.Spec PySem.W PyProof.Rows
end DL
namespace DL
open L2 PySem PySem.Spec PySem.W PyProof.Rows
end DL
namespace DL
open L2 PySem PySem.Spec PySem.W PyProof.Rows
end DL
namespace DL
open L2 PySem PySem.Spec PySem.W PyProof.Rows
def isNoneD : PyData → Bool
  | .none => true
  | _ => false
theorem notNone {d : PyData} (h : (!isNoneD d) = true) : d ≠ .none := fun z => by
  rw [z] at h
  cases h
def okOrd (a b : PyData) : Bool := (alike a b && (noDict a && noDict b)) && (!isNoneD a && decide (a.depth ≤ 64))
def d_ord (f : PyData → PyData → Bool) (a b : PyData) : Option PyData := if okOrd a b = true then some (.bool (f a b)) else none
def rOrd (K : PySem.W.Frag) (f : PyData → PyData → Bool) : R2 := fun x y H Q => ∃ a b, Dp K H x a ∧ Dp K H y b ∧ okOrd a b = true ∧ Q (.bl (f a b)) H
def q_lt : PyData → PyData → Option Rs := orF p_lt fun a b => (d_ord (fun a b => dataLt a b) a b).map Rs.im
def q_gt : PyData → PyData → Option Rs := orF p_gt fun a b => (d_ord (fun a b => dataLt b a) a b).map Rs.im
def q_le : PyData → PyData → Option Rs := orF p_le fun a b => (d_ord (fun a b => !dataLt b a) a b).map Rs.im
def q_ge : PyData → PyData → Option Rs := orF p_ge fun a b => (d_ord (fun a b => !dataLt a b) a b).map Rs.im
theorem vb_ord {K : PySem.W.Frag} {f : PyData → PyData → Bool} : VB K (rOrd K f) (fun a b => (d_ord f a b).map Rs.im) := VB.pure fun G H x y dx dy d Q s lx ly q P => by
  unfold d_ord at q
  by_cases z : okOrd dx dy = true
  · rw [if_pos z] at q
    cases q
    exact ⟨dx, dy, lx.dp s, ly.dp s, z, P _ (.bl _)⟩
  · rw [if_neg z] at q
    cases q
section
variable {X : Cx}
theorem ord_ok {a b : PyData} (h : okOrd a b = true) : alike a b = true ∧ a ≠ .none ∧ a.depth ≤ 64 ∧ noDict a = true ∧ noDict b = true := by
  unfold okOrd at h
  simp only [Bool.and_eq_true] at h
  exact ⟨h.1.1, notNone h.2.1, of_decide_eq_true h.2.2, h.1.2.1, h.1.2.2⟩
theorem op_ord {op : CmpOp} {f : PyData → PyData → Bool} (hu : X.A.units + 64 < cLine)
    (k : ∀ {s : Shared} {a b : Value} {da db : PyData} {as bs : List Addr} {Q : Value → Shared → Prop}, Reads s.heap a da as → Reads s.heap b db bs → alike da db = true → da ≠ .none → X.A.units + min da.depth db.depth < cLine → Q (.bool (f da db)) s → wpAny (model X.prog X.w) X.A (compareOp op a b) Q X.xe s) :
    OpR X (compareOp op) (rOrd X.K f) := by
  rintro pins s σ H x y v u Q I rx ry ⟨a, b, hx, hy, ok, q⟩
  obtain ⟨o1, o2, o3, o4, o5⟩ := ord_ok ok
  obtain ⟨as, ra⟩ := L2.Dp.reads I a x v (hx.lib o4) rx
  obtain ⟨bs, rb⟩ := L2.Dp.reads I b y u (hy.lib o5) ry
  exact k ra rb o1 o2 (by omega) ⟨.bl _, H, I, rfl, q⟩
theorem vq_lt : VB X.K (fun x y H Q => (rI0 fun i j => .bl (decide (i < j))) x y H Q ∨ rOrd X.K (fun a b => dataLt a b) x y H Q) q_lt := VB.or vb_lt vb_ord
theorem vq_gt : VB X.K (fun x y H Q => (rI0 fun i j => .bl (decide (j < i))) x y H Q ∨ rOrd X.K (fun a b => dataLt b a) x y H Q) q_gt := VB.or vb_gt vb_ord
theorem vq_le : VB X.K (fun x y H Q => (rI0 fun i j => .bl (decide (i ≤ j))) x y H Q ∨ rOrd X.K (fun a b => !dataLt b a) x y H Q) q_le := VB.or vb_le vb_ord
theorem vq_ge : VB X.K (fun x y H Q => (rI0 fun i j => .bl (decide (j ≤ i))) x y H Q ∨ rOrd X.K (fun a b => !dataLt a b) x y H Q) q_ge := VB.or vb_ge vb_ord
theorem oq_lt (hu : X.A.units + 64 < cLine) : OpR X (compareOp .Lt) (fun x y H Q => (rI0 fun i j => .bl (decide (i < j))) x y H Q ∨ rOrd X.K (fun a b => dataLt a b) x y H Q) :=
  OpR.or op_lt (op_ord hu fun ra rb h hn hz q => lt_data ra rb h hn hz q)
theorem oq_gt (hu : X.A.units + 64 < cLine) : OpR X (compareOp .Gt) (fun x y H Q => (rI0 fun i j => .bl (decide (j < i))) x y H Q ∨ rOrd X.K (fun a b => dataLt b a) x y H Q) :=
  OpR.or op_gt (op_ord hu fun ra rb h hn hz q => gt_data ra rb h hn hz q)
theorem oq_le (hu : X.A.units + 64 < cLine) : OpR X (compareOp .LtE) (fun x y H Q => (rI0 fun i j => .bl (decide (i ≤ j))) x y H Q ∨ rOrd X.K (fun a b => !dataLt b a) x y H Q) :=
  OpR.or op_le (op_ord hu fun ra rb h hn hz q => le_data ra rb h hn hz q)
theorem oq_ge (hu : X.A.units + 64 < cLine) : OpR X (compareOp .GtE) (fun x y H Q => (rI0 fun i j => .bl (decide (j ≤ i))) x y H Q ∨ rOrd X.K (fun a b => !dataLt a b) x y H Q) :=
  OpR.or op_ge (op_ord hu fun ra rb h hn hz q => ge_data ra rb h hn hz q)
end
def alikeB (ds : List PyData) : Bool := ds.all fun x => !isNoneD x && ds.all fun y => alike x y
theorem alikeB_ok {ds : List PyData} (h : alikeB ds = true) : AlikeAll ds := by
  refine ⟨fun x hx y hy => ?_, fun x hx => ?_⟩
  · have z := List.all_eq_true.mp h x hx
    rw [Bool.and_eq_true] at z
    exact List.all_eq_true.mp z.2 y hy
  · have z := List.all_eq_true.mp h x hx
    rw [Bool.and_eq_true] at z
    exact notNone z.1
def okMM (ds : List PyData) : Bool := (alikeB ds && noDicts ds) && (PyData.plainAll ds && decide (PyData.depthAll ds ≤ 60))
def c_mmD (f : PyData → List PyData → PyData) : List PyData → Option Rs
  | [.list (d :: ds)] => if okMM (d :: ds) = true then some (.im (f d ds)) else none
  | _ => none
def rMmD (K : PySem.W.Frag) (f : PyData → List PyData → PyData) : List V → Hp → VK → Prop := fun vs H Q => ∃ (G : Hp) (a : Addr) (ws : List V) (d : PyData) (ds : List PyData), Same G H ∧ vs = [V.ref a] ∧ SqL K H a ws ∧ DpAll K G ws (d :: ds) ∧ okMM (d :: ds) = true ∧ ∀ v, Dp K G v (f d ds) → Q v H
theorem vc_mmD {K : PySem.W.Frag} {f : PyData → List PyData → PyData} : VC K (rMmD K f) (c_mmD f) := by
  intro m E G0 G e σ H vs ds rr Q R l q P
  unfold c_mmD at q
  split at q
  · rename_i d ds
    by_cases z : okMM (d :: ds) = true
    · rw [if_pos z] at q
      cases q
      obtain ⟨v, rfl, lv⟩ := lv1 l
      obtain ⟨p, ws, rfl, s1, k⟩ := lv.list R.gh
      exact ⟨G, p, ws, d, ds, R.gh, rfl, s1, k, z, fun v hv => P.now R hv True.intro⟩
    · rw [if_neg z] at q
      cases q
  · cases q
section
variable {X : Cx}
theorem plain_mem {ds : List PyData} (h : PyData.plainAll ds = true) : ∀ d ∈ ds, d.plain = true := by
  induction ds with
  | nil => intro d hd; cases hd
  | cons x ds ih =>
    rw [PyData.plainAll, Bool.and_eq_true] at h
    intro d hd
    rcases List.mem_cons.mp hd with z | z
    · rw [z]
      exact h.1
    · exact ih h.2 d z
theorem fold_mem {α : Type} (c : α → α → Bool) : ∀ (xs : List α) (x : α), xs.foldl (fun a y => if c y a then y else a) x ∈ x :: xs
  | [], x => List.mem_cons_self
  | y :: ys, x => by
    rw [List.foldl_cons]
    have z := fold_mem c ys (if c y x then y else x)
    rcases List.mem_cons.mp z with z | z
    · rw [z]
      by_cases w : c y x = true
      · rw [if_pos w]
        exact List.mem_cons_of_mem _ List.mem_cons_self
      · rw [if_neg w]
        exact List.mem_cons_self
    · exact List.mem_cons_of_mem _ (List.mem_cons_of_mem _ z)
theorem maxD_mem (x : PyData) (xs : List PyData) : maxD x xs ∈ x :: xs := fold_mem (fun y a => dataLt a y) xs x
theorem cr_mmD {id : String} {f : PyData → List PyData → PyData} (fm : ∀ x xs, f x xs ∈ x :: xs) (hc : X.calm = true) (hu : X.A.units + 64 < cLine)
    (k : ∀ {s : Shared} {l : Addr} {vs : Array Value} {x : PyData} {xs : List PyData} {as : List Addr} {Q : Value → Shared → Prop}, X.A.handled = none → s.heap.IsList l vs → ReadsAll s.heap vs.toList (x :: xs) as → AlikeAll (x :: xs) → X.A.units + 1 + PyData.depthAll (x :: xs) < cLine →
      (∀ (i : Nat) v h' tk bs, vs[i]? = some v → Reads h' v (f x xs) bs → (∀ b o, s.heap.get? b = some o → h'.get? b = some o) → Q v { s with heap := h', toks := tk }) → wpAny (model X.prog X.w) X.A (call (.builtin id) [.ref l]) Q X.xe s) :
    CallR X (.builtin id) (rMmD X.K f) := by
  rintro pins s σ H vs us Q I r ⟨G, a, ws, d, ds, sg, rfl, hs, hd, ok, q⟩
  obtain ⟨its, rv, pl, _⟩ := I.list hs
  rw [Vals.ref1 r]
  unfold okMM at ok
  simp only [Bool.and_eq_true, decide_eq_true_eq] at ok
  obtain ⟨as, hr⟩ := L2.Dp.readsAll I _ _ its ((dpAll_same sg hd).lib ok.1.2) rv
  refine k (I.ok.hd hc) pl.isList hr (alikeB_ok ok.1.1) (by omega) fun i v g tk bs hi rd hk => ?_
  have hi2 : its[i]? = some v := by simpa using hi
  have li := (List.getElem?_eq_some_iff.mp hi2).1
  have lw := rv.length
  obtain ⟨x, hx⟩ : ∃ x, ws[i]? = some x := ⟨ws[i]'(by omega), List.getElem?_eq_getElem _⟩
  obtain ⟨v2, hv2, rx⟩ := rv.get hx
  rw [hi2] at hv2
  cases hv2
  obtain ⟨d2, hd2, dp⟩ := dpAll_at hd hx
  obtain ⟨cs, rd2⟩ := L2.Dp.reads I d2 x v ((dp_same sg dp).lib (noDicts_all.mp ok.1.2 d2 (List.mem_of_getElem? hd2))) rx
  have p1 := plain_mem ok.2.1 _ (fm d ds)
  have p2 := plain_mem ok.2.1 d2 (List.mem_of_getElem? hd2)
  have e1 := SeqAt.readOf_plain p1 rd
  have e2 := SeqAt.readOf_plain p2 (reads_keeps hk rd2)
  have e3 : f d ds = d2 := e1.symm.trans e2
  exact ⟨x, H, I.kept hk, rx, q x (by rw [e3]; exact dp)⟩
end
def c_maxB : List PyData → Option Rs := orC c_maxA (c_mmD maxD)
theorem vc_maxB {K : PySem.W.Frag} : VC K (fun vs H Q => (rMax K vs H Q ∨ rMaxT K vs H Q) ∨ rMmD K maxD vs H Q) c_maxB := VC.or vc_maxA vc_mmD
theorem cr_maxB {X : Cx} (hc : X.calm = true) (hu : X.A.units + 64 < cLine) : CallR X (.builtin "max") (fun vs H Q => (rMax X.K vs H Q ∨ rMaxT X.K vs H Q) ∨ rMmD X.K maxD vs H Q) :=
  CallR.or (cr_maxA hc hu) (cr_mmD maxD_mem hc hu fun a b c d e f => max_list_data a b c d e f)
end DL
namespace DL
open L2 PySem PySem.Spec PySem.W PyProof.Rows
section
variable {i j : Int}
theorem e_qlt : q_lt (.int i) (.int j) = some (.im (.bool (decide (i < j)))) := rfl
theorem e_qle : q_le (.int i) (.int j) = some (.im (.bool (decide (i ≤ j)))) := rfl
theorem e_qgt : q_gt (.int i) (.int j) = some (.im (.bool (decide (j < i)))) := rfl
theorem e_qge : q_ge (.int i) (.int j) = some (.im (.bool (decide (j ≤ i)))) := rfl
end
/-- an item told by the number of a version -/
def gv {α : Type} [Inhabited α] (l : List α) (v : Nat) : α := l.getD (v - 1) default
theorem gv_get {α : Type} [Inhabited α] {l : List α} {k : Nat} (h : k < l.length) : l[k]? = some (gv l (k + 1)) := by
  unfold gv
  rw [Nat.add_sub_cancel, List.getD_eq_getElem?_getD, List.getElem?_eq_getElem h]
  rfl
section
variable {α : Type} [Inhabited α] {f : α → PyData} {l : List α}
theorem gv_mem {v : Nat} (h : 1 ≤ v) (h2 : v ≤ l.length) : gv l v ∈ l := by
  have := gv_get (l := l) (k := v - 1) (by omega)
  rw [Nat.sub_add_cancel h] at this
  exact List.mem_of_getElem? this
end
def wS (f : Fs) (e : Ev) (Q : Fl → Prop) : Prop := ∃ fl, f e = some fl ∧ Q fl
def seqK (g : Fs) (Q : Fl → Prop) : Fl → Prop
  | .nx e => wS g e Q
  | .bk e => Q (.bk e)
  | .ct e => Q (.ct e)
  | .rt r e => Q (.rt r e)
section
variable {f g : Fs} {e e1 : Ev} {Q : Fl → Prop} {c : Ft} {x : Fe} {r : Rs} {fl : Fl}
theorem w_seq (h : wS f e (seqK g Q)) : wS (s_seq f g) e Q := by
  obtain ⟨fl, h1, h2⟩ := h
  cases fl with
  | nx e1 =>
    obtain ⟨fl, h3, h4⟩ := h2
    exact ⟨fl, by rw [r_s_seq, h1]; exact h3, h4⟩
  | bk e => exact ⟨.bk e, by rw [r_s_seq, h1], h2⟩
  | ct e => exact ⟨.ct e, by rw [r_s_seq, h1], h2⟩
  | rt r e => exact ⟨.rt r e, by rw [r_s_seq, h1], h2⟩
theorem w_nx (q : Q (.nx e)) : wS s_nx e Q := ⟨_, rfl, q⟩
theorem w_ret (h : x e = some (r, e1)) (q : Q (.rt r e1)) : wS (s_ret x) e Q := ⟨_, ret h, q⟩
theorem w_drop (h : x e = some (r, e1)) (q : Q (.nx e1)) : wS (s_drop x) e Q := ⟨_, drop h, q⟩
theorem w_setI {i : Nat} {d : PyData} (h : x e = some (.im d, e1)) (ok : okS [i] e1 = true) (q : Q (.nx (e1.set i (some (.im d))))) : wS (s_setF i x) e Q := ⟨_, setF h ok rfl, q⟩
theorem w_setL {i : Nat} {ds : List PyData} (h : x e = some (.ac ds, e1)) (ok : okS [i] e1 = true) (q : Q (.nx (e1.set i (some (.im (.list ds)))))) : wS (s_setF i x) e Q := ⟨_, setF h ok rfl, q⟩
theorem w_setA {i : Nat} {ds : List PyData} (h : x e = some (.ac ds, e1)) (ok : okS [i] e1 = true) (q : Q (.nx (e1.set i (some (.ac ds))))) : wS (s_set i x) e Q := ⟨_, setX h ok rfl, q⟩
theorem w_fz {j : Nat} (h : wS f (fzE j e) Q) : wS (s_fz j f) e Q := h
theorem w_if {b : Bool} (h : c e = some (b, e1)) (t : b = true → wS f e1 Q) (n : b = false → wS g e1 Q) : wS (s_if c f g) e Q := by
  cases b with
  | true =>
    obtain ⟨fl, h1, h2⟩ := t rfl
    exact ⟨fl, ifT h h1, h2⟩
  | false =>
    obtain ⟨fl, h1, h2⟩ := n rfl
    exact ⟨fl, ifF h h1, h2⟩
end
section
variable {e : Ev} {d : PyData} {ds : List PyData} {r : Rs} {rs : List Rs} {i : Nat} {S : List Nat}
theorem n_lookAll1 {e : Ev} {r : Rs} {rs : List Rs} : lookAll e (r :: rs) = (match lookR e r with
    | some d => (match lookAll e rs with
      | some ds => some (d :: ds)
      | none => none)
    | none => none) := rfl
theorem n_min2 {k j : Int} : c_min2 [.int k, .int j] = some (.im (.int (min k j))) := by
  show some (Rs.im (.int (if j < k then j else k))) = _
  congr 3
  split <;> omega
theorem n_all0 {bs : List Bool} : c_all [.list (bs.map PyData.bool)] = some (.im (.bool (bs.all id))) := by
  unfold c_all
  simp only [unB_map]
theorem n_intsL {g : List Int → Option Rs} {ns : List Int} : c_intsL g [.list (ns.map PyData.int)] = g ns := by
  simp only [c_intsL, unI_ints]
end
end DL
namespace DL
open L2 PySem PySem.Spec PySem.W PyProof.Rows
end DL
namespace DL
open L2 PySem PySem.Spec PySem.W PyProof.Rows
abbrev im (d : PyData) : Option Sl := some (.im d)
abbrev ac (ds : List PyData) : Option Sl := some (.ac ds)
theorem rg1_ok {n : Nat} (h : n ≤ 1000000) : rgOkB 1 ((n : Int) + 1) = true := by
  unfold rgOkB
  simp only [Bool.and_eq_true, decide_eq_true_eq]
  omega
theorem downI_perm (l : List Int) : (downI l).Perm l := sortB_perm _ l
theorem downI_len (l : List Int) : (downI l).length = l.length := (downI_perm l).length_eq
end DL
namespace DL
open L2 PySem PySem.Spec PySem.W PyProof.Rows
section
variable {x y : Fe} {e e1 e2 : Ev} {a b d : PyData} {r : Rs} {φ : List PyData → Option Rs} {Q : Fl → Prop} {ds : List PyData} {fa : Fa} {i : Nat}
theorem tupI (h : argsI fa e = some (ds, e1)) (hl : ds.length ≤ 16777216) : x_tup fa e = some (.im (.tuple ds), e1) := by
  rw [r_x_tup, h]
  dsimp only
  rw [if_pos (okLen_yes hl)]
theorem iRng1 {m : Nat} (h : x e = some (.im (.int (m : Int)), e1)) (hm : m ≤ 1000000) : i_rng1 x e = some ((List.range m).map nD, e1) := i_rng1_at h hm
theorem negI {k : Int} (h : x e = some (.im (.int k), e1)) : x_neg x e = some (.im (.int (-k)), e1) := by
  rw [r_x_neg, h]
end
end DL
namespace DL
open L2 PySem PySem.Spec PySem.W PyProof.Rows
theorem callKI {φ : List PyData → Option Rs} {π : List Nat} {fa fk : Fa} {e e1 e2 : Ev} {ds zs ds' : List PyData} {d : PyData} (h1 : argsI fa e = some (ds, e1)) (h2 : argsI fk e1 = some (zs, e2)) (hd : perm π (ds ++ zs) = ds') (h : φ ds' = some (.im d)) : x_callK φ π fa fk e = some (.im d, e2) := by
  unfold x_callK
  rw [h1]
  dsimp only
  rw [h2]
  dsimp only
  rw [hd, h]
theorem maxB_list {ns : List Int} (h : ns ≠ []) : c_maxB [.list (ns.map PyData.int)] = some (.im (.int (maxI ns))) := by
  cases ns with
  | nil => exact absurd rfl h
  | cons n ns =>
    unfold c_maxB c_maxA orC
    have q : c_max [.list ((n :: ns).map PyData.int)] = some (.im (.int (maxI (n :: ns)))) := by
      unfold c_max c_intsL
      dsimp only
      rw [unI_ints]
      rfl
    rw [q]
theorem maxB_tup {ns : List Int} (h : ns ≠ []) : c_maxB [.tuple (ns.map PyData.int)] = some (.im (.int (maxI ns))) := by
  cases ns with
  | nil => exact absurd rfl h
  | cons n ns =>
    unfold c_maxB c_maxA orC
    have q : c_maxT [.tuple ((n :: ns).map PyData.int)] = some (.im (.int (maxI (n :: ns)))) := by
      unfold c_maxT c_intsT
      dsimp only
      rw [unI_ints]
      rfl
    have q0 : c_max [.tuple ((n :: ns).map PyData.int)] = none := rfl
    rw [q0]
    dsimp only
    rw [q]
theorem maxI_cons (a b : Int) (r : List Int) : maxI (a :: b :: r) = max a (maxI (b :: r)) := rfl
theorem maxI_ge : ∀ {l : List Int} {x : Int}, x ∈ l → x ≤ maxI l
  | [], _, h => by cases h
  | [a], x, h => by
    rw [List.mem_singleton.mp h]
    exact Int.le_refl _
  | a :: b :: r, x, h => by
    rw [maxI_cons]
    rcases List.mem_cons.mp h with e | e
    · omega
    · have := maxI_ge e
      omega
end DL
namespace DL
open L2 PySem PySem.Spec PySem.W PyProof.Rows
end DL
namespace DL
open PySem PySem.Spec PyProof.Rows L2
section
variable {X : Cx}
variable {elt tg it tg1 it1 : Expr} {ifs ifs1 : List Expr} {scope : Scope} {own : List (Str × Nat)} {pos spos : Pos} {fi fi1 : Fi} {S S1 vs1 : List Nat} {γ γ1 : PyData → Ev → Option Ev} {tst tst1 : Ft} {fe : Fe}
/-- a source, by what it gives -/
def wiOf (K : PySem.W.Frag) (f : Fi) : TI := fun σ H Q => ∃ m E G0 G e ds e', Rl K m E G0 G e σ H ∧ f e = some (ds, e') ∧ ∀ J G' H', Rl K m E G0 G' e' σ H' → Stp σ G H e G' H' e' → WalkD K G' J ds → Q J H'
theorem ID.can {X : Cx} {tg it : Expr} {f : Fi} (h : ID X tg it f) : PI X tg it (wiOf X.K f) := by
  obtain ⟨wi, p, k⟩ := h
  exact ⟨fun pins s σ H Q I ⟨m, E, G0, G, e, ds, e', R, q, P⟩ => p.run pins s σ H Q I (k m E G0 G e σ H ds e' Q R q P)⟩
end
end DL
namespace DL
open L2 PySem PySem.Spec PySem.W PyProof.Rows
section
variable {K : PySem.W.Frag} {m : Option Addr} {E : Ef} {G0 G H : Hp} {e : Ev} {σ : St} {p : Addr} {i : Nat}
theorem Rl.newG {o : HO} (R : Rl K m E G0 G e σ H) (h : H p = none) :
    Rl K m E G0 (upd G p o) e σ (upd H p o) ∧ Stp σ G H e (upd G p o) (upd H p o) e := by
  obtain ⟨hG, hE, hO, hm⟩ := R.fresh h
  have s1 : Same G (upd G p o) := same_new hG
  have nb : ∀ {b : Addr}, H b ≠ none → b ≠ p := fun {b} z y => z (by rw [y]; exact h)
  refine ⟨⟨R.gg.trans s1, fun b u z => ?_, fun b u b1 b2 => ?_, fun b b1 => ⟨(R.mh b b1).1, ?_⟩, fun b b1 b2 => ?_, R.len, fun i d z => ?_, fun i ds' z => ?_, R.inj, fun i dss z => (R.ot i dss z).mono s1⟩, ⟨s1, fun b b1 b2 => ?_, fun b u b1 _ => same_new h b u b1, fun _ => rfl, fun b b1 => ?_⟩⟩
  · by_cases y : b = p
    · subst y
      rw [upd_same] at z ⊢
      exact z
    · rw [upd_ne y] at z ⊢
      exact R.gh b u z
  · exact same_new h b u (R.eh b u b1 b2)
  · rw [upd_ne (nb (R.mh b b1).2)]
    exact (R.mh b b1).2
  · have y : b ≠ p := fun y => b2 (by rw [y]; exact hE)
    rw [upd_ne y]
    exact R.nw b b1 b2
  · obtain ⟨u, z1, z2⟩ := R.im i d z
    exact ⟨u, z1, dp_same s1 z2⟩
  · obtain ⟨p', ws', z1, z2, z3, z4, z5⟩ := R.ac i ds' z
    have y : p' ≠ p := nb (by rw [z3]; simp)
    exact ⟨p', ws', z1, by rw [upd_ne y]; exact z2, by rw [upd_ne y]; exact z3, dpAll_same s1 z4, z5⟩
  · rw [upd_ne (nb b2)]
    exact b1
  · rw [upd_ne (nb b1)]
    exact b1
theorem Rl.setO {dss : Ok} (R : Rl K m E G0 G e σ H) (h : ObF K G (some (some (.ref p))) dss) : Rl K m E G0 G (e.set i (some (.ob dss))) (σ.set i (some (.ref p))) H := by
  have hl := R.len
  have keep : ∀ {j : Nat} {s : Sl}, (e.set i (some (.ob dss)))[j]? = some (some s) → (∀ d, s ≠ .ob d) → e[j]? = some (some s) ∧ (σ.set i (some (V.ref p)))[j]? = σ[j]? := fun {j s} z ns => by
    rw [set_get] at z ⊢
    by_cases y : i = j ∧ j < e.length
    · rw [if_pos y] at z
      cases z
      exact absurd rfl (ns dss)
    · rw [if_neg y] at z
      exact ⟨z, if_neg (by omega)⟩
  refine ⟨R.gg, R.gh, R.eh, R.mh, R.nw, by rw [List.length_set, List.length_set]; exact hl, fun j d z => ?_, fun j ds z => ?_, fun j k dj dk q1 z1 z2 z3 z4 => ?_, fun j ds z => ?_⟩
  · obtain ⟨a1, a2⟩ := keep z fun _ y => by cases y
    rw [a2]
    exact R.im j d a1
  · obtain ⟨a1, a2⟩ := keep z fun _ y => by cases y
    rw [a2]
    exact R.ac j ds a1
  · obtain ⟨a1, a2⟩ := keep z1 fun _ y => by cases y
    obtain ⟨b1, b2⟩ := keep z2 fun _ y => by cases y
    rw [a2] at z3
    rw [b2] at z4
    exact R.inj j k dj dk q1 a1 b1 z3 z4
  · rw [set_get] at z ⊢
    by_cases y : i = j ∧ j < e.length
    · rw [if_pos y] at z
      cases z
      rw [if_pos ⟨y.1, by omega⟩]
      exact h
    · rw [if_neg y] at z
      rw [if_neg (by omega)]
      exact R.ot j ds z
theorem Rz.setO {k : Ok} (R : Rz K m E G0 G e σ H) (h : ObF K G (some (some (.ref p))) k) (ok : okS [i] e = true) : Rz K m E G0 G (e.set i (some (.ob k))) (σ.set i (some (.ref p))) H :=
  ⟨R.r.setO h, fun q z => by
    obtain ⟨z1, z2⟩ := R.z q z
    have n : i ≠ 0 := fun y => okS_no ok z1 (by rw [y]; exact List.mem_singleton.mpr rfl)
    rw [List.getElem?_set_ne n, List.getElem?_set_ne n]
    exact ⟨z1, z2⟩⟩
end
end DL
namespace DL
open L2 PySem PySem.Spec PySem.W PyProof.Rows
section
variable {X : Cx}
def i_rgV (i : Nat) : Fi := fun e => match e[i]? with
  | some (some (.ob (.rng lo hi))) => if (rgC lo && rgC hi) = true then some (rngD lo (hi - lo).toNat 1, e) else none
  | _ => none
end
theorem rgV {i : Nat} {e : Ev} {n : Nat} (h : e[i]? = some (some (.ob (.rng 1 ((n : Int) + 1))))) (hn : n ≤ 1000000) : i_rgV i e = some ((List.range n).map fun k => nD (k + 1), e) := by
  unfold i_rgV
  rw [h]
  dsimp only
  have c : (rgC 1 && rgC ((n : Int) + 1)) = true := by
    rw [Bool.and_eq_true]
    exact ⟨by decide, decide_eq_true (by omega)⟩
  have l : rngD 1 n 1 = (List.range n).map fun k => nD (k + 1) := by
    unfold rngD
    refine List.map_congr_left fun k _ => ?_
    unfold nD
    rw [show ((1 : Int) + (k : Int) * 1) = ((k + 1 : Nat) : Int) by omega]
  rw [if_pos c, show ((n : Int) + 1 - 1).toNat = n by omega, l]
end DL
namespace DL
open L2 PySem PySem.Spec PySem.W PyProof.Rows
abbrev tp {α : Type} (f : α → PyData) (l : List α) : PyData := .tuple (l.map f)
abbrev ls {α : Type} (f : α → PyData) (l : List α) : PyData := .list (l.map f)
abbrev p2 {α β : Type} (f : α → PyData) (g : β → PyData) (x : α × β) : PyData := .tuple [f x.1, g x.2]
abbrev p3 {α β γ : Type} (f : α → PyData) (g : β → PyData) (h : γ → PyData) (x : α × β × γ) : PyData := .tuple [f x.1, g x.2.1, h x.2.2]
abbrev p4 {α β γ δ : Type} (f : α → PyData) (g : β → PyData) (h : γ → PyData) (k : δ → PyData) (x : α × β × γ × δ) : PyData := .tuple [f x.1, g x.2.1, h x.2.2.1, k x.2.2.2]
def opt {α : Type} (f : α → PyData) : Option α → PyData
  | none => .none
  | some a => f a
abbrev nn (_ : Unit) : PyData := .none
abbrev idD (d : PyData) : PyData := d
abbrev imo (o : Option PyData) : Option Sl := o.map Sl.im
theorem bnd {α β : Type} {o : Option α} {k : α → Option β} {b : β} (h : o.bind k = some b) : ∃ a, o = some a ∧ k a = some b := by
  cases o with
  | none => cases h
  | some a => exact ⟨a, rfl, h⟩
theorem if1 {α : Type} {c : Bool} {a b : α} (h : c = true) : (if c = true then a else b) = a := if_pos h
theorem if0 {α : Type} {c : Bool} {a b : α} (h : c = false) : (if c = true then a else b) = b := if_neg (by rw [h]; exact Bool.false_ne_true)
class EqE {α : Type} [DecidableEq α] (f : α → PyData) where
  d : Nat
  can : ∀ a, PyData.canLay0 (f a) = true
  dep : ∀ a, (f a).depth ≤ d
  eqv : ∀ a b, PyData.eqv (f a) (f b) = decide (a = b)
instance : EqE PyData.int := ⟨0, fun a => by rw [PyData.canLay0], fun a => by rw [PyData.depth]; omega, fun a b => by rw [PyData.eqv]; exact Bool.eq_iff_iff.mpr (by simp)⟩
instance : EqE PyData.bool := ⟨0, fun a => by rw [PyData.canLay0], fun a => by rw [PyData.depth]; omega, fun a b => by rw [PyData.eqv]; exact Bool.eq_iff_iff.mpr (by simp)⟩
instance : EqE nn := ⟨0, fun a => by rw [PyData.canLay0], fun a => by rw [PyData.depth]; omega, fun a b => by rw [PyData.eqv]; rfl⟩
section
variable {α : Type} [DecidableEq α] {f : α → PyData} [E : EqE f]
theorem can_all : ∀ l : List α, PyData.canLayAll0 (l.map f) = true
  | [] => by rw [List.map_nil, PyData.canLayAll0]
  | a :: l => by rw [List.map_cons, PyData.canLayAll0, can_all l, E.can]; rfl
theorem dep_all : ∀ l : List α, PyData.depthAll (l.map f) ≤ E.d
  | [] => by rw [List.map_nil, PyData.depthAll]; omega
  | a :: l => by
    rw [List.map_cons, PyData.depthAll]
    have := dep_all l
    have := E.dep a
    omega
theorem eqv_all : ∀ l m : List α, PyData.eqvAll (l.map f) (m.map f) = decide (l = m)
  | [], [] => by rw [List.map_nil, PyData.eqvAll]; rfl
  | [], b :: m => by simp [PyData.eqvAll]
  | a :: l, [] => by simp [PyData.eqvAll]
  | a :: l, b :: m => by
    rw [List.map_cons, List.map_cons, PyData.eqvAll, eqv_all l m, E.eqv]
    exact Bool.eq_iff_iff.mpr (by simp)
end
instance {α : Type} [DecidableEq α] {f : α → PyData} [E : EqE f] : EqE (tp f) := ⟨E.d + 1, fun a => by rw [PyData.canLay0]; exact can_all a, fun a => by rw [PyData.depth]; have := dep_all (f := f) a; omega, fun a b => by rw [PyData.eqv]; exact eqv_all a b⟩
instance {α : Type} [DecidableEq α] {f : α → PyData} [E : EqE f] : EqE (ls f) := ⟨E.d + 1, fun a => by rw [PyData.canLay0]; exact can_all a, fun a => by rw [PyData.depth]; have := dep_all (f := f) a; omega, fun a b => by rw [PyData.eqv]; exact eqv_all a b⟩
instance {α β : Type} [DecidableEq α] [DecidableEq β] {f : α → PyData} {g : β → PyData} [E : EqE f] [F : EqE g] : EqE (p2 f g) := ⟨max E.d F.d + 1, fun a => by simp [PyData.canLay0, PyData.canLayAll0, E.can, F.can], fun a => by
    rw [PyData.depth, PyData.depthAll, PyData.depthAll, PyData.depthAll]
    have := E.dep a.1
    have := F.dep a.2
    omega, fun a b => by
    rw [PyData.eqv, PyData.eqvAll, PyData.eqvAll, PyData.eqvAll, E.eqv, F.eqv]
    obtain ⟨a1, a2⟩ := a
    obtain ⟨b1, b2⟩ := b
    exact Bool.eq_iff_iff.mpr (by simp)⟩
instance {α β γ : Type} [DecidableEq α] [DecidableEq β] [DecidableEq γ] {f : α → PyData} {g : β → PyData} {h : γ → PyData} [E : EqE f] [F : EqE g] [G : EqE h] : EqE (p3 f g h) := ⟨max E.d (max F.d G.d) + 1, fun a => by simp [PyData.canLay0, PyData.canLayAll0, E.can, F.can, G.can], fun a => by
    rw [PyData.depth, PyData.depthAll, PyData.depthAll, PyData.depthAll, PyData.depthAll]
    have := E.dep a.1
    have := F.dep a.2.1
    have := G.dep a.2.2
    omega, fun a b => by
    rw [PyData.eqv, PyData.eqvAll, PyData.eqvAll, PyData.eqvAll, PyData.eqvAll, E.eqv, F.eqv, G.eqv]
    obtain ⟨a1, a2, a3⟩ := a
    obtain ⟨b1, b2, b3⟩ := b
    exact Bool.eq_iff_iff.mpr (by simp)⟩
section
variable {α : Type} [DecidableEq α] {f : α → PyData} [E : EqE f]
theorem shp1 (h : E.d ≤ 64) (a : α) : SeqAt.shaped (f a) = true := by
  unfold SeqAt.shaped
  rw [E.can, Bool.true_and, decide_eq_true_eq]
  exact Nat.le_trans (E.dep a) h
theorem o_eq (h : E.d ≤ 64) (a b : α) : p_eq (f a) (f b) = some (.im (.bool (decide (a = b)))) := by
  unfold p_eq
  rw [shp1 h, shp1 h, E.eqv]
  rfl
end
class Nn {α : Type} (f : α → PyData) : Prop where
  n : ∀ a, p_isN false (f a) .none = some (.bool false) ∧ p_isN true (f a) .none = some (.bool true)
instance : Nn PyData.int := ⟨fun _ => ⟨rfl, rfl⟩⟩
instance : Nn PyData.bool := ⟨fun _ => ⟨rfl, rfl⟩⟩
instance : Nn PyData.str := ⟨fun _ => ⟨rfl, rfl⟩⟩
instance {α : Type} {f : α → PyData} : Nn (tp f) := ⟨fun _ => ⟨rfl, rfl⟩⟩
instance {α : Type} {f : α → PyData} : Nn (ls f) := ⟨fun _ => ⟨rfl, rfl⟩⟩
instance {α β : Type} {f : α → PyData} {g : β → PyData} : Nn (p2 f g) := ⟨fun _ => ⟨rfl, rfl⟩⟩
instance {α β γ : Type} {f : α → PyData} {g : β → PyData} {h : γ → PyData} : Nn (p3 f g h) := ⟨fun _ => ⟨rfl, rfl⟩⟩
section
variable {α β : Type} {f : α → PyData} {l m r : List α} {a : α} {i j k : Int}
theorem atI_map : atI (l.map f) i = (atI l i).map f := by
  unfold atI
  rw [List.length_map]
  cases ixN l.length i with
  | none => rfl
  | some j => exact List.getElem?_map
theorem o_ixT (h : atI l i = some a) : p_ix (tp f l) (.int i) = some (.im (f a)) := by
  show (atI (l.map f) i).map Rs.im = _
  rw [atI_map, h]
  rfl
theorem o_ixL (h : atI l i = some a) : p_ix (ls f l) (.int i) = some (.im (f a)) := by
  show (atI (l.map f) i).map Rs.im = _
  rw [atI_map, h]
  rfl
def mulO (i j : Int) : Option Int := if (mulC i j || mulWC i j) = true then some (i * j) else none
theorem o_mul (h : mulO i j = some k) : p_mul (.int i) (.int j) = some (.im (.int k)) := by
  unfold mulO at h
  unfold p_mul orF d_int2
  by_cases z : mulC i j = true
  · rw [z, Bool.true_or, if_pos rfl] at h
    cases h
    simp only [z, if_true]
    rfl
  · have z := Bool.eq_false_iff.mpr z
    rw [z, Bool.false_or] at h
    by_cases y : mulWC i j = true
    · rw [if_pos y] at h
      cases h
      simp only [z, y]
      rfl
    · rw [if_neg y] at h
      cases h
def modO (i j : Int) : Option Int := if 0 < j then some (i % j) else none
theorem o_mod (h : modO i j = some k) : p_mod (.int i) (.int j) = some (.im (.int k)) := by
  unfold modO at h
  by_cases z : 0 < j
  · rw [if_pos z] at h
    cases h
    exact e_mod z
  · rw [if_neg z] at h
    cases h
def powO (i j : Int) : Option Int := if powC i j = true then some (i ^ j.toNat) else none
theorem o_pow (h : powO i j = some k) : p_pow (.int i) (.int j) = some (.im (.int k)) := by
  unfold powO at h
  by_cases z : powC i j = true
  · rw [if_pos z] at h
    cases h
    unfold p_pow d_int2
    simp only [z, if_true]
    rfl
  · rw [if_neg z] at h
    cases h
def catO (l m : List α) : Option (List α) := if l.length + m.length ≤ 16777216 then some (l ++ m) else none
theorem o_catT (h : catO l m = some r) : p_add (tp f l) (tp f m) = some (.im (tp f r)) := by
  unfold catO at h
  by_cases z : l.length + m.length ≤ 16777216
  · rw [if_pos z] at h
    cases h
    rw [e_catT (by rw [List.length_map, List.length_map]; exact z)]
    show _ = some (Rs.im (.tuple ((l ++ m).map f)))
    rw [List.map_append]
  · rw [if_neg z] at h
    cases h
theorem o_catL (h : catO l m = some r) : p_add (ls f l) (ls f m) = some (.ac (r.map f)) := by
  unfold catO at h
  by_cases z : l.length + m.length ≤ 16777216
  · rw [if_pos z] at h
    cases h
    rw [e_cat (by rw [List.length_map, List.length_map]; exact z), List.map_append]
  · rw [if_neg z] at h
    cases h
theorem cut_map {lo hi : Option Int} : cutD (l.map f) lo hi = (cutD l lo hi).map f := by
  unfold cutD
  rw [List.length_map, ← List.map_drop, ← List.map_take]
def maxO1 (l : List Int) : Option Int := if l = [] then none else some (maxI l)
theorem o_maxL {l : List Int} (h : maxO1 l = some k) : c_maxB [ls PyData.int l] = some (.im (.int k)) := by
  unfold maxO1 at h
  by_cases z : l = []
  · rw [if_pos z] at h
    cases h
  · rw [if_neg z] at h
    cases h
    exact maxB_list z
theorem o_maxT {l : List Int} (h : maxO1 l = some k) : c_maxB [tp PyData.int l] = some (.im (.int k)) := by
  unfold maxO1 at h
  by_cases z : l = []
  · rw [if_pos z] at h
    cases h
  · rw [if_neg z] at h
    cases h
    exact maxB_tup z
theorem o_lenT : c_len [tp f l] = some (.im (.int l.length)) := by
  show some (Rs.im (.int ((l.map f).length : Nat))) = _
  rw [List.length_map]
theorem o_lenL : c_len [ls f l] = some (.im (.int l.length)) := by
  show some (Rs.im (.int ((l.map f).length : Nat))) = _
  rw [List.length_map]
theorem o_allL {l : List Bool} : c_all [ls PyData.bool l] = some (.im (.bool (l.all id))) := n_all0
theorem o_int : c_int [.int i] = some (.im (.int i)) := rfl
theorem o_intB {b : Bool} : c_int [.bool b] = some (.im (.int (if b = true then 1 else 0))) := rfl
theorem o_abs : c_abs [.int i] = some (.im (.int (if i < 0 then -i else i))) := rfl
theorem o_min2 : c_min2 [.int i, .int j] = some (.im (.int (min i j))) := n_min2
def rngO (i j : Int) : Option (List Int) := if (rgC i && rgC j) = true then some ((List.range (j - i).toNat).map fun (k : Nat) => i + (k : Int)) else none
def rng1O (j : Int) : Option (List Int) := if rgC j = true then some ((List.range j.toNat).map fun (k : Nat) => (k : Int)) else none
def rgLO (i j : Int) : Option (List Int) := if rgOkB i j = true then some ((List.range (j - i).toNat).map fun (k : Nat) => i + (k : Int)) else none
def repO (l : List α) (k : Int) : Option (List α) := if (okLen l.length && (decide (-9223372036854775808 ≤ k ∧ k < 9223372036854775808) && okLen (l.length * k.toNat))) = true then some (List.replicate k.toNat l).flatten else none
def enumL (l : List α) : List (Int × α) := (List.range l.length).zipWith (fun (i : Nat) a => ((i : Int), a)) l
theorem enum_typed : enumD (l.map f) = (enumL l).map (p2 PyData.int f) := by
  unfold enumD enumL
  rw [List.length_map, List.map_zipWith, List.zipWith_map_right]
theorem zip_typed {g : β → PyData} {m : List β} : zipD (l.map f) (m.map g) = (l.zip m).map (p2 f g) := by
  unfold zipD
  rw [List.zipWith_map, List.zip_eq_zipWith, List.map_zipWith]
def lcO {γ : Type} (p : α → Option Bool) (g : α → Option γ) : List α → Option (List γ)
  | [] => some []
  | a :: l => (p a).bind fun b => if b = true then (g a).bind fun c => (lcO p g l).bind fun cs => some (c :: cs) else lcO p g l
def lcC {γ : Type} (p : α → Option Bool) (g : α → Option γ) (l : List α) : Option (List γ) := if l.length ≤ 16777216 then lcO p g l else none
def andO (a : Bool) (o : Option Bool) : Option Bool := if a = true then o else some false
def orO (a : Bool) (o : Option Bool) : Option Bool := if a = true then some true else o
def putO (l : List α) (i : Int) (a : α) : Option (List α) := (ixN l.length i).bind fun j => some (l.set j a)
def appO (l : List α) (a : α) : Option (List α) := if l.length + 1 ≤ 16777216 then some (l ++ [a]) else none
end
section
variable {x y z : Fe} {c d : Ft} {e e1 e2 e3 : Ev} {r r1 r2 r3 : Rs} {a b : PyData} {ds : List PyData} {fa fb : Fa}
theorem binX {φ : PyData → PyData → Option Rs} (h1 : x e = some (r1, e1)) (h2 : y e1 = some (r2, e2)) (l1 : lookR e2 (frzR r1) = some a) (l2 : lookR e2 (frzR r2) = some b) (h : φ a b = some r) : x_bin φ x y e = some (r, e2) := by
  rw [r_x_bin, r_two, h1]
  simp only [h2, look2, l1, l2, h]
theorem chX {φ ψ : PyData → PyData → Option Rs} {dc : PyData} {p q : Bool} (h1 : x e = some (r1, e1)) (h2 : y e1 = some (r2, e2)) (h3 : z e2 = some (r3, e2)) (l1 : lookR e2 (frzR r1) = some a) (l2 : lookR e2 (frzR r2) = some b) (l3 : lookR e2 (frzR r3) = some dc)
    (hp : φ a b = some (.im (.bool p))) (hq : ψ b dc = some (.im (.bool q))) : x_chain φ ψ x y z e = some (.im (.bool (p && q)), e2) := by
  rw [r_x_chain, r_two, h1]
  simp only [h2, look2, l1, l2, hp]
  cases p with
  | false => rfl
  | true => simp only [h3, l2, l3, hq, Bool.true_and]
theorem d0 : argsD a_nil e = some ([], e) := rfl
theorem dX (h1 : x e = some (r, e1)) (h2 : argsD fa e1 = some (ds, e2)) (l1 : lookR e2 (frzR r) = some a) : argsD (a_cons x fa) e = some (a :: ds, e2) := by
  rw [r_argsD] at h2 ⊢
  rw [r_a_cons, h1]
  dsimp only
  cases z : fa e1 with
  | none => rw [z] at h2; cases h2
  | some p =>
    obtain ⟨rs, e3⟩ := p
    rw [z] at h2
    dsimp only at h2 ⊢
    cases y : lookAll e3 rs with
    | none => rw [y] at h2; cases h2
    | some es =>
      rw [y] at h2
      cases h2
      rw [n_lookAll1, l1]
      dsimp only
      rw [y]
theorem cbX {φ : List PyData → Option Rs} (h : argsD fa e = some (ds, e1)) (k : φ ds = some r) : x_cb φ fa e = some (r, e1) := by
  rw [r_x_cb, h]
  simp only [k]
theorem isX {T : Ty} {b : Bool} (h1 : x e = some (r, e1)) (l1 : lookR e1 (frzR r) = some a) (k : isD T a = some b) : x_isi T x e = some (.im (.bool b), e1) := by
  rw [r_x_isi, h1]
  simp only [l1, k]
theorem lstX (h : argsI fa e = some (ds, e1)) (hl : ds.length ≤ 16777216) : x_lst fa e = some (.ac ds, e1) := by
  rw [r_x_lst, h]
  dsimp only
  rw [if_pos (okLen_yes hl)]
theorem notX {b : Bool} (h : x e = some (.im (.bool b), e1)) : x_not x e = some (.im (.bool (!b)), e1) := by
  rw [r_x_not, h]
theorem andX {p q : Bool} {o : Option Bool} (h : x e = some (.im (.bool p), e1)) (k : andO p o = some q) (hy : p = true → ∀ q', o = some q' → y e1 = some (.im (.bool q'), e1)) : x_and x y e = some (.im (.bool q), e1) := by
  rw [r_x_and, h]
  cases p with
  | false => cases k; rfl
  | true => exact hy rfl q k
theorem tandX {p q : Bool} {o : Option Bool} (h : c e = some (p, e1)) (k : andO p o = some q) (hy : p = true → ∀ q', o = some q' → d e1 = some (q', e1)) : t_and c d e = some (q, e1) := by
  rw [r_t_and, h]
  cases p with
  | false => cases k; rfl
  | true => exact hy rfl q k
theorem torX {p q : Bool} {o : Option Bool} (h : c e = some (p, e1)) (k : orO p o = some q) (hy : p = false → ∀ q', o = some q' → d e1 = some (q', e1)) : t_or c d e = some (q, e1) := by
  rw [r_t_or, h]
  cases p with
  | true => cases k; rfl
  | false => exact hy rfl q k
end
section
variable {α : Type} {f : α → PyData} {x y z : Fe} {e e1 e2 e3 : Ev} {r : Rs} {i j k : Int} {l : List α} {fa : Fa}
theorem cutTX {lo hi : Option Int} {fl fh : Fo} (h : x e = some (.im (tp f l), e1)) (h1 : fl e1 = some (lo, e2)) (h2 : fh e2 = some (hi, e3)) : x_sl x fl fh e = some (.im (tp f (cutD l lo hi)), e3) := by
  rw [r_x_sl, h]
  simp only [h1, h2, frzR, lookR, sliced, cut_map]
theorem cutLX {lo hi : Option Int} {fl fh : Fo} (h : x e = some (r, e1)) (h1 : fl e1 = some (lo, e2)) (h2 : fh e2 = some (hi, e3)) (hl : lookR e3 (frzR r) = some (ls f l)) : x_sl x fl fh e = some (.ac ((cutD l lo hi).map f), e3) := by
  rw [r_x_sl, h]
  simp only [h1, h2, hl, sliced, cut_map]
theorem oA (h : x e = some (.im (.int i), e1)) : o_at x e = some (some i, e1) := by
  rw [r_o_at, h]
theorem oN : o_no e = some (none, e) := rfl
theorem repX {ds : List α} {out : List α} (h : argsI fa e = some (ds.map f, e1)) (h2 : x e1 = some (.im (.int k), e2)) (hk : repO ds k = some out) : x_rep fa x e = some (.ac (out.map f), e2) := by
  unfold repO at hk
  rw [r_x_rep, h]
  dsimp only
  rw [h2]
  dsimp only
  rw [List.length_map]
  by_cases z : (okLen ds.length && (decide (-9223372036854775808 ≤ k ∧ k < 9223372036854775808) && okLen (ds.length * k.toNat))) = true
  · rw [if_pos z] at hk ⊢
    cases hk
    rw [List.map_flatten, List.map_replicate]
  · rw [if_neg z] at hk
    cases hk
theorem seqTX (h : x e = some (.im (tp f l), e1)) : i_seq x e = some (l.map f, e1) := iseqT h
theorem seqLX (h : x e = some (.im (ls f l), e1)) : i_seq x e = some (l.map f, e1) := iseqL h
theorem seqAX (h : x e = some (.ac (l.map f), e1)) : i_seq x e = some (l.map f, e1) := iseqA h
theorem enumI (h : i_seq x e = some (l.map f, e1)) : i_enum x e = some ((enumL l).map (p2 PyData.int f), e1) := by
  rw [r_i_enum, h]
  dsimp only
  rw [enum_typed]
theorem zipTI {β : Type} {g : β → PyData} {m : List β} (h : x e = some (.im (tp f l), e1)) (h2 : y e1 = some (.im (tp g m), e2)) : i_zip x y e = some ((l.zip m).map (p2 f g), e2) := by
  rw [r_i_zip, r_two, h]
  simp only [h2, frzR, zip_typed]
theorem rng_typed (n : Nat) : rngD i n 1 = ((List.range n).map fun (k : Nat) => i + (k : Int)).map PyData.int := by
  unfold rngD
  rw [List.map_map]
  refine List.map_congr_left fun k _ => ?_
  show PyData.int (i + (k : Int) * 1) = .int (i + k)
  rw [Int.mul_one]
theorem rng2I {is : List Int} (h : x e = some (.im (.int i), e1)) (h2 : y e1 = some (.im (.int j), e2)) (k : rngO i j = some is) : i_rng2 x y e = some (is.map PyData.int, e2) := by
  rw [r_i_rng2, h]
  dsimp only
  rw [h2]
  dsimp only
  unfold rngO at k
  by_cases z : (rgC i && rgC j) = true
  · rw [if_pos z] at k ⊢
    cases k
    rw [rng_typed]
  · rw [if_neg z] at k
    cases k
theorem rng1I {is : List Int} (h : x e = some (.im (.int j), e1)) (k : rng1O j = some is) : i_rng1 x e = some (is.map PyData.int, e1) := by
  rw [r_i_rng1, h]
  dsimp only
  unfold rng1O at k
  by_cases z : rgC j = true
  · rw [if_pos z] at k ⊢
    cases k
    rw [rng_typed]
    refine congrArg some (Prod.ext ?_ rfl)
    dsimp only
    congr 1
    refine List.map_congr_left fun k _ => ?_
    omega
  · rw [if_neg z] at k
    cases k
theorem rgL_typed : rgL i j = ((List.range (j - i).toNat).map fun (k : Nat) => i + (k : Int)).map PyData.int := by
  unfold rgL
  rw [List.map_map]
  rfl
theorem rg2X (h : x e = some (.im (.int i), e1)) (h2 : y e1 = some (.im (.int j), e2)) : g_rg2 x y e = some (i, j, e2) := by
  rw [r_g_rg2, h]
  dsimp only
  rw [h2]
theorem lrgX {g : Fg} {is : List Int} (h : g e = some (i, j, e1)) (k : rgLO i j = some is) : x_lrg g e = some (.ac (is.map PyData.int), e1) := by
  rw [r_x_lrg, h]
  dsimp only
  unfold rgLO at k
  by_cases z : rgOkB i j = true
  · rw [if_pos z] at k ⊢
    cases k
    rw [rgL_typed]
  · rw [if_neg z] at k
    cases k
end
theorem o_inL {x : Int} {l : List Int} : p_in (.int x) (ls PyData.int l) = some (.im (.bool (decide (x ∈ l)))) := e_in x l
section
variable {X β : Type} {enc : X → PyData} {encB : β → PyData} {fi : Fi} {γ : PyData → Ev → Option Ev} {tst : Ft} {fe : Fe} {vs : List Nat} {e e1 : Ev}
theorem lcGo_typed (p : X → Option Bool) (g : X → Option β) (w : Ev) : ∀ (l : List X) (out : List β) (acc : List PyData), lcO p g l = some out → acc.length + l.length ≤ 16777216 →
    (∀ a ∈ l, ∃ a1, γ (enc a) w = some a1 ∧ wipeE a1 vs = w ∧ (∀ b, p a = some b → tst a1 = some (b, a1)) ∧ (p a = some true → ∀ c, g a = some c → ∃ z, fe a1 = some z ∧ imR (frzR z.1) = some (encB c) ∧ z.2 = a1)) →
    lcGo γ tst fe vs (l.map enc) w acc = some (acc ++ out.map encB, w)
  | [], out, acc, h, _, _ => by
    cases h
    show some (acc, _) = some (acc ++ [], _)
    rw [List.append_nil]
  | a :: l, out, acc, h, hl, k => by
    obtain ⟨b, hb, h⟩ := bnd h
    obtain ⟨a1, k1, k2, k3, k4⟩ := k a List.mem_cons_self
    rw [List.length_cons] at hl
    rw [List.map_cons]
    simp only [lcGo, k1, k3 b hb]
    cases b with
    | false =>
      rw [if_neg Bool.false_ne_true] at h
      simp only [k2]
      exact lcGo_typed p g w l out acc h (by omega) fun x m => k x (List.mem_cons_of_mem _ m)
    | true =>
      rw [if_pos rfl] at h
      obtain ⟨c, hc, h⟩ := bnd h
      obtain ⟨cs, hcs, h⟩ := bnd h
      cases h
      obtain ⟨⟨r, e3⟩, z1, z2, z3⟩ := k4 hb c hc
      simp only [z1, z2]
      dsimp only at z3
      rw [if_pos (okLen_yes (by omega)), z3, k2, lcGo_typed p g w l cs _ hcs (by simp only [List.length_append, List.length_cons, List.length_nil]; omega) fun x m => k x (List.mem_cons_of_mem _ m)]
      rw [List.map_cons, List.append_assoc]
      rfl
theorem lcX {items : List X} {p : X → Option Bool} {g : X → Option β} {out : List β} (h : lcC p g items = some out) (hi : fi e = some (items.map enc, e1)) (hn : noAc e1 vs = true)
    (k : ∀ a ∈ items, ∃ a1, γ (enc a) (wipeE e1 vs) = some a1 ∧ wipeE a1 vs = wipeE e1 vs ∧ (∀ b, p a = some b → tst a1 = some (b, a1)) ∧ (p a = some true → ∀ c, g a = some c → ∃ z, fe a1 = some z ∧ imR (frzR z.1) = some (encB c) ∧ z.2 = a1)) :
    x_lc fi γ tst fe vs e = some (.ac (out.map encB), e1) := by
  unfold lcC at h
  by_cases z : items.length ≤ 16777216
  · rw [if_pos z] at h
    unfold x_lc
    simp only [hi]
    rw [if_pos hn, lcGo_typed p g _ items out [] h (by simpa using z) k]
    simp only [rest_wipe, List.nil_append]
  · rw [if_neg z] at h
    cases h
end
section
open Classical
variable {ρ : Type}
noncomputable def chI (enc : ρ → PyData) (o : Option Rs) : Option ρ := if h : ∃ r, o = some (.im (enc r)) then some (choose h) else none
theorem chI_ok {enc : ρ → PyData} {o : Option Rs} {r : ρ} (h : chI enc o = some r) : o = some (.im (enc r)) := by
  unfold chI at h
  by_cases z : ∃ r, o = some (.im (enc r))
  · rw [dif_pos z] at h
    cases h
    exact choose_spec z
  · rw [dif_neg z] at h
    cases h
/-- what it is, where the data tell it -/
theorem chI_eq {enc : ρ → PyData} {o : Option Rs} {r : ρ} (inj : ∀ a b, enc a = enc b → a = b) (h : o = some (.im (enc r))) : chI enc o = some r := by
  have z : ∃ r, o = some (.im (enc r)) := ⟨r, h⟩
  unfold chI
  rw [dif_pos z]
  have q := h.symm.trans (choose_spec z)
  injection q with q
  injection q with q
  rw [inj _ _ q]
end
end DL
namespace DL
open L2 PySem PySem.Spec PySem.W PyProof.Rows
inductive Lp (σ ρ : Type) where
  | nx (s : σ) | bk (s : σ) | rt (r : ρ)
def PK {σ ρ : Type} (inv : σ → Ev → Prop) (rt : ρ → Rs → Ev → Prop) : Lp σ ρ → Fl → Prop
  | .nx s, .nx e => inv s e
  | .nx s, .ct e => inv s e
  | .bk s, .bk e => inv s e
  | .rt r, .rt r' e => rt r r' e
  | _, _ => False
def SK {σ : Type} (inv : σ → Ev → Prop) : σ → Fl → Prop
  | s, .nx e => inv s e
  | s, .ct e => inv s e
  | _, _ => False
def RK {ρ : Type} (rt : ρ → Rs → Ev → Prop) : ρ → Fl → Prop
  | r, .rt r' e => rt r r' e
  | r, .nx e => rt r (.im .none) e
  | _, _ => False
def forG {α σ ρ : Type} (body : α → σ → Option (Lp σ ρ)) : List α → σ → Option (Lp σ ρ)
  | [], s => some (.nx s)
  | a :: l, s => (body a s).bind fun r => match r with
    | .nx s' => forG body l s'
    | .bk s' => some (.nx s')
    | .rt r => some (.rt r)
def forS {α σ : Type} (body : α → σ → Option σ) : List α → σ → Option σ
  | [], s => some s
  | a :: l, s => (body a s).bind fun s' => forS body l s'
def whG {σ ρ : Type} (c : σ → Option Bool) (body : σ → Option (Lp σ ρ)) : Nat → σ → Option (Lp σ ρ)
  | 0, _ => none
  | n + 1, s => (c s).bind fun b => if b = true then (body s).bind fun r => (match r with
    | .nx s' => whG c body n s'
    | .bk s' => some (.nx s')
    | .rt r => some (.rt r)) else some (.nx s)
def whS {σ : Type} (c : σ → Option Bool) (body : σ → Option σ) : Nat → σ → Option σ
  | 0, _ => none
  | n + 1, s => (c s).bind fun b => if b = true then (body s).bind fun s' => whS c body n s' else some s
def thenL {σ ρ τ : Type} (o : Option (Lp σ ρ)) (rt : ρ → Option τ) (k : σ → Option τ) : Option τ := o.bind fun l => match l with
  | .nx s => k s
  | .bk s => k s
  | .rt r => rt r
theorem thenL_nx {σ ρ τ : Type} {o : Option (Lp σ ρ)} {s : σ} {rt : ρ → Option τ} {k : σ → Option τ} (h : o = some (.nx s)) : thenL o rt k = k s := by
  rw [h]; rfl
section
variable {f g : Fs} {e e1 e2 : Ev} {Q : Fl → Prop} {x y : Fe} {i : Nat} {ds : List PyData}
theorem t_set {α : Type} {f : α → PyData} {v w : α} (hw : some v = some w) (h : x e = some (.im (f v), e1)) (ok : okS [i] e1 = true) (q : Q (.nx (e1.set i (some (.im (f w)))))) : wS (s_setF i x) e Q := by
  cases hw
  exact w_setI h ok q
theorem t_setL {α : Type} {f : α → PyData} {v w : List α} (hw : some v = some w) (h : x e = some (.ac (v.map f), e1)) (ok : okS [i] e1 = true) (q : Q (.nx (e1.set i (some (.im (ls f w)))))) : wS (s_setF i x) e Q := by
  cases hw
  exact w_setL h ok q
theorem t_setA {α : Type} {f : α → PyData} {v w : List α} (hw : some v = some w) (h : x e = some (.ac (v.map f), e1)) (ok : okS [i] e1 = true) (q : Q (.nx (e1.set i (some (.ac (w.map f)))))) : wS (s_set i x) e Q := by
  cases hw
  exact w_setA h ok q
theorem t_app {α : Type} {f : α → PyData} {l m : List α} {a : α} (hm : appO l a = some m) (h : ∃ r, x e = some (r, e1) ∧ imR (frzR r) = some (f a)) (h0 : isAc e[i]? = true) (hi : e1[i]? = some (some (.ac (l.map f)))) (q : Q (.nx (e1.set i (some (.ac (m.map f)))))) : wS (s_drop (x_app i x)) e Q := by
  unfold appO at hm
  by_cases z : l.length + 1 ≤ 16777216
  · rw [if_pos z] at hm
    cases hm
    obtain ⟨r, h, hr⟩ := h
    refine w_drop (r := .im .none) ?_ q
    rw [r_x_app, if_pos h0, h]
    simp only [hr, hi]
    rw [if_pos (okLen_yes (by rw [List.length_map]; exact z)), List.map_append]
    rfl
  · rw [if_neg z] at hm
    cases hm
theorem t_put {α : Type} {f : α → PyData} {l m : List α} {k : Int} {a : α} (hm : putO l k a = some m) (h : ∃ r, x e = some (r, e1) ∧ imR (frzR r) = some (f a)) (h0 : isAc e1[i]? = true) (hk : y e1 = some (.im (.int k), e2)) (hi : e2[i]? = some (some (.ac (l.map f)))) (q : Q (.nx (e2.set i (some (.ac (m.map f)))))) : wS (s_put i x y) e Q := by
  obtain ⟨r, h, hr⟩ := h
  obtain ⟨j, hj, hm⟩ := bnd hm
  cases hm
  refine ⟨_, ?_, q⟩
  rw [r_s_put, h]
  simp only [h0, hr, hk, hi, if_true]
  rw [List.length_map, hj]
  simp only [List.map_set]
def setO (l : List Int) : Option (List Int) := if l.length + 1 < 4096 then some l else none
def JK {σ τ : Type} (inv : σ → Ev → Prop) (seg : σ → Option τ) (t : τ) (Q : Fl → Prop) : Fl → Prop
  | .nx e => ∃ s, inv s e ∧ seg s = some t
  | fl => Q fl
theorem t_join {σ τ : Type} (inv : σ → Ev → Prop) (seg : σ → Option τ) {t : τ} (K : ∀ s e, inv s e → seg s = some t → wS g e Q) (h : wS f e (JK inv seg t Q)) : wS (s_seq f g) e Q := by
  obtain ⟨fl, h1, h2⟩ := h
  refine w_seq ⟨fl, h1, ?_⟩
  cases fl with
  | nx e => obtain ⟨s, h3, h4⟩ := h2; exact K s e h3 h4
  | bk e => exact h2
  | ct e => exact h2
  | rt r e => exact h2
end
section
variable {fi : Fi} {γ : PyData → Ev → Option Ev} {S : List Nat} {fb : Fs} {e e1 : Ev} {Q : Fl → Prop}
theorem t_forG {X σ ρ : Type} (enc : X → PyData) (items : List X) (body : X → σ → Option (Lp σ ρ)) (inv : σ → Ev → Prop) (rt : ρ → Rs → Ev → Prop) {s0 : σ} {l : Lp σ ρ} (hi : fi e = some (items.map enc, e1)) (h0 : inv s0 e1) (h : forG body items s0 = some l)
    (hb : ∀ x s l, body x s = some l → ∀ e, inv s e → okS S e = true ∧ ∃ e2, γ (enc x) e = some e2 ∧ wS fb e2 (PK inv rt l))
    (q1 : ∀ s, l = .nx s → ∀ e, inv s e → Q (.nx e)) (q2 : ∀ r, l = .rt r → ∀ r' e, rt r r' e → Q (.rt r' e)) : wS (s_for fi γ S fb) e Q := by
  have go : ∀ (items : List X) (s0 : σ) (e : Ev), inv s0 e → forG body items s0 = some l → ∃ fl, forGo γ S fb (items.map enc) e = some fl ∧ Q fl := by
    intro items
    induction items with
    | nil =>
      intro s0 e h0 h
      cases h
      exact ⟨_, rfl, q1 s0 rfl e h0⟩
    | cons x items ih =>
      intro s0 e h0 h
      obtain ⟨l1, hl1, h⟩ := bnd h
      obtain ⟨k1, e2, k2, fl, k3, k4⟩ := hb x s0 l1 hl1 e h0
      rw [List.map_cons]
      simp only [forGo, k1, k2, k3, if_true]
      cases l1 with
      | nx s1 =>
        cases fl with
        | nx e3 => exact ih s1 e3 k4 h
        | ct e3 => exact ih s1 e3 k4 h
        | bk e3 => exact k4.elim
        | rt r e3 => exact k4.elim
      | bk s1 =>
        cases h
        cases fl with
        | nx e3 => exact k4.elim
        | ct e3 => exact k4.elim
        | bk e3 => exact ⟨_, rfl, q1 s1 rfl e3 k4⟩
        | rt r e3 => exact k4.elim
      | rt r =>
        cases h
        cases fl with
        | nx e3 => exact k4.elim
        | ct e3 => exact k4.elim
        | bk e3 => exact k4.elim
        | rt r' e3 => exact ⟨_, rfl, q2 r rfl r' e3 k4⟩
  obtain ⟨fl, h1, h2⟩ := go items s0 e1 h0 h
  exact ⟨fl, sf hi h1, h2⟩
theorem t_forS {X σ : Type} (enc : X → PyData) (items : List X) (body : X → σ → Option σ) (inv : σ → Ev → Prop) {s0 s : σ} (hi : fi e = some (items.map enc, e1)) (h0 : inv s0 e1) (h : forS body items s0 = some s)
    (hb : ∀ x s s', body x s = some s' → ∀ e, inv s e → okS S e = true ∧ ∃ e2, γ (enc x) e = some e2 ∧ wS fb e2 (SK inv s'))
    (q1 : ∀ e, inv s e → Q (.nx e)) : wS (s_for fi γ S fb) e Q := by
  have go : ∀ (items : List X) (s0 : σ) (e : Ev), inv s0 e → forS body items s0 = some s → ∃ fl, forGo γ S fb (items.map enc) e = some fl ∧ Q fl := by
    intro items
    induction items with
    | nil =>
      intro s0 e h0 h
      cases h
      exact ⟨_, rfl, q1 e h0⟩
    | cons x items ih =>
      intro s0 e h0 h
      obtain ⟨l1, hl1, h⟩ := bnd h
      obtain ⟨k1, e2, k2, fl, k3, k4⟩ := hb x s0 l1 hl1 e h0
      rw [List.map_cons]
      simp only [forGo, k1, k2, k3, if_true]
      cases fl with
      | nx e3 => exact ih l1 e3 k4 h
      | ct e3 => exact ih l1 e3 k4 h
      | bk e3 => exact k4.elim
      | rt r e3 => exact k4.elim
  obtain ⟨fl, h1, h2⟩ := go items s0 e1 h0 h
  exact ⟨fl, sf hi h1, h2⟩
theorem t_whG {σ ρ : Type} {n : Ev → Nat} {tst : Ft} (c : σ → Option Bool) (body : σ → Option (Lp σ ρ)) (inv : σ → Ev → Prop) (rt : ρ → Rs → Ev → Prop) {s0 : σ} {l : Lp σ ρ} {N : Nat} (hN : n e = N) (h0 : inv s0 e) (h : whG c body N s0 = some l)
    (hc : ∀ s b, c s = some b → ∀ e, inv s e → tst e = some (b, e))
    (hb : ∀ s l, body s = some l → ∀ e, inv s e → wS fb e (PK inv rt l))
    (q1 : ∀ s, l = .nx s → ∀ e, inv s e → Q (.nx e)) (q2 : ∀ r, l = .rt r → ∀ r' e, rt r r' e → Q (.rt r' e)) : wS (s_while n tst fb) e Q := by
  have go : ∀ (N : Nat) (s0 : σ) (e : Ev), inv s0 e → whG c body N s0 = some l → ∃ fl, whGo tst fb N e = some fl ∧ Q fl := by
    intro N
    induction N with
    | zero =>
      intro s0 e h0 h
      cases h
    | succ N ih =>
      intro s0 e h0 h
      obtain ⟨b, hb1, h⟩ := bnd h
      have k0 := hc s0 b hb1 e h0
      cases b with
      | false =>
        cases h
        exact ⟨_, by simp only [whGo, k0], q1 s0 rfl e h0⟩
      | true =>
        rw [if_pos rfl] at h
        obtain ⟨l1, hl1, h⟩ := bnd h
        obtain ⟨fl, k3, k4⟩ := hb s0 l1 hl1 e h0
        simp only [whGo, k0, k3]
        cases l1 with
        | nx s1 =>
          cases fl with
          | nx e3 => exact ih s1 e3 k4 h
          | ct e3 => exact ih s1 e3 k4 h
          | bk e3 => exact k4.elim
          | rt r e3 => exact k4.elim
        | bk s1 =>
          cases h
          cases fl with
          | nx e3 => exact k4.elim
          | ct e3 => exact k4.elim
          | bk e3 => exact ⟨_, rfl, q1 s1 rfl e3 k4⟩
          | rt r e3 => exact k4.elim
        | rt r =>
          cases h
          cases fl with
          | nx e3 => exact k4.elim
          | ct e3 => exact k4.elim
          | bk e3 => exact k4.elim
          | rt r' e3 => exact ⟨_, rfl, q2 r rfl r' e3 k4⟩
  unfold wS s_while
  rw [hN]
  exact go N s0 e h0 h
theorem t_whS {σ : Type} {n : Ev → Nat} {tst : Ft} (c : σ → Option Bool) (body : σ → Option σ) (inv : σ → Ev → Prop) {s0 s : σ} {N : Nat} (hN : n e = N) (h0 : inv s0 e) (h : whS c body N s0 = some s)
    (hc : ∀ s b, c s = some b → ∀ e, inv s e → tst e = some (b, e))
    (hb : ∀ s s', body s = some s' → ∀ e, inv s e → wS fb e (SK inv s'))
    (q1 : ∀ e, inv s e → Q (.nx e)) : wS (s_while n tst fb) e Q := by
  have go : ∀ (N : Nat) (s0 : σ) (e : Ev), inv s0 e → whS c body N s0 = some s → ∃ fl, whGo tst fb N e = some fl ∧ Q fl := by
    intro N
    induction N with
    | zero =>
      intro s0 e h0 h
      cases h
    | succ N ih =>
      intro s0 e h0 h
      obtain ⟨b, hb1, h⟩ := bnd h
      have k0 := hc s0 b hb1 e h0
      cases b with
      | false =>
        cases h
        exact ⟨_, by simp only [whGo, k0], q1 e h0⟩
      | true =>
        rw [if_pos rfl] at h
        obtain ⟨l1, hl1, h⟩ := bnd h
        obtain ⟨fl, k3, k4⟩ := hb s0 l1 hl1 e h0
        simp only [whGo, k0, k3]
        cases fl with
        | nx e3 => exact ih l1 e3 k4 h
        | ct e3 => exact ih l1 e3 k4 h
        | bk e3 => exact k4.elim
        | rt r e3 => exact k4.elim
  unfold wS s_while
  rw [hN]
  exact go N s0 e h0 h
end
section
variable {x y : Fe} {c d : Ft} {e e1 e2 : Ev} {p q : Bool} {i : Nat} {ds : List PyData}
theorem vB (h : e[i]? = some (some (.ac ds))) : x_var i e = some (.br i, e) := by
  rw [r_x_var, h]
theorem andXt (h : x e = some (.im (.bool p), e1)) (k : y e1 = some (.im (.bool q), e1)) : x_and x y e = some (.im (.bool (p && q)), e1) := by
  rw [r_x_and, h]
  cases p with
  | false => rfl
  | true => exact k
theorem tandXt (h : c e = some (p, e1)) (k : d e1 = some (q, e1)) : t_and c d e = some (p && q, e1) := by
  rw [r_t_and, h]
  cases p with
  | false => rfl
  | true => exact k
theorem torXt (h : c e = some (p, e1)) (k : d e1 = some (q, e1)) : t_or c d e = some (p || q, e1) := by
  rw [r_t_or, h]
  cases p with
  | false => exact k
  | true => rfl
end
section
variable {ρ : Type} {n nl : Nat} {g : Fs} {ds : List PyData}
def rtI (enc : ρ → PyData) (r : ρ) (r' : Rs) (e : Ev) : Prop := finR r' e = some (.im (enc r))
def rtA (enc : ρ → PyData) (r : List ρ) (r' : Rs) (e : Ev) : Prop := finR r' e = some (.ac (r.map enc))
theorem t_fnI {enc : ρ → PyData} {r : ρ} (hl : ds.length = n) (h : wS g (env0 ds nl) (RK (rtI enc) r)) : runF n nl g ds = some (.im (enc r)) := by
  obtain ⟨fl, h1, h2⟩ := h
  unfold runF
  rw [if_pos hl, h1]
  cases fl with
  | nx e => exact h2
  | bk e => exact h2.elim
  | ct e => exact h2.elim
  | rt r e => exact h2
theorem t_fnA {enc : ρ → PyData} {r : List ρ} (hl : ds.length = n) (h : wS g (env0 ds nl) (RK (rtA enc) r)) : runF n nl g ds = some (.ac (r.map enc)) := by
  obtain ⟨fl, h1, h2⟩ := h
  unfold runF
  rw [if_pos hl, h1]
  cases fl with
  | nx e => exact h2
  | bk e => exact h2.elim
  | ct e => exact h2.elim
  | rt r e => exact h2
end
end DL
namespace DL
open L2 PySem PySem.Spec PySem.W PyProof.Rows
end DL
namespace DL
open PySem PySem.Spec PyProof.Rows L2
structure Xc where
  c : Str
  fs : List (Str × PyData)
abbrev Ex (α : Type) := α ⊕ (Xc × Ev)
abbrev Fsx := Ev → Option (Ex Fl)
abbrev Fex := Ev → Option (Ex (Rs × Ev))
/-- its dict -/
def FsAt (K : PySem.W.Frag) (G : Hp) (fs : List (Str × V)) (ds : List (Str × PyData)) : Prop := fs.map (·.1) = ds.map (·.1) ∧ DpAll K G (fs.map (·.2)) (ds.map (·.2))
def XcAt (K : PySem.W.Frag) (mg : Str → Option Value) (G : Hp) (cls : Value) (d : Option Addr) (x : Xc) : Prop := ∃ (C dd : Addr) (fs : List (Str × V)), mg x.c = some (.ref C) ∧ cls = .ref C ∧ d = some dd ∧ G dd = some (.xd fs) ∧ FsAt K G fs x.fs
theorem FsAt.same {K : PySem.W.Frag} {G G' : Hp} {fs : List (Str × V)} {ds : List (Str × PyData)} (h : FsAt K G fs ds) (s : Same G G') : FsAt K G' fs ds := ⟨h.1, dpAll_same s h.2⟩
theorem XcAt.same {K : PySem.W.Frag} {mg : Str → Option Value} {G G' : Hp} {cls : Value} {d : Option Addr} {x : Xc} (h : XcAt K mg G cls d x) (s : Same G G') : XcAt K mg G' cls d x := by
  obtain ⟨C, dd, fs, h1, h2, h3, h4, h5⟩ := h
  exact ⟨C, dd, fs, h1, h2, h3, s dd _ h4, h5.same s⟩
def PoX (K : PySem.W.Frag) (mg : Str → Option Value) (m : Option Addr) (E : Ef) (G0 G : Hp) (D : Ends) (W : WX) : Ex Fl → Prop
  | .inl fl => PoS K m E G0 G D fl
  | .inr (x, e) => ∀ cls d G' σ H, Same G G' → Rz K m E G0 G' e σ H → XcAt K mg G' cls d x → W cls d σ H
theorem PoX.aft {K : PySem.W.Frag} {mg : Str → Option Value} {m : Option Addr} {E : Ef} {G0 G G' : Hp} {D : Ends} {W : WX} {o : Ex Fl} (P : PoX K mg m E G0 G D W o) (s : Same G G') : PoX K mg m E G0 G' D W o := by
  cases o with
  | inl fl => exact PoS.aft P s
  | inr y => exact fun cls d G2 σ H s2 R X => P cls d G2 σ H (s.trans s2) R X
/-- the weakest reading -/
def tsX (K : PySem.W.Frag) (mg : Str → Option Value) (f : Fsx) (W : WX) : TS := fun D σ H => ∃ m E G0 G e o, Rz K m E G0 G e σ H ∧ f e = some o ∧ PoX K mg m E G0 G D W o
structure SDX (X : Cx) (W : WX) (st : Stmt) (f : Fsx) : Prop where
  run : PS X st (tsX X.K X.mg f W)
structure SsDX (X : Cx) (W : WX) (sts : List Stmt) (f : Fsx) : Prop where
  run : PSs X sts (tsX X.K X.mg f W)
def PoE (K : PySem.W.Frag) (mg : Str → Option Value) (m : Option Addr) (E : Ef) (G0 : Hp) (σ : St) (G H : Hp) (e : Ev) (W : WX) (Q : VK) : Ex (Rs × Ev) → Prop
  | .inl (r, e') => Po K m E G0 σ G H e r e' Q
  | .inr (x, e') => ∀ cls d G' H', Rl K m E G0 G' e' σ H' → Stp σ G H e G' H' e' → XcAt K mg G' cls d x → W cls d σ H'
def teX (K : PySem.W.Frag) (mg : Str → Option Value) (f : Fex) (W : WX) : TE := fun σ H Q => ∃ m E G0 G e o, Rl K m E G0 G e σ H ∧ f e = some o ∧ PoE K mg m E G0 σ G H e W Q o
structure EDX (X : Cx) (W : WX) (x : Expr) (f : Fex) : Prop where
  run : PE X x (teX X.K X.mg f W)
theorem ps_imp {X : Cx} {st : Stmt} {t u : TS} (h : PS X st t) (k : ∀ D σ H, u D σ H → t D σ H) : PS X st u := ⟨fun pins s σ H D I q => h.run pins s σ H D I (k D σ H q)⟩
theorem pss_imp {X : Cx} {st : List Stmt} {t u : TS} (h : PSs X st t) (k : ∀ D σ H, u D σ H → t D σ H) : PSs X st u := ⟨fun pins s σ H D I q => h.run pins s σ H D I (k D σ H q)⟩
theorem pe_imp {X : Cx} {x : Expr} {t u : TE} (h : PE X x t) (k : ∀ σ H Q, u σ H Q → t σ H Q) : PE X x u := ⟨fun pins s σ H Q I q => h.run pins s σ H Q I (k σ H Q q)⟩
section
variable {X : Cx} {W : WX} {st : Stmt} {rest : List Stmt} {f g : Fsx} {fs : Fs} {pos : Pos} {a : Expr} {fe : Fe}
def xS (f : Fs) : Fsx := fun e => (f e).map .inl
def xE (f : Fe) : Fex := fun e => (f e).map .inl
theorem SD.x (h : SD X st fs) : SDX X W st (xS fs) := by
  obtain ⟨t, p, k⟩ := h
  refine ⟨ps_imp p fun D σ H ⟨m, E, G0, G, e, o, R, q, P⟩ => ?_⟩
  unfold xS at q
  cases h1 : fs e with
  | none => rw [h1] at q; cases q
  | some fl =>
    rw [h1] at q
    cases q
    exact k m E G0 G e σ H fl D R h1 P
theorem SsD.x {sts : List Stmt} (h : SsD X sts fs) : SsDX X W sts (xS fs) := by
  obtain ⟨t, p, k⟩ := h
  refine ⟨pss_imp p fun D σ H ⟨m, E, G0, G, e, o, R, q, P⟩ => ?_⟩
  unfold xS at q
  cases h1 : fs e with
  | none => rw [h1] at q; cases q
  | some fl =>
    rw [h1] at q
    cases q
    exact k m E G0 G e σ H fl D R h1 P
theorem ED.x (h : ED X a fe) : EDX X W a (xE fe) := by
  obtain ⟨t, p, k⟩ := h
  refine ⟨pe_imp p fun σ H Q ⟨m, E, G0, G, e, o, R, q, P⟩ => ?_⟩
  unfold xE at q
  cases h1 : fe e with
  | none => rw [h1] at q; cases q
  | some z =>
    obtain ⟨r, e'⟩ := z
    rw [h1] at q
    cases q
    exact k m E G0 G e σ H r e' Q R h1 P
def x_seq (f g : Fsx) : Fsx := fun e => match f e with
  | some (.inl (.nx e1)) => g e1
  | o => o
theorem ssdx_nil : SsDX X W [] (xS s_nx) := SsD.x ssd_nil
theorem ssdx_cons (h : SDX X W st f) (h2 : SsDX X W rest g) : SsDX X W (st :: rest) (x_seq f g) := by
  refine ⟨pss_imp (pss_cons h.run h2.run) fun D σ H ⟨m, E, G0, G, e, o, R, q, P⟩ => ?_⟩
  unfold x_seq at q
  show tsX X.K X.mg f W { D with nx := tsX X.K X.mg g W D } σ H
  split at q
  · rename_i e1 h1
    exact ⟨m, E, G0, G, e, _, R, h1, fun G' σ' H' s R' => ⟨m, E, G0, G', e1, o, R', q, P.aft s⟩⟩
  · rename_i h1
    refine ⟨m, E, G0, G, e, o, R, q, ?_⟩
    cases o with
    | inl fl =>
      cases fl with
      | nx e1 => exact absurd q (h1 e1)
      | bk e1 => exact P
      | ct e1 => exact P
      | rt r e1 => exact P
    | inr y => exact P
theorem ssdx_one (h : SDX X W st f) : SsDX X W [st] f := by
  refine ⟨pss_imp (pss_one h.run) fun D σ H q => q⟩
def x_ifS (c : Ft) (f g : Fsx) : Fsx := fun e => match c e with
  | some (true, e1) => f e1
  | some (false, e1) => g e1
  | none => none
theorem sdx_if {tst : Expr} {A B : List Stmt} {c : Ft} (hc : TD X tst c) (ha : SsDX X W A f) (hb : SsDX X W B g) : SDX X W (.If tst A B pos) (x_ifS c f g) := by
  obtain ⟨t, p, k⟩ := hc
  refine ⟨ps_imp (ps_if p ha.run hb.run) fun D σ H ⟨m, E, G0, G, e, o, R, q, P⟩ => ?_⟩
  unfold x_ifS at q
  split at q
  · rename_i e1 h1
    refine k m E G0 G e σ H true e1 _ R.r h1 fun G' H' R' S' => ?_
    rw [if_pos rfl]
    exact ⟨m, E, G0, G', e1, o, R.exp R' S', q, P.aft S'.gg⟩
  · rename_i e1 h1
    refine k m E G0 G e σ H false e1 _ R.r h1 fun G' H' R' S' => ?_
    rw [if_neg Bool.false_ne_true]
    exact ⟨m, E, G0, G', e1, o, R.exp R' S', q, P.aft S'.gg⟩
  · cases q
variable {fx : Fex}
def x_drop (f : Fex) : Fsx := fun e => match f e with
  | some (.inl (_, e1)) => some (.inl (.nx e1))
  | some (.inr y) => some (.inr y)
  | none => none
theorem sdx_expr (h : EDX X W a fx) (hs : swapsWith a none pos.line X.env = pure false := by rfl) : SDX X W (.Expr a pos) (x_drop fx) := by
  refine ⟨ps_imp (ps_expr h.run hs) fun D σ H ⟨m, E, G0, G, e, o, R, q, P⟩ => ?_⟩
  unfold x_drop at q
  split at q
  · rename_i r e1 h1
    cases q
    exact ⟨m, E, G0, G, e, _, R.r, h1, fun v G' H' R' S' V N => P G' σ H' S'.gg (R.exp R' S')⟩
  · rename_i y h1
    cases q
    obtain ⟨x, e1⟩ := y
    exact ⟨m, E, G0, G, e, _, R.r, h1, fun cls d G' H' R' S' X' => P cls d G' σ H' S'.gg (R.exp R' S') X'⟩
  · cases q
def x_ret (f : Fex) : Fsx := fun e => match f e with
  | some (.inl (r, e1)) => some (.inl (.rt r e1))
  | some (.inr y) => some (.inr y)
  | none => none
theorem sdx_ret (h : EDX X W a fx) : SDX X W (.Return (some a) pos) (x_ret fx) := by
  refine ⟨ps_imp (ps_ret h.run) fun D σ H ⟨m, E, G0, G, e, o, R, q, P⟩ => ?_⟩
  unfold x_ret at q
  split at q
  · rename_i r e1 h1
    cases q
    exact ⟨m, E, G0, G, e, _, R.r, h1, fun v G' H' R' S' V N => P v G' σ H' S'.gg (R.exp R' S') V⟩
  · rename_i y h1
    cases q
    obtain ⟨x, e1⟩ := y
    exact ⟨m, E, G0, G, e, _, R.r, h1, fun cls d G' H' R' S' X' => P cls d G' σ H' S'.gg (R.exp R' S') X'⟩
  · cases q
def x_set (i : Nat) (f : Fex) : Fsx := fun e => match f e with
  | some (.inl (r, e1)) => (s_setF i (fun _ => some (r, e1)) e).map .inl
  | some (.inr y) => some (.inr y)
  | none => none
theorem sdx_set {x : Str} {pos' : Pos} (i : Nat) (hN : X.N.Nodup) (h : EDX X W a fx) (hi : X.N[i]? = some x := by rfl) (hx : Loc X.env.scope x := by first | exact .inl rfl | exact .inr rfl) (hs : swapsWith a (some (.Name x pos')) pos.line X.env = pure false := by rfl)
    (hf : X.fn x = true ∨ X.env.scope.names.lookup x = some .local := by first | exact .inl rfl | exact .inr rfl | assumption) : SDX X W (.Assign [.Name x pos'] a pos) (x_set i fx) := by
  refine ⟨ps_imp (ps_set hN hi hx h.run hs hf) fun D σ H ⟨m, E, G0, G, e, o, R, q, P⟩ => ?_⟩
  unfold x_set at q
  split at q
  · rename_i r e1 h1
    refine ⟨m, E, G0, G, e, _, R.r, h1, fun v G' H' R' S' V N => ?_⟩
    have Rx := R.exp R' S'
    obtain ⟨G2, R2, S2, s2, V2⟩ := R'.freeze S' V N
    have Rx2 := R.exp R2 S2
    rw [r_s_setF] at q
    dsimp only at q
    by_cases ok : okS [i] e1 = true
    · rw [if_pos ok] at q
      cases hr : frzR r with
      | im d =>
        rw [hr] at q V2
        cases q
        exact P G2 _ H' S2.gg (Rx2.setI V2 ok)
      | ac ds => cases r <;> cases hr
      | br j =>
        rw [hr] at q
        cases q
    · rw [if_neg ok] at q
      cases q
  · rename_i y h1
    cases q
    obtain ⟨x, e1⟩ := y
    exact ⟨m, E, G0, G, e, _, R.r, h1, fun cls d G' H' R' S' X' => P cls d G' σ H' S'.gg (R.exp R' S') X'⟩
  · cases q
end
end DL
namespace DL
open PySem PySem.Spec PyProof.Rows L2
abbrev Ro := Rs ⊕ Xc
def spX (K : PySem.W.Frag) (mg : Str → Option Value) (n : Nat) (φ : List PyData → Option Ro) : Sp := fun vs H Q E => ∃ G ds o, Same G H ∧ DpAll K G vs ds ∧ vs.length = n ∧ φ ds = some o ∧
  (∀ r, o = .inl r → ∀ v G' H', Same G G' → Same G' H' → Same H H' → (∀ a, G a = none → H a ≠ none → G' a = none) → VrF K G' H H' v r → Q v H') ∧
  (∀ x, o = .inr x → ∀ cls d G' H', Same G G' → Same G' H' → Same H H' → (∀ a, G a = none → H a ≠ none → G' a = none) → XcAt K mg G' cls d x → E cls d H')
inductive KfX (P : Program) (w : World) (K : PySem.W.Frag) (mg : Str → Option Value) (base : Heap) (k : Nat) (x : Str) (sp : Sp) (dvs : List V) : Prop where
  | kept (at_ : Addr) (fd : FuncData) (names : List Str) (given : List Value) (fn : FnOk P w K mg base (L2N.CX P w) k at_ fd names sp) (here : mg x = some (.ref at_)) (stays : PySem.W.keepIn K (.ref at_) = true) (binds : Binds K fd names given) (vals : Vals dvs given)
def runX (n nl : Nat) (g : Fsx) (ds : List PyData) : Option Ro := if ds.length = n then (match g (env0 ds nl) with
  | some (.inl (.rt r e)) => (finR r e).map .inl
  | some (.inl (.nx _)) => some (.inl (.im .none))
  | some (.inr (x, _)) => some (.inr x)
  | _ => none) else none
theorem runX_len {n nl : Nat} {g : Fsx} : ∀ ds, (runX n nl g ds).isSome = true → ds.length = n := fun ds h => by
  unfold runX at h
  by_cases z : ds.length = n
  · exact z
  · rw [if_neg z] at h
    cases h
section
variable {P : Program} {w : World} {K : PySem.W.Frag} {mg : Str → Option Value} {base : Heap} {x qual : Str} {params : Arguments} {body : List Stmt} {scope : Scope} {dvs : List V} {kws : List (Str × V)} {f : Addr} {fd : FuncData} {N ps : List Str} {k n nl : Nat} {g : Fsx}
theorem fnX (F : FunD K x qual params body scope dvs kws f fd) (S : FnScope N ps scope) (hp : ps.length = n) (hl : n + nl = N.length)
    (hb : ∀ (cdv : Value) (A : Around) (outer : List Env) (s : Shared) (H : Hp) (E : XK), Room k (A.deeper (envOfC qual scope s.heap.objs.size f cdv)) → L2N.Takes (cxOf (L2N.CX P w) P w K mg base N qual scope f cdv A outer s H E) (fun cls d _ H => E cls d H) →
      SsDX (cxOf (L2N.CX P w) P w K mg base N qual scope f cdv A outer s H E) (fun cls d _ H => E cls d H) body g) :
    FnOk P w K mg base (L2N.CX P w) (k + 1) f fd ps (spX K mg n (runX n nl g)) := by
  refine F.ok S (fun vs H Q E h => ?_) fun cdv A outer s H vs Q E hr h => ?_
  · obtain ⟨_, _, _, _, _, h, _⟩ := h
    rw [h, hp]
  · have b := hb cdv A outer s H E hr (L2N.takes_of rfl rfl rfl rfl)
    obtain ⟨G, ds, o, s1, hd, hv, hr2, hQ, hE⟩ := h
    refine ⟨_, b.run, ?_⟩
    have Rz0 : Rz K none (Ef.of H) G G (env0 ds nl) (L2.start N vs) H := rz_start s1 hd (by omega)
    unfold runX at hr2
    rw [if_pos (by rw [← dpAll_len hd]; exact hv)] at hr2
    have nw : ∀ {e' : Ev} {G' : Hp} {σ' : St} {H' : Hp}, Rz K none (Ef.of H) G G' e' σ' H' → (∀ a, G a = none → H a ≠ none → G' a = none) := fun R' => R'.r.nw
    have hh : ∀ {e' : Ev} {G' : Hp} {σ' : St} {H' : Hp}, Rz K none (Ef.of H) G G' e' σ' H' → Same H H' := fun R' a o z => R'.r.eh a o z (by simp)
    split at hr2
    · rename_i r' e' h1
      refine ⟨none, Ef.of H, G, G, _, _, Rz0, h1, fun v G' σ' H' s2 R' V' => ?_⟩
      unfold finR at hr2
      cases r' with
      | im d =>
        cases hr2
        exact hQ _ rfl v G' H' s2 R'.r.gh (hh R') (nw R') V'
      | ac d =>
        cases hr2
        obtain ⟨p, ws, a1, a2, a3, a4, a5, _⟩ := V'
        exact hQ _ rfl v G' H' s2 R'.r.gh (hh R') (nw R') ⟨p, ws, a1, a2, a3, a4, a5⟩
      | br i =>
        dsimp only at hr2
        split at hr2
        · rename_i d h2
          cases hr2
          obtain ⟨d', b1, b2⟩ := V'
          obtain ⟨p, ws, a1, a2, a3, a4, a5⟩ := R'.r.ac i d h2
          rw [a1] at b2
          cases b2
          have a5 : H p = none := by
            rcases a5 with a5 | a5
            · exact a5
            · cases a5.1
          exact hQ _ rfl _ G' H' s2 R'.r.gh (hh R') (nw R') ⟨p, ws, rfl, a5, a2, a3, a4⟩
        · cases hr2
    · rename_i e' h1
      cases hr2
      exact ⟨none, Ef.of H, G, G, _, _, Rz0, h1, fun G' σ' H' s2 R' => hQ _ rfl .non G' H' s2 R'.r.gh (hh R') (nw R') .non⟩
    · rename_i xc e' h1
      cases hr2
      exact ⟨none, Ef.of H, G, G, _, _, Rz0, h1, fun cls d G' σ' H' s2 R' X' => hE _ rfl cls d G' H' s2 R'.r.gh (hh R') (nw R') X'⟩
    · cases hr2
end
def x_callX (φ : List PyData → Option Ro) (dds : List PyData) (fa : Fa) : Fex := fun e => match argsI fa e with
  | some (ds, e1) => (match φ (ds ++ dds) with
    | some (.inl (.im d)) => some (.inl (.im d, e1))
    | some (.inl (.ac cs)) => some (.inl (.ac cs, e1))
    | some (.inr x) => some (.inr (x, e1))
    | _ => none)
  | none => none
def tCallX (sp : Sp) (dvs : List V) (W : WX) (t : TA) : TE := fun σ H Q => t σ H fun vs H1 => sp (vs ++ dvs) H1 Q (fun cls d H => W cls d σ H)
section
variable {X : Cx} {W : WX} {k j n : Nat} {f : Addr} {fd : FuncData} {ps : List Str} {sp : Sp} {x : Str} {p pos : Pos} {a : Expr} {es : List Expr} {t : TA} {dvs : List V} {ds : List Value} {dds : List PyData} {fa : Fa}
theorem pe_callXd (F : FnOk X.prog X.w X.K X.mg X.base (L2N.CX X.prog X.w) k f fd ps sp) (hr : Room k X.A) (hg : Gl X x) (hm : X.mg x = some (.ref f)) (hk : PySem.W.keepIn X.K (.ref f) = true) (hb : Binds X.K fd ps ds) (hd : Vals dvs ds) (tk : L2N.Takes X W)
    (ha : PA X (a :: es) t) (hdb : (x == ("__debug__" : Str)) = false := by decide) (he : starEach (a :: es) X.env = (false, eval a X.env) :: starEach es X.env := by rfl) (hpl : (backTo pos (starEach es X.env)).any (·.1) = false := by rfl) :
    PE X (.Call (.Name x p) (a :: es) [] pos) (tCallX sp dvs W t) := by
  refine ⟨fun pins s σ H Q I h => wpAny_Call_Name_kw (ld_glob I hg hm (PySem.W.callWith_K (h₀ := X.base) I.ok.mod.kin hk (thn (ha.run pos pins s σ H _ I h) fun us s1 y => ?_) he hpl) hdb)⟩
  obtain ⟨vs, H1, I1, r, q⟩ := y
  have v2 : Vals (vs ++ dvs) (us ++ ds) := r.append hd
  have hl : (us ++ ds).length = ps.length := v2.length.symm.trans (F.len _ _ _ _ q)
  refine ⟨I1.kIn, wpAny_call (codeAny_mono (F.run X.A X.stack s1 H1 ⟨us, []⟩ (us ++ ds) (vs ++ dvs) Q _ hr I1.env0 (hb s1 us I1.kIn hl) v2 q) fun e s' z => ?_)⟩
  match e, z with
  | .error e, z => exact L2N.passAt tk σ pins H1 s1 e s' I1 z
  | .ok (.ret u), z => exact I1.after z
theorem edx_call {φ : List PyData → Option Ro} (F : KfX X.prog X.w X.K X.mg X.base k x (spX X.K X.mg n φ) dvs) (hr : Room j X.A) (hk : k ≤ j) (hd : dvsD X.K dvs dds) (hn : ∀ ds, (φ ds).isSome = true → ds.length = n) (tk : L2N.Takes X W) (h : AD X (a :: es) fa) (hg : Gl X x := by rfl)
    (hdb : (x == ("__debug__" : Str)) = false := by decide) (he : starEach (a :: es) X.env = (false, eval a X.env) :: starEach es X.env := by rfl) (hpl : (backTo pos (starEach es X.env)).any (·.1) = false := by rfl) :
    EDX X W (.Call (.Name x p) (a :: es) [] pos) (x_callX φ dds fa) := by
  obtain ⟨f, fd, ps, ds, F, hm, kp, hb, hv⟩ := F
  obtain ⟨t, pa, kk⟩ := h
  refine ⟨pe_imp (pe_callXd F (hr.mono hk) hg hm kp hb hv tk pa hdb he hpl) fun σ H Q ⟨m, E, G0, G, e, o, R, q, P⟩ => ?_⟩
  unfold x_callX at q
  cases h1 : argsI fa e with
  | none => simp only [h1] at q; cases q
  | some z =>
    obtain ⟨ds, e1⟩ := z
    simp only [h1] at q
    obtain ⟨rs, q1, q2⟩ := argsI_ok h1
    refine kk m E G0 G e σ H rs e1 _ R q1 fun vs G1 H1 R1 S1 V1 => ?_
    have D1 := vr_imAll V1 q2
    have D2 := dpAll_app D1 (hd G1)
    cases h2 : φ (ds ++ dds) with
    | none => simp only [h2] at q; cases q
    | some y =>
      refine ⟨G1, ds ++ dds, y, R1.gh, D2, (by rw [dpAll_len D2]; exact hn _ (by rw [h2]; rfl)), h2, fun r hy v G' H' s1 s2 s3 nw vr => ?_, fun xc hy cls d G' H' s1 s2 s3 nw xt => ?_⟩
      · subst hy
        obtain ⟨R2, S2⟩ := R1.called s1 s2 s3 nw
        obtain ⟨V2, N2⟩ := R1.vrf vr
        cases r with
        | im d =>
          simp only [h2, Option.some.injEq] at q
          subst q
          exact P v G' H' R2 (S1.trans S2) V2 (nw_back S1 v N2)
        | ac d =>
          simp only [h2, Option.some.injEq] at q
          subst q
          exact P v G' H' R2 (S1.trans S2) V2 (nw_back S1 v N2)
        | br d => simp only [h2] at q; cases q
      · subst hy
        obtain ⟨R2, S2⟩ := R1.called s1 s2 s3 nw
        simp only [h2, Option.some.injEq] at q
        subst q
        exact P cls d G' H' R2 (S1.trans S2) xt
end
/-- __init__: a field for each name -/
def spI (C : Addr) (ns : List Str) : Sp := fun vs H Q _ => ∃ (a : Addr) (us : List V), vs = .ref a :: us ∧ us.length = ns.length ∧ H a = some (exo a C none) ∧
  ∀ (dx : Addr) (H' : Hp), H dx = none → dx ≠ a → H' a = some (exo a C (some dx)) → H' dx = some (exd dx (ns.zip us).reverse) → (∀ b, b ≠ a → b ≠ dx → H' b = H b) → Q .non H'
/-- what is told of such a class -/
structure ExT (P : Program) (w : World) (K : PySem.W.Frag) (mg : Str → Option Value) (base : Heap) (x : Str) (ns : List Str) : Prop where
  ex : ∃ (C fI : Addr) (fd : FuncData) (ps : List Str), mg x = some (.ref C) ∧ OexC K C ∧ PySem.W.findIn K (.ref C) "__init__" = some (some (.ref fI)) ∧ PySem.W.typeIn K (.ref fI) = some (.type "function") ∧ FnOk P w K mg base CX0 1 fI fd ps (spI C ns) ∧ Binds K fd ps []
def x_raise (c : Str) (ns : List Str) (fa : Fa) : Fsx := fun e => match argsI fa e with
  | some (ds, e1) => if ds.length = ns.length ∧ ns.length ≤ 1000 then some (.inr (⟨c, (ns.zip ds).reverse⟩, e1)) else none
  | none => none
theorem zip_fst {α : Type} : ∀ (ns : List Str) (us : List α), us.length = ns.length → (ns.zip us).map (·.1) = ns
  | [], _, _ => rfl
  | n :: ns, [], h => by cases h
  | n :: ns, u :: us, h => by
    rw [List.zip_cons_cons, List.map_cons, zip_fst ns us (by simpa using h)]
theorem zip_snd {α : Type} : ∀ (ns : List Str) (us : List α), us.length = ns.length → (ns.zip us).map (·.2) = us
  | [], [], _ => rfl
  | [], u :: us, h => by cases h
  | n :: ns, [], h => by cases h
  | n :: ns, u :: us, h => by
    rw [List.zip_cons_cons, List.map_cons, zip_snd ns us (by simpa using h)]
theorem dpAll_rev' {K : PySem.W.Frag} {G : Hp} {vs : List V} {ds : List PyData} (h : DpAll K G vs ds) : DpAll K G vs.reverse ds.reverse := dpAll_rev h
theorem fsAt_zip {K : PySem.W.Frag} {G : Hp} {ns : List Str} {vs : List V} {ds : List PyData} (h : DpAll K G vs ds) (hl : ds.length = ns.length) : FsAt K G (ns.zip vs).reverse (ns.zip ds).reverse := by
  have lv : vs.length = ns.length := by rw [dpAll_len h, hl]
  unfold FsAt
  rw [List.map_reverse, List.map_reverse, List.map_reverse, List.map_reverse, zip_fst ns vs lv, zip_fst ns ds hl, zip_snd ns vs lv, zip_snd ns ds hl]
  exact ⟨rfl, dpAll_rev' h⟩
theorem fin_oex {X : Cx} {pins : List (Addr × Obj)} {σ : St} {H0 H3 : Hp} {Q : XK} {s0 s3 : Shared} {h1 : Heap} {p C dd : Addr} {fs : List (Str × V)} (T : Raises X (.ref C)) (I0 : Inv X pins σ H0 s0) (hp : s0.heap.objs.size ≤ p)
    (kp : ∀ b u, s0.heap.get? b = some u → h1.get? b = some u) (n3 : Un (frs X.stack) [] (upd H0 p (exo p C none)) H3 h1 s3.heap) (ok3 : HOk X.prog X.w H3 s3.heap) (os3 : s3.os = s0.os) (bare3 : AllBare s3.gens)
    (e1 : H3 p = some (exo p C (some dd))) (e2 : H3 dd = some (exd dd fs)) (e3 : H0 dd = none) (q : Q (.ref C) (some dd) (upd (L2.del H3 p) dd (.xd fs))) : L2N.MkP X pins σ Q (.ref p) s3 := by
  obtain ⟨hh0, gg0, dd0, tt0, oo0⟩ := s0
  obtain ⟨hh3, gg3, dd3, tt3, oo3⟩ := s3
  obtain ⟨args, Gm, J, k3, none3, obj3, gone3⟩ := mk_end0 (d2 := dd3) (t2 := tt3) I0 hp kp n3 ok3 os3 bare3 e1 e2 e3
  refine ⟨p, _, _, ⟨Gm, gg3, dd3, tt3, oo3⟩, _, .ref C, some dd, rfl, J, k3, none3, obj3, ?_, rfl, rfl, gone3, rfl, bare3, T, q⟩
  exact ⟨rfl, rfl, fun ws hw => by
    cases hw
    rfl⟩
theorem pmk_oexN {X : Cx} {CX : CXT} {e0 : Expr} {rest : List Expr} {ta : TA} {np cp : Pos} {x : Str} {C fI : Addr} {k : Nat} {fd : FuncData} {ps : List Str} {sp : Sp} {gs : List Value} {gvs : List V} (T : OexC X.K C) (hi : PySem.W.findIn X.K (.ref C) "__init__" = some (some (.ref fI)))
    (ht : PySem.W.typeIn X.K (.ref fI) = some (.type "function")) (F : FnOk X.prog X.w X.K X.mg X.base CX k fI fd ps sp) (room : Room (k + 1) X.A) (hb : Binds X.K fd ps gs) (hv : Vals gvs gs) (hx : Passes CX X (fun _ _ _ => False)) (hg : Gl X x) (hm : X.mg x = some (.ref C))
    (ha : PA X (e0 :: rest) ta) (hdb : (x == ("__debug__" : Str)) = false := by decide) (hst : starEach (e0 :: rest) X.env = (false, eval e0 X.env) :: starEach rest X.env := by rfl) (hpl : (backTo cp (starEach rest X.env)).any (·.1) = false := by rfl) :
    L2N.PMk X (.Call (.Name x np) (e0 :: rest) [] cp) (tMkO C sp gvs ta) := by
  intro pins s σ H Q I q0
  have cls := T.cls
  obtain ⟨_, _, _, _, bmro, _, _, _, _, _, _, _, _, _, _, lookC, refs⟩ := cls
  refine wpAny_Call_Name_kw (ld_glob I hg hm (PySem.W.callWith_K (h₀ := X.base) I.ok.mod.kin T.kC ?_ hst hpl) hdb)
  refine thn (ha.run cp pins s σ H _ I q0) fun given sA ⟨vs, HA, IA, rel, few, mk⟩ => ⟨IA.kIn, ?_⟩
  show wpAny _ _ (call (.ref C) given) _ _ _
  -- the tuple of the arguments, then the exception
  have keep : ∀ b u, sA.heap.get? b = some u → ((sA.heap.push (PySem.W.kdv_tup given)).push (PySem.HandSPX.excO C sA.heap.objs.size)).get? b = some u := fun b u z => Heap.get?_push_of_some _ (Heap.get?_push_of_some _ z)
  have up : sA.heap.objs.size ≤ sA.heap.objs.size + 1 := Nat.le_succ _
  have fresh : HA (sA.heap.objs.size + 1) = none := IA.hok.fresh up
  have body := mk _ fresh
  obtain ⟨hp, gs0, dr, tk, os⟩ := sA
  have stands : ((hp.push (PySem.W.kdv_tup given)).push (PySem.HandSPX.excO C hp.objs.size)).get? (hp.objs.size + 1) = some (PySem.HandSPX.excO C hp.objs.size) := by
    heap_get
  have IB := IA.laid (t' := tk) (o := exo (hp.objs.size + 1) C none) keep up (exo_ok stands)
  have all : Vals (V.ref (hp.objs.size + 1) :: (vs ++ gvs)) (Value.ref (hp.objs.size + 1) :: (given ++ gs)) := .cons rfl (rel.append hv)
  have many : (Value.ref (hp.objs.size + 1) :: given ++ gs).length = ps.length := (all.length.symm.trans (F.len _ _ _ _ body) :)
  have small : given.length ≤ sizeLine := by
    have z := Paired.length rel
    rw [sizeLine_eq]
    omega
  have inits := F.run _ X.stack _ _ ⟨Value.ref (hp.objs.size + 1) :: given, []⟩ _ _ _ (fun _ _ _ => False) (room.make C given []) (IB.env0.make C given []) (hb _ (Value.ref (hp.objs.size + 1) :: given) IB.kIn many) all body
  refine wpAny_call (PySem.HandSPX.call_own PySem.F.excBase_ValueError (fun Y => PySem.HandSPX.refsVE_contains Y bmro refs) (IA.kIn _ _ lookC) (PySem.W.looks_findIn IA.kIn hi) (fun self => PySem.W.bind_fn IA.kIn self ht) small (codeAny_mono inits fun r sZ z => ?_))
  match r, z with
  | .error er, z => exact hx pins σ _ _ er sZ IB z
  | .ok .next, z => exact z.elim
  | .ok .brk, z => exact z.elim
  | .ok .cont, z => exact z.elim
  | .ok (.ret u), ⟨v, H2, os2, bare2, un2, hok2, rv, ev, dd, fs, ea, ed, hd1, q2⟩ =>
    subst ev
    exact ⟨rv, fin_oex (raises_own T.exC T.tyC) IA up keep un2 hok2 os2 bare2 ea ed hd1 q2⟩
section
variable {X : Cx} {W : WX} {x : Str} {ns : List Str} {p p2 pos : Pos} {a : Expr} {es : List Expr} {fa : Fa} {j : Nat}
theorem sdx_raise (T : ExT X.prog X.w X.K X.mg X.base x ns) (hr : Room j X.A) (hj : 2 ≤ j) (hc : X.calm = true) (tk : L2N.Takes X W) (h : AD X (a :: es) fa) (hg : Gl X x := by rfl)
    (hdb : (x == ("__debug__" : Str)) = false := by decide) (he : starEach (a :: es) X.env = (false, eval a X.env) :: starEach es X.env := by rfl) (hpl : (backTo p2 (starEach es X.env)).any (·.1) = false := by rfl) :
    SDX X W (.Raise (some (.Call (.Name x p) (a :: es) [] p2)) none pos) (x_raise x ns fa) := by
  obtain ⟨C, fI, fd, ps, gC, T1, iC, tI, F1, hb⟩ := T
  obtain ⟨t, pa, kk⟩ := h
  refine ⟨ps_imp (L2N.ps_raise hc tk (pmk_oexN T1 iC tI F1 (hr.mono hj) hb .nil (fun _ _ _ _ _ _ _ z => z.elim) hg gC pa hdb he hpl)) fun D σ H ⟨m, E, G0, G, e, o, R, q, P⟩ => ?_⟩
  unfold x_raise at q
  cases h1 : argsI fa e with
  | none => simp only [h1] at q; cases q
  | some z =>
    obtain ⟨ds, e1⟩ := z
    simp only [h1] at q
    by_cases hl : ds.length = ns.length ∧ ns.length ≤ 1000
    · rw [if_pos hl] at q
      cases q
      obtain ⟨rs, q1, q2⟩ := argsI_ok h1
      refine kk m E G0 G e σ H rs e1 _ R.r q1 fun vs G1 H1 R1 S1 V1 => ?_
      have D1 := vr_imAll V1 q2
      have lv : vs.length = ns.length := by rw [dpAll_len D1]; exact hl.1
      refine ⟨by omega, fun b hb1 => ⟨b, vs, by rw [List.append_nil], lv, upd_same, fun dx H' d1 d2 d3 d4 d5 => ⟨rfl, dx, (ns.zip vs).reverse, d3, d4, ?_, ?_⟩⟩⟩
      · rw [upd_ne d2] at d1
        exact d1
      · have d0 : H1 dx = none := by rwa [upd_ne d2] at d1
        have eq : upd (L2.del H' b) dx (.xd (ns.zip vs).reverse) = upd H1 dx (.xd (ns.zip vs).reverse) := by
          funext c
          by_cases y : c = dx
          · subst y
            rw [upd_same, upd_same]
          · rw [upd_ne y, upd_ne y]
            by_cases y2 : c = b
            · subst y2
              rw [L2.del_same]
              exact hb1.symm
            · rw [L2.del_ne y2, d5 c y2 y, upd_ne y2]
        rw [eq]
        obtain ⟨R2, S2⟩ := R1.newG (o := .xd (ns.zip vs).reverse) d0
        refine P (.ref C) (some dx) _ σ _ (S1.gg.trans S2.gg) (R.exp R2 (S1.trans S2)) ⟨C, dx, _, gC, rfl, rfl, upd_same, ?_⟩
        exact (fsAt_zip D1 hl.1).same S2.gg
    · rw [if_neg hl] at q
      cases q
end
end DL
namespace DL
open PySem PySem.Spec PyProof.Rows L2
section
variable {P : Program} {w : World} {K : PySem.W.Frag} {mg : Str → Option Value} {base : Heap} {x qual : Str} {params : Arguments} {body : List Stmt} {scope : Scope} {dvs : List V} {kws : List (Str × V)} {f C : Addr} {fd : FuncData} {N ps : List Str} {f1 f2 : Str}
theorem init2 (F : FunD K x qual params body scope dvs kws f fd) (S : FnScope N ps scope) (hp : ps.length = 3) (T : OexC K C) (n1 : PySem.W.findIn K (.ref C) f1 = some none) (n2 : PySem.W.findIn K (.ref C) f2 = some none)
    (hb : ∀ (cdv : Value) (A : Around) (outer : List Env) (s : Shared) (H : Hp) (E : XK), PSs (cxOf CX0 P w K mg base N qual scope f cdv A outer s H E) body (tSeq (tOst K f1 (tVar 0) (tVar 1)) (tSeq (tOst K f2 (tVar 0) (tVar 2)) tNext))) : FnOk P w K mg base CX0 1 f fd ps (spI C [f1, f2]) := by
  refine F.ok S (fun vs H Q E h => ?_) fun cdv A outer s H vs Q E hr h => ⟨_, hb cdv A outer s H E, ?_⟩
  · obtain ⟨a, us, rfl, h1, _⟩ := h
    rw [hp, List.length_cons, h1]
    rfl
  · obtain ⟨a, us, rfl, h1, h2, h3⟩ := h
    match us, h1 with
    | [u1, u2], _ =>
      refine ⟨u1, st_at rfl, .ref a, st_at rfl, a, C, rfl, T, n1, .inl ⟨h2, fun dx d1 d2 => ?_⟩⟩
      have e2 : a ≠ dx := fun z => d2 z.symm
      refine ⟨u2, st_at rfl, .ref a, st_at rfl, a, C, rfl, T, n2, .inr ⟨dx, [(f1, u1)], upd_same, by rw [upd_ne d2, upd_same], by show 1 ≤ 900; omega, ?_⟩⟩
      exact h3 dx _ d1 d2 (by rw [upd_ne e2, upd_same]) upd_same fun b b1 b2 => by rw [upd_ne b2, upd_ne b1, upd_ne b2]
end
section
variable {K : PySem.W.Frag} {m : Option Addr} {E : Ef} {G0 G H : Hp} {e : Ev} {σ : St} {i : Nat}
theorem Rl.drop (R : Rl K m E G0 G e σ H) (i : Nat) : Rl K m E G0 G (e.set i none) (σ.set i none) H := by
  have keep : ∀ {j : Nat} {s : Sl}, (e.set i none)[j]? = some (some s) → e[j]? = some (some s) ∧ (σ.set i none)[j]? = σ[j]? := fun {j s} z => by
    have z2 := R.len
    rw [set_get] at z ⊢
    by_cases y : i = j ∧ j < e.length
    · rw [if_pos y] at z
      cases z
    · rw [if_neg y] at z
      exact ⟨z, if_neg (by omega)⟩
  refine ⟨R.gg, R.gh, R.eh, R.mh, R.nw, by rw [List.length_set, List.length_set]; exact R.len, ?_, ?_, ?_, ?_⟩
  · intro j d z
    rw [(keep z).2]
    exact R.im j d (keep z).1
  · intro j ds z
    rw [(keep z).2]
    exact R.ac j ds (keep z).1
  · intro j k dj dk q z1 z2 z3 z4
    rw [(keep z1).2] at z3
    rw [(keep z2).2] at z4
    exact R.inj j k dj dk q (keep z1).1 (keep z2).1 z3 z4
  · intro j s z
    rw [(keep z).2]
    exact R.ot j s (keep z).1
theorem Rz.drop (R : Rz K m E G0 G e σ H) (ok : okS [i] e = true) : Rz K m E G0 G (e.set i none) (σ.set i none) H := by
  refine ⟨R.r.drop i, fun p z => ?_⟩
  obtain ⟨z1, z2⟩ := R.z p z
  by_cases y : i = 0
  · subst y
    exact absurd (List.mem_singleton.mpr rfl) (okS_no ok z1)
  · rw [List.getElem?_set_ne y, List.getElem?_set_ne y]
    exact ⟨z1, z2⟩
end
def gone (i : Nat) (e : Ev) : Option Ev := if okS [i] e = true then some (e.set i none) else none
/-- behind a clause the name is gone -/
def goneF (i : Nat) : Fl → Option Fl
  | .nx e => (gone i e).map .nx
  | .bk e => (gone i e).map .bk
  | .ct e => (gone i e).map .ct
  | .rt (.im d) e => (gone i e).map (.rt (.im d))
  | .rt _ _ => none
abbrev Su := Str → Addr → Addr → Fs
/-- what a clause gives, wherever the exception stands -/
def caught (i : Nat) (g : Su) (x : Xc) (e : Ev) (fl : Fl) : Prop := ∀ (a dd : Addr) (fs : List (Str × V)), ∃ fl', g x.c a dd (e.set i (some (.ob (.xc a dd fs x.fs)))) = some fl' ∧ goneF i fl' = some fl
theorem caught_one {i : Nat} {g : Su} {x : Xc} {e : Ev} {fl fl2 : Fl} (h : caught i g x e fl) (h2 : caught i g x e fl2) : fl = fl2 := by
  obtain ⟨f1, a1, a2⟩ := h 0 0 []
  obtain ⟨f2, b1, b2⟩ := h2 0 0 []
  rw [a1] at b1
  cases b1
  rw [a2] at b2
  exact Option.some.inj b2
open Classical in
noncomputable def x_try (fb : Fsx) (sub : Str → Option Bool) (i : Nat) (g : Su) : Fsx := fun e => match fb e with
  | some (.inl fl) => some (.inl fl)
  | some (.inr (x, e1)) => (match sub x.c with
    | some true => if h : okS [i] e1 = true ∧ ∃ fl, caught i g x e1 fl then some (.inl (choose h.2)) else none
    | some false => some (.inr (x, e1))
    | none => none)
  | none => none
theorem x_try_no {fb : Fsx} {sub : Str → Option Bool} {i : Nat} {g : Su} {e : Ev} {fl : Fl} (h : fb e = some (.inl fl)) : x_try fb sub i g e = some (.inl fl) := by
  unfold x_try
  rw [h]
theorem x_try_yes {fb : Fsx} {sub : Str → Option Bool} {i : Nat} {g : Su} {e e1 : Ev} {x : Xc} {fl : Fl} (h : fb e = some (.inr (x, e1))) (hs : sub x.c = some true) (ok : okS [i] e1 = true) (c : caught i g x e1 fl) : x_try fb sub i g e = some (.inl fl) := by
  unfold x_try
  rw [h]
  dsimp only
  rw [hs]
  dsimp only
  rw [dif_pos ⟨ok, fl, c⟩]
  exact congrArg (fun z => some (Sum.inl z)) (caught_one (Classical.choose_spec (⟨fl, c⟩ : ∃ fl, caught i g x e1 fl)) c)
def SubT (K : PySem.W.Frag) (mg : Str → Option Value) (c : Value) (sub : Str → Option Bool) : Prop := ∀ x b, sub x = some b → ∀ C, mg x = some (.ref C) → PySem.W.exmOne K (.ref C) c = some b
def noW : WX := fun _ _ _ _ => False
/-- the clause's reading -/
def tsC (K : PySem.W.Frag) (mg : Str → Option Value) (g : Su) (a : Addr) (cls : Value) (d : Option Addr) : TS := fun D σ H => ∃ (c : Str) (C dd : Addr), mg c = some (.ref C) ∧ cls = .ref C ∧ d = some dd ∧ tsX K mg (xS (g c a dd)) noW D σ H
section
variable {X : Cx} {W : WX} {x n : Str} {c : Value} {i : Nat} {body suite : List Stmt} {b0 : Stmt} {np pos pos' : Pos} {fb : Fsx} {sub : Str → Option Bool} {g : Su}
theorem suite_read {a : Addr} {oe : Obj} {cls : Value} {d : Option Addr} {pn : List (Addr × Obj)} (hz : L2N.Zn cls d oe) (hv : ∃ vs, oe.data = .fields vs)
    (hsu : ∀ (k : Str) (C a dd : Addr) (oe : Obj) (pn : List (Addr × Obj)), X.mg k = some (.ref C) → L2N.Zn (.ref C) (some dd) oe → (∃ vs, oe.data = .fields vs) → SsD (X.suite a ((a, oe) :: pn)) (b0 :: suite) (g k a dd)) :
    PSs (X.suite a ((a, oe) :: pn)) (b0 :: suite) (tsC X.K X.mg g a cls d) := by
  refine ⟨fun pins s σ H D I ⟨k, C, dd, h1, h2, h3, h4⟩ => ?_⟩
  subst h2 h3
  exact ((hsu k C a dd oe pn h1 hz hv).x (W := noW)).run.run pins s σ H D I h4
theorem try_read {st : Stmt} (T : SubT X.K X.mg c sub) (h : PS X st (fun D σ H => tsX X.K X.mg fb (wAs X.K c i (tsC X.K X.mg g) W D) D σ H)) : SDX X W st (x_try fb sub i g) := by
  refine ⟨ps_imp h fun D σ H ⟨m, E, G0, G, e, o, R, q, P⟩ => ?_⟩
  unfold x_try at q
  split at q
  · rename_i fl h1
    cases q
    exact ⟨m, E, G0, G, e, _, R, h1, P⟩
  · rename_i y e1 h1
    refine ⟨m, E, G0, G, e, _, R, h1, ?_⟩
    intro cls d G' σ' H' s1 R1 A1
    obtain ⟨C, dd, fs, g1, g2, g3, g4, g5⟩ := A1
    subst g2 g3
    split at q
    · rename_i h2
      split at q
      · rename_i hh
        cases q
        have cc := Classical.choose_spec hh.2
        refine ⟨true, T _ _ h2 C g1, fun _ a na => ?_, fun z => by cases z⟩
        obtain ⟨fl', c1, c2⟩ := cc a dd fs
        have R2 : Rz X.K m E G0 G' (e1.set i (some (.ob (.xc a dd fs y.fs)))) (σ'.set i (some (.ref a))) H' := R1.setO ⟨rfl, g4, g5.1, g5.2⟩ hh.1
        refine ⟨y.c, C, dd, g1, rfl, rfl, m, E, G0, G', _, .inl fl', R2, (by show (g y.c a dd _).map Sum.inl = _; rw [c1]; rfl), ?_⟩
        have P2 := PoS.aft P s1
        generalize Classical.choose hh.2 = fl at c2 P2
        have drop : ∀ {e2 e3 : Ev}, gone i e2 = some e3 → okS [i] e2 = true ∧ e3 = e2.set i none := fun {e2 e3} z => by
          unfold gone at z
          by_cases k : okS [i] e2 = true
          · rw [if_pos k] at z
            exact ⟨k, (Option.some.inj z).symm⟩
          · rw [if_neg k] at z
            cases z
        match fl', c2 with
        | .nx e2, c2 =>
          cases h3 : gone i e2 with
          | none => rw [show goneF i (.nx e2) = (gone i e2).map .nx from rfl, h3] at c2; cases c2
          | some e3 =>
            rw [show goneF i (.nx e2) = (gone i e2).map .nx from rfl, h3] at c2
            cases c2
            obtain ⟨k1, rfl⟩ := drop h3
            exact fun G2 σ2 H2 s2 R3 => P2 G2 _ H2 s2 (R3.drop k1)
        | .bk e2, c2 =>
          cases h3 : gone i e2 with
          | none => rw [show goneF i (.bk e2) = (gone i e2).map .bk from rfl, h3] at c2; cases c2
          | some e3 =>
            rw [show goneF i (.bk e2) = (gone i e2).map .bk from rfl, h3] at c2
            cases c2
            obtain ⟨k1, rfl⟩ := drop h3
            exact fun G2 σ2 H2 s2 R3 => P2 G2 _ H2 s2 (R3.drop k1)
        | .ct e2, c2 =>
          cases h3 : gone i e2 with
          | none => rw [show goneF i (.ct e2) = (gone i e2).map .ct from rfl, h3] at c2; cases c2
          | some e3 =>
            rw [show goneF i (.ct e2) = (gone i e2).map .ct from rfl, h3] at c2
            cases c2
            obtain ⟨k1, rfl⟩ := drop h3
            exact fun G2 σ2 H2 s2 R3 => P2 G2 _ H2 s2 (R3.drop k1)
        | .rt (.im dv) e2, c2 =>
          cases h3 : gone i e2 with
          | none => rw [show goneF i (.rt (.im dv) e2) = (gone i e2).map (.rt (.im dv)) from rfl, h3] at c2; cases c2
          | some e3 =>
            rw [show goneF i (.rt (.im dv) e2) = (gone i e2).map (.rt (.im dv)) from rfl, h3] at c2
            cases c2
            obtain ⟨k1, rfl⟩ := drop h3
            exact fun v G2 σ2 H2 s2 R3 V => P2 v G2 _ H2 s2 (R3.drop k1) V
        | .rt (.ac dv) e2, c2 => cases c2
        | .rt (.br dv) e2, c2 => cases c2
      · cases q
    · rename_i h2
      cases q
      exact ⟨false, T _ _ h2 C g1, (fun z => by cases z), fun _ => P _ _ G' σ' H' s1 R1 ⟨C, dd, fs, g1, rfl, rfl, g4, g5⟩⟩
    · cases q
  · cases q
theorem sdx_try (hs : X.stack = X.env :: X.outer) (hf : X.env.frame = some X.env.locals) (hN : X.N.Nodup) (tk : L2N.Takes X W) (T : SubT X.K X.mg c sub) (hc : Names X x c)
    (hb : ∀ (W' : WX) (pn : List (Addr × Obj)) (xe : Value → Shared → Prop), L2N.Takes (X.tr pn xe) W' → PassesOwn (model X.prog X.w) X.A X.env xe → SsDX (X.tr pn xe) W' body fb)
    (hsu : ∀ (k : Str) (C a dd : Addr) (oe : Obj) (pn : List (Addr × Obj)), X.mg k = some (.ref C) → L2N.Zn (.ref C) (some dd) oe → (∃ vs, oe.data = .fields vs) → SsD (X.suite a ((a, oe) :: pn)) (b0 :: suite) (g k a dd))
    (hi : X.N[i]? = some n := by rfl) (hln : X.env.kindOf n = some .local := by rfl) :
    SDX X W (.Try body [.ExceptHandler (some (.Name x np)) (some n) (b0 :: suite) pos'] [] [] pos) (x_try fb sub i g) := by
  exact try_read T (L2N.ps_try_as (tb := fun W' => tsX X.K X.mg fb W') (ts := tsC X.K X.mg g) hs hf hN hi hln hc tk (fun W' pn xe t1 t2 => (hb W' pn xe t1 t2).run) fun a oe cls d pn hz hv => suite_read hz hv hsu)
end
def noX (f : Fsx) : Fs := fun e => match f e with
  | some (.inl fl) => some fl
  | _ => none
theorem sd_noX {X : Cx} {st : Stmt} {f : Fsx} (h : ∀ W, L2N.Takes X W → SDX X W st f) : SD X st (noX f) := by
  refine ⟨_, (h noW fun _ _ ⟨_, _, _, _, _, _, _, _, _, _, _, _, _, _, _, _, w⟩ => w.elim).run, fun m E G0 G e σ H fl D R q P => ?_⟩
  unfold noX at q
  split at q
  · rename_i fl' h1
    cases q
    exact ⟨m, E, G0, G, e, _, R, h1, P⟩
  · cases q
def x_fld (ok : Str → Bool) (k : Str) (a dd : Addr) (i : Nat) (f : Str) : Fe := fun e => if ok k = true then (match e[i]? with
  | some (some (.ob (.xc a' dd' _ ds))) => if a' = a ∧ dd' = dd then (ds.lookup f).map fun d => (.im d, e) else none
  | _ => none) else none
structure FldT (K : PySem.W.Frag) (mg : Str → Option Value) (f : Str) (ok : Str → Bool) : Prop where
  at_ : ∀ k, ok k = true → ∀ C, mg k = some (.ref C) → XfC K C ∧ PySem.W.findIn K (.ref C) f = some none
theorem look_fs {K : PySem.W.Frag} {G : Hp} {f : Str} {d : PyData} : ∀ {fs : List (Str × V)} {ds : List (Str × PyData)}, fs.map (·.1) = ds.map (·.1) → DpAll K G (fs.map (·.2)) (ds.map (·.2)) → ds.lookup f = some d → ∃ v, fs.lookup f = some v ∧ Dp K G v d
  | [], [], _, _, h => by cases h
  | [], _ :: _, h, _, _ => by cases h
  | _ :: _, [], h, _, _ => by cases h
  | (a, v) :: fs, (b, w) :: ds, h1, h2, h3 => by
    obtain ⟨ha, hr⟩ := List.cons.inj (show a :: fs.map (·.1) = b :: ds.map (·.1) from h1)
    subst ha
    rw [List.lookup_cons] at h3 ⊢
    cases h : (f == a) with
    | true =>
      rw [h] at h3
      cases h3
      exact ⟨v, rfl, by cases h2; assumption⟩
    | false =>
      rw [h] at h3
      exact look_fs hr (by cases h2; assumption) h3
section
variable {X : Cx} {a dd C : Addr} {oe : Obj} {pn : List (Addr × Obj)} {n f k : Str} {i : Nat} {pos np : Pos} {ok : Str → Bool}
theorem ed_fld (T : FldT X.K X.mg f ok) (hm : X.mg k = some (.ref C)) (hz : Zc (.ref C) (some dd) oe) (hf : ∃ vs, oe.data = .fields vs) (hN : X.N[i]? = some n := by rfl) (hv : Vis X.env.scope n := by first | exact Or.inl rfl | exact Or.inr (Or.inl rfl) | exact Or.inr (Or.inr rfl))
    (hd : (n == ("__debug__" : Str)) = false := by decide) (hcd : (n == ("__classdict__" : Str)) = false := by decide) (hb : attributeBase (.Name n np) f X.env (eval (.Name n np) X.env) = eval (.Name n np) X.env := by rfl) :
    ED (X.suite a ((a, oe) :: pn)) (.Attribute (.Name n np) f pos) (x_fld ok k a dd i f) := by
  by_cases hok : ok k = true
  · obtain ⟨t1, t2⟩ := T.at_ k hok C hm
    refine ⟨_, pe_xf (X := X) t1 t2 hz hf (pe_var (X := X.suite a ((a, oe) :: pn)) hN hv hd hcd) hb, fun m E G0 G e σ H r e' Q R q P => ?_⟩
    unfold x_fld at q
    rw [if_pos hok] at q
    split at q
    · rename_i a' dd' fs ds h1
      split at q
      · rename_i h2
        obtain ⟨rfl, rfl⟩ := h2
        cases h3 : ds.lookup f with
        | none => rw [h3] at q; cases q
        | some d =>
          rw [h3] at q
          cases q
          obtain ⟨o1, o2, o3, o4⟩ := R.ot i _ h1
          obtain ⟨v, l1, l2⟩ := look_fs o3 o4 h3
          exact ⟨.ref _, o1, rfl, rfl, _, fs, v, rfl, R.gh _ _ o2, l1, P v G H R Stp.refl l2 True.intro⟩
      · cases q
    · cases q
  · refine ⟨fun _ _ _ => False, ⟨fun _ _ _ _ _ _ z => z.elim⟩, fun m E G0 G e σ H r e' Q R q P => ?_⟩
    unfold x_fld at q
    rw [if_neg hok] at q
    cases q
end
end DL
namespace DL
open PySem PySem.Spec PyProof.Rows L2
def x_isE (kit : Str → Option Bool) (k : Str) (a dd : Addr) (i : Nat) : Fe := fun e => match e[i]? with
  | some (some (.ob (.xc a' dd' _ _))) => if a' = a ∧ dd' = dd then (kit k).map fun b => (.im (.bool b), e) else none
  | _ => none
structure KitOk (K : PySem.W.Frag) (D : Addr) : Prop where
  cl : (PySem.W.clsIn K D).isSome = true
  hg : PySem.W.findIn K (.ref D) "__getattribute__" = some (some (.builtin "BaseException.__getattribute__"))
  hk : PySem.W.findIn K (.ref D) "__getattr__" = some none
  hs : PySem.W.subIn K (.ref D) (.type "BaseException") = some true
  ha : PySem.W.findIn K (.ref D) "__class__" = some (some (.builtin "object.__class__"))
  hn : PySem.W.specialIn K (.builtin "object.__class__") "__get__" = some (some (.builtin "getset_descriptor.__get__"))
  ht : PySem.W.takesIn K (.builtin "object.__class__") = some true
  hm : PySem.W.mroIn K D (.type "object") = some true
structure KitT (K : PySem.W.Frag) (mg : Str → Option Value) (T : Addr) (kit : Str → Option Bool) : Prop where
  at_ : ∀ k b, kit k = some b → ∀ C, mg k = some (.ref C) → KitOk K C ∧ PySem.W.kitOne K (.ref C) (.ref T) = some b
def rIsX (K : PySem.W.Frag) (D T a dd : Addr) : List V → Hp → VK → Prop := fun xs H Q => ∃ (fs : List (Str × V)) (b : Bool), xs = [.ref a, .ref T] ∧ H dd = some (.xd fs) ∧ PySem.W.kitOne K (.ref D) (.ref T) = some b ∧ Q (.bl b) H
section
variable {X : Cx} {a dd C T : Addr} {oe : Obj} {pn : List (Addr × Obj)} {n y k : Str} {i : Nat} {pos p p2 np : Pos} {kit : Str → Option Bool}
theorem call_isX (h : KitOk X.K C) (hz : Zc (.ref C) (some dd) oe) (hf : ∃ vs, oe.data = .fields vs) : CallR (X.suite a ((a, oe) :: pn)) (.builtin "isinstance") (rIsX X.K C T a dd) := by
  rintro pins s σ H xs us Q I r ⟨fs, b, rfl, hd, e, q⟩
  match us, r with
  | [u1, u2], .cons r1 (.cons r2 .nil) =>
    obtain rfl : u1 = Value.ref a := r1
    obtain rfl : u2 = Value.ref T := r2
    have hp := I.pin (a, oe) (List.mem_append_left _ List.mem_cons_self)
    obtain ⟨vs, hv⟩ := hf
    obtain ⟨mA, ns, _⟩ := (I.hok dd _ hd : ObjOk X.prog X.w H s.heap dd (.xd fs))
    obtain ⟨od, ho, _⟩ := lookIn_ns ns
    have J : PySem.W.InstAt s.heap a oe C (some od) := by
      refine ⟨hp.1, hz.1, ?_, ?_⟩
      · unfold PySem.W.notCls
        rw [hv] <;> rfl
      · rw [hz.2]
        exact ho
    exact PySem.W.kia_one (PySem.W.kitx_exc h.cl h.hg h.hk h.hs h.ha h.hn h.ht h.hm) I.kIn J e (fun z => nomatch z) fun tk => ⟨.bl b, H, I.kept (t' := tk) fun _ _ z => z, rfl, q⟩
theorem ed_isE (h : KitT X.K X.mg T kit) (hk : X.mg k = some (.ref C)) (hz : Zc (.ref C) (some dd) oe) (hf : ∃ vs, oe.data = .fields vs) (hm : X.mg "isinstance" = none) (hy : X.mg y = some (.ref T)) (hN : X.N[i]? = some n := by rfl) (hv : Vis X.env.scope n := by first | exact Or.inl rfl | exact Or.inr (Or.inl rfl) | exact Or.inr (Or.inr rfl))
    (hd : (n == ("__debug__" : Str)) = false := by decide) (hcd : (n == ("__classdict__" : Str)) = false := by decide) (hg : Gl X "isinstance" := by rfl) (hgT : Gl X y := by rfl) (hdy : (y == ("__debug__" : Str)) = false := by decide)
    (h1 : starEach [.Name y p2] X.env = (false, eval (.Name y p2) X.env) :: starEach [] X.env := by rfl)
    (he : starEach [.Name n np, .Name y p2] X.env = (false, eval (.Name n np) X.env) :: starEach [.Name y p2] X.env := by rfl) (hpl : (backTo pos (starEach [.Name y p2] X.env)).any (·.1) = false := by rfl) :
    ED (X.suite a ((a, oe) :: pn)) (.Call (.Name "isinstance" p) [.Name n np, .Name y p2] [] pos) (x_isE kit k a dd i) := by
  by_cases hb : ∃ b, kit k = some b
  · obtain ⟨b, hb⟩ := hb
    obtain ⟨t1, t2⟩ := h.at_ k b hb C hk
    refine ⟨_, pe_callB (X := X.suite a ((a, oe) :: pn)) (call_isX (T := T) t1 hz hf) hg hm (by decide +kernel) (pa_cons (pe_var (X := X.suite a ((a, oe) :: pn)) hN hv hd hcd) (pa_cons (pe_glob (X := X.suite a ((a, oe) :: pn)) (v := .ref T) hgT hy rfl hdy) pa_nil h1) he) (by decide) (by decide) he hpl, fun m E G0 G e σ H r e' Q R q P => ?_⟩
    unfold x_isE at q
    split at q
    · rename_i a' dd' fs ds h3
      split at q
      · rename_i h4
        obtain ⟨rfl, rfl⟩ := h4
        rw [hb] at q
        cases q
        obtain ⟨o1, o2, _, _⟩ := R.ot i _ h3
        exact ⟨.ref _, o1, fs, b, rfl, R.gh _ _ o2, t2, P (.bl b) G H R Stp.refl (.bl _) True.intro⟩
      · cases q
    · cases q
  · refine ⟨fun _ _ _ => False, ⟨fun _ _ _ _ _ _ z => z.elim⟩, fun m E G0 G e σ H r e' Q R q P => ?_⟩
    unfold x_isE at q
    split at q
    · split at q
      · cases h5 : kit k with
        | none => rw [h5] at q; cases q
        | some b => exact absurd ⟨b, h5⟩ hb
      · cases q
    · cases q
end
end DL
namespace DL
open PySem PySem.Spec PyProof.Rows L2
abbrev XTab := List ((Str × Str) × Bool)
def tabF (tab : XTab) (y : Str) : Str → Option Bool := fun k => tab.lookup (k, y)
structure XcC (K : PySem.W.Frag) (C : Addr) : Prop where
  ox : OexC K C
  xf : XfC K C
  ki : KitOk K C
structure Xi (K : PySem.W.Frag) (mg : Str → Option Value) (cs ys fs : List Str) (tab : XTab) : Prop where
  cl : ∀ x, cs.contains x = true → ∃ C, mg x = some (.ref C) ∧ XcC K C ∧ ∀ f, fs.contains f = true → PySem.W.findIn K (.ref C) f = some none
  gl : ∀ y, ys.contains y = true → ∃ D, mg y = some (.ref D)
  rel : ∀ k y b, tab.lookup (k, y) = some b → cs.contains k = true ∧ ∀ C D, mg k = some (.ref C) → mg y = some (.ref D) → PySem.W.exmOne K (.ref C) (.ref D) = some b ∧ PySem.W.kitOne K (.ref C) (.ref D) = some b
section
variable {K : PySem.W.Frag} {mg : Str → Option Value} {cs ys fs : List Str} {tab : XTab}
theorem Xi.sub (T : Xi K mg cs ys fs tab) (y : Str) (h : ys.contains y = true := by decide +kernel) : ∃ D, mg y = some (.ref D) ∧ SubT K mg (.ref D) (tabF tab y) := by
  obtain ⟨D, hD⟩ := T.gl y h
  exact ⟨D, hD, fun k b z C hC => ((T.rel k y b z).2 C D hC hD).1⟩
theorem Xi.kit (T : Xi K mg cs ys fs tab) (y : Str) (h : ys.contains y = true := by decide +kernel) : ∃ D, mg y = some (.ref D) ∧ KitT K mg D (tabF tab y) := by
  obtain ⟨D, hD⟩ := T.gl y h
  refine ⟨D, hD, ⟨fun k b z C hC => ?_⟩⟩
  obtain ⟨z1, z2⟩ := T.rel k y b z
  obtain ⟨C', h1, h2, _⟩ := T.cl k z1
  rw [hC] at h1
  cases h1
  exact ⟨h2.ki, (z2 C D hC hD).2⟩
theorem Xi.fld (T : Xi K mg cs ys fs tab) (f : Str) (h : fs.contains f = true := by decide +kernel) : FldT K mg f (fun k => cs.contains k) := by
  refine ⟨fun k z C hC => ?_⟩
  obtain ⟨C', h1, h2, h3⟩ := T.cl k z
  rw [hC] at h1
  cases h1
  exact ⟨h2.xf, h3 f h⟩
end
section
variable {X : Cx} {W : WX} {x n : Str} {i : Nat} {body suite : List Stmt} {b0 : Stmt} {np pos pos' : Pos} {fb : Fsx} {sub : Str → Option Bool} {g : Su}
theorem sdx_tryT (hs : X.stack = X.env :: X.outer) (hf : X.env.frame = some X.env.locals) (hN : X.N.Nodup) (tk : L2N.Takes X W) (T : ∃ D, X.mg x = some (.ref D) ∧ SubT X.K X.mg (.ref D) sub)
    (hb : ∀ (W' : WX) (pn : List (Addr × Obj)) (xe : Value → Shared → Prop), L2N.Takes (X.tr pn xe) W' → PassesOwn (model X.prog X.w) X.A X.env xe → SsDX (X.tr pn xe) W' body fb)
    (hsu : ∀ (k : Str) (C a dd : Addr) (oe : Obj) (pn : List (Addr × Obj)), X.mg k = some (.ref C) → L2N.Zn (.ref C) (some dd) oe → (∃ vs, oe.data = .fields vs) → SsD (X.suite a ((a, oe) :: pn)) (b0 :: suite) (g k a dd))
    (hi : X.N[i]? = some n := by rfl) (hln : X.env.kindOf n = some .local := by rfl) (hg : Gl X x := by rfl) (hdb : (x == ("__debug__" : Str)) = false := by decide) :
    SDX X W (.Try body [.ExceptHandler (some (.Name x np)) (some n) (b0 :: suite) pos'] [] [] pos) (x_try fb sub i g) := by
  obtain ⟨D, h1, h2⟩ := T
  exact sdx_try hs hf hN tk h2 ⟨hg, hdb, .inl h1⟩ hb hsu hi hln
theorem sd_tryT (hs : X.stack = X.env :: X.outer) (hf : X.env.frame = some X.env.locals) (hN : X.N.Nodup) (T : ∃ D, X.mg x = some (.ref D) ∧ SubT X.K X.mg (.ref D) sub)
    (hb : ∀ (W' : WX) (pn : List (Addr × Obj)) (xe : Value → Shared → Prop), L2N.Takes (X.tr pn xe) W' → PassesOwn (model X.prog X.w) X.A X.env xe → SsDX (X.tr pn xe) W' body fb)
    (hsu : ∀ (k : Str) (C a dd : Addr) (oe : Obj) (pn : List (Addr × Obj)), X.mg k = some (.ref C) → L2N.Zn (.ref C) (some dd) oe → (∃ vs, oe.data = .fields vs) → SsD (X.suite a ((a, oe) :: pn)) (b0 :: suite) (g k a dd))
    (hi : X.N[i]? = some n := by rfl) (hln : X.env.kindOf n = some .local := by rfl) (hg : Gl X x := by rfl) (hdb : (x == ("__debug__" : Str)) = false := by decide) :
    SD X (.Try body [.ExceptHandler (some (.Name x np)) (some n) (b0 :: suite) pos'] [] [] pos) (noX (x_try fb sub i g)) := sd_noX fun _ tk => sdx_tryT hs hf hN tk T hb hsu hi hln hg hdb
theorem ed_isT {X : Cx} {a dd C : Addr} {oe : Obj} {pn : List (Addr × Obj)} {n y k : Str} {i : Nat} {pos p p2 np : Pos} {kit : Str → Option Bool}
    (h : ∃ D, X.mg y = some (.ref D) ∧ KitT X.K X.mg D kit) (hk : X.mg k = some (.ref C)) (hz : Zc (.ref C) (some dd) oe) (hf : ∃ vs, oe.data = .fields vs) (hm : X.mg "isinstance" = none) (hN : X.N[i]? = some n := by rfl) (hv : Vis X.env.scope n := by first | exact Or.inl rfl | exact Or.inr (Or.inl rfl) | exact Or.inr (Or.inr rfl))
    (hd : (n == ("__debug__" : Str)) = false := by decide) (hcd : (n == ("__classdict__" : Str)) = false := by decide) (hg : Gl X "isinstance" := by rfl) (hgT : Gl X y := by rfl) (hdy : (y == ("__debug__" : Str)) = false := by decide)
    (h1 : starEach [.Name y p2] X.env = (false, eval (.Name y p2) X.env) :: starEach [] X.env := by rfl)
    (he : starEach [.Name n np, .Name y p2] X.env = (false, eval (.Name n np) X.env) :: starEach [.Name y p2] X.env := by rfl) (hpl : (backTo pos (starEach [.Name y p2] X.env)).any (·.1) = false := by rfl) :
    ED (X.suite a ((a, oe) :: pn)) (.Call (.Name "isinstance" p) [.Name n np, .Name y p2] [] pos) (x_isE kit k a dd i) := by
  obtain ⟨D, h1', h2⟩ := h
  exact ed_isE h2 hk hz hf hm h1' hN hv hd hcd hg hgT hdy h1 he hpl
end
def oexB (K : PySem.W.Frag) (C : Addr) : Bool := match K.lookup C with
  | some ⟨.type "type", _, .cls cd, sl⟩ => (match cd.mro, sl.toList with
    | .ref C' :: bm, [_, _, _, _, some (.builtin n), _] => decide (C' = C) && (decide (n = "ValueError.__new__") && (cd.hasDict && (!cd.hasDel && PySem.HandSPX.refsVE bm)))
    | _, _ => false)
  | _ => false
theorem oexB_ok {K : PySem.W.Frag} {C : Addr} (h : oexB K C = true) : ∃ nm q N bs bm sn sub ab col dd k0 k1 k2 k3 k5, K.lookup C = some (excClassObj nm q C N bs bm true sn sub ab col dd k0 k1 k2 k3 k5 "ValueError.__new__") ∧ PySem.HandSPX.refsVE bm = true := by
  unfold oexB at h
  split at h
  · rename_i dd cd sl ho
    split at h
    · rename_i C' bm k0 k1 k2 k3 n k5 hm hs
      obtain ⟨h1, h⟩ := He.ba h
      obtain ⟨h2, h⟩ := He.ba h
      obtain ⟨h3, h⟩ := He.ba h
      obtain ⟨h4, h5⟩ := He.ba h
      have e1 := of_decide_eq_true h1
      have e2 := of_decide_eq_true h2
      subst e1 e2
      obtain ⟨nm, bs, mro, ns, qn, hd, sn, sub, ab, col, del⟩ := cd
      dsimp only at hm h3 h4
      subst hm h3
      have e4 : del = false := by simpa using h4
      subst e4
      obtain ⟨l⟩ := sl
      have e5 : l = [k0, k1, k2, k3, some (.builtin "ValueError.__new__"), k5] := hs
      subst e5
      exact ⟨nm, qn, ns, bs, bm, sn, sub, ab, col, dd, k0, k1, k2, k3, k5, ho, h5⟩
    · cases h
  · cases h
def xcB (K : PySem.W.Frag) (C : Addr) : Bool := oexB K C && (decide (PySem.W.findIn K (.ref C) "__setattr__" = some (some (.builtin "object.__setattr__"))) && (decide (PySem.W.subIn K (.ref C) (.type "BaseException") = some true) && (decide (PySem.W.typeIn K (.ref C) = some (.type "type")) && (PySem.W.keepIn K (.ref C) && (xfB K C &&
  ((PySem.W.clsIn K C).isSome && (decide (PySem.W.findIn K (.ref C) "__class__" = some (some (.builtin "object.__class__"))) && (decide (PySem.W.specialIn K (.builtin "object.__class__") "__get__" = some (some (.builtin "getset_descriptor.__get__"))) && (decide (PySem.W.takesIn K (.builtin "object.__class__") = some true) && decide (PySem.W.mroIn K C (.type "object") = some true))))))))))
theorem xcB_ok {K : PySem.W.Frag} {C : Addr} (h : xcB K C = true) : XcC K C := by
  obtain ⟨h1, h⟩ := He.ba h
  obtain ⟨h2, h⟩ := He.ba h
  obtain ⟨h3, h⟩ := He.ba h
  obtain ⟨h4, h⟩ := He.ba h
  obtain ⟨h5, h⟩ := He.ba h
  obtain ⟨h6, h⟩ := He.ba h
  obtain ⟨h7, h⟩ := He.ba h
  obtain ⟨h8, h⟩ := He.ba h
  obtain ⟨h9, h⟩ := He.ba h
  obtain ⟨h10, h11⟩ := He.ba h
  have x := xfB_ok h6
  exact ⟨⟨oexB_ok h1, of_decide_eq_true h2, of_decide_eq_true h3, of_decide_eq_true h4, h5⟩, x, ⟨h7, x.ga, x.gg, x.exC, of_decide_eq_true h8, of_decide_eq_true h9, of_decide_eq_true h10, of_decide_eq_true h11⟩⟩
/-- a class with its __init__ -/
def iniB (K : PySem.W.Frag) (x : Str) : Bool := decide (PySem.W.findIn K (.ref (He.ga K x)) "__init__" = some (some (.ref (He.ma K (He.ga K x) "__init__")))) && decide (PySem.W.typeIn K (.ref (He.ma K (He.ga K x) "__init__")) = some (.type "function"))
def exB (cs ys fs : List Str) (tab : XTab) (K : PySem.W.Frag) : Bool :=
  (cs.all fun x => (He.Fa.glo x).ok K && (xcB K (He.ga K x) && (iniB K x && fs.all fun f => decide (PySem.W.findIn K (.ref (He.ga K x)) f = some none)))) &&
    ((ys.all fun y => (He.Fa.glo y).ok K) && (tab.all fun t => cs.contains t.1.1 && (ys.contains t.1.2 && (decide (PySem.W.exmOne K (.ref (He.ga K t.1.1)) (.ref (He.ga K t.1.2)) = some t.2) && decide (PySem.W.kitOne K (.ref (He.ga K t.1.1)) (.ref (He.ga K t.1.2)) = some t.2)))))
section
variable {K : PySem.W.Frag} {h : Heap} {mg : Str → Option Value} {cs ys fs : List Str} {tab : XTab}
theorem look_mem {α β : Type} [BEq α] [LawfulBEq α] {a : α} {b : β} : ∀ {l : List (α × β)}, l.lookup a = some b → (a, b) ∈ l
  | [], h => by cases h
  | (c, d) :: l, h => by
    rw [List.lookup_cons] at h
    cases q : (a == c) with
    | true =>
      rw [q] at h
      cases h
      rw [eq_of_beq q]
      exact List.mem_cons_self
    | false =>
      rw [q] at h
      exact List.mem_cons_of_mem _ (look_mem h)
theorem exB_xi (X : K.In h) (G : h.Ns mainGlobals mg) (c : exB cs ys fs tab K = true) : Xi K mg cs ys fs tab := by
  obtain ⟨c1, c⟩ := He.ba c
  obtain ⟨c2, c3⟩ := He.ba c
  refine ⟨fun x hx => ?_, fun y hy => ?_, fun k y b z => ?_⟩
  · obtain ⟨h1, h2⟩ := He.ba (List.all_eq_true.mp c1 x (List.contains_iff_mem.mp hx))
    obtain ⟨h2, h3⟩ := He.ba h2
    obtain ⟨h3, h4⟩ := He.ba h3
    exact ⟨_, He.glo_ok X G h1, xcB_ok h2, fun f hf => of_decide_eq_true (List.all_eq_true.mp h4 f (List.contains_iff_mem.mp hf))⟩
  · exact ⟨_, He.glo_ok X G (List.all_eq_true.mp c2 y (List.contains_iff_mem.mp hy))⟩
  · obtain ⟨h1, h2⟩ := He.ba (List.all_eq_true.mp c3 ((k, y), b) (look_mem z))
    obtain ⟨h2, h3⟩ := He.ba h2
    obtain ⟨h3, h4⟩ := He.ba h3
    refine ⟨h1, fun C D hC hD => ?_⟩
    have g1 := He.glo_ok X G (He.ba (List.all_eq_true.mp c1 k (List.contains_iff_mem.mp h1))).1
    have g2 := He.glo_ok X G (List.all_eq_true.mp c2 y (List.contains_iff_mem.mp h2))
    rw [hC] at g1
    rw [hD] at g2
    cases g1
    cases g2
    exact ⟨of_decide_eq_true h3, of_decide_eq_true h4⟩
theorem exB_ini {P : Program} {w : World} {base : Heap} (X : K.In h) (G : h.Ns mainGlobals mg) (c : exB cs ys fs tab K = true) {x : Str} {ns ps : List Str} {fd : FuncData} (hx : cs.contains x = true)
    (F1 : ∀ C, mg x = some (.ref C) → XcC K C → (∀ f, fs.contains f = true → PySem.W.findIn K (.ref C) f = some none) → FnOk P w K mg base CX0 1 (He.fAd K (x, some "__init__")) fd ps (spI C ns)) (hb : Binds K fd ps []) : ExT P w K mg base x ns := by
  obtain ⟨c1, _⟩ := He.ba c
  obtain ⟨h1, h2⟩ := He.ba (List.all_eq_true.mp c1 x (List.contains_iff_mem.mp hx))
  obtain ⟨h2, h3⟩ := He.ba h2
  obtain ⟨h3, h4⟩ := He.ba h3
  obtain ⟨h5, h6⟩ := He.ba h3
  have g1 := He.glo_ok X G h1
  have x1 := xcB_ok h2
  exact ⟨_, _, fd, ps, g1, x1.ox, of_decide_eq_true h5, of_decide_eq_true h6, F1 _ g1 x1 fun f hf => of_decide_eq_true (List.all_eq_true.mp h4 f (List.contains_iff_mem.mp hf)), hb⟩
end
def obsX (fa : List He.Fa) (fn : List He.DefD) (ex : PySem.W.Frag → Bool) (K : PySem.W.Frag) : He.AlD × Bool := (He.obsD fa fn K, ex K)
def obsXG (n : Nat) (fa : List He.Fa) (fn : List He.DefD) (ex : PySem.W.Frag → Bool) (g : Addr → Option Obj) : He.AlD × Bool := obsX fa fn ex (He.frG g (He.asD g n))
def SaysX (fa : List He.Fa) (fn : List He.DefD) (ex : PySem.W.Frag → Bool) (K : PySem.W.Frag) : Prop := obsX fa fn ex K = (He.valD fn, true)
def hookX (n : Nat) (fa : List He.Fa) (fn : List He.DefD) (ex : PySem.W.Frag → Bool) : PySem.W.Hook where
  α := He.AlD × Bool
  obs := fun s => obsXG n fa fn ex s.heap.get?
  val := fun _ => (He.valD fn, true)
  says := fun _ h => ∃ K : PySem.W.Frag, K.In h ∧ SaysX fa fn ex K
  of := fun _ _ e => ⟨_, He.frG_in, e⟩
  keeps := fun _ _ _ ⟨K, hK, c⟩ k => ⟨K, PySem.W.Frag.In.keeps hK k, c⟩
theorem obsXG_eq {n : Nat} {fa : List He.Fa} {fn : List He.DefD} {ex : PySem.W.Frag → Bool} {g : Addr → Option Obj} {s : Shared} (h : ∀ a, g a = s.heap.get? a) : obsXG n fa fn ex g = (hookX n fa fn ex).obs s := by
  have e : g = s.heap.get? := funext h
  subst e
  rfl
theorem SaysX.d {fa : List He.Fa} {fn : List He.DefD} {ex : PySem.W.Frag → Bool} {K : PySem.W.Frag} (c : SaysX fa fn ex K) : He.SaysD fa fn K := congrArg Prod.fst c
theorem SaysX.x {fa : List He.Fa} {fn : List He.DefD} {ex : PySem.W.Frag → Bool} {K : PySem.W.Frag} (c : SaysX fa fn ex K) : ex K = true := congrArg Prod.snd c
end DL
namespace DL
open PySem PySem.Spec PyProof.Rows L2
/-- a class's j-th statement -/
def inCls (s : Stmt) (j : Nat) : Stmt := match s with
  | .ClassDef _ _ _ b _ _ _ _ _ _ _ => b.getD j (.Pass ⟨0, 0, 0, 0⟩)
  | _ => .Pass ⟨0, 0, 0, 0⟩
section
variable {X : Cx} {W : WX} {st : Stmt} {f : Fsx}
def x_fz (j : Nat) (f : Fsx) : Fsx := fun e => f (fzE j e)
theorem SDX.fz (j : Nat) (h : SDX X W st f) (hj : j ≠ 0 := by decide) : SDX X W st (x_fz j f) := by
  refine ⟨ps_imp h.run fun D σ H ⟨m, E, G0, G, e, o, R, q, P⟩ => ?_⟩
  obtain ⟨G', s, R'⟩ := R.fz hj
  exact ⟨m, E, G0, G', _, o, R', q, P.aft s⟩
end
section
variable {P : Program} {w : World} {K : PySem.W.Frag} {mg : Str → Option Value} {base : Heap} {x qual : Str} {params : Arguments} {body : List Stmt} {scope : Scope} {dvs dvs' : List V} {kws : List (Str × V)} {f : Addr} {fd : FuncData} {k : Nat} {sp : Sp} {ps : List Str}
theorem kfX (F : FunD K x qual params body scope dvs kws f fd) (ok : FnOk P w K mg base (L2N.CX P w) k f fd ps sp) (g : mg x = some (.ref f)) (b : ∃ ds, Vals dvs' ds ∧ Binds K fd ps ds) : KfX P w K mg base k x sp dvs' := by
  obtain ⟨ds, h1, h2⟩ := b
  exact ⟨f, fd, ps, ds, ok, g, F.kp, h2, h1⟩
theorem kfXN (F : FunD K x qual params body scope [] kws f fd) (ok : FnOk P w K mg base (L2N.CX P w) k f fd ps sp) (g : mg x = some (.ref f))
    (h : ∀ (kV doc pm : Value) (an : Option Addr) (cdv ct : Value) (us : List Value), us.length = ps.length → bindArgs (PySem.W.fnOf x qual params body scope .none kV doc pm an cdv ct) ⟨us, []⟩ = pure (ps.zip us)) : KfX P w K mg base k x sp [] :=
  kfX F ok g ⟨[], .nil, F.bindsN h⟩
end
end DL
namespace DL
open PySem PySem.Spec PyProof.Rows L2
def blB (l : List (Str × String)) (K : PySem.W.Frag) : Bool := l.all fun p => decide (PySem.W.nsIn K mainGlobals p.1 = some (some (.builtin p.2)))
end DL
namespace DL
open L2 PySem PySem.Spec PySem.W PyProof.Rows
def bD : Option Rs → Option Bool
  | some (.im (.bool b)) => some b
  | _ => none
def iD : Option Rs → Option Int
  | some (.im (.int i)) => some i
  | _ => none
def vD : Option Rs → Option PyData
  | some (.im d) => some d
  | _ => none
theorem bD_ok {o : Option Rs} {b : Bool} (h : bD o = some b) : o = some (.im (.bool b)) := by
  unfold bD at h
  split at h
  · cases h
    rfl
  · cases h
theorem iD_ok {o : Option Rs} {i : Int} (h : iD o = some i) : o = some (.im (.int i)) := by
  unfold iD at h
  split at h
  · cases h
    rfl
  · cases h
theorem vD_ok {o : Option Rs} {d : PyData} (h : vD o = some d) : o = some (.im d) := by
  unfold vD at h
  split at h
  · cases h
    rfl
  · cases h
/-- what a walk over it gives -/
def wkD : PyData → Option (List PyData)
  | .list ds => some ds
  | .tuple ds => some ds
  | _ => none
section
variable {x y z : Fe} {c d : Ft} {e e1 e2 e3 : Ev} {r r1 r2 r3 : Rs} {a b : PyData} {ds : List PyData} {fa fb : Fa}
theorem wkX (h : x e = some (.im a, e1)) (k : wkD a = some ds) : i_seq x e = some (ds.map idD, e1) := by
  rw [show ds.map idD = ds from List.map_id' ds]
  cases a with
  | list l =>
    cases k
    rw [r_i_seq, h]
    rfl
  | tuple l =>
    cases k
    rw [r_i_seq, h]
    rfl
  | _ => cases k
end
theorem bD_eq {α : Type} [DecidableEq α] {f : α → PyData} [E : EqE f] (h : E.d ≤ 64) (a b : α) : bD (p_eq (f a) (f b)) = some (decide (a = b)) := by rw [o_eq h]; rfl
end DL
namespace DL
open L2 PySem PySem.Spec PySem.W PyProof.Rows
end DL
namespace DL
open PySem PySem.Spec PySem.W PyProof.Rows L2 Calls SeqAt
end DL
namespace DL
open L2 PySem PySem.Spec PySem.W PyProof.Rows
abbrev p1 {α : Type} (f : α → PyData) (x : α) : PyData := .tuple [f x]
abbrev p5 {α β γ δ ε : Type} (f : α → PyData) (g : β → PyData) (h : γ → PyData) (k : δ → PyData) (l : ε → PyData) (x : α × β × γ × δ × ε) : PyData := .tuple [f x.1, g x.2.1, h x.2.2.1, k x.2.2.2.1, l x.2.2.2.2]
instance {α : Type} {f : α → PyData} : Nn (p1 f) := ⟨fun _ => ⟨rfl, rfl⟩⟩
instance {α : Type} [DecidableEq α] {f : α → PyData} [E : EqE f] : EqE (p1 f) := ⟨E.d + 1, fun a => by simp [PyData.canLay0, PyData.canLayAll0, E.can], fun a => by
    rw [PyData.depth, PyData.depthAll, PyData.depthAll]
    have := E.dep a
    omega, fun a b => by
    rw [PyData.eqv, PyData.eqvAll, PyData.eqvAll, E.eqv]
    exact Bool.and_true _⟩
end DL
namespace DL
open L2 PySem PySem.Spec PySem.W PyProof.Rows
def valD (kvs : List (Key × PyData)) (k : Key) : Option PyData := (kvs.find? fun kv => decide (kv.1 = k)).map (·.2)
section
variable {K : PySem.W.Frag} {G : Hp} {v : V} {d : PyData} {k : Key}
theorem Dkv.same {G' : Hp} {ws : List (Key × V)} {kvs : List (Key × PyData)} (q : Dkv K G ws kvs) (s : Same G G') : Dkv K G' ws kvs := ⟨q.1, dpAll_same s q.2⟩
end
end DL
namespace DL
open L2 PySem PySem.Spec PySem.W PyProof.Rows
end DL
namespace DL
open L2 PySem PySem.Spec PySem.W PyProof.Rows
section
variable {α β γ δ ε ζ : Type}
abbrev q2 (f : α → PyData) (g : β → PyData) (x : α × β) : List PyData := [f x.1, g x.2]
abbrev q3 (f : α → PyData) (g : β → PyData) (h : γ → PyData) (x : α × β × γ) : List PyData := [f x.1, g x.2.1, h x.2.2]
abbrev q4 (f : α → PyData) (g : β → PyData) (h : γ → PyData) (k : δ → PyData) (x : α × β × γ × δ) : List PyData := [f x.1, g x.2.1, h x.2.2.1, k x.2.2.2]
abbrev q5 (f : α → PyData) (g : β → PyData) (h : γ → PyData) (k : δ → PyData) (l : ε → PyData) (x : α × β × γ × δ × ε) : List PyData := [f x.1, g x.2.1, h x.2.2.1, k x.2.2.2.1, l x.2.2.2.2]
end
end DL
namespace DL
open L2 PySem PySem.Spec PySem.W PyProof.Rows
end DL
namespace DL
open L2 PySem PySem.Spec PySem.W PyProof.Rows
/-- a comparison and what it gives -/
structure CD (X : Cx) (op : CmpOp) (a b : Expr) (f : Fe) : Prop where
  ex : ∃ t : TE, PC X op a b t ∧ ∀ (m : Option Addr) (E : Ef) (G0 G : Hp) (e : Ev) (σ : St) (H : Hp) (r : Rs) (e' : Ev) (Q : VK),
    Rl X.K m E G0 G e σ H → f e = some (r, e') → Po X.K m E G0 σ G H e r e' Q → t σ H Q
section
variable {X : Cx} {op : CmpOp} {a b : Expr} {f fa : Fe} {pos np : Pos} {x : Str}
theorem CD.ed (h : CD X op a b f) (hm : behindInMarks op b = false := by rfl) : ED X (.Compare a [op] [b] pos) f := by
  obtain ⟨t, p, k⟩ := h
  exact ⟨t, pe_cmp p hm, k⟩
end
end DL
namespace DL
open L2 PySem PySem.Spec PySem.W PyProof.Rows
theorem _root_.L2H.RoomH.units {k : Nat} {A : Around} (r : L2H.RoomH k A) : A.units + 64 < cLine := by
  have := r.un
  omega
theorem hot_suite {X : Cx} {a dd C : Addr} {oe : Obj} {pn : List (Addr × Obj)} (hz : L2N.Zn (.ref C) (some dd) oe) (hf : ∃ vs, oe.data = .fields vs) : L2H.HotC (X.suite a ((a, oe) :: pn)) := by
  obtain ⟨vs, hv⟩ := hf
  exact ⟨(a, oe), ⟨rfl, vs, hv, hz.2.2 vs hv⟩, List.mem_cons_self ..⟩
theorem room_suite {X : Cx} {j : Nat} {a : Addr} {pn : List (Addr × Obj)} (hr : Room j X.A) : L2H.RoomH j (X.suite a pn).A := ⟨hr.dp, hr.un⟩
inductive KfH (P : Program) (w : World) (K : PySem.W.Frag) (mg : Str → Option Value) (base : Heap) (k : Nat) (x : Str) (sp : Sp) : Prop where
  | kept (at_ : Addr) (fd : FuncData) (names : List Str) (fn : L2H.FnH P w K mg base CX0 k at_ fd names sp) (here : mg x = some (.ref at_)) (stays : PySem.W.keepIn K (.ref at_) = true) (binds : Binds K fd names [])
section
variable {X : Cx} {k j n : Nat} {x : Str} {p pos : Pos} {a : Expr} {es : List Expr} {fa : Fa}
theorem ed_callH {φ : List PyData → Option Rs} (F : KfH X.prog X.w X.K X.mg X.base k x (spD X.K n φ)) (hr : L2H.RoomH j X.A) (hot : L2H.HotC X) (hk : k ≤ j) (hn : ∀ ds, (φ ds).isSome = true → ds.length = n) (h : AD X (a :: es) fa) (hg : Gl X x := by rfl)
    (hdb : (x == ("__debug__" : Str)) = false := by decide) (he : starEach (a :: es) X.env = (false, eval a X.env) :: starEach es X.env := by rfl) (hpl : (backTo pos (starEach es X.env)).any (·.1) = false := by rfl) :
    ED X (.Call (.Name x p) (a :: es) [] pos) (x_call φ [] fa) := by
  obtain ⟨f, fd, ps, F, hm, kp, hb⟩ := F
  obtain ⟨t, pa, kk⟩ := h
  refine ⟨_, L2H.pe_callH F (hr.mono hk) hot hg hm kp hb (E := fun _ => E0) (fun _ _ _ _ _ _ _ z => z.elim) pa hdb he hpl, ?_⟩
  intro m E G0 G e σ H r e' Q R q P
  have z := call_ok (dvs := []) (dds := []) (fun G => .nil) hn kk m E G0 G e σ H r e' Q R q P
  unfold tCall at z
  simp only [List.append_nil] at z
  exact z
theorem sd_forH {tg e : Expr} {body : List Stmt} {f : Fe} {S : List Nat} {γ : PyData → Ev → Option Ev} {fb : Fs} {q : Pos} (hot : L2H.HotC X) (hp : PassesOwn (model X.prog X.w) X.A X.env X.xe) (ha : ED X e f) (hm : X.mg "range" = none) (hg : GD X tg S γ) (hb : SsD X body fb)
    (hgl : Gl X "range" := by rfl) (hs1 : starEach [e] X.env = [(false, eval e X.env)] := by rfl) (hs : ∀ x, foldedSetIterable (.Call (.Name "range" p) [e] [] q) X.env x = pure x := by intro _; rfl) :
    SD X (.For tg (.Call (.Name "range" p) [e] [] q) body [] pos) (s_for (i_rng1 f) γ S fb) := by
  obtain ⟨t, pa, k⟩ := ha
  exact sd_forG (PIx := L2H.PIH X tg (.Call (.Name "range" p) [e] [] q)) (fun pi pg pb => L2H.ps_forH hp hot pi pg pb hs) ⟨_, L2H.pi_range1H hgl hm (pa_cons pa pa_nil hs1) hs1, rng1_read k⟩ hg hb
end
section
variable {P : Program} {w : World} {K : PySem.W.Frag} {mg : Str → Option Value} {base : Heap} {x qual : Str} {params : Arguments} {body : List Stmt} {scope : Scope} {dvs : List V} {kws : List (Str × V)} {f : Addr} {fd : FuncData} {N ps : List Str} {k n nl : Nat} {g : Fs}
/-- what the body gives, out of what the def promises -/
theorem fn_read {X : Cx} {t : TS} {vs : List V} {H : Hp} {Q : VK} {E : XK} (hK : X.K = K) (hl : n + nl = N.length) (kt : ∀ (m : Option Addr) (E : Ef) (G0 G : Hp) (e : Ev) (σ : St) (H : Hp) (fl : Fl) (D : Ends), Rz X.K m E G0 G e σ H → g e = some fl → PoS X.K m E G0 G D fl → t D σ H)
    (h : spD K n (runF n nl g) vs H Q E) : t { nx := fun _ H' => Q .non H', rt := Q } (L2.start N vs) H := by
  subst hK
  obtain ⟨G, ds, r, s1, hd, hv, hr2, hQ⟩ := h
  have Rz0 : Rz X.K none (Ef.of H) G G (env0 ds nl) (L2.start N vs) H := rz_start s1 hd (by omega)
  unfold runF at hr2
  rw [if_pos (by rw [← dpAll_len hd]; exact hv)] at hr2
  split at hr2
  · rename_i r' e' h1
    refine kt none (Ef.of H) G G _ _ H _ _ Rz0 h1 fun v G' σ' H' s2 R' V' => ?_
    refine hQ v G' H' s2 R'.r.gh (fun a o z => R'.r.eh a o z (by simp)) R'.r.nw ?_
    unfold finR at hr2
    cases r' with
    | im d =>
      cases hr2
      exact V'
    | ac d =>
      cases hr2
      obtain ⟨p, ws, a1, a2, a3, a4, a5, _⟩ := V'
      exact ⟨p, ws, a1, a2, a3, a4, a5⟩
    | br i =>
      dsimp only at hr2
      split at hr2
      · rename_i d h2
        cases hr2
        obtain ⟨d', b1, b2⟩ := V'
        obtain ⟨p, ws, a1, a2, a3, a4, a5⟩ := R'.r.ac i d h2
        rw [a1] at b2
        cases b2
        have a5 : H p = none := by
          rcases a5 with a5 | a5
          · exact a5
          · cases a5.1
        exact ⟨p, ws, rfl, a5, a2, a3, a4⟩
      · cases hr2
  · rename_i e' h1
    cases hr2
    exact kt none (Ef.of H) G G _ _ H _ _ Rz0 h1 fun G' σ' H' s2 R' => hQ .non G' H' s2 R'.r.gh (fun a o z => R'.r.eh a o z (by simp)) R'.r.nw .non
  · cases hr2
theorem fnDH (F : FunD K x qual params body scope dvs kws f fd) (S : FnScope N ps scope) (hp : ps.length = n) (hl : n + nl = N.length)
    (hb : ∀ (cdv : Value) (A : Around) (outer : List Env) (s : Shared) (H : Hp) (E : XK) (p : Addr × Obj), L2H.RoomH k (A.deeper (envOfC qual scope s.heap.objs.size f cdv)) → L2H.HotC (L2H.cxH CX0 P w K mg base N qual scope f cdv A outer s H E p).nox → SsD (L2H.cxH CX0 P w K mg base N qual scope f cdv A outer s H E p).nox body g) :
    L2H.FnH P w K mg base CX0 (k + 1) f fd ps (spD K n (runF n nl g)) := by
  obtain ⟨oc, od, dV, kV, doc, pm, an, cdv, ct, osl, rfl, lk, hcd, _, _⟩ := F.ex
  refine L2H.fn_ofH lk hcd S (fun vs H Q E h => ?_) fun A outer s H vs Q E p hot hr h => ?_
  · obtain ⟨_, _, _, _, _, h, _⟩ := h
    rw [h, hp]
  · obtain ⟨t, pt, kt⟩ := hb cdv A outer s H E p hr ⟨p, hot, List.mem_singleton.mpr rfl⟩
    exact ⟨t, pt.nox, fn_read (K := K) rfl hl kt h⟩
theorem fnH_void {CX : CXT} : L2H.FnH P w K mg base CX k f fd ps (spD K n (fun _ => none)) := by
  refine ⟨fun _ _ _ _ h => (spD_void h).elim, ?_⟩
  intros
  exact (spD_void (by assumption)).elim
theorem kfHN {sp : Sp} (F : FunD K x qual params body scope [] kws f fd) (ok : L2H.FnH P w K mg base CX0 k f fd ps sp) (gm : mg x = some (.ref f))
    (h : ∀ (kV doc pm : Value) (an : Option Addr) (cdv ct : Value) (us : List Value), us.length = ps.length → bindArgs (PySem.W.fnOf x qual params body scope .none kV doc pm an cdv ct) ⟨us, []⟩ = pure (ps.zip us)) : KfH P w K mg base k x sp := ⟨_, _, _, ok, gm, F.kp, F.bindsN h⟩
end
end DL
namespace DL
open L2 PySem PySem.Spec PySem.W PyProof.Rows
end DL
namespace DL
open PySem PySem.Spec PySem.W PyProof.Rows L2
section
variable {prog : Program} {w : World} {A : Around} {E : Value → Shared → Prop} {z : Shared}
/-- where the new list of what a tuple holds stands -/
def gotH (g : Heap) (vs : List Value) : Heap := (g.push (seqObj "list" #[] 0)).update g.objs.size (Obj.mapSeq (· ++ vs.toArray))
theorem got_size (g : Heap) (vs : List Value) : (gotH g vs).objs.size = g.objs.size + 1 := by unfold gotH; rw [Heap.size_update, size_push']
theorem got_at (g : Heap) (vs : List Value) : ∃ n, (gotH g vs).get? g.objs.size = some (seqObj "list" vs.toArray n) :=
  ⟨_, (get?_update_seq (Heap.get?_push_size _ rfl) _).trans (by rw [show (#[] : Array Value) ++ vs.toArray = vs.toArray by simp])⟩
/-- xs += t, of a new list -/
theorem tup_ext {t r : Addr} {ob : Obj} {vs : List Value} {k n : Nat} {g : Heap} {Q : PySem.Fin → Shared → Prop} (h1 : g.get? t = some ob) (h2 : ob.cls = .type "tuple") (h3 : ob.data = .seq vs.toArray k)
    (hr : g.get? r = some (seqObj "list" #[] n)) (hn : vs.length ≤ sizeLine) (q : Q (.done (.ret (.ref r))) { z with heap := g.update r (Obj.mapSeq (· ++ vs.toArray)) }) :
    wpAny (model prog w) A (Builtin.List.listExtendWith (.ref r) (.ref t) (.ref r)) Q E { z with heap := g } := by
  unfold Builtin.List.listExtendWith
  refine wpAny_bind (wpAny_typeOf (T := "tuple") ⟨ob, h1, h2⟩ ?_)
  rw [if_pos (by simp)]
  refine wpAny_bind (listItems_at h1 h3 <| wpAny_bind <| listItems_at hr rfl ?_)
  rw [if_neg (by simp)]
  exact wpAny_bind (listUpdate_at hr rfl (wpAny_pure q) (Nat.zero_le _) (by show (#[] ++ vs.toArray).size ≤ sizeLine + 1; simp only [Array.size_append, List.size_toArray, List.length_nil]; omega))
theorem tup_got {t : Addr} {vs : List Value} {Q : List Value → Shared → Prop} (ht : IsTup z.heap t vs.toArray) (hn : vs.length ≤ sizeLine) (q : Q vs { z with heap := gotH z.heap vs }) :
    wpAny (model prog w) A (collect (.ref t)) Q E z := by
  obtain ⟨ob, h1, h2, k, h3⟩ := ht
  obtain ⟨n, hg⟩ := got_at z.heap vs
  unfold collect
  refine wpAny_bind (wpAny_runValue (codeAny_builtin entry_proto_collect' (?_ : wpAny _ _ (do again (.builtin "list.__iadd__" ⟨[← newList [], .ref t], []⟩)) _ _ z)))
  refine wpAny_bind <| wpAny_newList <| wpAny_pure ⟨Code.quiet_builtin _ (by decide +kernel), codeAny_builtin entry_list_iadd' ?_⟩
  refine tup_ext (z := z) (Heap.get?_push_of_some _ h1) h2 h3 (Heap.get?_push_size _ rfl) hn ?_
  show wpAny (model prog w) A (load z.heap.objs.size >>= fun o => match o.data with
      | .seq xs _ => pure xs.toList
      | _ => unsupported "internal:collect") Q E _
  exact wpAny_bind (wpAny_load hg (wpAny_pure q))
/-- sorted of a tuple, by keywords that say reverse=b -/
theorem tup_srt {t : Addr} {vs : List Value} {b : Bool} {lt : Value → Value → Bool} {Q : Value → Shared → Prop} (O : SrtO.Swo lt) (ht : IsTup z.heap t vs.toArray) (hn : vs.length ≤ sizeLine)
    (hS : 2 ≤ vs.length → ∀ (g : Heap) (a : Addr), SrtO.SortableO prog w A.in1.in1 { z with heap := g } a vs lt)
    (q : ∀ out : List Value, SrtO.Srtd lt out → SrtO.Stb lt out (if b = true then vs.reverse else vs) → Q (.ref (z.heap.objs.size + 1)) { z with heap := sortedAll z.heap vs (if b = true then out.toArray.reverse else out.toArray) }) :
    wpAny (model prog w) A (call (.builtin "sorted") [.ref t] [(Str.ofString "reverse", .bool b)]) Q E z := by
  obtain ⟨n, hg⟩ := got_at z.heap vs
  have hnew : ((gotH z.heap vs).push (seqObj "list" vs.toArray 0)).get? (z.heap.objs.size + 1) = some (seqObj "list" vs.toArray 0) := got_size z.heap vs ▸ Heap.get?_push_size _ rfl
  refine call_function_entry_kw kind_sorted plain_sorted entry_sorted (PyProof.Rows.args_sorted_rev _ _) ?_
  unfold Builtin.«sorted»
  refine wpAny_bind (wpAny_pure (wpAny_bind (tup_got ht hn <| wpAny_bind <| wpAny_newList ?_ hn)))
  show wpAny _ _ _ _ _ { z with heap := (gotH z.heap vs).push (seqObj "list" vs.toArray 0) }
  rw [got_size]
  refine wpAny_bind (wpAny_holding (wpAny_call_entry_kw slot_list_sort ⟨_, hnew, rfl⟩ entry_list_sort (SrtR.list_sort_ordR O hnew hn (fun h2 => hS h2 _ _) fun out h1 h2 => ?_) (PyProof.Rows.args_list_sort_rev _ _)))
  exact ⟨_, rfl, wpAny_pure ⟨_, rfl, q out h1 h2⟩⟩
end
theorem crk_or {X : L2.Cx} {f : Value} {ks : List Str} {r r' : List V → List V → Hp → VK → Prop} (h : CallRK X f ks r) (h' : CallRK X f ks r') : CallRK X f ks fun vs zs H Q => r vs zs H Q ∨ r' vs zs H Q :=
  fun pins s σ H xs zs us ws Q I a b c => c.elim (h pins s σ H xs zs us ws Q I a b) (h' pins s σ H xs zs us ws Q I a b)
def rSrtT (K : PySem.W.Frag) : List V → List V → Hp → VK → Prop := fun vs zs H Q => ∃ (a : Addr) (ns : List Int), vs = [V.ref a] ∧ zs = [V.bl true] ∧ SqT K H a (ns.map V.int) ∧
  ∀ p : Addr, H p = none → Q (.ref p) (upd H p (.lst ((downI ns).map V.int)))
theorem cr_srtT {X : L2.Cx} : CallRK X (.builtin "sorted") [Str.ofString "reverse"] (rSrtT X.K) := by
  intro pins z σ H vs zs us ws Q I r rz h
  obtain ⟨t, ns, rfl, rfl, hs, q⟩ := h
  obtain ⟨its, rv, tp, hz⟩ := I.tuple hs
  rw [Vals.ref1 r]
  obtain ⟨w1, rfl, e1⟩ := vals1 rz
  have e1 : w1 = Value.bool true := e1
  subst e1
  have hI := rv.ints
  have hn : its.length ≤ sizeLine := rv.length ▸ hz
  refine tup_srt SrtO.swo_int tp hn (fun h2 g a => SrtO.ints_sortable hI h2) fun out o1 o2 => ?_
  obtain ⟨ms, k1, k2, k3⟩ := SrtR.ints_outR hI o1 o2
  have k3 : ms.Pairwise (· ≥ ·) := k3
  rw [downI_uniq k2 k3] at k1
  obtain ⟨ep, at1⟩ := PyProof.Rows.sortedAll_at z.heap its (if true = true then out.toArray.reverse else out.toArray)
  have nf : H (z.heap.objs.size + 1) = none := I.hok.fresh (Nat.le_succ _)
  have hl : ((downI ns).map V.int).length ≤ sizeLine := by
    have e : (downI ns).length = ns.length := (sortB_perm _ ns).length_eq
    rw [List.length_map, e]
    rw [List.length_map] at hz
    exact hz
  refine ⟨.ref _, _, I.laid (t' := z.toks) (fun _ _ => PyProof.Rows.sortedAll_old) (Nat.le_succ _) (o := .lst ((downI ns).map V.int)) ⟨hl, _, ep, vals_of_ints k1, ?_⟩, rfl, q _ nf⟩
  rw [Array.toArray_toList]
  exact at1
/-- sorted(e, reverse=True), of a list or a tuple of ints -/
def c_srt : List PyData → Option Rs := orC (c_intsL fun ns => some (.ac ((downI ns).map PyData.int))) (c_intsT fun ns => some (.ac ((downI ns).map PyData.int)))
def x_srt (fa : Fa) : Fe := x_cb c_srt fa
theorem ed_srt {X : L2.Cx} {a : Expr} {fa : Fa} {pos p kp : Pos} {j : Nat} {cp : Pos} (h : AD X [a] fa) (hm : X.mg "sorted" = none) (hg : Gl X "sorted" := by rfl)
    (hk : L2.PK X [⟨some (Str.ofString "reverse"), .Constant (.bool true) j cp, kp⟩] (tCons (tC (.bl true)) tNil) := by exact pk_cons pe_bl pk_nil)
    (he : backTo pos (starEach [a] X.env) = (false, eval a X.env) :: backTo pos (starEach [] X.env) := by rfl) (hpl : (backTo pos (starEach [a] X.env)).any (·.1) = false := by rfl)
    (hall : (backToKw pos (keywordEach [⟨some (Str.ofString "reverse"), .Constant (.bool true) j cp, kp⟩] X.env)).all (·.1.isSome) = true := by rfl) (hnone : (backToKw pos (keywordEach [⟨some (Str.ofString "reverse"), .Constant (.bool true) j cp, kp⟩] X.env)).any (·.1.isNone) = false := by rfl)
    (hks : (backToKw pos (keywordEach [⟨some (Str.ofString "reverse"), .Constant (.bool true) j cp, kp⟩] X.env)).filterMap (·.1) = [Str.ofString "reverse"] := by rfl) :
    ED X (.Call (.Name "sorted" p) [a] [⟨some (Str.ofString "reverse"), .Constant (.bool true) j cp, kp⟩] pos) (x_srt fa) := by
  obtain ⟨t, pa, k⟩ := h
  refine ⟨_, pe_callBK (crk_or (cr_sortedRev (b := true)) cr_srtT) hg hm (by decide +kernel) pa hk (by decide) (by decide) he hpl hall hnone hks, fun m E G0 G e σ H r e' Q R q P => ?_⟩
  unfold x_srt x_cb at q
  cases h1 : argsD fa e with
  | none => simp only [h1] at q; cases q
  | some y =>
    obtain ⟨ds, e1⟩ := y
    simp only [h1] at q
    cases h2 : c_srt ds with
    | none => simp only [h2] at q; cases q
    | some r2 =>
      simp only [h2, Option.some.injEq, Prod.mk.injEq] at q
      obtain ⟨rfl, rfl⟩ := q
      obtain ⟨rs, q1, q2⟩ := argsD_ok h1
      refine k m E G0 G e σ H rs e1 _ R q1 fun vs G1 H1 R1 S1 V1 => ?_
      have fin : ∀ (ns : List Int) (p : Addr), r2 = .ac ((downI ns).map PyData.int) → H1 p = none → Q (.ref p) (upd H1 p (.lst ((downI ns).map V.int))) := fun ns p e2 hp => by
        subst e2
        obtain ⟨R', S', V', N'⟩ := R1.newL hp (dpAll_ints (K := X.K) (G := G1) (downI ns))
        exact P _ _ _ R' (S1.trans S') V' (nw_back S1 _ N')
      unfold c_srt orC at h2
      split at h2
      · rename_i r3 h3
        cases h2
        obtain ⟨ns, rfl, h4⟩ := intsL_ok h3
        cases h4
        obtain ⟨p, rfl, s1⟩ := lv_ints R1.gh (R1.lookAll V1 q2)
        refine .inl ⟨p, ns, rfl, rfl, s1, fun ms p2 z1 z2 hp => ?_⟩
        have z2 : ms.Pairwise (· ≥ ·) := z2
        rw [downI_uniq z1 z2]
        exact fin ns p2 rfl hp
      · obtain ⟨ns, rfl, h4⟩ := intsT_ok h2
        cases h4
        obtain ⟨p, rfl, s1⟩ := lv_intsT R1.gh (R1.lookAll V1 q2)
        exact .inr ⟨p, ns, rfl, rfl, s1, fun p2 hp => fin ns p2 rfl hp⟩
theorem srtLX {e : Ev} {ns : List Int} {fa : Fa} (h : argsD fa e = some ([ls PyData.int ns], e1)) : x_srt fa e = some (.ac ((downI ns).map PyData.int), e1) := by
  have c : c_srt [ls PyData.int ns] = some (.ac ((downI ns).map PyData.int)) := by
    show c_srt [PyData.list (ns.map PyData.int)] = _
    unfold c_srt orC
    rw [n_intsL]
  unfold x_srt x_cb
  rw [h]
  dsimp only
  rw [c]
end DL
namespace DL
open PySem PySem.Spec PySem.W PyProof.Rows L2
def orRx (φ : List PyData → Option Rs) (ψ : List PyData → Option Ro) : List PyData → Option Ro := fun ds => match φ ds with
  | some r => some (.inl r)
  | none => ψ ds
theorem orRx_len {φ : List PyData → Option Rs} {ψ : List PyData → Option Ro} {n : Nat} (h : ∀ ds, (φ ds).isSome = true → ds.length = n) (k : ∀ ds, (ψ ds).isSome = true → ds.length = n) : ∀ ds, (orRx φ ψ ds).isSome = true → ds.length = n := fun ds q => by
  unfold orRx at q
  cases e : φ ds with
  | some r => exact h ds (by rw [e]; rfl)
  | none =>
    rw [e] at q
    exact k ds q
theorem orRx_of {φ : List PyData → Option Rs} {ψ : List PyData → Option Ro} {ds : List PyData} {r : Rs} (h : φ ds = some r) : orRx φ ψ ds = some (.inl r) := by
  unfold orRx
  rw [h]
theorem fn_orX {P : Program} {w : World} {K : PySem.W.Frag} {mg : Str → Option Value} {base : Heap} {k n : Nat} {f : Addr} {fd : FuncData} {ps : List Str} {φ : List PyData → Option Rs} {ψ : List PyData → Option Ro}
    (F : FnOk P w K mg base CX0 k f fd ps (spD K n φ)) (Y : FnOk P w K mg base (L2N.CX P w) k f fd ps (spX K mg n ψ)) : FnOk P w K mg base (L2N.CX P w) k f fd ps (spX K mg n (orRx φ ψ)) := by
  have two : ∀ {vs : List V} {H : Hp} {Q : VK} {E : XK}, spX K mg n (orRx φ ψ) vs H Q E → spD K n φ vs H Q E ∨ spX K mg n ψ vs H Q E := fun {vs H Q E} z => by
    obtain ⟨G, ds, o, a1, a2, a3, a4, a5, a6⟩ := z
    unfold orRx at a4
    cases e : φ ds with
    | some r =>
      rw [e] at a4
      cases a4
      exact .inl ⟨G, ds, r, a1, a2, a3, e, a5 r rfl⟩
    | none =>
      rw [e] at a4
      exact .inr ⟨G, ds, o, a1, a2, a3, a4, a5, a6⟩
  refine ⟨fun vs H Q E z => ?_, fun A outer s H args us vs Q E r e0 b v z => ?_⟩
  · rcases two z with z | z
    · exact F.len _ _ _ _ z
    · exact Y.len _ _ _ _ z
  · rcases two z with z | z
    · refine codeAny_mono (F.run A outer s H args us vs Q E r e0 b v z) fun q s' y => ?_
      match q, y with
      | .ok (.ret u), y => exact y
      | .error e, y => exact False.elim y
    · exact Y.run A outer s H args us vs Q E r e0 b v z
abbrev Fax := Ev → Option (Ex (List Rs × Ev))
def PoA (K : PySem.W.Frag) (mg : Str → Option Value) (m : Option Addr) (E : Ef) (G0 : Hp) (σ : St) (G H : Hp) (e : Ev) (W : WX) (Q : List V → Hp → Prop) : Ex (List Rs × Ev) → Prop
  | .inl (rs, e') => ∀ vs G' H', Rl K m E G0 G' e' σ H' → Stp σ G H e G' H' e' → VrAll K E G' H' σ e' vs rs → Q vs H'
  | .inr (x, e') => ∀ cls d G' H', Rl K m E G0 G' e' σ H' → Stp σ G H e G' H' e' → XcAt K mg G' cls d x → W cls d σ H'
def taX (K : PySem.W.Frag) (mg : Str → Option Value) (f : Fax) (W : WX) : TA := fun σ H Q => ∃ m E G0 G e o, Rl K m E G0 G e σ H ∧ f e = some o ∧ PoA K mg m E G0 σ G H e W Q o
structure ADX (X : Cx) (W : WX) (xs : List Expr) (f : Fax) : Prop where
  run : PA X xs (taX X.K X.mg f W)
theorem pa_imp {X : Cx} {xs : List Expr} {t u : TA} (h : PA X xs t) (k : ∀ σ H Q, u σ H Q → t σ H Q) : PA X xs u := ⟨fun pos pins s σ H Q I q => h.run pos pins s σ H Q I (k σ H Q q)⟩
section
variable {X : Cx} {W : WX} {a : Expr} {es : List Expr} {fx : Fex} {fa : Fa} {fr : Fax} {pos : Pos}
def xA (f : Fa) : Fax := fun e => (f e).map .inl
theorem AD.x (h : AD X es fa) : ADX X W es (xA fa) := by
  obtain ⟨t, p, k⟩ := h
  refine ⟨pa_imp p fun σ H Q ⟨m, E, G0, G, e, o, R, q, P⟩ => ?_⟩
  unfold xA at q
  cases h1 : fa e with
  | none => rw [h1] at q; cases q
  | some z =>
    obtain ⟨rs, e'⟩ := z
    rw [h1] at q
    cases q
    exact k m E G0 G e σ H rs e' Q R h1 P
def ax_cons (fx : Fex) (fr : Fax) : Fax := fun e => match fx e with
  | some (.inl (r, e1)) => (match fr e1 with
    | some (.inl (rs, e2)) => some (.inl (frzR r :: rs, e2))
    | some (.inr y) => some (.inr y)
    | none => none)
  | some (.inr y) => some (.inr y)
  | none => none
theorem adx_cons (ha : EDX X W a fx) (hr : ADX X W es fr) (hs : starEach (a :: es) X.env = (false, eval a X.env) :: starEach es X.env := by rfl) : ADX X W (a :: es) (ax_cons fx fr) := by
  refine ⟨pa_imp (pa_cons ha.run hr.run hs) fun σ H Q ⟨m, E, G0, G, e, o, R, q, P⟩ => ?_⟩
  unfold ax_cons at q
  show teX X.K X.mg fx W σ H fun x H1 => taX X.K X.mg fr W σ H1 fun xs H2 => Q (x :: xs) H2
  split at q
  · rename_i r e1 h1
    refine ⟨m, E, G0, G, e, _, R, h1, fun v G1 H1 R1 S1 V1 N1 => ?_⟩
    obtain ⟨G1', R1', S1', s1, V1'⟩ := R1.freeze S1 V1 N1
    split at q
    · rename_i rs e2 h2
      cases q
      exact ⟨m, E, G0, G1', e1, _, R1', h2, fun vs G2 H2 R2 S2 V2 => P (v :: vs) G2 H2 R2 (S1'.trans S2) ⟨V1'.stp S2, V2⟩⟩
    · rename_i y h2
      cases q
      obtain ⟨x, e2⟩ := y
      exact ⟨m, E, G0, G1', e1, _, R1', h2, fun cls d G2 H2 R2 S2 X2 => P cls d G2 H2 R2 (S1'.trans S2) X2⟩
    · cases q
  · rename_i y h1
    cases q
    obtain ⟨x, e1⟩ := y
    exact ⟨m, E, G0, G, e, _, R, h1, P⟩
  · cases q
def forGoX (γ : PyData → Ev → Option Ev) (S : List Nat) (fb : Fsx) : List PyData → Ev → Option (Ex Fl)
  | [], e => some (.inl (.nx e))
  | d :: ds, e => if okS S e = true then (match γ d e with
    | some e2 => (match fb e2 with
      | some (.inl (.nx e3)) => forGoX γ S fb ds e3
      | some (.inl (.ct e3)) => forGoX γ S fb ds e3
      | some (.inl (.bk e3)) => some (.inl (.nx e3))
      | some (.inl (.rt r e3)) => some (.inl (.rt r e3))
      | some (.inr y) => some (.inr y)
      | none => none)
    | none => none) else none
def x_for (fi : Fi) (γ : PyData → Ev → Option Ev) (S : List Nat) (fb : Fsx) : Fsx := fun e => match fi e with
  | some (ds, e1) => forGoX γ S fb ds e1
  | none => none
theorem sdx_for {tg it : Expr} {body : List Stmt} {fi : Fi} {S : List Nat} {γ : PyData → Ev → Option Ev} {fb : Fsx} (hc : X.calm = true) (hp : PassesOwn (model X.prog X.w) X.A X.env X.xe) (hi : ID X tg it fi) (hg : GD X tg S γ) (hb : SsDX X W body fb)
    (hs : ∀ x, foldedSetIterable it X.env x = pure x := by intro _; rfl) : SDX X W (.For tg it body [] pos) (x_for fi γ S fb) := by
  obtain ⟨wi, pi, ki⟩ := hi
  obtain ⟨g, pg, kg⟩ := hg
  refine ⟨ps_imp (ps_for hp hc pi pg hb.run hs) fun D σ H ⟨m, E, G0, G, e, fl, R, q, P⟩ => ?_⟩
  unfold x_for at q
  cases h1 : fi e with
  | none => simp only [h1] at q; cases q
  | some z =>
    obtain ⟨ds, e1⟩ := z
    simp only [h1] at q
    refine ki m E G0 G e σ H ds e1 _ R.r h1 fun J G1 H1 R1 S1 W1 => ?_
    let I : Nat → Nat → St → Hp → Prop := fun i mm σ H => ∃ G2 e2, mm = ds.length - i ∧ i ≤ ds.length ∧ Rz X.K m E G0 G2 e2 σ H ∧ Same G1 G2 ∧ forGoX γ S fb (ds.drop i) e2 = some fl
    refine ⟨I, ⟨ds.length, G1, e1, by simp, Nat.zero_le _, R.exp R1 S1, Same.refl _, by simpa using q⟩, ?_⟩
    rintro i mm σ2 H2 ⟨G2, e2, rfl, hi, R2, s2, lc⟩
    obtain ⟨wk, stop⟩ := W1 G2 H2 s2 R2.r.gh
    by_cases hlt : i < ds.length
    · have hd : ds.drop i = ds[i] :: ds.drop (i + 1) := by rw [List.drop_eq_getElem_cons hlt]
      have hget : ds[i]? = some ds[i] := List.getElem?_eq_getElem hlt
      rw [hd] at lc
      generalize ds[i] = d at lc hget hd
      obtain ⟨go, yl⟩ := wk i d hget
      refine .inr ⟨go, I (i + 1) (ds.length - (i + 1)), fun σ' H' h => ⟨_, by omega, h⟩, fun x H' y => ?_⟩
      have hY : ∃ G', Rz X.K m E G0 G' e2 σ2 H' ∧ Same G2 G' ∧ Dp X.K G' x d := by
        rcases yl x H' y with ⟨rfl, h⟩ | ⟨T, us, es, rfl, nT, rfl, rfl, h⟩
        · exact ⟨G2, R2, Same.refl _, h⟩
        · obtain ⟨R', S', D'⟩ := R2.r.newT nT h
          exact ⟨_, R2.exp R' S', S'.gg, D'⟩
      obtain ⟨G', R', s', dx⟩ := hY
      simp only [forGoX] at lc
      by_cases ok : okS S e2 = true
      · rw [if_pos ok] at lc
        cases h2 : γ d e2 with
        | none => simp only [h2] at lc; cases lc
        | some e3 =>
          simp only [h2] at lc
          refine kg m E G0 G' e2 σ2 H' x d e3 _ R'.r dx h2 fun σ3 R3 out sl el ac1 => ?_
          have R3' : Rz X.K m E G0 G' e3 σ3 H' := ⟨R3, fun p z => by
            obtain ⟨z1, z2⟩ := R'.z p z
            obtain ⟨o1, o2⟩ := out 0 (okS_no ok z1)
            rw [o1, o2]
            exact ⟨z1, z2⟩⟩
          cases h3 : fb e3 with
          | none => simp only [h3] at lc; cases lc
          | some x3 =>
            refine ⟨m, E, G0, G', e3, x3, R3', h3, ?_⟩
            match x3 with
            | .inl (.nx e4) =>
              simp only [h3] at lc
              exact fun G4 σ4 H4 s4 R4 => ⟨G4, e4, rfl, hlt, R4, s2.trans (s'.trans s4), lc⟩
            | .inl (.ct e4) =>
              simp only [h3] at lc
              exact fun G4 σ4 H4 s4 R4 => ⟨G4, e4, rfl, hlt, R4, s2.trans (s'.trans s4), lc⟩
            | .inl (.bk e4) =>
              simp only [h3, Option.some.injEq] at lc
              subst lc
              exact fun G4 σ4 H4 s4 R4 => P G4 σ4 H4 (S1.gg.trans (s2.trans (s'.trans s4))) R4
            | .inl (.rt r e4) =>
              simp only [h3, Option.some.injEq] at lc
              subst lc
              exact fun v G4 σ4 H4 s4 R4 V => P v G4 σ4 H4 (S1.gg.trans (s2.trans (s'.trans s4))) R4 V
            | .inr (x4, e4) =>
              simp only [h3, Option.some.injEq] at lc
              subst lc
              exact fun cls dd G4 σ4 H4 s4 R4 X4 => P cls dd G4 σ4 H4 (S1.gg.trans (s2.trans (s'.trans s4))) R4 X4
      · rw [if_neg ok] at lc
        cases lc
    · have hi2 : i = ds.length := by omega
      subst hi2
      rw [List.drop_length] at lc
      cases lc
      exact .inl ⟨stop, P G2 σ2 H2 (S1.gg.trans s2) R2⟩
end
end DL
namespace DL
open L2 PySem PySem.Spec PySem.W PyProof.Rows
end DL
namespace DL
open PySem PySem.Spec PySem.W PyProof.Rows L2
end DL
namespace DL
open PySem PySem.Spec PySem.W PyProof.Rows L2
section
variable {α : Type} {f : α → PyData} {l : List α} {x : Fe} {e e1 : Ev}
theorem map_any : (l.map f).map idD = l.map f := by
  rw [List.map_map]
  rfl
theorem imAnyT (h : x e = some (.im (tp f l), e1)) : x e = some (.im (tp idD (l.map f)), e1) := by
  show x e = some (.im (.tuple ((l.map f).map idD)), e1)
  rw [map_any]
  exact h
end
end DL
namespace DL
open PySem PySem.Spec PySem.W PyProof.Rows L2
end DL
namespace DL
open PySem PySem.Spec PyProof.Rows L2
end DL
namespace DL
open PySem PySem.Spec PyProof.Rows L2
end DL
namespace DL
open PySem PySem.Spec PySem.W PyProof.Rows L2
end DL
namespace DL
open PySem PySem.Spec PyProof.Rows L2
end DL
namespace DL
open PySem PySem.Spec PySem.W PyProof.Rows L2
end DL
namespace DL
open PySem PySem.Spec PySem.W PyProof.Rows L2
end DL
namespace DL
open PySem PySem.Spec PyProof.Rows L2
end DL
namespace DL
open PySem PySem.Spec PySem.W PyProof.Rows L2
end DL
namespace DL
open PySem PySem.Spec PyProof.Rows L2
end DL
namespace DL
open PySem PySem.Spec PyProof.Rows L2
end DL
namespace DL
open PySem PySem.Spec PyProof.Rows L2
end DL
namespace DL
open PySem PySem.Spec PyProof.Rows L2
def strsD : List PyData → Option (List Str)
  | [] => some []
  | .str z :: r => (strsD r).map (z :: ·)
  | _ :: _ => none
def joinOk (a : Str) (ys : List Str) : Bool := decide ((ys.map (·.length)).sum + ys.length * a.length ≤ 16777216)
def x_join (fo fa : Fe) : Fe := fun e => match fo e with
  | some (.im (.str a), e1) => (match fa e1 with
    | some (r, e2) => (match lookR e2 (frzR r) with
      | some (.list ds) => (match strsD ds with
        | some ys => if joinOk a ys = true then some (.im (.str (Txt.join a ys)), e2) else none
        | none => none)
      | some (.tuple ds) => (match strsD ds with
        | some ys => if joinOk a ys = true then some (.im (.str (Txt.join a ys)), e2) else none
        | none => none)
      | _ => none)
    | none => none)
  | _ => none
theorem strs_all {K : PySem.W.Frag} {G : Hp} : ∀ {vs : List V} {ds : List PyData} {ys : List Str}, DpAll K G vs ds → strsD ds = some ys → vs = ys.map V.str
  | _, _, _, .nil, q => by cases q; rfl
  | _, _, ys, .cons (d := d) (ds := ds) h t, q => by
    cases h with
    | str z =>
      unfold strsD at q
      cases h2 : strsD ds with
      | none => rw [h2] at q; cases q
      | some r =>
        rw [h2] at q
        cases q
        rw [List.map_cons, strs_all t h2]
    | _ => cases q
section
variable {X : Cx} {o a tg : Expr} {fo fa : Fe} {fl fh : Fo} {lo hi : Option Expr} {pos p1 p2 p3 apos : Pos} {n : Nat}
theorem ed_join (ho : ED X o fo) (ha : ED X a fa) (hs : starEach [a] X.env = [(false, eval a X.env)] := by rfl) (hbase : attributeBase o "join" X.env (eval o X.env) = eval o X.env := by rfl) (hline : (apos.endLine == pos.line) = true := by rfl) :
    ED X (.Call (.Attribute o "join" apos) [a] [] pos) (x_join fo fa) := by
  obtain ⟨t, p, k⟩ := ho
  obtain ⟨t1, q1, k1⟩ := ha
  refine ⟨_, pe_join p q1 hs hbase hline, fun m E G0 G e σ H r e' Q R q P => ?_⟩
  unfold x_join at q
  split at q
  · rename_i z e1 h1
    cases h2 : fa e1 with
    | none => simp only [h2] at q; cases q
    | some y =>
      obtain ⟨r2, e2⟩ := y
      simp only [h2] at q
      split at q
      · rename_i ds h3
        cases h4 : strsD ds with
        | none => simp only [h4] at q; cases q
        | some ys =>
          simp only [h4] at q
          by_cases c : joinOk z ys = true
          · rw [if_pos c] at q
            cases q
            refine k m E G0 G e σ H _ e1 _ R h1 fun v G1 H1 R1 S1 V1 N1 => ?_
            cases V1
            refine ⟨⟨z, rfl⟩, ?_⟩
            refine k1 m E G0 G1 e1 σ H1 r2 _ _ R1 h2 fun w G2 H2 R2 S2 V2 N2 => ?_
            obtain ⟨G3, R3, S3, s3, V3⟩ := R2.freeze S2 V2 N2
            obtain ⟨p', ws, ex, sq, dk⟩ := (R3.look V3 h3).list R3.gh
            have ew := strs_all dk h4
            subst ew
            exact ⟨z, p', ys, rfl, by rw [ex], .inl sq, of_decide_eq_true c, P _ _ _ R3 (S1.trans S3) (.str _) True.intro⟩
          · rw [if_neg c] at q
            cases q
      · rename_i ds h3
        cases h4 : strsD ds with
        | none => simp only [h4] at q; cases q
        | some ys =>
          simp only [h4] at q
          by_cases c : joinOk z ys = true
          · rw [if_pos c] at q
            cases q
            refine k m E G0 G e σ H _ e1 _ R h1 fun v G1 H1 R1 S1 V1 N1 => ?_
            cases V1
            refine ⟨⟨z, rfl⟩, ?_⟩
            refine k1 m E G0 G1 e1 σ H1 r2 _ _ R1 h2 fun w G2 H2 R2 S2 V2 N2 => ?_
            obtain ⟨G3, R3, S3, s3, V3⟩ := R2.freeze S2 V2 N2
            obtain ⟨p', ws, ex, sq, dk⟩ := (R3.look V3 h3).tup R3.gh
            have ew := strs_all dk h4
            subst ew
            exact ⟨z, p', ys, rfl, by rw [ex], .inr sq, of_decide_eq_true c, P _ _ _ R3 (S1.trans S3) (.str _) True.intro⟩
          · rw [if_neg c] at q
            cases q
      · cases q
  · cases q
def p_adS : PyData → PyData → Option Rs := fun a b => match a, b with
  | .str x, .str y => if okLen (x.length + y.length) = true then some (.im (.str (x ++ y))) else none
  | _, _ => none
theorem vb_adS {K : PySem.W.Frag} : VB K (fun x y H Q => ∃ i j, x = .str i ∧ y = .str j ∧ i.length + j.length ≤ sizeLine ∧ Q (.str (i ++ j)) H) p_adS := by
  intro m E G0 G e σ H x y dx dy rr Q R lx ly q P
  unfold p_adS at q
  split at q
  · rename_i a b
    by_cases c : okLen (a.length + b.length) = true
    · rw [if_pos c] at q
      cases q
      exact ⟨a, b, lx.str, ly.str, okLen_ok c, P.now R (.str _) True.intro⟩
    · rw [if_neg c] at q
      cases q
  · cases q
def p_ixS : PyData → PyData → Option Rs := fun a b => match a, b with
  | .str z, .int i => if okLen z.length = true then (L2.atI z.cps.toList i).map fun c => .im (.str ⟨#[c]⟩) else none
  | _, _ => none
theorem vb_ixS {K : PySem.W.Frag} : VB K rIxS p_ixS := by
  intro m E G0 G e σ H x y dx dy rr Q R lx ly q P
  unfold p_ixS at q
  split at q
  · rename_i z i
    by_cases c : okLen z.length = true
    · rw [if_pos c] at q
      cases h : L2.atI z.cps.toList i with
      | none => rw [h] at q; cases q
      | some s =>
        rw [h] at q
        cases q
        exact ⟨z, i, s, lx.str, ly.int, okLen_ok c, h, P.now R (.str _) True.intro⟩
    · rw [if_neg c] at q
      cases q
  · cases q
theorem ed_ixS {b : Expr} {fb : Fe} (ha : ED X a fa) (hb : ED X b fb) (hs : PlainIx b := by intro _ _; rfl) : ED X (.Subscript a b pos) (x_bin p_ixS fa fb) := by
  obtain ⟨ta, tb, pa, pb, k2⟩ := two_ok ha hb
  exact ⟨_, pe_ix ix_str pa pb hs, bin_ok (r := rIxS) vb_ixS k2⟩
end
end DL
namespace DL
open PySem PySem.Spec PyProof.Rows L2
def joinSO (a : Str) (ys : List Str) : Option Str := if joinOk a ys = true then some (Txt.join a ys) else none
def adSO (a b : Str) : Option Str := if okLen (a.length + b.length) = true then some (a ++ b) else none
def ixSO (z : Str) (i : Int) : Option Str := if okLen z.length = true then (L2.atI z.cps.toList i).map fun c => (⟨#[c]⟩ : Str) else none
section
variable {z w a b : Str} {ys : List Str} {fa fo x : Fe} {fl fh : Fo} {e e1 e2 e3 : Ev} {lo hi : Option Int} {r : Rs} {i : Int}
theorem strsD_map : ∀ ys : List Str, strsD (ys.map PyData.str) = some ys
  | [] => rfl
  | y :: ys => by
    show (strsD (ys.map PyData.str)).map (y :: ·) = _
    rw [strsD_map ys]
    rfl
theorem joinSX (ho : fo e = some (.im (.str a), e1)) (ha : fa e1 = some (r, e2)) (l : lookR e2 (frzR r) = some (ls PyData.str ys)) (h : joinSO a ys = some w) : x_join fo fa e = some (.im (.str w), e2) := by
  unfold joinSO at h
  unfold x_join
  rw [ho]
  dsimp only
  rw [ha]
  dsimp only
  rw [l, show ls PyData.str ys = PyData.list (ys.map PyData.str) from rfl]
  dsimp only
  rw [strsD_map]
  dsimp only
  by_cases c : joinOk a ys = true
  · rw [if_pos c] at h ⊢
    cases h
    rfl
  · rw [if_neg c] at h
    cases h
theorem o_adS (h : adSO a b = some w) : p_adS (.str a) (.str b) = some (.im (.str w)) := by
  unfold adSO at h
  show (if okLen (a.length + b.length) = true then some (Rs.im (.str (a ++ b))) else none) = _
  by_cases c : okLen (a.length + b.length) = true
  · rw [if_pos c] at h ⊢
    cases h
    rfl
  · rw [if_neg c] at h
    cases h
theorem o_ixS (h : ixSO z i = some w) : p_ixS (.str z) (.int i) = some (.im (.str w)) := by
  unfold ixSO at h
  show (if okLen z.length = true then (L2.atI z.cps.toList i).map (fun c => Rs.im (.str ⟨#[c]⟩)) else none) = _
  by_cases c : okLen z.length = true
  · rw [if_pos c] at h ⊢
    cases h2 : L2.atI z.cps.toList i with
    | none => rw [h2] at h; cases h
    | some s => rw [h2] at h; cases h; rfl
  · rw [if_neg c] at h
    cases h
end
end DL
namespace DL
open PySem PySem.Spec PySem.W PyProof.Rows L2
end DL
namespace DL
open PySem PySem.Spec PySem.W PyProof.Rows L2
end DL
namespace DL
open PySem PySem.Spec PySem.W PyProof.Rows L2
instance {α : Type} [DecidableEq α] {f : α → PyData} [E : EqE (tp f)] : EqE (opt (tp f)) := ⟨E.d, fun a => by
    cases a with
    | none => show PyData.canLay0 .none = true; rw [PyData.canLay0]
    | some a => exact E.can a, fun a => by
    cases a with
    | none => show PyData.depth .none ≤ _; rw [PyData.depth]; omega
    | some a => exact E.dep a, fun a b => by
    cases a with
    | none =>
      cases b with
      | none => show PyData.eqv .none .none = _; rw [PyData.eqv]; rfl
      | some b => show PyData.eqv .none (.tuple (b.map f)) = _; rw [PyData.eqv] <;> first | rfl | (intros; simp_all)
    | some a =>
      cases b with
      | none => show PyData.eqv (.tuple (a.map f)) .none = _; rw [PyData.eqv] <;> first | rfl | (intros; simp_all)
      | some b =>
        show PyData.eqv (tp f a) (tp f b) = _
        rw [E.eqv]
        exact decide_eq_decide.mpr ⟨fun h => by rw [h], fun h => Option.some.inj h⟩⟩
end DL
namespace DL
open PySem PySem.Spec PySem.W PyProof.Rows L2
def faOf (f : Fax) : Fa := fun e => match f e with
  | some (.inl z) => some z
  | _ => none
def x_upX (f : Fax) (g : Fex) : Fex := fun e => match f e with
  | some (.inr y) => some (.inr y)
  | _ => g e
section
variable {X : Cx} {W : WX} {k j n : Nat} {x : Str} {p pos : Pos} {a : Expr} {es : List Expr} {dvs : List V} {dds : List PyData} {fr : Fax}
theorem ADX.ad (h : ADX X W es fr) : AD X es (faOf fr) := by
  refine ⟨_, h.run, fun m E G0 G e σ H rs e' Q R q P => ?_⟩
  unfold faOf at q
  split at q
  · rename_i z h1
    cases q
    exact ⟨m, E, G0, G, e, _, R, h1, P⟩
  · cases q
theorem edx_callA {φ : List PyData → Option Rs} (F : Kf X.prog X.w X.K X.mg X.base k x (spD X.K n φ) dvs) (hr : Room j X.A) (hk : k ≤ j) (hd : dvsD X.K dvs dds) (hn : ∀ ds, (φ ds).isSome = true → ds.length = n) (h : ADX X W (a :: es) fr) (hg : Gl X x := by rfl)
    (hdb : (x == ("__debug__" : Str)) = false := by decide) (he : starEach (a :: es) X.env = (false, eval a X.env) :: starEach es X.env := by rfl) (hpl : (backTo pos (starEach es X.env)).any (·.1) = false := by rfl) :
    EDX X W (.Call (.Name x p) (a :: es) [] pos) (x_upX fr (xE (x_call φ dds (faOf fr)))) := by
  have two := ED.x (W := W) (ed_call (p := p) (pos := pos) F hr hk hd hn h.ad hg hdb he hpl)
  obtain ⟨f, fd, ps, ds, F, hm, kp, hb, hv⟩ := F
  have one := pe_call (p := p) (pos := pos) F (hr.mono hk) hg hm kp hb hv (E := E0) (fun _ _ _ _ _ _ _ z => z.elim) h.run hdb he hpl
  refine ⟨⟨fun pins s σ H Q I q => ?_⟩⟩
  obtain ⟨m, E, G0, G, e, o, R, q, P⟩ := q
  unfold x_upX at q
  split at q
  · rename_i y h1
    cases q
    obtain ⟨z, e1⟩ := y
    exact one.run pins s σ H Q I ⟨m, E, G0, G, e, _, R, h1, P⟩
  · exact two.run.run pins s σ H Q I ⟨m, E, G0, G, e, _, R, q, P⟩
end
end DL
namespace DL
open PySem PySem.Spec PySem.W PyProof.Rows L2
end DL
namespace DL
open PySem PySem.Spec PyProof.Rows L2
def numT (i : Int) : Str := Str.ofString (toString i)
def c_strN : List PyData → Option Rs
  | [.int i] => if i.natAbs.log2 < 1920 then some (.im (.str (numT i))) else none
  | _ => none
def c_intS : List PyData → Option Rs
  | [.str z] => if z.length ≤ 640 then (PySem.intText? z).map fun i => .im (.int i) else none
  | _ => none
section
variable {K : PySem.W.Frag}
theorem vc_strN : VC K (fun xs H Q => ∃ i, xs = [.int i] ∧ i.natAbs.log2 < 1920 ∧ Q (.str (toString i)) H) c_strN := by
  intro m E G0 G e σ H vs ds rr Q R l q P
  unfold c_strN at q
  split at q
  · rename_i i
    by_cases c : i.natAbs.log2 < 1920
    · rw [if_pos c] at q
      cases q
      obtain ⟨v, rfl, lv⟩ := lv1 l
      exact ⟨i, by rw [lv.int], c, P.now R (.str _) True.intro⟩
    · rw [if_neg c] at q
      cases q
  · cases q
theorem vc_intS : VC K (fun xs H Q => ∃ a n, xs = [.str a] ∧ PySem.intText? a = some n ∧ a.length ≤ 640 ∧ Q (.int n) H) c_intS := by
  intro m E G0 G e σ H vs ds rr Q R l q P
  unfold c_intS at q
  split at q
  · rename_i z
    by_cases c : z.length ≤ 640
    · rw [if_pos c] at q
      cases h : PySem.intText? z with
      | none => rw [h] at q; cases q
      | some i =>
        rw [h] at q
        cases q
        obtain ⟨v, rfl, lv⟩ := lv1 l
        exact ⟨z, i, by rw [lv.str], h, c, P.now R (.int _) True.intro⟩
    · rw [if_neg c] at q
      cases q
  · cases q
end
def x_isd (fa : Fe) : Fe := fun e => match fa e with
  | some (.im (.str z), e1) => some (.im (.bool (Txt.isdigit z)), e1)
  | _ => none
def splOk (a b : Str) : Bool := !(b.length == 0) && decide (a.length + 2 ≤ 16777216)
def x_splt (fo fa : Fe) : Fe := fun e => match fo e with
  | some (.im (.str a), e1) => (match fa e1 with
    | some (.im (.str b), e2) => if splOk a b = true then some (.ac ((Txt.split a b).map PyData.str), e2) else none
    | _ => none)
  | _ => none
section
variable {X : Cx} {o a : Expr} {fo fa : Fe} {pos apos : Pos}
theorem ed_isd (ho : ED X o fo) (hbase : attributeBase o "isdigit" X.env (eval o X.env) = eval o X.env := by rfl) (hline : (apos.endLine == pos.line) = true := by rfl) : ED X (.Call (.Attribute o "isdigit" apos) [] [] pos) (x_isd fo) := by
  obtain ⟨t, p, k⟩ := ho
  refine ⟨_, pe_m0 PySem.F.slot_str_isdigit PySem.F.type_str_isdigit mt_isdigit p hbase hline, fun m E G0 G e σ H r e' Q R q P => ?_⟩
  unfold x_isd at q
  split at q
  · rename_i z e1 h1
    cases q
    refine k m E G0 G e σ H _ _ _ R h1 fun v G1 H1 R1 S1 V1 N1 => ?_
    cases V1
    exact ⟨⟨z, rfl⟩, z, rfl, rfl, True.intro, P _ _ _ R1 S1 (.bl _) True.intro⟩
  · cases q
theorem strs_dp {K : PySem.W.Frag} {G : Hp} : ∀ ys : List Str, DpAll K G (ys.map V.str) (ys.map PyData.str)
  | [] => .nil
  | _ :: ys => .cons (.str _) (strs_dp ys)
theorem ed_splt (ho : ED X o fo) (ha : ED X a fa) (hs : starEach [a] X.env = [(false, eval a X.env)] := by rfl) (hbase : attributeBase o "split" X.env (eval o X.env) = eval o X.env := by rfl) (hline : (apos.endLine == pos.line) = true := by rfl) :
    ED X (.Call (.Attribute o "split" apos) [a] [] pos) (x_splt fo fa) := by
  obtain ⟨t, p, k⟩ := ho
  obtain ⟨t1, q1, k1⟩ := ha
  refine ⟨_, pe_split p q1 hs hbase hline, fun m E G0 G e σ H r e' Q R q P => ?_⟩
  unfold x_splt at q
  split at q
  · rename_i z e1 h1
    split at q
    · rename_i b e2 h2
      by_cases c : splOk z b = true
      · rw [if_pos c] at q
        cases q
        obtain ⟨c1, c2⟩ := Bool.and_eq_true_iff.mp c
        refine k m E G0 G e σ H _ e1 _ R h1 fun v G1 H1 R1 S1 V1 N1 => ?_
        cases V1
        refine ⟨⟨z, rfl⟩, ?_⟩
        refine k1 m E G0 G1 e1 σ H1 _ _ _ R1 h2 fun w G2 H2 R2 S2 V2 N2 => ?_
        cases V2
        refine ⟨z, b, rfl, rfl, by simpa using c1, by rw [sizeLine_eq]; exact of_decide_eq_true c2, fun l hl => ?_⟩
        obtain ⟨R', S', V', N'⟩ := R2.newL hl (strs_dp (K := X.K) (G := G2) (Txt.split z b))
        exact P _ _ _ R' ((S1.trans S2).trans S') V' (nw_back (S1.trans S2) _ N')
      · rw [if_neg c] at q
        cases q
    · cases q
  · cases q
end
def strNO (i : Int) : Option Str := if i.natAbs.log2 < 1920 then some (numT i) else none
def intSO (z : Str) : Option Int := if z.length ≤ 640 then PySem.intText? z else none
def spltO (a b : Str) : Option (List Str) := if splOk a b = true then some (Txt.split a b) else none
section
variable {z a b : Str} {i : Int} {ys : List Str} {fa fo : Fe} {e e1 e2 : Ev}
theorem o_strN (h : strNO i = some z) : c_strN [.int i] = some (.im (.str z)) := by
  unfold strNO at h
  show (if i.natAbs.log2 < 1920 then some (Rs.im (.str (numT i))) else none) = _
  by_cases c : i.natAbs.log2 < 1920
  · rw [if_pos c] at h ⊢
    cases h
    rfl
  · rw [if_neg c] at h
    cases h
theorem o_intS (h : intSO z = some i) : c_intS [.str z] = some (.im (.int i)) := by
  unfold intSO at h
  show (if z.length ≤ 640 then (PySem.intText? z).map (fun i => Rs.im (.int i)) else none) = _
  by_cases c : z.length ≤ 640
  · rw [if_pos c] at h ⊢
    rw [h]
    rfl
  · rw [if_neg c] at h
    cases h
theorem isdX (ha : fa e = some (.im (.str z), e1)) : x_isd fa e = some (.im (.bool (Txt.isdigit z)), e1) := by
  unfold x_isd
  rw [ha]
theorem spltX (ho : fo e = some (.im (.str a), e1)) (ha : fa e1 = some (.im (.str b), e2)) (h : spltO a b = some ys) : x_splt fo fa e = some (.ac (ys.map PyData.str), e2) := by
  unfold spltO at h
  unfold x_splt
  rw [ho]
  dsimp only
  rw [ha]
  dsimp only
  by_cases c : splOk a b = true
  · rw [if_pos c] at h ⊢
    cases h
    rfl
  · rw [if_neg c] at h
    cases h
end
end DL
namespace DL
open PySem PySem.Spec PySem.W PyProof.Rows L2
def feOf (f : Fex) : Fe := fun e => match f e with
  | some (.inl z) => some z
  | _ => none
def x_upE (f : Fex) (g : Fex) : Fex := fun e => match f e with
  | some (.inr y) => some (.inr y)
  | _ => g e
section
variable {X : Cx} {W : WX} {elt tg it : Expr} {ifs : List Expr} {scope : Scope} {own : List (Str × Nat)} {pos : Pos} {f : Fex} {tst : Ft} {γ : PyData → Ev → Option Ev} {fe : Fe} {S : List Nat}
theorem EDX.ed (h : EDX X W it f) : ED X it (feOf f) := by
  refine ⟨_, h.run, fun m E G0 G e σ H r e' Q R q P => ?_⟩
  unfold feOf at q
  split at q
  · rename_i z h1
    cases q
    exact ⟨m, E, G0, G, e, _, R, h1, P⟩
  · cases q
theorem edx_lc (hc : X.calm = true) (hN : X.N.Nodup) (hi : EDX X W it f) (ok : blkC X.N X.env.scope scope own = true) (hS : ∀ i ∈ S, i ∈ own.map (·.2))
    (hg : ∀ (s : Shared) (H : Hp) (C : Addr) (cl : List (Str × Addr)) (fp : List Addr), GD (X.blk s H scope (compEnvC scope cl C X.env) fp) tg S γ) (ht : ∀ (s : Shared) (H : Hp) (C : Addr) (cl : List (Str × Addr)) (fp : List Addr), PTD (X.blk s H scope (compEnvC scope cl C X.env) fp) ifs tst)
    (he : ∀ (s : Shared) (H : Hp) (C : Addr) (cl : List (Str × Addr)) (fp : List Addr), ED (X.blk s H scope (compEnvC scope cl C X.env) fp) elt fe) (hs : ∀ x, foldedSetIterable it X.env x = pure x := by intro _; rfl) :
    EDX X W (.ListComp elt [⟨tg, it, ifs, 0⟩] scope pos) (x_upE f (xE (x_lc (i_seq (feOf f)) γ tst fe (own.map (·.2))))) := by
  have two := ED.x (W := W) (ed_lc (pos := pos) hc hN (id_seq (tg := tg) hi.ed) ok hS hg ht he hs)
  have one := pe_lc (te := teOf X.K fe) (tt := ttOf X.K tst) (g := tgOf X.K S γ) (pos := pos) hc hN (pi_or (pi_list (tg := tg) hi.run) (pi_tup hi.run)) (blkOk_by ok) (fun s H C cl fp => (hg s H C cl fp).can) (fun s H C cl fp => (ht s H C cl fp).ex) (fun s H C cl fp => (he s H C cl fp).can) hs
  refine ⟨⟨fun pins s σ H Q I q => ?_⟩⟩
  obtain ⟨m, E, G0, G, e, o, R, q, P⟩ := q
  unfold x_upE at q
  split at q
  · rename_i y h1
    cases q
    obtain ⟨z, e1⟩ := y
    exact one.run pins s σ H Q I (.inl ⟨m, E, G0, G, e, _, R, h1, P⟩)
  · exact two.run.run pins s σ H Q I ⟨m, E, G0, G, e, _, R, q, P⟩
end
end DL
namespace DL
open PySem PySem.Spec PyProof.Rows L2
def x_frz (f : Fe) : Fe := fun e => match f e with
  | some (.ac ds, e1) => some (.im (.list ds), e1)
  | some (.im d, e1) => some (.im d, e1)
  | _ => none
section
variable {X : Cx} {a : Expr} {fa : Fe}
theorem ed_frz (ha : ED X a fa) : ED X a (x_frz fa) := by
  obtain ⟨t, pa, k⟩ := ha
  refine ⟨t, pa, fun m E G0 G e σ H r e' Q R q P => ?_⟩
  unfold x_frz at q
  split at q
  · rename_i ds e1 h1
    cases q
    refine k m E G0 G e σ H _ _ _ R h1 fun v G1 H1 R1 S1 V1 N1 => ?_
    obtain ⟨G2, R2, S2, s2, V2⟩ := R1.freeze S1 V1 N1
    exact P _ _ _ R2 S2 V2 True.intro
  · rename_i d e1 h1
    cases q
    exact k m E G0 G e σ H _ _ _ R h1 P
  · cases q
end
theorem frzX {fa : Fe} {e e1 : Ev} {ds : List PyData} (h : fa e = some (.ac ds, e1)) : x_frz fa e = some (.im (.list ds), e1) := by
  unfold x_frz
  rw [h]
end DL
namespace K12
open PySem PySem.Spec PyProof.Rows L2 DL
def xcs : List Str := ["NotUsable", "Faulty", "InvalidText"]
def xys : List Str := ["InvalidText", "MarkError", "TextError", "NotUsable", "Faulty", "BookError"]
def xfs : List Str := ["at", "change", "field", "line", "version", "word"]
def xtab : XTab := [(("NotUsable", "InvalidText"), false), (("NotUsable", "MarkError"), true), (("NotUsable", "TextError"), false), (("NotUsable", "NotUsable"), true), (("NotUsable", "Faulty"), false), (("NotUsable", "BookError"), true), (("Faulty", "InvalidText"), false), (("Faulty", "MarkError"), true), (("Faulty", "TextError"), false), (("Faulty", "NotUsable"), false), (("Faulty", "Faulty"), true), (("Faulty", "BookError"), true), (("InvalidText", "InvalidText"), true), (("InvalidText", "MarkError"), true), (("InvalidText", "TextError"), true), (("InvalidText", "NotUsable"), false), (("InvalidText", "Faulty"), false), (("InvalidText", "BookError"), false)]
def xok : Str → Bool := fun k => xcs.contains k
noncomputable section
def g_is_integer : Fs :=
  (s_ret (x_and (x_isi .int (x_var 0)) (x_not (x_isi .bool (x_var 0)))))
def F_is_integer : List PyData → Option Rs := runF 1 0 g_is_integer
def g_many_of : Fs :=
  (s_ret (x_cb c_len (a_cons (x_var 0) a_nil)))
def F_many_of : List PyData → Option Rs := runF 1 0 g_many_of
def g__upward : Fs :=
  (s_seq (s_set 2 (x_lst a_nil))
  (s_seq (s_while (fuI 1) (t_of (x_bin q_gt (x_var 1) (x_c (.int 0))))
  (s_seq (s_setF 1 (x_ix (x_var 0) (x_bin p_sub (x_var 1) (x_c (.int 1)))))
  (s_seq (s_drop (x_app 2 (x_var 1)))
  s_nx)))
  (s_seq (s_ret (x_var 2))
  s_nx)))
def F__upward : List PyData → Option Rs := runF 2 1 g__upward
def g_at_or_below : Fs :=
  (s_seq (s_setF 3 (x_var 2))
  (s_seq (s_while (fuI 3) (t_of (x_bin q_gt (x_var 3) (x_var 1)))
  (s_setF 3 (x_ix (x_var 0) (x_bin p_sub (x_var 3) (x_c (.int 1))))))
  (s_seq (s_ret (x_bin p_eq (x_var 3) (x_var 1)))
  s_nx)))
def F_at_or_below : List PyData → Option Rs := runF 3 1 g_at_or_below
def g_falling : Fs :=
  (s_ret (x_cb c_tuple (a_cons (x_srt (a_cons (x_var 0) a_nil)) a_nil)))
def F_falling : List PyData → Option Rs := runF 1 0 g_falling
def g__number_in : Fs :=
  (s_seq (s_if (t_or (t_not (t_of (x_isd (x_var 0)))) (t_of (x_bin p_eq (x_bin p_ixS (x_var 0) (x_c (.int 0))) (x_c (.str "0")))))
  (s_ret (x_c (.int 0)))
  s_nx)
  (s_seq (s_ret (x_cb c_intS (a_cons (x_var 0) a_nil)))
  s_nx))
def F__number_in : List PyData → Option Rs := runF 1 0 g__number_in
def g__law_draw : Fs :=
  (s_seq (s_if (t_of (x_bin p_eq (x_cb c_len (a_cons (x_var 0) a_nil)) (x_c (.int 0))))
  (s_ret (x_lc (i_rng1 (x_var 2)) (g_name 6) t_yes (x_c (.int 0)) [6]))
  s_nx)
  (s_seq (s_setF 3 (x_cb c_int (a_cons (x_ix (x_var 0) (x_bin p_mod (x_cb c_int (a_cons (x_var 1) a_nil)) (x_cb c_len (a_cons (x_var 0) a_nil)))) a_nil)))
  (s_seq (s_set 4 (x_lst a_nil))
  (s_seq (s_if (t_and (t_of (x_bin q_lt (x_var 1) (x_cb c_len (a_cons (x_var 0) a_nil)))) (t_of (x_bin q_ge (x_cb c_abs (a_cons (x_var 3) a_nil)) (x_bin p_pow (x_c (.int 10)) (x_c (.int 18))))))
  (s_seq (s_for (i_rng1 (x_var 2)) (g_name 6) [6]
  (s_seq (s_drop (x_app 4 (x_bin p_mod (x_cb c_int (a_cons (x_var 3) a_nil)) (x_c (.int 9967)))))
  (s_seq (s_setF 3 (x_bin p_div (x_var 3) (x_c (.int 9967))))
  s_nx)))
  (s_seq (s_ret (x_var 4))
  s_nx))
  s_nx)
  (s_seq (s_setF 5 (x_bin p_mod (x_cb c_int (a_cons (x_bin p_add (x_bin p_add (x_bin p_add (x_bin p_mul (x_var 3) (x_c (.int 40692))) (x_bin p_mul (x_var 1) (x_c (.int 3791)))) (x_bin p_mul (x_cb c_len (a_cons (x_var 0) a_nil)) (x_c (.int 911)))) (x_c (.int 17))) a_nil)) (x_c (.int 2147483399))))
  (s_seq (s_for (i_rng1 (x_var 2)) (g_name 6) [6]
  (s_seq (s_setF 5 (x_bin p_mod (x_cb c_int (a_cons (x_bin p_add (x_bin p_mul (x_var 5) (x_c (.int 40014))) (x_c (.int 5501))) a_nil)) (x_c (.int 2147483563))))
  (s_seq (s_drop (x_app 4 (x_bin p_mod (x_cb c_int (a_cons (x_bin p_div (x_var 5) (x_c (.int 11))) a_nil)) (x_c (.int 9967)))))
  s_nx)))
  (s_seq (s_ret (x_var 4))
  s_nx)))))))
def F__law_draw : List PyData → Option Rs := runF 3 4 g__law_draw
def g__law_tree : Fs :=
  (s_seq (s_setF 2 (x_bin p_mod (x_cb c_int (a_cons (x_ix (x_var 0) (x_c (.int 0))) a_nil)) (x_c (.int 4))))
  (s_seq (s_set 3 (x_lst a_nil))
  (s_seq (s_for (i_rng1 (x_var 1)) (g_name 4) [4]
  (s_seq (s_setF 5 (x_cb c_int (a_cons (x_ix (x_var 0) (x_bin p_add (x_c (.int 1)) (x_var 4))) a_nil)))
  (s_seq (s_if (t_of (x_bin p_eq (x_var 2) (x_c (.int 0))))
  (s_drop (x_app 3 (x_bin p_mod (x_var 5) (x_bin p_add (x_var 4) (x_c (.int 1))))))
  (s_if (t_of (x_bin p_eq (x_var 2) (x_c (.int 1))))
  (s_drop (x_app 3 (x_bin p_sub (x_var 4) (x_bin p_mod (x_var 5) (x_cb c_min2 (a_cons (x_c (.int 2)) (a_cons (x_bin p_add (x_var 4) (x_c (.int 1))) a_nil)))))))
  (s_if (t_and (t_of (x_bin p_eq (x_var 2) (x_c (.int 2)))) (t_of (x_bin q_gt (x_bin p_mod (x_var 5) (x_c (.int 8))) (x_c (.int 0)))))
  (s_drop (x_app 3 (x_var 4)))
  (s_if (t_of (x_bin p_eq (x_var 2) (x_c (.int 2))))
  (s_drop (x_app 3 (x_bin p_mod (x_cb c_int (a_cons (x_bin p_div (x_var 5) (x_c (.int 8))) a_nil)) (x_bin p_add (x_var 4) (x_c (.int 1))))))
  (s_drop (x_app 3 (x_bin p_mod (x_var 5) (x_cb c_min2 (a_cons (x_c (.int 3)) (a_cons (x_bin p_add (x_var 4) (x_c (.int 1))) a_nil))))))))))
  s_nx)))
  (s_seq (s_ret (x_cb c_tuple (a_cons (x_var 3) a_nil)))
  s_nx))))
def F__law_tree : List PyData → Option Rs := runF 2 4 g__law_tree
def g__law_heights : Fs :=
  (s_seq (s_setF 2 (x_bin p_mod (x_cb c_int (a_cons (x_ix (x_var 0) (x_c (.int 0))) a_nil)) (x_c (.int 8))))
  (s_seq (s_set 3 (x_lst a_nil))
  (s_seq (s_for (i_rng1 (x_var 1)) (g_name 4) [4]
  (s_seq (s_setF 5 (x_cb c_int (a_cons (x_ix (x_var 0) (x_bin p_add (x_c (.int 1)) (x_var 4))) a_nil)))
  (s_seq (s_if (t_of (x_bin q_lt (x_var 2) (x_c (.int 3))))
  (s_drop (x_app 3 (x_bin p_add (x_c (.int 1)) (x_bin p_mod (x_var 5) (x_c (.int 3))))))
  (s_if (t_of (x_bin q_lt (x_var 2) (x_c (.int 5))))
  (s_drop (x_app 3 (x_bin p_add (x_c (.int 1)) (x_bin p_mod (x_var 5) (x_c (.int 2))))))
  (s_if (t_of (x_bin p_eq (x_var 2) (x_c (.int 5))))
  (s_drop (x_app 3 (x_bin p_add (x_c (.int 1)) (x_bin p_mod (x_var 5) (x_c (.int 12))))))
  (s_if (t_and (t_of (x_bin p_eq (x_var 2) (x_c (.int 6)))) (t_of (x_bin q_gt (x_bin p_mod (x_var 5) (x_c (.int 6))) (x_c (.int 0)))))
  (s_drop (x_app 3 (x_bin p_sub (x_bin p_add (x_c (.int 1)) (x_var 1)) (x_var 4))))
  (s_if (t_of (x_bin p_eq (x_var 2) (x_c (.int 6))))
  (s_drop (x_app 3 (x_bin p_add (x_c (.int 1)) (x_bin p_mod (x_var 5) (x_c (.int 5))))))
  (s_drop (x_app 3 (x_bin p_add (x_bin p_mul (x_bin p_pow (x_c (.int 10)) (x_c (.int 28))) (x_bin p_add (x_c (.int 1)) (x_bin p_mod (x_var 5) (x_c (.int 5))))) (x_bin p_mod (x_cb c_int (a_cons (x_bin p_div (x_var 5) (x_c (.int 7))) a_nil)) (x_c (.int 3)))))))))))
  s_nx)))
  (s_seq (s_ret (x_cb c_tuple (a_cons (x_var 3) a_nil)))
  s_nx))))
def F__law_heights : List PyData → Option Rs := runF 2 4 g__law_heights
def g__law_base : Fs :=
  (s_seq (s_setF 3 (x_ix (x_var 0) (x_bin p_sub (x_var 2) (x_c (.int 1)))))
  (s_seq (s_while (fuI 3) (t_and (t_of (x_bin q_gt (x_var 3) (x_c (.int 0)))) (t_of (x_bin q_le (x_ix (x_var 1) (x_bin p_sub (x_var 3) (x_c (.int 1)))) (x_ix (x_var 1) (x_bin p_sub (x_var 2) (x_c (.int 1)))))))
  (s_setF 3 (x_ix (x_var 0) (x_bin p_sub (x_var 3) (x_c (.int 1))))))
  (s_seq (s_ret (x_var 3))
  s_nx)))
def F__law_base : List PyData → Option Rs := runF 3 1 g__law_base
def g__law_open : Fs :=
  (s_seq (s_set 3 (x_lst a_nil))
  (s_seq (s_for (i_rng2 (x_var 2) (x_bin p_add (x_cb c_len (a_cons (x_var 0) a_nil)) (x_c (.int 1)))) (g_name 4) [4]
  (s_seq (s_setF 5 (x_var 4))
  (s_seq (s_setF 6 (x_c (.bool true)))
  (s_seq (s_while (fun _ => 300) (t_and (t_of (x_bin q_gt (x_var 5) (x_var 2))) (t_of (x_var 6)))
  (s_seq (s_setF 5 (x_ix (x_var 0) (x_bin p_sub (x_var 5) (x_c (.int 1)))))
  (s_seq (s_if (t_and (t_of (x_bin q_ge (x_var 5) (x_var 2))) (t_of (x_bin q_gt (x_ix (x_var 1) (x_bin p_sub (x_var 5) (x_c (.int 1)))) (x_ix (x_var 1) (x_bin p_sub (x_var 4) (x_c (.int 1)))))))
  (s_setF 6 (x_c (.bool false)))
  s_nx)
  s_nx)))
  (s_seq (s_if (t_and (t_of (x_var 6)) (t_of (x_bin p_eq (x_var 5) (x_var 2))))
  (s_drop (x_app 3 (x_var 4)))
  s_nx)
  s_nx)))))
  (s_seq (s_ret (x_cb c_tuple (a_cons (x_var 3) a_nil)))
  s_nx)))
def F__law_open : List PyData → Option Rs := runF 3 4 g__law_open
def g__law_some : Fs :=
  (s_seq (s_if (t_of (x_bin q_lt (x_var 0) (x_c (.int 10))))
  (s_ret (x_lrg (g_rg2 (x_c (.int 1)) (x_bin p_add (x_var 0) (x_c (.int 1))))))
  s_nx)
  (s_seq (s_ret (x_lst (a_cons (x_c (.int 1)) (a_cons (x_var 0) (a_cons (x_bin p_add (x_c (.int 1)) (x_bin p_mod (x_cb c_int (a_cons (x_var 1) a_nil)) (x_var 0))) (a_cons (x_bin p_add (x_c (.int 1)) (x_bin p_mod (x_cb c_int (a_cons (x_bin p_div (x_var 1) (x_c (.int 3))) a_nil)) (x_var 0))) (a_cons (x_bin p_add (x_c (.int 1)) (x_bin p_mod (x_cb c_int (a_cons (x_bin p_div (x_var 1) (x_c (.int 7))) a_nil)) (x_var 0))) a_nil)))))))
  s_nx))
def F__law_some : List PyData → Option Rs := runF 2 0 g__law_some
def g__law_nested : Fs :=
  (s_seq (s_for (i_rng2 (x_c (.int 1)) (x_bin p_add (x_cb c_len (a_cons (x_var 0) a_nil)) (x_c (.int 1)))) (g_name 2) [2]
  (s_seq (s_setF 3 (x_ix (x_var 0) (x_bin p_sub (x_var 2) (x_c (.int 1)))))
  (s_seq (s_while (fuI 3) (t_of (x_bin q_gt (x_var 3) (x_c (.int 0))))
  (s_seq (s_if (t_and (t_of (x_bin q_lt (x_ix (x_var 1) (x_bin p_sub (x_var 2) (x_c (.int 1)))) (x_var 3))) (t_of (x_bin q_gt (x_ix (x_var 1) (x_bin p_sub (x_var 2) (x_c (.int 1)))) (x_ix (x_var 1) (x_bin p_sub (x_var 3) (x_c (.int 1)))))))
  (s_ret (x_c (.bool false)))
  s_nx)
  (s_seq (s_setF 3 (x_ix (x_var 0) (x_bin p_sub (x_var 3) (x_c (.int 1)))))
  s_nx)))
  s_nx)))
  (s_seq (s_ret (x_c (.bool true)))
  s_nx))
def F__law_nested : List PyData → Option Rs := runF 2 2 g__law_nested
def g__law_bent : Fs :=
  (s_seq (s_setF 3 (x_bin p_mod (x_cb c_int (a_cons (x_ix (x_var 0) (x_c (.int 0))) a_nil)) (x_c (.int 6))))
  (s_seq (s_if (t_of (x_bin p_eq (x_var 3) (x_c (.int 0))))
  (s_ret (x_frz (x_cb c_list (a_cons (x_var 1) a_nil))))
  s_nx)
  (s_seq (s_if (t_of (x_bin p_eq (x_var 3) (x_c (.int 1))))
  (s_ret (x_bin p_add (x_var 1) (x_tup (a_cons (x_bin p_sub (x_c (.int 1)) (x_cb c_int (a_cons (x_and (x_bin q_gt (x_cb c_len (a_cons (x_var 1) a_nil)) (x_c (.int 0))) (x_bin p_eq (x_ix (x_var 1) (x_c (.int 0))) (x_c (.int 0)))) a_nil))) a_nil))))
  s_nx)
  (s_seq (s_if (t_of (x_bin p_eq (x_var 3) (x_c (.int 2))))
  (s_ret (x_ix (x_tup (a_cons (x_c .none) (a_cons (x_c (.int 7)) (a_cons (x_c (.str "1")) (a_cons (x_c (.bool true)) a_nil))))) (x_bin p_mod (x_cb c_int (a_cons (x_ix (x_var 0) (x_c (.int 1))) a_nil)) (x_c (.int 4)))))
  s_nx)
  (s_seq (s_if (t_and (t_of (x_bin p_eq (x_var 3) (x_c (.int 3)))) (t_of (x_bin q_gt (x_cb c_len (a_cons (x_var 1) a_nil)) (x_c (.int 0)))))
  (s_ret (x_sl (x_var 1) (o_at (x_c (.int 1))) o_no))
  s_nx)
  (s_seq (s_if (t_of (x_bin p_eq (x_cb c_len (a_cons (x_var 1) a_nil)) (x_c (.int 0))))
  (s_ret (x_tup (a_cons (x_c (.int 1)) a_nil)))
  s_nx)
  (s_seq (s_setF 4 (x_bin p_mod (x_cb c_int (a_cons (x_ix (x_var 0) (x_c (.int 1))) a_nil)) (x_cb c_len (a_cons (x_var 1) a_nil))))
  (s_seq (s_if (t_of (x_bin p_is (x_var 2) (x_c .none)))
  (s_ret (x_bin p_add (x_bin p_add (x_sl (x_var 1) o_no (o_at (x_var 4))) (x_tup (a_cons (x_bin p_add (x_var 4) (x_c (.int 1))) a_nil))) (x_sl (x_var 1) (o_at (x_bin p_add (x_var 4) (x_c (.int 1)))) o_no)))
  s_nx)
  (s_seq (s_ret (x_bin p_add (x_bin p_add (x_sl (x_var 1) o_no (o_at (x_var 4))) (x_tup (a_cons (x_var 2) a_nil))) (x_sl (x_var 1) (o_at (x_bin p_add (x_var 4) (x_c (.int 1)))) o_no)))
  s_nx)))))))))
def F__law_bent : List PyData → Option Rs := runF 3 2 g__law_bent
def g_is_number : Fs :=
  (s_ret (x_and (x_call F_is_integer [] (a_cons (x_var 0) a_nil)) (x_bin q_ge (x_var 0) (x_c (.int 0)))))
def F_is_number : List PyData → Option Rs := runF 1 0 g_is_number
def g_is_natural : Fs :=
  (s_ret (x_and (x_call F_is_integer [] (a_cons (x_var 0) a_nil)) (x_bin q_ge (x_var 0) (x_c (.int 1)))))
def F_is_natural : List PyData → Option Rs := runF 1 0 g_is_natural
def g__law_bases : Fs :=
  (s_seq (s_if (t_of (x_bin p_eq (x_bin p_mod (x_cb c_int (a_cons (x_ix (x_var 0) (x_c (.int 0))) a_nil)) (x_c (.int 3))) (x_c (.int 1))))
  (s_ret (x_cb c_tuple (a_cons (x_lc (i_rng2 (x_c (.int 1)) (x_bin p_add (x_cb c_len (a_cons (x_var 1) a_nil)) (x_c (.int 1)))) (g_name 4) t_yes (x_call F__law_base [] (a_cons (x_var 1) (a_cons (x_var 2) (a_cons (x_var 4) a_nil)))) [4]) a_nil)))
  s_nx)
  (s_seq (s_set 3 (x_lst a_nil))
  (s_seq (s_for (i_rng2 (x_c (.int 1)) (x_bin p_add (x_cb c_len (a_cons (x_var 1) a_nil)) (x_c (.int 1)))) (g_name 4) [4]
  (s_seq (s_setF 5 (x_ix (x_var 1) (x_bin p_sub (x_var 4) (x_c (.int 1)))))
  (s_seq (s_for (i_rng1 (x_bin p_mod (x_cb c_int (a_cons (x_ix (x_var 0) (x_var 4)) a_nil)) (x_c (.int 4)))) (g_name 6) [6]
  (s_if (t_of (x_bin q_gt (x_var 5) (x_c (.int 0))))
  (s_setF 5 (x_ix (x_var 1) (x_bin p_sub (x_var 5) (x_c (.int 1)))))
  s_nx))
  (s_seq (s_drop (x_app 3 (x_var 5)))
  s_nx))))
  (s_seq (s_ret (x_cb c_tuple (a_cons (x_var 3) a_nil)))
  s_nx))))
def F__law_bases : List PyData → Option Rs := runF 3 4 g__law_bases
def gx_check_version : Fsx :=
  (x_ifS (t_or (t_not (t_of (x_call F_is_number [] (a_cons (x_var 2) a_nil)))) (t_not (t_of (x_chain q_le q_le (x_var 3) (x_var 2) (x_cb c_len (a_cons (x_var 0) a_nil))))))
  (x_raise "NotUsable" ["word", "at"] (a_cons (x_var 1) (a_cons (x_neg (x_c (.int 1))) a_nil)))
  (xS s_nx))
def FY_check_version : List PyData → Option Ro := runX 4 0 gx_check_version
def g_check_version : Fs :=
  (s_if (t_or (t_not (t_of (x_call F_is_number [] (a_cons (x_var 2) a_nil)))) (t_not (t_of (x_chain q_le q_le (x_var 3) (x_var 2) (x_cb c_len (a_cons (x_var 0) a_nil))))))
  s_no
  s_nx)
def F_check_version : List PyData → Option Rs := runF 4 0 g_check_version
def FX_check_version : List PyData → Option Ro := orRx F_check_version FY_check_version
def g_up_to : Fs :=
  (s_ret (x_and (x_call F_is_natural [] (a_cons (x_var 0) a_nil)) (x_bin q_le (x_var 0) (x_var 1))))
def F_up_to : List PyData → Option Rs := runF 2 0 g_up_to
def g_ask_version : Fs :=
  (s_if (t_not (t_and (t_of (x_call F_is_number [] (a_cons (x_var 2) a_nil))) (t_of (x_chain q_le q_le (x_var 3) (x_var 2) (x_call F_many_of [] (a_cons (x_var 0) a_nil))))))
  s_no
  s_nx)
def F_ask_version : List PyData → Option Rs := runF 4 0 g_ask_version
def g_is_heights : Fs :=
  (s_seq (s_if (t_or (t_not (t_of (x_isi .tuple (x_var 1)))) (t_of (x_bin p_ne (x_cb c_len (a_cons (x_var 1) a_nil)) (x_cb c_len (a_cons (x_var 0) a_nil)))))
  (s_ret (x_c (.bool false)))
  s_nx)
  (s_seq (s_ret (x_cb c_all (a_cons (x_lc (i_seq (x_var 1)) (g_name 2) t_yes (x_call F_is_natural [] (a_cons (x_var 2) a_nil)) [2]) a_nil)))
  s_nx))
def F_is_heights : List PyData → Option Rs := runF 2 1 g_is_heights
def gx__words_of : Fsx :=
  (x_seq (x_ifS (t_not (t_of (x_isi .str (x_var 0))))
  (x_raise "NotUsable" ["word", "at"] (a_cons (x_c (.str "text")) (a_cons (x_neg (x_c (.int 1))) a_nil)))
  (xS s_nx))
  (x_seq (xS (s_setF 2 (x_splt (x_var 0) (x_c (.str " ")))))
  (x_seq (x_ifS (t_of (x_bin p_ne (x_ix (x_var 2) (x_c (.int 0))) (x_var 1)))
  (x_raise "InvalidText" ["line", "field"] (a_cons (x_c (.int 0)) (a_cons (x_c (.int 0)) a_nil)))
  (xS s_nx))
  (x_seq (xS (s_ret (x_var 2)))
  (xS s_nx)))))
def FY__words_of : List PyData → Option Ro := runX 2 1 gx__words_of
def g__words_of : Fs :=
  (s_seq (s_if (t_not (t_of (x_isi .str (x_var 0))))
  s_no
  s_nx)
  (s_seq (s_setF 2 (x_splt (x_var 0) (x_c (.str " "))))
  (s_seq (s_if (t_of (x_bin p_ne (x_ix (x_var 2) (x_c (.int 0))) (x_var 1)))
  s_no
  s_nx)
  (s_seq (s_ret (x_var 2))
  s_nx))))
def F__words_of : List PyData → Option Rs := runF 2 1 g__words_of
def FX__words_of : List PyData → Option Ro := orRx F__words_of FY__words_of
def gx_is_elder : Fsx :=
  (x_seq (x_drop (x_callX FX_check_version [.int 0] (a_cons (x_var 0) (a_cons (x_c (.str "one")) (a_cons (x_var 1) a_nil)))))
  (x_seq (x_drop (x_callX FX_check_version [.int 0] (a_cons (x_var 0) (a_cons (x_c (.str "other")) (a_cons (x_var 2) a_nil)))))
  (x_seq (xS (s_ret (x_bin p_in (x_var 1) (x_call F__upward [] (a_cons (x_var 0) (a_cons (x_var 2) a_nil))))))
  (xS s_nx))))
def FY_is_elder : List PyData → Option Ro := runX 3 0 gx_is_elder
def g_is_elder : Fs :=
  (s_seq (s_drop (x_call F_check_version [.int 0] (a_cons (x_var 0) (a_cons (x_c (.str "one")) (a_cons (x_var 1) a_nil)))))
  (s_seq (s_drop (x_call F_check_version [.int 0] (a_cons (x_var 0) (a_cons (x_c (.str "other")) (a_cons (x_var 2) a_nil)))))
  (s_seq (s_ret (x_bin p_in (x_var 1) (x_call F__upward [] (a_cons (x_var 0) (a_cons (x_var 2) a_nil)))))
  s_nx)))
def F_is_elder : List PyData → Option Rs := runF 3 0 g_is_elder
def gx_need_version : Fsx :=
  (x_ifS (t_not (t_of (x_call F_up_to [] (a_cons (x_var 1) (a_cons (x_cb c_len (a_cons (x_var 0) a_nil)) a_nil)))))
  (x_raise "NotUsable" ["word", "at"] (a_cons (x_c (.str "version")) (a_cons (x_neg (x_c (.int 1))) a_nil)))
  (xS s_nx))
def FY_need_version : List PyData → Option Ro := runX 2 0 gx_need_version
def g_need_version : Fs :=
  (s_if (t_not (t_of (x_call F_up_to [] (a_cons (x_var 1) (a_cons (x_cb c_len (a_cons (x_var 0) a_nil)) a_nil)))))
  s_no
  s_nx)
def F_need_version : List PyData → Option Rs := runF 2 0 g_need_version
def FX_need_version : List PyData → Option Ro := orRx F_need_version FY_need_version
def g_branch_of : Fs :=
  (s_seq (s_drop (x_call F_check_version [.int 0] (a_cons (x_var 0) (a_cons (x_c (.str "version")) (a_cons (x_var 1) a_nil)))))
  (s_seq (s_set 2 (x_rep (a_cons (x_c (.bool false)) a_nil) (x_bin p_add (x_cb c_len (a_cons (x_var 0) a_nil)) (x_c (.int 1)))))
  (s_seq (s_put 2 (x_c (.bool true)) (x_var 1))
  (s_seq (s_for (i_enum (x_var 0)) (g_tup [3, 4]) [3, 4]
  (s_if (t_of (x_ix (x_var 2) (x_var 4)))
  (s_put 2 (x_c (.bool true)) (x_bin p_add (x_var 3) (x_c (.int 1))))
  s_nx))
  (s_seq (s_fz 2 (s_ret (x_cb c_tuple (a_cons (x_lc (i_enum (x_var 2)) (g_tup [5, 6]) (t_of (x_var 6)) (x_var 5) [5, 6]) a_nil))))
  s_nx)))))
def F_branch_of : List PyData → Option Rs := runF 2 5 g_branch_of
def gx_bases_by : Fsx :=
  (x_seq (x_ifS (t_not (t_of (x_call F_is_heights [] (a_cons (x_var 0) (a_cons (x_var 1) a_nil)))))
  (x_raise "NotUsable" ["word", "at"] (a_cons (x_c (.str "heights")) (a_cons (x_neg (x_c (.int 1))) a_nil)))
  (xS s_nx))
  (x_seq (xS (s_set 2 (x_lst a_nil)))
  (x_seq (xS (s_for (i_zip (x_var 1) (x_var 0)) (g_tup [3, 4]) [3, 4]
  (s_seq (s_setF 5 (x_var 4))
  (s_seq (s_while (fuI 5) (t_and (t_of (x_bin p_ne (x_var 5) (x_c (.int 0)))) (t_of (x_bin q_le (x_ix (x_var 1) (x_bin p_sub (x_var 5) (x_c (.int 1)))) (x_var 3))))
  (s_setF 5 (x_ix (x_var 0) (x_bin p_sub (x_var 5) (x_c (.int 1))))))
  (s_seq (s_drop (x_app 2 (x_var 5)))
  s_nx)))))
  (x_seq (xS (s_ret (x_cb c_tuple (a_cons (x_var 2) a_nil))))
  (xS s_nx)))))
def FY_bases_by : List PyData → Option Ro := runX 2 4 gx_bases_by
def g_bases_by : Fs :=
  (s_seq (s_if (t_not (t_of (x_call F_is_heights [] (a_cons (x_var 0) (a_cons (x_var 1) a_nil)))))
  s_no
  s_nx)
  (s_seq (s_set 2 (x_lst a_nil))
  (s_seq (s_for (i_zip (x_var 1) (x_var 0)) (g_tup [3, 4]) [3, 4]
  (s_seq (s_setF 5 (x_var 4))
  (s_seq (s_while (fuI 5) (t_and (t_of (x_bin p_ne (x_var 5) (x_c (.int 0)))) (t_of (x_bin q_le (x_ix (x_var 1) (x_bin p_sub (x_var 5) (x_c (.int 1)))) (x_var 3))))
  (s_setF 5 (x_ix (x_var 0) (x_bin p_sub (x_var 5) (x_c (.int 1))))))
  (s_seq (s_drop (x_app 2 (x_var 5)))
  s_nx))))
  (s_seq (s_ret (x_cb c_tuple (a_cons (x_var 2) a_nil)))
  s_nx))))
def F_bases_by : List PyData → Option Rs := runF 2 4 g_bases_by
def FX_bases_by : List PyData → Option Ro := orRx F_bases_by FY_bases_by
def gx_heights_line : Fsx :=
  (x_seq (x_ifS (t_not (t_of (x_call F_is_heights [] (a_cons (x_var 0) (a_cons (x_var 1) a_nil)))))
  (x_raise "NotUsable" ["word", "at"] (a_cons (x_c (.str "heights")) (a_cons (x_neg (x_c (.int 1))) a_nil)))
  (xS s_nx))
  (x_seq (xS (s_ret (x_join (x_c (.str " ")) (x_bin p_add (x_lst (a_cons (x_c (.str "heights")) a_nil)) (x_lc (i_seq (x_var 1)) (g_name 2) t_yes (x_cb c_strN (a_cons (x_var 2) a_nil)) [2])))))
  (xS s_nx)))
def FY_heights_line : List PyData → Option Ro := runX 2 1 gx_heights_line
def g_heights_line : Fs :=
  (s_seq (s_if (t_not (t_of (x_call F_is_heights [] (a_cons (x_var 0) (a_cons (x_var 1) a_nil)))))
  s_no
  s_nx)
  (s_seq (s_ret (x_join (x_c (.str " ")) (x_bin p_add (x_lst (a_cons (x_c (.str "heights")) a_nil)) (x_lc (i_seq (x_var 1)) (g_name 2) t_yes (x_cb c_strN (a_cons (x_var 2) a_nil)) [2]))))
  s_nx))
def F_heights_line : List PyData → Option Rs := runF 2 1 g_heights_line
def FX_heights_line : List PyData → Option Ro := orRx F_heights_line FY_heights_line
def gx_read_heights : Fsx :=
  (x_seq (x_set 2 (x_callX FX__words_of [] (a_cons (x_var 1) (a_cons (x_c (.str "heights")) a_nil))))
  (x_seq (xS (s_set 3 (x_lst a_nil)))
  (x_seq (x_for (i_enum (x_sl (x_var 2) (o_at (x_c (.int 1))) o_no)) (g_tup [4, 5]) [4, 5]
  (x_seq (xS (s_setF 6 (x_call F__number_in [] (a_cons (x_var 5) a_nil))))
  (x_seq (x_ifS (t_or (t_of (x_bin q_ge (x_var 4) (x_cb c_len (a_cons (x_var 0) a_nil)))) (t_of (x_bin q_lt (x_var 6) (x_c (.int 1)))))
  (x_raise "InvalidText" ["line", "field"] (a_cons (x_c (.int 0)) (a_cons (x_bin p_add (x_var 4) (x_c (.int 1))) a_nil)))
  (xS s_nx))
  (x_seq (xS (s_drop (x_app 3 (x_var 6))))
  (xS s_nx)))))
  (x_seq (x_ifS (t_of (x_bin q_lt (x_cb c_len (a_cons (x_var 3) a_nil)) (x_cb c_len (a_cons (x_var 0) a_nil))))
  (x_raise "InvalidText" ["line", "field"] (a_cons (x_c (.int 0)) (a_cons (x_cb c_len (a_cons (x_var 2) a_nil)) a_nil)))
  (xS s_nx))
  (x_seq (xS (s_ret (x_cb c_tuple (a_cons (x_var 3) a_nil))))
  (xS s_nx))))))
def FY_read_heights : List PyData → Option Ro := runX 2 5 gx_read_heights
def g_read_heights : Fs :=
  (s_seq (s_setF 2 (x_call F__words_of [] (a_cons (x_var 1) (a_cons (x_c (.str "heights")) a_nil))))
  (s_seq (s_set 3 (x_lst a_nil))
  (s_seq (s_for (i_enum (x_sl (x_var 2) (o_at (x_c (.int 1))) o_no)) (g_tup [4, 5]) [4, 5]
  (s_seq (s_setF 6 (x_call F__number_in [] (a_cons (x_var 5) a_nil)))
  (s_seq (s_if (t_or (t_of (x_bin q_ge (x_var 4) (x_cb c_len (a_cons (x_var 0) a_nil)))) (t_of (x_bin q_lt (x_var 6) (x_c (.int 1)))))
  s_no
  s_nx)
  (s_seq (s_drop (x_app 3 (x_var 6)))
  s_nx))))
  (s_seq (s_if (t_of (x_bin q_lt (x_cb c_len (a_cons (x_var 3) a_nil)) (x_cb c_len (a_cons (x_var 0) a_nil))))
  s_no
  s_nx)
  (s_seq (s_ret (x_cb c_tuple (a_cons (x_var 3) a_nil)))
  s_nx)))))
def F_read_heights : List PyData → Option Rs := runF 2 5 g_read_heights
def FX_read_heights : List PyData → Option Ro := orRx F_read_heights FY_read_heights
def gx_is_bases : Fsx :=
  (x_seq (xS (s_if (t_not (t_and (t_of (x_isi .tuple (x_var 1))) (t_of (x_bin p_eq (x_cb c_len (a_cons (x_var 1) a_nil)) (x_call F_many_of [] (a_cons (x_var 0) a_nil))))))
  (s_ret (x_c (.bool false)))
  s_nx))
  (x_seq (xS (s_for (i_enum (x_var 1)) (g_tup [2, 3]) [2, 3]
  (s_if (t_not (t_and (t_of (x_call F_is_number [] (a_cons (x_var 3) a_nil))) (t_and (t_of (x_bin q_le (x_var 3) (x_var 2))) (t_of (x_call F_is_elder [] (a_cons (x_var 0) (a_cons (x_var 3) (a_cons (x_bin p_add (x_var 2) (x_c (.int 1))) a_nil))))))))
  (s_ret (x_c (.bool false)))
  s_nx)))
  (x_seq (xS (s_ret (x_c (.bool true))))
  (xS s_nx))))
def FY_is_bases : List PyData → Option Ro := runX 2 2 gx_is_bases
def g_is_bases : Fs :=
  (s_seq (s_if (t_not (t_and (t_of (x_isi .tuple (x_var 1))) (t_of (x_bin p_eq (x_cb c_len (a_cons (x_var 1) a_nil)) (x_call F_many_of [] (a_cons (x_var 0) a_nil))))))
  (s_ret (x_c (.bool false)))
  s_nx)
  (s_seq (s_for (i_enum (x_var 1)) (g_tup [2, 3]) [2, 3]
  (s_if (t_not (t_and (t_of (x_call F_is_number [] (a_cons (x_var 3) a_nil))) (t_and (t_of (x_bin q_le (x_var 3) (x_var 2))) (t_of (x_call F_is_elder [] (a_cons (x_var 0) (a_cons (x_var 3) (a_cons (x_bin p_add (x_var 2) (x_c (.int 1))) a_nil))))))))
  (s_ret (x_c (.bool false)))
  s_nx))
  (s_seq (s_ret (x_c (.bool true)))
  s_nx)))
def F_is_bases : List PyData → Option Rs := runF 2 2 g_is_bases
def gx_records_of : Fsx :=
  (x_seq (x_set 3 (x_callX FX_bases_by [] (a_cons (x_var 0) (a_cons (x_var 1) a_nil))))
  (x_seq (x_ifS (t_or (t_not (t_of (x_call F_is_number [] (a_cons (x_var 2) a_nil)))) (t_of (x_bin q_gt (x_var 2) (x_cb c_len (a_cons (x_var 0) a_nil)))))
  (x_raise "NotUsable" ["word", "at"] (a_cons (x_c (.str "version")) (a_cons (x_neg (x_c (.int 1))) a_nil)))
  (xS s_nx))
  (x_seq (xS (s_set 4 (x_lst a_nil)))
  (x_seq (xS (s_setF 5 (x_var 2)))
  (x_seq (xS (s_while (fuI 5) (t_of (x_bin p_ne (x_var 5) (x_c (.int 0))))
  (s_seq (s_drop (x_app 4 (x_var 5)))
  (s_seq (s_setF 5 (x_ix (x_var 3) (x_bin p_sub (x_var 5) (x_c (.int 1)))))
  s_nx))))
  (x_seq (xS (s_ret (x_cb c_tuple (a_cons (x_var 4) a_nil))))
  (xS s_nx)))))))
def FY_records_of : List PyData → Option Ro := runX 3 3 gx_records_of
def g_records_of : Fs :=
  (s_seq (s_setF 3 (x_call F_bases_by [] (a_cons (x_var 0) (a_cons (x_var 1) a_nil))))
  (s_seq (s_if (t_or (t_not (t_of (x_call F_is_number [] (a_cons (x_var 2) a_nil)))) (t_of (x_bin q_gt (x_var 2) (x_cb c_len (a_cons (x_var 0) a_nil)))))
  s_no
  s_nx)
  (s_seq (s_set 4 (x_lst a_nil))
  (s_seq (s_setF 5 (x_var 2))
  (s_seq (s_while (fuI 5) (t_of (x_bin p_ne (x_var 5) (x_c (.int 0))))
  (s_seq (s_drop (x_app 4 (x_var 5)))
  (s_seq (s_setF 5 (x_ix (x_var 3) (x_bin p_sub (x_var 5) (x_c (.int 1)))))
  s_nx)))
  (s_seq (s_ret (x_cb c_tuple (a_cons (x_var 4) a_nil)))
  s_nx))))))
def F_records_of : List PyData → Option Rs := runF 3 3 g_records_of
def FX_records_of : List PyData → Option Ro := orRx F_records_of FY_records_of
def gx_open_at : Fsx :=
  (x_seq (x_set 3 (x_callX FX_bases_by [] (a_cons (x_var 0) (a_cons (x_var 1) a_nil))))
  (x_seq (x_drop (x_callX FX_need_version [] (a_cons (x_var 0) (a_cons (x_var 2) a_nil))))
  (x_seq (xS (s_set 4 (x_lst a_nil)))
  (x_seq (xS (s_for (i_rng2 (x_var 2) (x_bin p_add (x_cb c_len (a_cons (x_var 0) a_nil)) (x_c (.int 1)))) (g_name 5) [5]
  (s_if (t_and (t_of (x_bin q_lt (x_ix (x_var 3) (x_bin p_sub (x_var 5) (x_c (.int 1)))) (x_var 2))) (t_of (x_call F_at_or_below [] (a_cons (x_var 0) (a_cons (x_var 2) (a_cons (x_var 5) a_nil))))))
  (s_drop (x_app 4 (x_var 5)))
  s_nx)))
  (x_seq (xS (s_ret (x_cb c_tuple (a_cons (x_var 4) a_nil))))
  (xS s_nx))))))
def FY_open_at : List PyData → Option Ro := runX 3 3 gx_open_at
def g_open_at : Fs :=
  (s_seq (s_setF 3 (x_call F_bases_by [] (a_cons (x_var 0) (a_cons (x_var 1) a_nil))))
  (s_seq (s_drop (x_call F_need_version [] (a_cons (x_var 0) (a_cons (x_var 2) a_nil))))
  (s_seq (s_set 4 (x_lst a_nil))
  (s_seq (s_for (i_rng2 (x_var 2) (x_bin p_add (x_cb c_len (a_cons (x_var 0) a_nil)) (x_c (.int 1)))) (g_name 5) [5]
  (s_if (t_and (t_of (x_bin q_lt (x_ix (x_var 3) (x_bin p_sub (x_var 5) (x_c (.int 1)))) (x_var 2))) (t_of (x_call F_at_or_below [] (a_cons (x_var 0) (a_cons (x_var 2) (a_cons (x_var 5) a_nil))))))
  (s_drop (x_app 4 (x_var 5)))
  s_nx))
  (s_seq (s_ret (x_cb c_tuple (a_cons (x_var 4) a_nil)))
  s_nx)))))
def F_open_at : List PyData → Option Rs := runF 3 3 g_open_at
def FX_open_at : List PyData → Option Ro := orRx F_open_at FY_open_at
def gx_ask_bases : Fsx :=
  (x_ifS (t_not (t_of (x_call F_is_bases [] (a_cons (x_var 0) (a_cons (x_var 1) a_nil)))))
  (x_raise "NotUsable" ["word", "at"] (a_cons (x_c (.str "bases")) (a_cons (x_neg (x_c (.int 1))) a_nil)))
  (xS s_nx))
def FY_ask_bases : List PyData → Option Ro := runX 2 0 gx_ask_bases
def g_ask_bases : Fs :=
  (s_if (t_not (t_of (x_call F_is_bases [] (a_cons (x_var 0) (a_cons (x_var 1) a_nil)))))
  s_no
  s_nx)
def F_ask_bases : List PyData → Option Rs := runF 2 0 g_ask_bases
def FX_ask_bases : List PyData → Option Ro := orRx F_ask_bases FY_ask_bases
def gx_open_row : Fsx :=
  (x_ret (x_upX (ax_cons (x_upE (x_callX FX_open_at [] (a_cons (x_var 0) (a_cons (x_var 1) (a_cons (x_var 2) a_nil)))) (xE (x_lc (i_seq (feOf (x_callX FX_open_at [] (a_cons (x_var 0) (a_cons (x_var 1) (a_cons (x_var 2) a_nil)))))) (g_name 3) t_yes (x_ix (x_var 1) (x_bin p_sub (x_var 3) (x_c (.int 1)))) [3]))) (xA a_nil)) (xE (x_call F_falling [] (faOf (ax_cons (x_upE (x_callX FX_open_at [] (a_cons (x_var 0) (a_cons (x_var 1) (a_cons (x_var 2) a_nil)))) (xE (x_lc (i_seq (feOf (x_callX FX_open_at [] (a_cons (x_var 0) (a_cons (x_var 1) (a_cons (x_var 2) a_nil)))))) (g_name 3) t_yes (x_ix (x_var 1) (x_bin p_sub (x_var 3) (x_c (.int 1)))) [3]))) (xA a_nil)))))))
def FY_open_row : List PyData → Option Ro := runX 3 1 gx_open_row
def g_open_row : Fs :=
  (s_ret (x_call F_falling [] (a_cons (x_lc (i_seq (x_call F_open_at [] (a_cons (x_var 0) (a_cons (x_var 1) (a_cons (x_var 2) a_nil))))) (g_name 3) t_yes (x_ix (x_var 1) (x_bin p_sub (x_var 3) (x_c (.int 1)))) [3]) a_nil)))
def F_open_row : List PyData → Option Rs := runF 3 1 g_open_row
def FX_open_row : List PyData → Option Ro := orRx F_open_row FY_open_row
def gx_reads_by : Fsx :=
  (x_seq (x_drop (x_callX FX_ask_bases [] (a_cons (x_var 0) (a_cons (x_var 1) a_nil))))
  (x_seq (xS (s_set 2 (x_lst (a_cons (x_c (.int 0)) a_nil))))
  (x_seq (xS (s_for (i_seq (x_var 1)) (g_name 3) [3]
  (s_drop (x_app 2 (x_bin p_add (x_ix (x_var 2) (x_var 3)) (x_c (.int 1)))))))
  (x_seq (xS (s_ret (x_cb c_tuple (a_cons (x_var 2) a_nil))))
  (xS s_nx)))))
def FY_reads_by : List PyData → Option Ro := runX 2 2 gx_reads_by
def g_reads_by : Fs :=
  (s_seq (s_drop (x_call F_ask_bases [] (a_cons (x_var 0) (a_cons (x_var 1) a_nil))))
  (s_seq (s_set 2 (x_lst (a_cons (x_c (.int 0)) a_nil)))
  (s_seq (s_for (i_seq (x_var 1)) (g_name 3) [3]
  (s_drop (x_app 2 (x_bin p_add (x_ix (x_var 2) (x_var 3)) (x_c (.int 1))))))
  (s_seq (s_ret (x_cb c_tuple (a_cons (x_var 2) a_nil)))
  s_nx))))
def F_reads_by : List PyData → Option Rs := runF 2 2 g_reads_by
def FX_reads_by : List PyData → Option Ro := orRx F_reads_by FY_reads_by
def g_holders_of : Fs :=
  (s_seq (s_drop (x_call F_ask_bases [] (a_cons (x_var 0) (a_cons (x_var 1) a_nil))))
  (s_seq (s_drop (x_call F_ask_version [] (a_cons (x_var 0) (a_cons (x_c (.str "change")) (a_cons (x_var 2) (a_cons (x_c (.int 1)) a_nil))))))
  (s_seq (s_ret (x_cb c_tuple (a_cons (x_lc (i_seq (x_call F_branch_of [] (a_cons (x_var 0) (a_cons (x_var 2) a_nil)))) (g_name 3) (t_of (x_bin q_lt (x_ix (x_var 1) (x_bin p_sub (x_var 3) (x_c (.int 1)))) (x_var 2))) (x_var 3) [3]) a_nil)))
  s_nx)))
def F_holders_of : List PyData → Option Rs := runF 3 1 g_holders_of
def gx_heights_of : Fsx :=
  (x_seq (x_ifS (t_not (t_of (x_call F_is_bases [] (a_cons (x_var 0) (a_cons (x_var 1) a_nil)))))
  (x_raise "NotUsable" ["word", "at"] (a_cons (x_c (.str "bases")) (a_cons (x_neg (x_c (.int 1))) a_nil)))
  (xS s_nx))
  (x_seq (x_set 2 (x_callX FX_reads_by [] (a_cons (x_var 0) (a_cons (x_var 1) a_nil))))
  (x_seq (xS (s_setF 3 (x_cb c_maxB (a_cons (x_var 2) a_nil))))
  (x_seq (xS (s_ret (x_cb c_tuple (a_cons (x_lc (i_seq (x_sl (x_var 2) (o_at (x_c (.int 1))) o_no)) (g_name 4) t_yes (x_bin p_sub (x_bin p_add (x_var 3) (x_c (.int 1))) (x_var 4)) [4]) a_nil))))
  (xS s_nx)))))
def FY_heights_of : List PyData → Option Ro := runX 2 3 gx_heights_of
def g_heights_of : Fs :=
  (s_seq (s_if (t_not (t_of (x_call F_is_bases [] (a_cons (x_var 0) (a_cons (x_var 1) a_nil)))))
  s_no
  s_nx)
  (s_seq (s_setF 2 (x_call F_reads_by [] (a_cons (x_var 0) (a_cons (x_var 1) a_nil))))
  (s_seq (s_setF 3 (x_cb c_maxB (a_cons (x_var 2) a_nil)))
  (s_seq (s_ret (x_cb c_tuple (a_cons (x_lc (i_seq (x_sl (x_var 2) (o_at (x_c (.int 1))) o_no)) (g_name 4) t_yes (x_bin p_sub (x_bin p_add (x_var 3) (x_c (.int 1))) (x_var 4)) [4]) a_nil)))
  s_nx))))
def F_heights_of : List PyData → Option Rs := runF 2 3 g_heights_of
def FX_heights_of : List PyData → Option Ro := orRx F_heights_of FY_heights_of
def R__law_same : Nat → List PyData → Option Rs
  | 0 => fun _ => none
  | N + 1 => runF 2 1 (s_seq (s_if (t_of (x_isi .tuple (x_var 1)))
  (s_seq (s_if (t_or (t_not (t_of (x_isi .tuple (x_var 0)))) (t_of (x_bin p_ne (x_cb c_len (a_cons (x_var 0) a_nil)) (x_cb c_len (a_cons (x_var 1) a_nil)))))
  (s_ret (x_c (.bool false)))
  s_nx)
  (s_seq (s_for (i_rng1 (x_cb c_len (a_cons (x_var 1) a_nil))) (g_name 2) [2]
  (s_if (t_not (t_of (x_call (R__law_same N) [] (a_cons (x_ix (x_var 0) (x_var 2)) (a_cons (x_ix (x_var 1) (x_var 2)) a_nil)))))
  (s_ret (x_c (.bool false)))
  s_nx))
  (s_seq (s_ret (x_c (.bool true)))
  s_nx)))
  s_nx)
  (s_seq (s_if (t_of (x_bin p_is (x_var 1) (x_c .none)))
  (s_ret (x_bin p_is (x_var 0) (x_c .none)))
  s_nx)
  (s_seq (s_if (t_of (x_isi .bool (x_var 1)))
  (s_ret (x_and (x_isi .bool (x_var 0)) (x_bin p_eq (x_var 0) (x_var 1))))
  s_nx)
  (s_seq (s_if (t_of (x_isi .int (x_var 1)))
  (s_ret (x_and (x_isi .int (x_var 0)) (x_and (x_not (x_isi .bool (x_var 0))) (x_bin p_eq (x_var 0) (x_var 1)))))
  s_nx)
  (s_seq (s_ret (x_and (x_isi .str (x_var 0)) (x_bin p_eq (x_var 0) (x_var 1))))
  s_nx)))))
theorem len__law_same : ∀ N ds, (R__law_same N ds).isSome = true → ds.length = 2
  | 0 => fun _ h => nomatch h
  | N + 1 => runF_len
def F__law_same : List PyData → Option Rs := R__law_same 8
def g__law_looks : Fs :=
  (s_seq (s_setF 3 (x_cb c_len (a_cons (x_var 0) a_nil)))
  (s_seq (s_setF 4 (x_cb c_tuple (a_cons (x_lc (i_rng2 (x_c (.int 1)) (x_bin p_add (x_var 3) (x_c (.int 1)))) (g_name 5) t_yes (x_call F__law_base [] (a_cons (x_var 0) (a_cons (x_var 1) (a_cons (x_var 5) a_nil)))) [5]) a_nil)))
  (s_seq (s_if (t_or (t_not (t_of (x_call F__law_same [] (a_cons (x_call F_is_heights [] (a_cons (x_var 0) (a_cons (x_var 1) a_nil))) (a_cons (x_c (.bool true)) a_nil))))) (t_not (t_of (x_call F__law_same [] (a_cons (x_call F_bases_by [] (a_cons (x_var 0) (a_cons (x_var 1) a_nil))) (a_cons (x_var 4) a_nil))))))
  (s_ret (x_c (.bool false)))
  s_nx)
  (s_seq (s_if (t_not (t_of (x_call F__law_same [] (a_cons (x_call F_records_of [] (a_cons (x_var 0) (a_cons (x_var 1) (a_cons (x_c (.int 0)) a_nil)))) (a_cons (x_tup a_nil) a_nil)))))
  (s_ret (x_c (.bool false)))
  s_nx)
  (s_seq (s_for (i_seq (x_call F__law_some [] (a_cons (x_var 3) (a_cons (x_var 2) a_nil)))) (g_name 5) [5]
  (s_seq (s_set 6 (x_lst a_nil))
  (s_seq (s_setF 7 (x_var 5))
  (s_seq (s_while (fuI 7) (t_of (x_bin q_gt (x_var 7) (x_c (.int 0))))
  (s_seq (s_drop (x_app 6 (x_var 7)))
  (s_seq (s_setF 7 (x_ix (x_var 4) (x_bin p_sub (x_var 7) (x_c (.int 1)))))
  s_nx)))
  (s_seq (s_setF 8 (x_call F__law_open [] (a_cons (x_var 0) (a_cons (x_var 1) (a_cons (x_var 5) a_nil)))))
  (s_seq (s_setF 9 (x_cb c_tuple (a_cons (x_srt (a_cons (x_lc (i_seq (x_var 8)) (g_name 10) t_yes (x_ix (x_var 1) (x_bin p_sub (x_var 10) (x_c (.int 1)))) [10]) a_nil)) a_nil)))
  (s_seq (s_if (t_not (t_of (x_call F__law_same [] (a_cons (x_call F_records_of [] (a_cons (x_var 0) (a_cons (x_var 1) (a_cons (x_var 5) a_nil)))) (a_cons (x_cb c_tuple (a_cons (x_var 6) a_nil)) a_nil)))))
  (s_ret (x_c (.bool false)))
  s_nx)
  (s_seq (s_if (t_not (t_of (x_call F__law_same [] (a_cons (x_call F_open_at [] (a_cons (x_var 0) (a_cons (x_var 1) (a_cons (x_var 5) a_nil)))) (a_cons (x_var 8) a_nil)))))
  (s_ret (x_c (.bool false)))
  s_nx)
  (s_seq (s_if (t_not (t_of (x_call F__law_same [] (a_cons (x_callK F_open_row [2, 1, 0] a_nil (a_cons (x_var 5) (a_cons (x_var 1) (a_cons (x_var 0) a_nil)))) (a_cons (x_var 9) a_nil)))))
  (s_ret (x_c (.bool false)))
  s_nx)
  (s_seq (s_if (t_not (t_of (x_call F__law_same [] (a_cons (x_call F_open_row [] (a_cons (x_var 0) (a_cons (x_var 1) (a_cons (x_var 5) a_nil)))) (a_cons (x_var 9) a_nil)))))
  (s_ret (x_c (.bool false)))
  s_nx)
  (s_seq (s_if (t_not (t_of (x_call F__law_same [] (a_cons (x_callK F_records_of [2, 1, 0] a_nil (a_cons (x_var 5) (a_cons (x_var 1) (a_cons (x_var 0) a_nil)))) (a_cons (x_cb c_tuple (a_cons (x_var 6) a_nil)) a_nil)))))
  (s_ret (x_c (.bool false)))
  s_nx)
  (s_seq (s_if (t_not (t_of (x_call F__law_same [] (a_cons (x_callK F_open_at [2, 1, 0] a_nil (a_cons (x_var 5) (a_cons (x_var 1) (a_cons (x_var 0) a_nil)))) (a_cons (x_var 8) a_nil)))))
  (s_ret (x_c (.bool false)))
  s_nx)
  (s_seq (s_if (t_not (t_of (x_call F__law_same [] (a_cons (x_call F_holders_of [] (a_cons (x_var 0) (a_cons (x_callK F_bases_by [1, 0] a_nil (a_cons (x_var 1) (a_cons (x_var 0) a_nil))) (a_cons (x_var 5) a_nil)))) (a_cons (x_var 8) a_nil)))))
  (s_ret (x_c (.bool false)))
  s_nx)
  s_nx)))))))))))))
  (s_seq (s_ret (x_c (.bool true)))
  s_nx))))))
def F__law_looks : List PyData → Option Rs := runF 3 8 g__law_looks
def g__law_turned : Fs :=
  (s_seq (s_set 2 (x_lst (a_cons (x_c (.int 0)) a_nil)))
  (s_seq (s_for (i_rng2 (x_c (.int 1)) (x_bin p_add (x_cb c_len (a_cons (x_var 0) a_nil)) (x_c (.int 1)))) (g_name 3) [3]
  (s_drop (x_app 2 (x_bin p_add (x_c (.int 1)) (x_ix (x_var 2) (x_ix (x_var 1) (x_bin p_sub (x_var 3) (x_c (.int 1)))))))))
  (s_seq (s_setF 4 (x_cb c_tuple (a_cons (x_lc (i_rng2 (x_c (.int 1)) (x_bin p_add (x_cb c_len (a_cons (x_var 0) a_nil)) (x_c (.int 1)))) (g_name 3) t_yes (x_bin p_sub (x_bin p_add (x_cb c_maxB (a_cons (x_var 2) a_nil)) (x_c (.int 1))) (x_ix (x_var 2) (x_var 3))) [3]) a_nil)))
  (s_seq (s_setF 5 (x_call F_heights_of [] (a_cons (x_var 0) (a_cons (x_var 1) a_nil))))
  (s_seq (s_if (t_or (t_not (t_of (x_call F__law_same [] (a_cons (x_var 5) (a_cons (x_var 4) a_nil))))) (t_not (t_of (x_call F__law_same [] (a_cons (x_callK F_heights_of [1, 0] a_nil (a_cons (x_var 1) (a_cons (x_var 0) a_nil))) (a_cons (x_var 4) a_nil))))))
  (s_ret (x_c (.bool false)))
  s_nx)
  (s_seq (s_setF 6 (x_call F_bases_by [] (a_cons (x_var 0) (a_cons (x_var 5) a_nil))))
  (s_seq (s_setF 7 (x_cb c_tuple (a_cons (x_lc (i_rng2 (x_c (.int 1)) (x_bin p_add (x_cb c_len (a_cons (x_var 0) a_nil)) (x_c (.int 1)))) (g_name 3) t_yes (x_call F__law_base [] (a_cons (x_var 0) (a_cons (x_var 4) (a_cons (x_var 3) a_nil)))) [3]) a_nil)))
  (s_seq (s_ret (x_and (x_call F__law_same [] (a_cons (x_var 6) (a_cons (x_var 7) a_nil))) (x_bin p_eq (x_call F__law_same [] (a_cons (x_var 6) (a_cons (x_var 1) a_nil))) (x_call F__law_nested [] (a_cons (x_var 0) (a_cons (x_var 1) a_nil))))))
  s_nx))))))))
def F__law_turned : List PyData → Option Rs := runF 2 6 g__law_turned
def g__law_field : Fs :=
  (s_seq (noX (x_try (x_drop (x_callX FX_read_heights [] (a_cons (x_var 0) (a_cons (x_var 1) a_nil)))) (tabF xtab "InvalidText") 2 (fun k a dd =>
  (s_seq (s_if (t_and (t_of (x_isE (tabF xtab "TextError") k a dd 2)) (t_and (t_of (x_isE (tabF xtab "MarkError") k a dd 2)) (t_of (x_call F__law_same [] (a_cons (x_fld xok k a dd 2 "line") (a_cons (x_c (.int 0)) a_nil))))))
  (s_ret (x_fld xok k a dd 2 "field"))
  s_nx)
  (s_seq (s_ret (x_c (.str "family")))
  s_nx)))))
  (s_seq (s_ret (x_c .none))
  s_nx))
def F__law_field : List PyData → Option Rs := runF 2 1 g__law_field
def g__law_ask : Fs :=
  (s_seq (noX (x_try (x_ifS (t_of (x_bin p_eq (x_var 0) (x_c (.int 0))))
  (x_drop (x_callX FX_bases_by [] (a_cons (x_var 1) (a_cons (x_var 2) a_nil))))
  (x_ifS (t_of (x_bin p_eq (x_var 0) (x_c (.int 1))))
  (x_drop (x_callX FX_heights_of [] (a_cons (x_var 1) (a_cons (x_var 2) a_nil))))
  (x_ifS (t_of (x_bin p_eq (x_var 0) (x_c (.int 2))))
  (x_drop (x_callX FX_records_of [] (a_cons (x_var 1) (a_cons (x_var 2) (a_cons (x_var 3) a_nil)))))
  (x_ifS (t_of (x_bin p_eq (x_var 0) (x_c (.int 3))))
  (x_drop (x_callX FX_open_at [] (a_cons (x_var 1) (a_cons (x_var 2) (a_cons (x_var 3) a_nil)))))
  (x_ifS (t_of (x_bin p_eq (x_var 0) (x_c (.int 4))))
  (x_drop (x_callX FX_open_row [] (a_cons (x_var 1) (a_cons (x_var 2) (a_cons (x_var 3) a_nil)))))
  (x_ifS (t_of (x_bin p_eq (x_var 0) (x_c (.int 5))))
  (x_drop (x_callX FX_heights_line [] (a_cons (x_var 1) (a_cons (x_var 2) a_nil))))
  (x_drop (x_callX FX_read_heights [] (a_cons (x_var 1) (a_cons (x_var 2) a_nil)))))))))) (tabF xtab "NotUsable") 4 (fun k a dd =>
  (s_seq (s_if (t_and (t_of (x_isE (tabF xtab "BookError") k a dd 4)) (t_and (t_not (t_of (x_isE (tabF xtab "Faulty") k a dd 4))) (t_of (x_call F__law_same [] (a_cons (x_fld xok k a dd 4 "at") (a_cons (x_neg (x_c (.int 1))) a_nil))))))
  (s_ret (x_fld xok k a dd 4 "word"))
  s_nx)
  (s_seq (s_ret (x_c (.str "family")))
  s_nx)))))
  (s_seq (s_ret (x_c .none))
  s_nx))
def F__law_ask : List PyData → Option Rs := runF 4 1 g__law_ask
def g__law_lines : Fs :=
  (s_seq (s_setF 3 (x_bin p_add (x_lst (a_cons (x_c (.str "heights")) a_nil)) (x_lc (i_seq (x_var 1)) (g_name 9) t_yes (x_cb c_strN (a_cons (x_var 9) a_nil)) [9])))
  (s_seq (s_setF 4 (x_join (x_c (.str " ")) (x_var 3)))
  (s_seq (s_if (t_not (t_of (x_call F__law_same [] (a_cons (x_tup (a_cons (x_call F_heights_line [] (a_cons (x_var 0) (a_cons (x_var 1) a_nil))) (a_cons (x_callK F_heights_line [1, 0] a_nil (a_cons (x_var 1) (a_cons (x_var 0) a_nil))) a_nil))) (a_cons (x_tup (a_cons (x_var 4) (a_cons (x_var 4) a_nil))) a_nil)))))
  (s_ret (x_c (.bool false)))
  s_nx)
  (s_seq (s_if (t_not (t_of (x_call F__law_same [] (a_cons (x_callK F_is_heights [1, 0] a_nil (a_cons (x_var 1) (a_cons (x_var 0) a_nil))) (a_cons (x_c (.bool true)) a_nil)))))
  (s_ret (x_c (.bool false)))
  s_nx)
  (s_seq (s_if (t_not (t_of (x_call F__law_same [] (a_cons (x_call F_read_heights [] (a_cons (x_var 0) (a_cons (x_var 4) a_nil))) (a_cons (x_var 1) a_nil)))))
  (s_ret (x_c (.bool false)))
  s_nx)
  (s_seq (s_if (t_not (t_of (x_call F__law_same [] (a_cons (x_callK F_read_heights [1, 0] a_nil (a_cons (x_var 4) (a_cons (x_var 0) a_nil))) (a_cons (x_var 1) a_nil)))))
  (s_ret (x_c (.bool false)))
  s_nx)
  (s_seq (s_setF 5 (x_ix (x_tup (a_cons (x_c (.str "0")) (a_cons (x_c (.str "-1")) (a_cons (x_c (.str "01")) (a_cons (x_c (.str "x")) (a_cons (x_c (.str "")) (a_cons (x_c (.str "+2")) (a_cons (x_c (.str "2.")) (a_cons (x_c (.str "1_0")) (a_cons (x_c (.str "2
")) (a_cons (x_c (.str "True")) (a_cons (x_c (.str "00")) a_nil)))))))))))) (x_bin p_mod (x_cb c_int (a_cons (x_ix (x_var 2) (x_c (.int 0))) a_nil)) (x_c (.int 11)))))
  (s_seq (s_setF 6 (x_bin p_mod (x_cb c_int (a_cons (x_ix (x_var 2) (x_c (.int 1))) a_nil)) (x_bin p_add (x_cb c_len (a_cons (x_var 3) a_nil)) (x_c (.int 1)))))
  (s_seq (s_if (t_of (x_bin p_eq (x_var 6) (x_c (.int 0))))
  (s_setF 5 (x_ix (x_tup (a_cons (x_c (.str "height")) (a_cons (x_c (.str "")) (a_cons (x_c (.str "Heights")) (a_cons (x_c (.str "heights:")) (a_cons (x_c (.str "bounds")) (a_cons (x_c (.str "heights
")) a_nil))))))) (x_bin p_mod (x_cb c_int (a_cons (x_ix (x_var 2) (x_c (.int 0))) a_nil)) (x_c (.int 6)))))
  s_nx)
  (s_seq (s_setF 7 (x_bin p_add (x_bin p_add (x_sl (x_var 3) o_no (o_at (x_var 6))) (x_lst (a_cons (x_var 5) a_nil))) (x_sl (x_var 3) (o_at (x_bin p_add (x_var 6) (x_c (.int 1)))) o_no)))
  (s_seq (s_if (t_not (t_of (x_call F__law_same [] (a_cons (x_call F__law_field [] (a_cons (x_var 0) (a_cons (x_join (x_c (.str " ")) (x_var 7)) a_nil))) (a_cons (x_var 6) a_nil)))))
  (s_ret (x_c (.bool false)))
  s_nx)
  (s_seq (s_if (t_not (t_of (x_call F__law_same [] (a_cons (x_call F__law_field [] (a_cons (x_var 0) (a_cons (x_bin p_adS (x_var 4) (x_c (.str " 1"))) a_nil))) (a_cons (x_cb c_len (a_cons (x_var 3) a_nil)) a_nil)))))
  (s_ret (x_c (.bool false)))
  s_nx)
  (s_seq (s_setF 8 (x_bin p_mod (x_cb c_int (a_cons (x_ix (x_var 2) (x_c (.int 2))) a_nil)) (x_cb c_len (a_cons (x_var 3) a_nil))))
  (s_seq (s_ret (x_call F__law_same [] (a_cons (x_call F__law_field [] (a_cons (x_var 0) (a_cons (x_join (x_c (.str " ")) (x_sl (x_var 3) o_no (o_at (x_var 8)))) a_nil))) (a_cons (x_var 8) a_nil))))
  s_nx))))))))))))))
def F__law_lines : List PyData → Option Rs := runF 3 7 g__law_lines
def g__law_refused : Fs :=
  (s_seq (s_setF 4 (x_call F__law_bent [] (a_cons (x_var 3) (a_cons (x_var 1) (a_cons (x_ix (x_tup (a_cons (x_c (.int 0)) (a_cons (x_neg (x_c (.int 1))) (a_cons (x_c (.bool true)) (a_cons (x_c (.str "1")) (a_cons (x_c (.bool false)) (a_cons (x_tup (a_cons (x_c (.int 1)) a_nil)) (a_cons (x_neg (x_bin p_pow (x_c (.int 10)) (x_c (.int 20)))) a_nil)))))))) (x_bin p_mod (x_cb c_int (a_cons (x_ix (x_var 3) (x_c (.int 2))) a_nil)) (x_c (.int 7)))) a_nil)))))
  (s_seq (s_setF 5 (x_ix (x_tup (a_cons (x_neg (x_c (.int 1))) (a_cons (x_bin p_add (x_cb c_len (a_cons (x_var 0) a_nil)) (x_c (.int 1))) (a_cons (x_c (.bool true)) (a_cons (x_c (.str "1")) (a_cons (x_tup (a_cons (x_c (.int 1)) a_nil)) (a_cons (x_c (.bool false)) (a_cons (x_bin p_pow (x_c (.int 10)) (x_c (.int 20))) a_nil)))))))) (x_bin p_mod (x_cb c_int (a_cons (x_ix (x_var 3) (x_c (.int 3))) a_nil)) (x_c (.int 7)))))
  (s_seq (s_if (t_not (t_of (x_call F__law_same [] (a_cons (x_call F_is_heights [] (a_cons (x_var 0) (a_cons (x_var 4) a_nil))) (a_cons (x_c (.bool false)) a_nil)))))
  (s_ret (x_c (.bool false)))
  s_nx)
  (s_seq (s_for (i_seq (x_tup (a_cons (x_c (.int 0)) (a_cons (x_c (.int 2)) (a_cons (x_c (.int 3)) (a_cons (x_c (.int 4)) (a_cons (x_c (.int 5)) a_nil))))))) (g_name 6) [6]
  (s_if (t_not (t_of (x_call F__law_same [] (a_cons (x_call F__law_ask [] (a_cons (x_var 6) (a_cons (x_var 0) (a_cons (x_var 4) (a_cons (x_var 5) a_nil))))) (a_cons (x_c (.str "heights")) a_nil)))))
  (s_ret (x_c (.bool false)))
  s_nx))
  (s_seq (s_for (i_seq (x_tup (a_cons (x_c (.int 2)) (a_cons (x_c (.int 3)) (a_cons (x_c (.int 4)) a_nil))))) (g_name 6) [6]
  (s_if (t_not (t_of (x_call F__law_same [] (a_cons (x_call F__law_ask [] (a_cons (x_var 6) (a_cons (x_var 0) (a_cons (x_var 1) (a_cons (x_var 5) a_nil))))) (a_cons (x_c (.str "version")) a_nil)))))
  (s_ret (x_c (.bool false)))
  s_nx))
  (s_seq (s_if (t_not (t_of (x_call F__law_same [] (a_cons (x_call F__law_ask [] (a_cons (x_c (.int 3)) (a_cons (x_var 0) (a_cons (x_var 1) (a_cons (x_c (.int 0)) a_nil))))) (a_cons (x_c (.str "version")) a_nil)))))
  (s_ret (x_c (.bool false)))
  s_nx)
  (s_seq (s_if (t_not (t_of (x_call F__law_same [] (a_cons (x_call F__law_ask [] (a_cons (x_c (.int 4)) (a_cons (x_var 0) (a_cons (x_var 1) (a_cons (x_c (.int 0)) a_nil))))) (a_cons (x_c (.str "version")) a_nil)))))
  (s_ret (x_c (.bool false)))
  s_nx)
  (s_seq (s_setF 4 (x_call F__law_bent [] (a_cons (x_sl (x_var 3) (o_at (x_c (.int 3))) o_no) (a_cons (x_var 2) (a_cons (x_ix (x_tup (a_cons (x_neg (x_c (.int 1))) (a_cons (x_c (.bool true)) (a_cons (x_c .none) (a_cons (x_c (.str "0")) (a_cons (x_c (.bool false)) (a_cons (x_c .none) a_nil))))))) (x_bin p_mod (x_cb c_int (a_cons (x_ix (x_var 3) (x_c (.int 5))) a_nil)) (x_c (.int 6)))) a_nil)))))
  (s_seq (s_if (t_not (t_of (x_call F__law_same [] (a_cons (x_call F__law_ask [] (a_cons (x_c (.int 1)) (a_cons (x_var 0) (a_cons (x_var 4) (a_cons (x_c (.int 0)) a_nil))))) (a_cons (x_c (.str "bases")) a_nil)))))
  (s_ret (x_c (.bool false)))
  s_nx)
  (s_seq (s_if (t_or (t_not (t_of (x_call F__law_same [] (a_cons (x_call F__law_ask [] (a_cons (x_c (.int 1)) (a_cons (x_var 0) (a_cons (x_var 2) (a_cons (x_c (.int 0)) a_nil))))) (a_cons (x_c .none) a_nil))))) (t_not (t_of (x_call F__law_same [] (a_cons (x_call F__law_ask [] (a_cons (x_c (.int 5)) (a_cons (x_var 0) (a_cons (x_var 1) (a_cons (x_c (.int 0)) a_nil))))) (a_cons (x_c .none) a_nil))))))
  (s_ret (x_c (.bool false)))
  s_nx)
  (s_seq (s_ret (x_call F__law_same [] (a_cons (x_call F__law_ask [] (a_cons (x_c (.int 6)) (a_cons (x_var 0) (a_cons (x_ix (x_tup (a_cons (x_c .none) (a_cons (x_c (.int 5)) (a_cons (x_tup (a_cons (x_c (.str "heights")) a_nil)) (a_cons (x_c (.bool true)) a_nil))))) (x_bin p_mod (x_cb c_int (a_cons (x_ix (x_var 3) (x_c (.int 4))) a_nil)) (x_c (.int 4)))) (a_cons (x_c (.int 0)) a_nil))))) (a_cons (x_c (.str "text")) a_nil))))
  s_nx)))))))))))
def F__law_refused : List PyData → Option Rs := runF 4 3 g__law_refused
def g_law : Fs :=
  (s_seq (s_setF 1 (x_call F__law_draw [] (a_cons (x_var 0) (a_cons (x_c (.int 0)) (a_cons (x_c (.int 4)) a_nil)))))
  (s_seq (s_setF 2 (x_ix (x_tup (a_cons (x_c (.int 3)) (a_cons (x_c (.int 4)) (a_cons (x_c (.int 5)) (a_cons (x_c (.int 6)) (a_cons (x_c (.int 7)) (a_cons (x_c (.int 0)) (a_cons (x_c (.int 1)) (a_cons (x_c (.int 2)) (a_cons (x_c (.int 9)) (a_cons (x_c (.int 5)) (a_cons (x_c (.int 6)) (a_cons (x_c (.int 4)) (a_cons (x_c (.int 8)) (a_cons (x_c (.int 24)) (a_cons (x_c (.int 7)) (a_cons (x_c (.int 40)) a_nil))))))))))))))))) (x_bin p_mod (x_cb c_int (a_cons (x_ix (x_var 1) (x_c (.int 0))) a_nil)) (x_c (.int 16)))))
  (s_seq (s_setF 3 (x_call F__law_tree [] (a_cons (x_call F__law_draw [] (a_cons (x_var 0) (a_cons (x_c (.int 1)) (a_cons (x_c (.int 41)) a_nil)))) (a_cons (x_var 2) a_nil))))
  (s_seq (s_setF 4 (x_call F__law_heights [] (a_cons (x_call F__law_draw [] (a_cons (x_var 0) (a_cons (x_c (.int 2)) (a_cons (x_c (.int 41)) a_nil)))) (a_cons (x_var 2) a_nil))))
  (s_seq (s_setF 5 (x_call F__law_bases [] (a_cons (x_call F__law_draw [] (a_cons (x_var 0) (a_cons (x_c (.int 3)) (a_cons (x_c (.int 41)) a_nil)))) (a_cons (x_var 3) (a_cons (x_var 4) a_nil)))))
  (s_seq (s_if (t_or (t_not (t_of (x_call F__law_looks [] (a_cons (x_var 3) (a_cons (x_var 4) (a_cons (x_ix (x_var 1) (x_c (.int 1))) a_nil)))))) (t_not (t_of (x_call F__law_turned [] (a_cons (x_var 3) (a_cons (x_var 5) a_nil))))))
  (s_ret (x_c (.bool false)))
  s_nx)
  (s_seq (s_if (t_not (t_of (x_call F__law_lines [] (a_cons (x_var 3) (a_cons (x_var 4) (a_cons (x_call F__law_draw [] (a_cons (x_var 0) (a_cons (x_c (.int 4)) (a_cons (x_c (.int 4)) a_nil)))) a_nil))))))
  (s_ret (x_c (.bool false)))
  s_nx)
  (s_seq (s_ret (x_call F__law_refused [] (a_cons (x_var 3) (a_cons (x_var 4) (a_cons (x_var 5) (a_cons (x_call F__law_draw [] (a_cons (x_var 0) (a_cons (x_c (.int 5)) (a_cons (x_c (.int 8)) a_nil)))) a_nil))))))
  s_nx))))))))
def F_law : List PyData → Option Rs := runF 1 5 g_law
end
end K12
namespace K12
open PySem PySem.Spec PyProof.Rows L2 DL
def top (i : Nat) : Stmt := PySem.Challenge.pw_sincemarks_k12_heights_records_open.main.body.getD i (.Pass ⟨0, 0, 0, 0⟩)
abbrev s_is_integer : Stmt := top 8
abbrev s_is_number : Stmt := top 9
abbrev s_is_natural : Stmt := top 10
abbrev s_check_version : Stmt := top 12
abbrev s_many_of : Stmt := top 14
abbrev s__upward : Stmt := top 15
abbrev s_is_elder : Stmt := top 16
abbrev s_is_bases : Stmt := top 18
abbrev s_up_to : Stmt := top 20
abbrev s_need_version : Stmt := top 21
abbrev s_at_or_below : Stmt := top 22
abbrev s_falling : Stmt := top 23
abbrev s_ask_bases : Stmt := top 25
abbrev s_ask_version : Stmt := top 26
abbrev s_branch_of : Stmt := top 28
abbrev s_reads_by : Stmt := top 30
abbrev s_holders_of : Stmt := top 31
abbrev s_is_heights : Stmt := top 33
abbrev s_bases_by : Stmt := top 34
abbrev s_heights_of : Stmt := top 35
abbrev s_records_of : Stmt := top 36
abbrev s_open_at : Stmt := top 37
abbrev s_open_row : Stmt := top 38
abbrev s__number_in : Stmt := top 40
abbrev s__words_of : Stmt := top 41
abbrev s_heights_line : Stmt := top 42
abbrev s_read_heights : Stmt := top 43
abbrev s__law_draw : Stmt := top 45
abbrev s__law_same : Stmt := top 46
abbrev s__law_tree : Stmt := top 47
abbrev s__law_heights : Stmt := top 48
abbrev s__law_bases : Stmt := top 49
abbrev s__law_base : Stmt := top 50
abbrev s__law_open : Stmt := top 51
abbrev s__law_some : Stmt := top 52
abbrev s__law_looks : Stmt := top 53
abbrev s__law_nested : Stmt := top 54
abbrev s__law_turned : Stmt := top 55
abbrev s__law_field : Stmt := top 56
abbrev s__law_lines : Stmt := top 57
abbrev s__law_bent : Stmt := top 58
abbrev s__law_ask : Stmt := top 59
abbrev s__law_refused : Stmt := top 60
abbrev s_law : Stmt := top 61
def d_is_integer : He.DefD := ⟨("is_integer", none), "is_integer", "is_integer", defArgs s_is_integer, defBody s_is_integer, defScope s_is_integer, [], []⟩
def d_is_number : He.DefD := ⟨("is_number", none), "is_number", "is_number", defArgs s_is_number, defBody s_is_number, defScope s_is_number, [], []⟩
def d_is_natural : He.DefD := ⟨("is_natural", none), "is_natural", "is_natural", defArgs s_is_natural, defBody s_is_natural, defScope s_is_natural, [], []⟩
def d_check_version : He.DefD := ⟨("check_version", none), "check_version", "check_version", defArgs s_check_version, defBody s_check_version, defScope s_check_version, [.int 0], []⟩
def d_many_of : He.DefD := ⟨("many_of", none), "many_of", "many_of", defArgs s_many_of, defBody s_many_of, defScope s_many_of, [], []⟩
def d__upward : He.DefD := ⟨("_upward", none), "_upward", "_upward", defArgs s__upward, defBody s__upward, defScope s__upward, [], []⟩
def d_is_elder : He.DefD := ⟨("is_elder", none), "is_elder", "is_elder", defArgs s_is_elder, defBody s_is_elder, defScope s_is_elder, [], []⟩
def d_is_bases : He.DefD := ⟨("is_bases", none), "is_bases", "is_bases", defArgs s_is_bases, defBody s_is_bases, defScope s_is_bases, [], []⟩
def d_up_to : He.DefD := ⟨("up_to", none), "up_to", "up_to", defArgs s_up_to, defBody s_up_to, defScope s_up_to, [], []⟩
def d_need_version : He.DefD := ⟨("need_version", none), "need_version", "need_version", defArgs s_need_version, defBody s_need_version, defScope s_need_version, [], []⟩
def d_at_or_below : He.DefD := ⟨("at_or_below", none), "at_or_below", "at_or_below", defArgs s_at_or_below, defBody s_at_or_below, defScope s_at_or_below, [], []⟩
def d_falling : He.DefD := ⟨("falling", none), "falling", "falling", defArgs s_falling, defBody s_falling, defScope s_falling, [], []⟩
def d_ask_bases : He.DefD := ⟨("ask_bases", none), "ask_bases", "ask_bases", defArgs s_ask_bases, defBody s_ask_bases, defScope s_ask_bases, [], []⟩
def d_ask_version : He.DefD := ⟨("ask_version", none), "ask_version", "ask_version", defArgs s_ask_version, defBody s_ask_version, defScope s_ask_version, [], []⟩
def d_branch_of : He.DefD := ⟨("branch_of", none), "branch_of", "branch_of", defArgs s_branch_of, defBody s_branch_of, defScope s_branch_of, [], []⟩
def d_reads_by : He.DefD := ⟨("reads_by", none), "reads_by", "reads_by", defArgs s_reads_by, defBody s_reads_by, defScope s_reads_by, [], []⟩
def d_holders_of : He.DefD := ⟨("holders_of", none), "holders_of", "holders_of", defArgs s_holders_of, defBody s_holders_of, defScope s_holders_of, [], []⟩
def d_is_heights : He.DefD := ⟨("is_heights", none), "is_heights", "is_heights", defArgs s_is_heights, defBody s_is_heights, defScope s_is_heights, [], []⟩
def d_bases_by : He.DefD := ⟨("bases_by", none), "bases_by", "bases_by", defArgs s_bases_by, defBody s_bases_by, defScope s_bases_by, [], []⟩
def d_heights_of : He.DefD := ⟨("heights_of", none), "heights_of", "heights_of", defArgs s_heights_of, defBody s_heights_of, defScope s_heights_of, [], []⟩
def d_records_of : He.DefD := ⟨("records_of", none), "records_of", "records_of", defArgs s_records_of, defBody s_records_of, defScope s_records_of, [], []⟩
def d_open_at : He.DefD := ⟨("open_at", none), "open_at", "open_at", defArgs s_open_at, defBody s_open_at, defScope s_open_at, [], []⟩
def d_open_row : He.DefD := ⟨("open_row", none), "open_row", "open_row", defArgs s_open_row, defBody s_open_row, defScope s_open_row, [], []⟩
def d__number_in : He.DefD := ⟨("_number_in", none), "_number_in", "_number_in", defArgs s__number_in, defBody s__number_in, defScope s__number_in, [], []⟩
def d__words_of : He.DefD := ⟨("_words_of", none), "_words_of", "_words_of", defArgs s__words_of, defBody s__words_of, defScope s__words_of, [], []⟩
def d_heights_line : He.DefD := ⟨("heights_line", none), "heights_line", "heights_line", defArgs s_heights_line, defBody s_heights_line, defScope s_heights_line, [], []⟩
def d_read_heights : He.DefD := ⟨("read_heights", none), "read_heights", "read_heights", defArgs s_read_heights, defBody s_read_heights, defScope s_read_heights, [], []⟩
def d__law_draw : He.DefD := ⟨("_law_draw", none), "_law_draw", "_law_draw", defArgs s__law_draw, defBody s__law_draw, defScope s__law_draw, [], []⟩
def d__law_same : He.DefD := ⟨("_law_same", none), "_law_same", "_law_same", defArgs s__law_same, defBody s__law_same, defScope s__law_same, [], []⟩
def d__law_tree : He.DefD := ⟨("_law_tree", none), "_law_tree", "_law_tree", defArgs s__law_tree, defBody s__law_tree, defScope s__law_tree, [], []⟩
def d__law_heights : He.DefD := ⟨("_law_heights", none), "_law_heights", "_law_heights", defArgs s__law_heights, defBody s__law_heights, defScope s__law_heights, [], []⟩
def d__law_bases : He.DefD := ⟨("_law_bases", none), "_law_bases", "_law_bases", defArgs s__law_bases, defBody s__law_bases, defScope s__law_bases, [], []⟩
def d__law_base : He.DefD := ⟨("_law_base", none), "_law_base", "_law_base", defArgs s__law_base, defBody s__law_base, defScope s__law_base, [], []⟩
def d__law_open : He.DefD := ⟨("_law_open", none), "_law_open", "_law_open", defArgs s__law_open, defBody s__law_open, defScope s__law_open, [], []⟩
def d__law_some : He.DefD := ⟨("_law_some", none), "_law_some", "_law_some", defArgs s__law_some, defBody s__law_some, defScope s__law_some, [], []⟩
def d__law_looks : He.DefD := ⟨("_law_looks", none), "_law_looks", "_law_looks", defArgs s__law_looks, defBody s__law_looks, defScope s__law_looks, [], []⟩
def d__law_nested : He.DefD := ⟨("_law_nested", none), "_law_nested", "_law_nested", defArgs s__law_nested, defBody s__law_nested, defScope s__law_nested, [], []⟩
def d__law_turned : He.DefD := ⟨("_law_turned", none), "_law_turned", "_law_turned", defArgs s__law_turned, defBody s__law_turned, defScope s__law_turned, [], []⟩
def d__law_field : He.DefD := ⟨("_law_field", none), "_law_field", "_law_field", defArgs s__law_field, defBody s__law_field, defScope s__law_field, [], []⟩
def d__law_lines : He.DefD := ⟨("_law_lines", none), "_law_lines", "_law_lines", defArgs s__law_lines, defBody s__law_lines, defScope s__law_lines, [], []⟩
def d__law_bent : He.DefD := ⟨("_law_bent", none), "_law_bent", "_law_bent", defArgs s__law_bent, defBody s__law_bent, defScope s__law_bent, [], []⟩
def d__law_ask : He.DefD := ⟨("_law_ask", none), "_law_ask", "_law_ask", defArgs s__law_ask, defBody s__law_ask, defScope s__law_ask, [], []⟩
def d__law_refused : He.DefD := ⟨("_law_refused", none), "_law_refused", "_law_refused", defArgs s__law_refused, defBody s__law_refused, defScope s__law_refused, [], []⟩
def d_law : He.DefD := ⟨("law", none), "law", "law", defArgs s_law, defBody s_law, defScope s_law, [], []⟩
def ex : PySem.W.Frag → Bool := fun K => exB xcs xys xfs xtab K && blB [] K
abbrev s_i_NotUsable : Stmt := inCls (top 4) 0
def d_i_NotUsable : He.DefD := ⟨("NotUsable", some "__init__"), "__init__", "NotUsable.__init__", defArgs s_i_NotUsable, defBody s_i_NotUsable, defScope s_i_NotUsable, [], []⟩
abbrev s_i_Faulty : Stmt := inCls (top 5) 0
def d_i_Faulty : He.DefD := ⟨("Faulty", some "__init__"), "__init__", "Faulty.__init__", defArgs s_i_Faulty, defBody s_i_Faulty, defScope s_i_Faulty, [], []⟩
abbrev s_i_InvalidText : Stmt := inCls (top 6) 0
def d_i_InvalidText : He.DefD := ⟨("InvalidText", some "__init__"), "__init__", "InvalidText.__init__", defArgs s_i_InvalidText, defBody s_i_InvalidText, defScope s_i_InvalidText, [], []⟩
def fn : List He.DefD := [d_is_integer, d_is_number, d_is_natural, d_check_version, d_many_of, d__upward, d_is_elder, d_is_bases, d_up_to, d_need_version, d_at_or_below, d_falling, d_ask_bases, d_ask_version, d_branch_of, d_reads_by, d_holders_of, d_is_heights, d_bases_by, d_heights_of, d_records_of, d_open_at, d_open_row, d__number_in, d__words_of, d_heights_line, d_read_heights, d__law_draw, d__law_same, d__law_tree, d__law_heights, d__law_bases, d__law_base, d__law_open, d__law_some, d__law_looks, d__law_nested, d__law_turned, d__law_field, d__law_lines, d__law_bent, d__law_ask, d__law_refused, d_law, d_i_NotUsable, d_i_Faulty, d_i_InvalidText]
def fa : List He.Fa := [.glo "is_integer", .glo "is_number", .glo "is_natural", .glo "check_version", .glo "many_of", .glo "_upward", .glo "is_elder", .glo "is_bases", .glo "up_to", .glo "need_version", .glo "at_or_below", .glo "falling", .glo "ask_bases", .glo "ask_version", .glo "branch_of", .glo "reads_by", .glo "holders_of", .glo "is_heights", .glo "bases_by", .glo "heights_of", .glo "records_of", .glo "open_at", .glo "open_row", .glo "_number_in", .glo "_words_of", .glo "heights_line", .glo "read_heights", .glo "_law_draw", .glo "_law_same", .glo "_law_tree", .glo "_law_heights", .glo "_law_bases", .glo "_law_base", .glo "_law_open", .glo "_law_some", .glo "_law_looks", .glo "_law_nested", .glo "_law_turned", .glo "_law_field", .glo "_law_lines", .glo "_law_bent", .glo "_law_ask", .glo "_law_refused", .glo "law", .free "ValueError", .free "abs", .free "all", .free "bool", .free "enumerate", .free "int", .free "isinstance", .free "len", .free "list", .free "max", .free "min", .free "range", .free "sorted", .free "str", .free "tuple", .free "zip"]
def names0 : List Str := ["BookError", "Faulty", "InvalidText", "MarkError", "NotUsable", "TextError", "_law_ask", "_law_base", "_law_bases", "_law_bent", "_law_draw", "_law_field", "_law_heights", "_law_lines", "_law_looks", "_law_nested", "_law_open", "_law_refused", "_law_same", "_law_some", "_law_tree", "_law_turned", "_number_in", "_upward", "_words_of", "ask_bases", "ask_version", "at_or_below", "bases_by", "branch_of"]
def names1 : List Str := ["check_version", "falling", "heights_line", "heights_of", "holders_of", "is_bases", "is_elder", "is_heights", "is_integer", "is_natural", "is_number", "many_of", "need_version", "open_at", "open_row", "read_heights", "reads_by", "records_of", "up_to"]
def names : List Str := names0 ++ names1
abbrev R : PySem.W.OpenRow := PySem.W.OpenLaw.row PySem.Challenge.rw_sincemarks_k12_heights_records_open
abbrev hk : PySem.W.Hook := hookX 4 fa fn ex
def ob (s : PySem.W.SharedT) : He.AlD × Bool := obsXG 4 fa fn ex (HandSHeadRun.getT s)
theorem ob_eq (s : PySem.W.SharedT) : ob s = hk.obs s.abs := obsXG_eq (HandSHeadRun.getT_eq s)
theorem run (w : World) : HandSHeadRun.RunEq R (PySem.W.view R.prog [61]) hk ob 6000 names w := by
  intro os
  kernel_rfl
end K12
namespace K12
open PySem PySem.Spec PyProof.Rows L2 DL
structure Bi (mg : Str → Option Value) : Prop where
  abs : mg ("abs" : Str) = none
  all : mg ("all" : Str) = none
  bool : mg ("bool" : Str) = none
  enumerate : mg ("enumerate" : Str) = none
  int : mg ("int" : Str) = none
  isinstance : mg ("isinstance" : Str) = none
  len : mg ("len" : Str) = none
  list : mg ("list" : Str) = none
  max : mg ("max" : Str) = none
  min : mg ("min" : Str) = none
  range : mg ("range" : Str) = none
  sorted : mg ("sorted" : Str) = none
  str : mg ("str" : Str) = none
  tuple : mg ("tuple" : Str) = none
  zip : mg ("zip" : Str) = none
theorem sc_is_integer : FnScope ["thing"] ["thing"] (defScope s_is_integer) := ⟨rfl, rfl, rfl, by decide +kernel, rfl, by decide +kernel, by decide +kernel⟩
theorem sc_many_of : FnScope ["history"] ["history"] (defScope s_many_of) := ⟨rfl, rfl, rfl, by decide +kernel, rfl, by decide +kernel, by decide +kernel⟩
theorem sc__upward : FnScope ["history", "version", "found"] ["history", "version"] (defScope s__upward) := ⟨rfl, rfl, rfl, by decide +kernel, rfl, by decide +kernel, by decide +kernel⟩
theorem sc_at_or_below : FnScope ["history", "version", "other", "step"] ["history", "version", "other"] (defScope s_at_or_below) := ⟨rfl, rfl, rfl, by decide +kernel, rfl, by decide +kernel, by decide +kernel⟩
theorem sc_falling : FnScope ["members"] ["members"] (defScope s_falling) := ⟨rfl, rfl, rfl, by decide +kernel, rfl, by decide +kernel, by decide +kernel⟩
theorem sc__number_in : FnScope ["word"] ["word"] (defScope s__number_in) := ⟨rfl, rfl, rfl, by decide +kernel, rfl, by decide +kernel, by decide +kernel⟩
theorem sc__law_draw : FnScope ["_law_script", "_law_at", "_law_many", "_law_cell", "_law_row", "_law_mixed", "_law_k"] ["_law_script", "_law_at", "_law_many"] (defScope s__law_draw) := ⟨rfl, rfl, rfl, by decide +kernel, rfl, by decide +kernel, by decide +kernel⟩
theorem sc__law_tree : FnScope ["_law_row", "_law_many", "_law_manner", "_law_parents", "_law_v", "_law_pick"] ["_law_row", "_law_many"] (defScope s__law_tree) := ⟨rfl, rfl, rfl, by decide +kernel, rfl, by decide +kernel, by decide +kernel⟩
theorem sc__law_heights : FnScope ["_law_row", "_law_many", "_law_manner", "_law_heights_here", "_law_v", "_law_pick"] ["_law_row", "_law_many"] (defScope s__law_heights) := ⟨rfl, rfl, rfl, by decide +kernel, rfl, by decide +kernel, by decide +kernel⟩
theorem sc__law_base : FnScope ["_law_tree_here", "_law_heights_here", "_law_version", "_law_up"] ["_law_tree_here", "_law_heights_here", "_law_version"] (defScope s__law_base) := ⟨rfl, rfl, rfl, by decide +kernel, rfl, by decide +kernel, by decide +kernel⟩
theorem sc__law_open : FnScope ["_law_tree_here", "_law_heights_here", "_law_version", "_law_found", "_law_z", "_law_at", "_law_clear"] ["_law_tree_here", "_law_heights_here", "_law_version"] (defScope s__law_open) := ⟨rfl, rfl, rfl, by decide +kernel, rfl, by decide +kernel, by decide +kernel⟩
theorem sc__law_some : FnScope ["_law_many", "_law_pick"] ["_law_many", "_law_pick"] (defScope s__law_some) := ⟨rfl, rfl, rfl, by decide +kernel, rfl, by decide +kernel, by decide +kernel⟩
theorem sc__law_nested : FnScope ["_law_tree_here", "_law_bases_here", "_law_z", "_law_at"] ["_law_tree_here", "_law_bases_here"] (defScope s__law_nested) := ⟨rfl, rfl, rfl, by decide +kernel, rfl, by decide +kernel, by decide +kernel⟩
theorem sc__law_bent : FnScope ["_law_row", "_law_good", "_law_odd", "_law_kind", "_law_place"] ["_law_row", "_law_good", "_law_odd"] (defScope s__law_bent) := ⟨rfl, rfl, rfl, by decide +kernel, rfl, by decide +kernel, by decide +kernel⟩
theorem sc_is_number : FnScope ["thing"] ["thing"] (defScope s_is_number) := ⟨rfl, rfl, rfl, by decide +kernel, rfl, by decide +kernel, by decide +kernel⟩
theorem sc_is_natural : FnScope ["thing"] ["thing"] (defScope s_is_natural) := ⟨rfl, rfl, rfl, by decide +kernel, rfl, by decide +kernel, by decide +kernel⟩
theorem sc__law_bases : FnScope ["_law_row", "_law_tree_here", "_law_heights_here", "_law_bases_here", "_law_v", "_law_up", "_law_k"] ["_law_row", "_law_tree_here", "_law_heights_here"] (defScope s__law_bases) := ⟨rfl, rfl, rfl, by decide +kernel, rfl, by decide +kernel, by decide +kernel⟩
theorem sc_check_version : FnScope ["history", "name", "thing", "least"] ["history", "name", "thing", "least"] (defScope s_check_version) := ⟨rfl, rfl, rfl, by decide +kernel, rfl, by decide +kernel, by decide +kernel⟩
theorem sc_up_to : FnScope ["thing", "greatest"] ["thing", "greatest"] (defScope s_up_to) := ⟨rfl, rfl, rfl, by decide +kernel, rfl, by decide +kernel, by decide +kernel⟩
theorem sc_ask_version : FnScope ["history", "word", "version", "least"] ["history", "word", "version", "least"] (defScope s_ask_version) := ⟨rfl, rfl, rfl, by decide +kernel, rfl, by decide +kernel, by decide +kernel⟩
theorem sc_is_heights : FnScope ["history", "thing", "height"] ["history", "thing"] (defScope s_is_heights) := ⟨rfl, rfl, rfl, by decide +kernel, rfl, by decide +kernel, by decide +kernel⟩
theorem sc__words_of : FnScope ["text", "name", "words"] ["text", "name"] (defScope s__words_of) := ⟨rfl, rfl, rfl, by decide +kernel, rfl, by decide +kernel, by decide +kernel⟩
theorem sc_is_elder : FnScope ["history", "one", "other"] ["history", "one", "other"] (defScope s_is_elder) := ⟨rfl, rfl, rfl, by decide +kernel, rfl, by decide +kernel, by decide +kernel⟩
theorem sc_need_version : FnScope ["history", "version"] ["history", "version"] (defScope s_need_version) := ⟨rfl, rfl, rfl, by decide +kernel, rfl, by decide +kernel, by decide +kernel⟩
theorem sc_branch_of : FnScope ["history", "version", "inside", "k", "parent", "at", "is_in"] ["history", "version"] (defScope s_branch_of) := ⟨rfl, rfl, rfl, by decide +kernel, rfl, by decide +kernel, by decide +kernel⟩
theorem sc_bases_by : FnScope ["history", "heights", "bases", "height", "parent", "elder"] ["history", "heights"] (defScope s_bases_by) := ⟨rfl, rfl, rfl, by decide +kernel, rfl, by decide +kernel, by decide +kernel⟩
theorem sc_heights_line : FnScope ["history", "heights", "height"] ["history", "heights"] (defScope s_heights_line) := ⟨rfl, rfl, rfl, by decide +kernel, rfl, by decide +kernel, by decide +kernel⟩
theorem sc_read_heights : FnScope ["history", "text", "words", "heights", "k", "word", "height"] ["history", "text"] (defScope s_read_heights) := ⟨rfl, rfl, rfl, by decide +kernel, rfl, by decide +kernel, by decide +kernel⟩
theorem sc_is_bases : FnScope ["history", "thing", "at", "base"] ["history", "thing"] (defScope s_is_bases) := ⟨rfl, rfl, rfl, by decide +kernel, rfl, by decide +kernel, by decide +kernel⟩
theorem sc_records_of : FnScope ["history", "heights", "version", "bases", "records", "step"] ["history", "heights", "version"] (defScope s_records_of) := ⟨rfl, rfl, rfl, by decide +kernel, rfl, by decide +kernel, by decide +kernel⟩
theorem sc_open_at : FnScope ["history", "heights", "version", "bases", "found", "other"] ["history", "heights", "version"] (defScope s_open_at) := ⟨rfl, rfl, rfl, by decide +kernel, rfl, by decide +kernel, by decide +kernel⟩
theorem sc_ask_bases : FnScope ["history", "bases"] ["history", "bases"] (defScope s_ask_bases) := ⟨rfl, rfl, rfl, by decide +kernel, rfl, by decide +kernel, by decide +kernel⟩
theorem sc_open_row : FnScope ["history", "heights", "version", "other"] ["history", "heights", "version"] (defScope s_open_row) := ⟨rfl, rfl, rfl, by decide +kernel, rfl, by decide +kernel, by decide +kernel⟩
theorem sc_reads_by : FnScope ["history", "bases", "counts", "base"] ["history", "bases"] (defScope s_reads_by) := ⟨rfl, rfl, rfl, by decide +kernel, rfl, by decide +kernel, by decide +kernel⟩
theorem sc_holders_of : FnScope ["history", "bases", "change", "version"] ["history", "bases", "change"] (defScope s_holders_of) := ⟨rfl, rfl, rfl, by decide +kernel, rfl, by decide +kernel, by decide +kernel⟩
theorem sc_heights_of : FnScope ["history", "bases", "reads", "greatest", "many"] ["history", "bases"] (defScope s_heights_of) := ⟨rfl, rfl, rfl, by decide +kernel, rfl, by decide +kernel, by decide +kernel⟩
theorem sc__law_same : FnScope ["_law_one", "_law_other", "_law_k"] ["_law_one", "_law_other"] (defScope s__law_same) := ⟨rfl, rfl, rfl, by decide +kernel, rfl, by decide +kernel, by decide +kernel⟩
theorem sc__law_looks : FnScope ["_law_tree_here", "_law_heights_here", "_law_pick", "_law_many", "_law_bases_here", "_law_v", "_law_chain", "_law_at", "_law_found", "_law_falling", "_law_z"] ["_law_tree_here", "_law_heights_here", "_law_pick"] (defScope s__law_looks) := ⟨rfl, rfl, rfl, by decide +kernel, rfl, by decide +kernel, by decide +kernel⟩
theorem sc__law_turned : FnScope ["_law_tree_here", "_law_bases_here", "_law_reads", "_law_v", "_law_due", "_law_told", "_law_again", "_law_mine"] ["_law_tree_here", "_law_bases_here"] (defScope s__law_turned) := ⟨rfl, rfl, rfl, by decide +kernel, rfl, by decide +kernel, by decide +kernel⟩
theorem sc__law_field : FnScope ["_law_tree_here", "_law_text", "e"] ["_law_tree_here", "_law_text"] (defScope s__law_field) := ⟨rfl, rfl, rfl, by decide +kernel, rfl, by decide +kernel, by decide +kernel⟩
theorem sc__law_ask : FnScope ["_law_number", "_law_tree_here", "_law_thing", "_law_version", "e"] ["_law_number", "_law_tree_here", "_law_thing", "_law_version"] (defScope s__law_ask) := ⟨rfl, rfl, rfl, by decide +kernel, rfl, by decide +kernel, by decide +kernel⟩
theorem sc__law_lines : FnScope ["_law_tree_here", "_law_heights_here", "_law_row", "_law_words", "_law_line", "_law_odd", "_law_place", "_law_spoilt", "_law_short", "_law_height"] ["_law_tree_here", "_law_heights_here", "_law_row"] (defScope s__law_lines) := ⟨rfl, rfl, rfl, by decide +kernel, rfl, by decide +kernel, by decide +kernel⟩
theorem sc__law_refused : FnScope ["_law_tree_here", "_law_heights_here", "_law_bases_here", "_law_row", "_law_bad", "_law_worse", "_law_number"] ["_law_tree_here", "_law_heights_here", "_law_bases_here", "_law_row"] (defScope s__law_refused) := ⟨rfl, rfl, rfl, by decide +kernel, rfl, by decide +kernel, by decide +kernel⟩
theorem sc_law : FnScope ["_law_script", "_law_first", "_law_many", "_law_tree_here", "_law_heights_here", "_law_bases_here"] ["_law_script"] (defScope s_law) := ⟨rfl, rfl, rfl, by decide +kernel, rfl, by decide +kernel, by decide +kernel⟩
theorem sc_i_NotUsable : FnScope ["self", "word", "at"] ["self", "word", "at"] (defScope s_i_NotUsable) := ⟨rfl, rfl, rfl, by decide +kernel, rfl, by decide +kernel, by decide +kernel⟩
theorem sc_i_InvalidText : FnScope ["self", "line", "field"] ["self", "line", "field"] (defScope s_i_InvalidText) := ⟨rfl, rfl, rfl, by decide +kernel, rfl, by decide +kernel, by decide +kernel⟩
section
variable {P : Program} {w : World} {K : PySem.W.Frag} {mg : Str → Option Value} {base : Heap} {f : Addr} {fd : FuncData} {dvs : List V} {kws : List (Str × V)}
theorem ok_is_integer (B : Bi mg) (F : FunD K "is_integer" "is_integer" (defArgs s_is_integer) (defBody s_is_integer) (defScope s_is_integer) dvs kws f fd) : FnOk P w K mg base CX0 1 f fd ["thing"] (spD K 1 F_is_integer) :=
  fnD F sc_is_integer rfl rfl fun cdv A outer s H E hr => (ssd_one (sd_ret (ed_and (ed_isi .int (ed_var 0) B.isinstance B.int) (ed_one (ed_not (ed_isi .bool (ed_var 0) B.isinstance B.bool))))))
theorem ok_many_of (B : Bi mg) (F : FunD K "many_of" "many_of" (defArgs s_many_of) (defBody s_many_of) (defScope s_many_of) dvs kws f fd) : FnOk P w K mg base CX0 1 f fd ["history"] (spD K 1 F_many_of) :=
  fnD F sc_many_of rfl rfl fun cdv A outer s H E hr => (ssd_one (sd_ret (ed_cb vc_len call_len_seq B.len (ad_cons (ed_var 0) ad_nil))))
theorem ok__upward (F : FunD K "_upward" "_upward" (defArgs s__upward) (defBody s__upward) (defScope s__upward) dvs kws f fd) : FnOk P w K mg base CX0 1 f fd ["history", "version"] (spD K 2 F__upward) :=
  fnD F sc__upward rfl rfl fun cdv A outer s H E hr => (ssd_cons (sd_set 2 sc__upward.nd (ed_lst ad_nil))
  (ssd_cons (sd_while (fuI 1) PassesOwn.never (td_cmp vq_gt (oq_gt hr.units) (nomark _) (ed_var 1) ed_int)
  (ssd_cons (sd_setF 1 sc__upward.nd (ed_ix (ed_var 0) (ed_op vb_sub op_sub (ed_var 1) ed_int)))
  (ssd_cons (sd_expr (ed_app 2 (ed_var 1)))
  ssd_nil)))
  (ssd_cons (sd_ret (ed_var 2))
  ssd_nil)))
theorem ok_at_or_below (F : FunD K "at_or_below" "at_or_below" (defArgs s_at_or_below) (defBody s_at_or_below) (defScope s_at_or_below) dvs kws f fd) : FnOk P w K mg base CX0 1 f fd ["history", "version", "other"] (spD K 3 F_at_or_below) :=
  fnD F sc_at_or_below rfl rfl fun cdv A outer s H E hr => (ssd_cons (sd_setF 3 sc_at_or_below.nd (ed_var 2))
  (ssd_cons (sd_while (fuI 3) PassesOwn.never (td_cmp vq_gt (oq_gt hr.units) (nomark _) (ed_var 3) (ed_var 1))
  (ssd_one (sd_setF 3 sc_at_or_below.nd (ed_ix (ed_var 0) (ed_op vb_sub op_sub (ed_var 3) ed_int)))))
  (ssd_cons (sd_ret (ed_cmp vb_eq (op_eqD hr.units) (nomark _) (ed_var 3) (ed_var 1)))
  ssd_nil)))
theorem ok_falling (B : Bi mg) (F : FunD K "falling" "falling" (defArgs s_falling) (defBody s_falling) (defScope s_falling) dvs kws f fd) : FnOk P w K mg base CX0 1 f fd ["members"] (spD K 1 F_falling) :=
  fnD F sc_falling rfl rfl fun cdv A outer s H E hr => (ssd_one (sd_ret (ed_ct vc_tuple call_tuple_of B.tuple (ad_cons (ed_srt (ad_cons (ed_var 0) ad_nil) B.sorted) ad_nil))))
theorem ok__number_in (B : Bi mg) (F : FunD K "_number_in" "_number_in" (defArgs s__number_in) (defBody s__number_in) (defScope s__number_in) dvs kws f fd) : FnOk P w K mg base CX0 1 f fd ["word"] (spD K 1 F__number_in) :=
  fnD F sc__number_in rfl rfl fun cdv A outer s H E hr => (ssd_cons (sd_if (WD.td (wd_or (td_not (td_val (ed_isd (ed_var 0)))) (wd_or1 (td_cmp vb_eq (op_eqD hr.units) (nomark _) (ed_ixS (ed_var 0) ed_int) ed_str))))
  (ssd_one (sd_ret ed_int))
  ssd_nil)
  (ssd_cons (sd_ret (ed_ct vc_intS call_int_str B.int (ad_cons (ed_var 0) ad_nil)))
  ssd_nil))
theorem ok__law_draw (B : Bi mg) (F : FunD K "_law_draw" "_law_draw" (defArgs s__law_draw) (defBody s__law_draw) (defScope s__law_draw) dvs kws f fd) : FnOk P w K mg base CX0 1 f fd ["_law_script", "_law_at", "_law_many"] (spD K 3 F__law_draw) :=
  fnD F sc__law_draw rfl rfl fun cdv A outer s H E hr => (ssd_cons (sd_if (td_cmp vb_eq (op_eqD hr.units) (nomark _) (ed_cb vc_len call_len_seq B.len (ad_cons (ed_var 0) ad_nil)) ed_int)
  (ssd_one (sd_ret (ed_lc (own := [("_law_k", 6)]) rfl sc__law_draw.nd (id_rng1 (ed_var 2) B.range) (by first | decide | with_unfolding_all rfl) (by decide) (fun _ _ _ _ _ => (gd_name (i := 6) sc__law_draw.nd rfl (by first | exact .inl rfl | exact .inr rfl))) (fun _ _ _ _ _ => ptd_nil) (fun _ _ _ _ _ => ed_int))))
  ssd_nil)
  (ssd_cons (sd_setF 3 sc__law_draw.nd (ed_ct vc_int call_int1 B.int (ad_cons (ed_ix (ed_var 0) (ed_op vb_mod op_mod (ed_ct vc_int call_int1 B.int (ad_cons (ed_var 1) ad_nil)) (ed_cb vc_len call_len_seq B.len (ad_cons (ed_var 0) ad_nil)))) ad_nil)))
  (ssd_cons (sd_set 4 sc__law_draw.nd (ed_lst ad_nil))
  (ssd_cons (sd_if (WD.td (wd_and (td_cmp vq_lt (oq_lt hr.units) (nomark _) (ed_var 1) (ed_cb vc_len call_len_seq B.len (ad_cons (ed_var 0) ad_nil))) (wd_and1 (td_cmp vq_ge (oq_ge hr.units) (nomark _) (ed_cb vc_abs call_abs B.abs (ad_cons (ed_var 3) ad_nil)) (ed_op vb_pow op_pow ed_int ed_int)))))
  (ssd_cons (sd_for rfl PassesOwn.never (id_rng1 (ed_var 2) B.range) (gd_name (i := 6) sc__law_draw.nd rfl (by first | exact .inl rfl | exact .inr rfl))
  (ssd_cons (sd_expr (ed_app 4 (ed_op vb_mod op_mod (ed_ct vc_int call_int1 B.int (ad_cons (ed_var 3) ad_nil)) ed_int)))
  (ssd_cons (sd_setF 3 sc__law_draw.nd (ed_op vb_div op_fdivW (ed_var 3) ed_int))
  ssd_nil)))
  (ssd_cons (sd_ret (ed_var 4))
  ssd_nil))
  ssd_nil)
  (ssd_cons (sd_setF 5 sc__law_draw.nd (ed_op vb_mod op_mod (ed_ct vc_int call_int1 B.int (ad_cons (ed_op vb_add op_add3 (ed_op vb_add op_add3 (ed_op vb_add op_add3 (ed_op vb_mul op_mul2 (ed_var 3) ed_int) (ed_op vb_mul op_mul2 (ed_var 1) ed_int)) (ed_op vb_mul op_mul2 (ed_cb vc_len call_len_seq B.len (ad_cons (ed_var 0) ad_nil)) ed_int)) ed_int) ad_nil)) ed_int))
  (ssd_cons (sd_for rfl PassesOwn.never (id_rng1 (ed_var 2) B.range) (gd_name (i := 6) sc__law_draw.nd rfl (by first | exact .inl rfl | exact .inr rfl))
  (ssd_cons (sd_setF 5 sc__law_draw.nd (ed_op vb_mod op_mod (ed_ct vc_int call_int1 B.int (ad_cons (ed_op vb_add op_add3 (ed_op vb_mul op_mul2 (ed_var 5) ed_int) ed_int) ad_nil)) ed_int))
  (ssd_cons (sd_expr (ed_app 4 (ed_op vb_mod op_mod (ed_ct vc_int call_int1 B.int (ad_cons (ed_op vb_div op_fdivW (ed_var 5) ed_int) ad_nil)) ed_int)))
  ssd_nil)))
  (ssd_cons (sd_ret (ed_var 4))
  ssd_nil)))))))
theorem ok__law_tree (B : Bi mg) (F : FunD K "_law_tree" "_law_tree" (defArgs s__law_tree) (defBody s__law_tree) (defScope s__law_tree) dvs kws f fd) : FnOk P w K mg base CX0 1 f fd ["_law_row", "_law_many"] (spD K 2 F__law_tree) :=
  fnD F sc__law_tree rfl rfl fun cdv A outer s H E hr => (ssd_cons (sd_setF 2 sc__law_tree.nd (ed_op vb_mod op_mod (ed_ct vc_int call_int1 B.int (ad_cons (ed_ix (ed_var 0) ed_int) ad_nil)) ed_int))
  (ssd_cons (sd_set 3 sc__law_tree.nd (ed_lst ad_nil))
  (ssd_cons (sd_for rfl PassesOwn.never (id_rng1 (ed_var 1) B.range) (gd_name (i := 4) sc__law_tree.nd rfl (by first | exact .inl rfl | exact .inr rfl))
  (ssd_cons (sd_setF 5 sc__law_tree.nd (ed_ct vc_int call_int1 B.int (ad_cons (ed_ix (ed_var 0) (ed_op vb_add op_add3 ed_int (ed_var 4))) ad_nil)))
  (ssd_cons (sd_if (td_cmp vb_eq (op_eqD hr.units) (nomark _) (ed_var 2) ed_int)
  (ssd_one (sd_expr (ed_app 3 (ed_op vb_mod op_mod (ed_var 5) (ed_op vb_add op_add3 (ed_var 4) ed_int)))))
  (ssd_one (sd_if (td_cmp vb_eq (op_eqD hr.units) (nomark _) (ed_var 2) ed_int)
  (ssd_one (sd_expr (ed_app 3 (ed_op vb_sub op_sub (ed_var 4) (ed_op vb_mod op_mod (ed_var 5) (ed_cb vc_min2 (call_min2 rfl) B.min (ad_cons ed_int (ad_cons (ed_op vb_add op_add3 (ed_var 4) ed_int) ad_nil))))))))
  (ssd_one (sd_if (WD.td (wd_and (td_cmp vb_eq (op_eqD hr.units) (nomark _) (ed_var 2) ed_int) (wd_and1 (td_cmp vq_gt (oq_gt hr.units) (nomark _) (ed_op vb_mod op_mod (ed_var 5) ed_int) ed_int))))
  (ssd_one (sd_expr (ed_app 3 (ed_var 4))))
  (ssd_one (sd_if (td_cmp vb_eq (op_eqD hr.units) (nomark _) (ed_var 2) ed_int)
  (ssd_one (sd_expr (ed_app 3 (ed_op vb_mod op_mod (ed_ct vc_int call_int1 B.int (ad_cons (ed_op vb_div op_fdivW (ed_var 5) ed_int) ad_nil)) (ed_op vb_add op_add3 (ed_var 4) ed_int)))))
  (ssd_one (sd_expr (ed_app 3 (ed_op vb_mod op_mod (ed_var 5) (ed_cb vc_min2 (call_min2 rfl) B.min (ad_cons ed_int (ad_cons (ed_op vb_add op_add3 (ed_var 4) ed_int) ad_nil))))))))))))))
  ssd_nil)))
  (ssd_cons (sd_ret (ed_ct vc_tuple call_tuple_of B.tuple (ad_cons (ed_var 3) ad_nil)))
  ssd_nil))))
theorem ok__law_heights (B : Bi mg) (F : FunD K "_law_heights" "_law_heights" (defArgs s__law_heights) (defBody s__law_heights) (defScope s__law_heights) dvs kws f fd) : FnOk P w K mg base CX0 1 f fd ["_law_row", "_law_many"] (spD K 2 F__law_heights) :=
  fnD F sc__law_heights rfl rfl fun cdv A outer s H E hr => (ssd_cons (sd_setF 2 sc__law_heights.nd (ed_op vb_mod op_mod (ed_ct vc_int call_int1 B.int (ad_cons (ed_ix (ed_var 0) ed_int) ad_nil)) ed_int))
  (ssd_cons (sd_set 3 sc__law_heights.nd (ed_lst ad_nil))
  (ssd_cons (sd_for rfl PassesOwn.never (id_rng1 (ed_var 1) B.range) (gd_name (i := 4) sc__law_heights.nd rfl (by first | exact .inl rfl | exact .inr rfl))
  (ssd_cons (sd_setF 5 sc__law_heights.nd (ed_ct vc_int call_int1 B.int (ad_cons (ed_ix (ed_var 0) (ed_op vb_add op_add3 ed_int (ed_var 4))) ad_nil)))
  (ssd_cons (sd_if (td_cmp vq_lt (oq_lt hr.units) (nomark _) (ed_var 2) ed_int)
  (ssd_one (sd_expr (ed_app 3 (ed_op vb_add op_add3 ed_int (ed_op vb_mod op_mod (ed_var 5) ed_int)))))
  (ssd_one (sd_if (td_cmp vq_lt (oq_lt hr.units) (nomark _) (ed_var 2) ed_int)
  (ssd_one (sd_expr (ed_app 3 (ed_op vb_add op_add3 ed_int (ed_op vb_mod op_mod (ed_var 5) ed_int)))))
  (ssd_one (sd_if (td_cmp vb_eq (op_eqD hr.units) (nomark _) (ed_var 2) ed_int)
  (ssd_one (sd_expr (ed_app 3 (ed_op vb_add op_add3 ed_int (ed_op vb_mod op_mod (ed_var 5) ed_int)))))
  (ssd_one (sd_if (WD.td (wd_and (td_cmp vb_eq (op_eqD hr.units) (nomark _) (ed_var 2) ed_int) (wd_and1 (td_cmp vq_gt (oq_gt hr.units) (nomark _) (ed_op vb_mod op_mod (ed_var 5) ed_int) ed_int))))
  (ssd_one (sd_expr (ed_app 3 (ed_op vb_sub op_sub (ed_op vb_add op_add3 ed_int (ed_var 1)) (ed_var 4)))))
  (ssd_one (sd_if (td_cmp vb_eq (op_eqD hr.units) (nomark _) (ed_var 2) ed_int)
  (ssd_one (sd_expr (ed_app 3 (ed_op vb_add op_add3 ed_int (ed_op vb_mod op_mod (ed_var 5) ed_int)))))
  (ssd_one (sd_expr (ed_app 3 (ed_op vb_add op_add3 (ed_op vb_mul op_mul2 (ed_op vb_pow op_pow ed_int ed_int) (ed_op vb_add op_add3 ed_int (ed_op vb_mod op_mod (ed_var 5) ed_int))) (ed_op vb_mod op_mod (ed_ct vc_int call_int1 B.int (ad_cons (ed_op vb_div op_fdivW (ed_var 5) ed_int) ad_nil)) ed_int))))))))))))))
  ssd_nil)))
  (ssd_cons (sd_ret (ed_ct vc_tuple call_tuple_of B.tuple (ad_cons (ed_var 3) ad_nil)))
  ssd_nil))))
theorem ok__law_base (F : FunD K "_law_base" "_law_base" (defArgs s__law_base) (defBody s__law_base) (defScope s__law_base) dvs kws f fd) : FnOk P w K mg base CX0 1 f fd ["_law_tree_here", "_law_heights_here", "_law_version"] (spD K 3 F__law_base) :=
  fnD F sc__law_base rfl rfl fun cdv A outer s H E hr => (ssd_cons (sd_setF 3 sc__law_base.nd (ed_ix (ed_var 0) (ed_op vb_sub op_sub (ed_var 2) ed_int)))
  (ssd_cons (sd_while (fuI 3) PassesOwn.never (WD.td (wd_and (td_cmp vq_gt (oq_gt hr.units) (nomark _) (ed_var 3) ed_int) (wd_and1 (td_cmp vq_le (oq_le hr.units) (nomark _) (ed_ix (ed_var 1) (ed_op vb_sub op_sub (ed_var 3) ed_int)) (ed_ix (ed_var 1) (ed_op vb_sub op_sub (ed_var 2) ed_int))))))
  (ssd_one (sd_setF 3 sc__law_base.nd (ed_ix (ed_var 0) (ed_op vb_sub op_sub (ed_var 3) ed_int)))))
  (ssd_cons (sd_ret (ed_var 3))
  ssd_nil)))
theorem ok__law_open (B : Bi mg) (F : FunD K "_law_open" "_law_open" (defArgs s__law_open) (defBody s__law_open) (defScope s__law_open) dvs kws f fd) : FnOk P w K mg base CX0 1 f fd ["_law_tree_here", "_law_heights_here", "_law_version"] (spD K 3 F__law_open) :=
  fnD F sc__law_open rfl rfl fun cdv A outer s H E hr => (ssd_cons (sd_set 3 sc__law_open.nd (ed_lst ad_nil))
  (ssd_cons (sd_for rfl PassesOwn.never (id_rng2 (ed_var 2) (ed_op vb_add op_add3 (ed_cb vc_len call_len_seq B.len (ad_cons (ed_var 0) ad_nil)) ed_int) B.range) (gd_name (i := 4) sc__law_open.nd rfl (by first | exact .inl rfl | exact .inr rfl))
  (ssd_cons (sd_setF 5 sc__law_open.nd (ed_var 4))
  (ssd_cons (sd_setF 6 sc__law_open.nd ed_bl)
  (ssd_cons (sd_while (fun _ => 300) PassesOwn.never (WD.td (wd_and (td_cmp vq_gt (oq_gt hr.units) (nomark _) (ed_var 5) (ed_var 2)) (wd_and1 (td_val (ed_var 6)))))
  (ssd_cons (sd_setF 5 sc__law_open.nd (ed_ix (ed_var 0) (ed_op vb_sub op_sub (ed_var 5) ed_int)))
  (ssd_cons (sd_if (WD.td (wd_and (td_cmp vq_ge (oq_ge hr.units) (nomark _) (ed_var 5) (ed_var 2)) (wd_and1 (td_cmp vq_gt (oq_gt hr.units) (nomark _) (ed_ix (ed_var 1) (ed_op vb_sub op_sub (ed_var 5) ed_int)) (ed_ix (ed_var 1) (ed_op vb_sub op_sub (ed_var 4) ed_int))))))
  (ssd_one (sd_setF 6 sc__law_open.nd ed_bl))
  ssd_nil)
  ssd_nil)))
  (ssd_cons (sd_if (WD.td (wd_and (td_val (ed_var 6)) (wd_and1 (td_cmp vb_eq (op_eqD hr.units) (nomark _) (ed_var 5) (ed_var 2)))))
  (ssd_one (sd_expr (ed_app 3 (ed_var 4))))
  ssd_nil)
  ssd_nil)))))
  (ssd_cons (sd_ret (ed_ct vc_tuple call_tuple_of B.tuple (ad_cons (ed_var 3) ad_nil)))
  ssd_nil)))
theorem ok__law_some (B : Bi mg) (F : FunD K "_law_some" "_law_some" (defArgs s__law_some) (defBody s__law_some) (defScope s__law_some) dvs kws f fd) : FnOk P w K mg base CX0 1 f fd ["_law_many", "_law_pick"] (spD K 2 F__law_some) :=
  fnD F sc__law_some rfl rfl fun cdv A outer s H E hr => (ssd_cons (sd_if (td_cmp vq_lt (oq_lt hr.units) (nomark _) (ed_var 0) ed_int)
  (ssd_one (sd_ret (ed_lrg (rgd2 ed_int (ed_op vb_add op_add3 (ed_var 0) ed_int) B.range) rfl B.list)))
  ssd_nil)
  (ssd_cons (sd_ret (ed_lst (ad_cons ed_int (ad_cons (ed_var 0) (ad_cons (ed_op vb_add op_add3 ed_int (ed_op vb_mod op_mod (ed_ct vc_int call_int1 B.int (ad_cons (ed_var 1) ad_nil)) (ed_var 0))) (ad_cons (ed_op vb_add op_add3 ed_int (ed_op vb_mod op_mod (ed_ct vc_int call_int1 B.int (ad_cons (ed_op vb_div op_fdivW (ed_var 1) ed_int) ad_nil)) (ed_var 0))) (ad_cons (ed_op vb_add op_add3 ed_int (ed_op vb_mod op_mod (ed_ct vc_int call_int1 B.int (ad_cons (ed_op vb_div op_fdivW (ed_var 1) ed_int) ad_nil)) (ed_var 0))) ad_nil)))))))
  ssd_nil))
theorem ok__law_nested (B : Bi mg) (F : FunD K "_law_nested" "_law_nested" (defArgs s__law_nested) (defBody s__law_nested) (defScope s__law_nested) dvs kws f fd) : FnOk P w K mg base CX0 1 f fd ["_law_tree_here", "_law_bases_here"] (spD K 2 F__law_nested) :=
  fnD F sc__law_nested rfl rfl fun cdv A outer s H E hr => (ssd_cons (sd_for rfl PassesOwn.never (id_rng2 ed_int (ed_op vb_add op_add3 (ed_cb vc_len call_len_seq B.len (ad_cons (ed_var 0) ad_nil)) ed_int) B.range) (gd_name (i := 2) sc__law_nested.nd rfl (by first | exact .inl rfl | exact .inr rfl))
  (ssd_cons (sd_setF 3 sc__law_nested.nd (ed_ix (ed_var 0) (ed_op vb_sub op_sub (ed_var 2) ed_int)))
  (ssd_cons (sd_while (fuI 3) PassesOwn.never (td_cmp vq_gt (oq_gt hr.units) (nomark _) (ed_var 3) ed_int)
  (ssd_cons (sd_if (WD.td (wd_and (td_cmp vq_lt (oq_lt hr.units) (nomark _) (ed_ix (ed_var 1) (ed_op vb_sub op_sub (ed_var 2) ed_int)) (ed_var 3)) (wd_and1 (td_cmp vq_gt (oq_gt hr.units) (nomark _) (ed_ix (ed_var 1) (ed_op vb_sub op_sub (ed_var 2) ed_int)) (ed_ix (ed_var 1) (ed_op vb_sub op_sub (ed_var 3) ed_int))))))
  (ssd_one (sd_ret ed_bl))
  ssd_nil)
  (ssd_cons (sd_setF 3 sc__law_nested.nd (ed_ix (ed_var 0) (ed_op vb_sub op_sub (ed_var 3) ed_int)))
  ssd_nil)))
  ssd_nil)))
  (ssd_cons (sd_ret ed_bl)
  ssd_nil))
theorem ok__law_bent (B : Bi mg) (F : FunD K "_law_bent" "_law_bent" (defArgs s__law_bent) (defBody s__law_bent) (defScope s__law_bent) dvs kws f fd) : FnOk P w K mg base CX0 1 f fd ["_law_row", "_law_good", "_law_odd"] (spD K 3 F__law_bent) :=
  fnD F sc__law_bent rfl rfl fun cdv A outer s H E hr => (ssd_cons (sd_setF 3 sc__law_bent.nd (ed_op vb_mod op_mod (ed_ct vc_int call_int1 B.int (ad_cons (ed_ix (ed_var 0) ed_int) ad_nil)) ed_int))
  (ssd_cons (sd_if (td_cmp vb_eq (op_eqD hr.units) (nomark _) (ed_var 3) ed_int)
  (ssd_one (sd_ret (ed_frz (ed_ct vc_list call_list_of B.list (ad_cons (ed_var 1) ad_nil)))))
  ssd_nil)
  (ssd_cons (sd_if (td_cmp vb_eq (op_eqD hr.units) (nomark _) (ed_var 3) ed_int)
  (ssd_one (sd_ret (ed_op vb_add op_add3 (ed_var 1) (ed_tup (ad_cons (ed_op vb_sub op_sub ed_int (ed_ct vc_int call_int1 B.int (ad_cons (ed_and (ed_cmp vq_gt (oq_gt hr.units) (nomark _) (ed_cb vc_len call_len_seq B.len (ad_cons (ed_var 1) ad_nil)) ed_int) (ed_one (ed_cmp vb_eq (op_eqD hr.units) (nomark _) (ed_ix (ed_var 1) ed_int) ed_int))) ad_nil))) ad_nil)))))
  ssd_nil)
  (ssd_cons (sd_if (td_cmp vb_eq (op_eqD hr.units) (nomark _) (ed_var 3) ed_int)
  (ssd_one (sd_ret (ed_ix (ed_tup (ad_cons ed_non (ad_cons ed_int (ad_cons ed_str (ad_cons ed_bl ad_nil))))) (ed_op vb_mod op_mod (ed_ct vc_int call_int1 B.int (ad_cons (ed_ix (ed_var 0) ed_int) ad_nil)) ed_int))))
  ssd_nil)
  (ssd_cons (sd_if (WD.td (wd_and (td_cmp vb_eq (op_eqD hr.units) (nomark _) (ed_var 3) ed_int) (wd_and1 (td_cmp vq_gt (oq_gt hr.units) (nomark _) (ed_cb vc_len call_len_seq B.len (ad_cons (ed_var 1) ad_nil)) ed_int))))
  (ssd_one (sd_ret (ed_sl (ed_var 1) (od_at ed_int) od_no)))
  ssd_nil)
  (ssd_cons (sd_if (td_cmp vb_eq (op_eqD hr.units) (nomark _) (ed_cb vc_len call_len_seq B.len (ad_cons (ed_var 1) ad_nil)) ed_int)
  (ssd_one (sd_ret (ed_tup (ad_cons ed_int ad_nil))))
  ssd_nil)
  (ssd_cons (sd_setF 4 sc__law_bent.nd (ed_op vb_mod op_mod (ed_ct vc_int call_int1 B.int (ad_cons (ed_ix (ed_var 0) ed_int) ad_nil)) (ed_cb vc_len call_len_seq B.len (ad_cons (ed_var 1) ad_nil))))
  (ssd_cons (sd_if (td_cmp vb_is op_is2 (nomark _) (ed_var 2) ed_non)
  (ssd_one (sd_ret (ed_op vb_add op_add3 (ed_op vb_add op_add3 (ed_sl (ed_var 1) od_no (od_at (ed_var 4))) (ed_tup (ad_cons (ed_op vb_add op_add3 (ed_var 4) ed_int) ad_nil))) (ed_sl (ed_var 1) (od_at (ed_op vb_add op_add3 (ed_var 4) ed_int)) od_no))))
  ssd_nil)
  (ssd_cons (sd_ret (ed_op vb_add op_add3 (ed_op vb_add op_add3 (ed_sl (ed_var 1) od_no (od_at (ed_var 4))) (ed_tup (ad_cons (ed_var 2) ad_nil))) (ed_sl (ed_var 1) (od_at (ed_op vb_add op_add3 (ed_var 4) ed_int)) od_no)))
  ssd_nil)))))))))
theorem ok_is_number (F : FunD K "is_number" "is_number" (defArgs s_is_number) (defBody s_is_number) (defScope s_is_number) dvs kws f fd) (c_is_integer : Kf P w K mg base 1 "is_integer" (spD K 1 F_is_integer) []) : FnOk P w K mg base CX0 2 f fd ["thing"] (spD K 1 F_is_number) :=
  fnD F sc_is_number rfl rfl fun cdv A outer s H E hr => (ssd_one (sd_ret (ed_and (ed_call c_is_integer hr (by decide) dvs0 runF_len (ad_cons (ed_var 0) ad_nil)) (ed_one (ed_cmp vq_ge (oq_ge hr.units) (nomark _) (ed_var 0) ed_int)))))
theorem ok_is_natural (F : FunD K "is_natural" "is_natural" (defArgs s_is_natural) (defBody s_is_natural) (defScope s_is_natural) dvs kws f fd) (c_is_integer : Kf P w K mg base 1 "is_integer" (spD K 1 F_is_integer) []) : FnOk P w K mg base CX0 2 f fd ["thing"] (spD K 1 F_is_natural) :=
  fnD F sc_is_natural rfl rfl fun cdv A outer s H E hr => (ssd_one (sd_ret (ed_and (ed_call c_is_integer hr (by decide) dvs0 runF_len (ad_cons (ed_var 0) ad_nil)) (ed_one (ed_cmp vq_ge (oq_ge hr.units) (nomark _) (ed_var 0) ed_int)))))
theorem ok__law_bases (B : Bi mg) (F : FunD K "_law_bases" "_law_bases" (defArgs s__law_bases) (defBody s__law_bases) (defScope s__law_bases) dvs kws f fd) (c__law_base : Kf P w K mg base 1 "_law_base" (spD K 3 F__law_base) []) : FnOk P w K mg base CX0 2 f fd ["_law_row", "_law_tree_here", "_law_heights_here"] (spD K 3 F__law_bases) :=
  fnD F sc__law_bases rfl rfl fun cdv A outer s H E hr => (ssd_cons (sd_if (td_cmp vb_eq (op_eqD hr.units) (nomark _) (ed_op vb_mod op_mod (ed_ct vc_int call_int1 B.int (ad_cons (ed_ix (ed_var 0) ed_int) ad_nil)) ed_int) ed_int)
  (ssd_one (sd_ret (ed_ct vc_tuple call_tuple_of B.tuple (ad_cons (ed_lc (own := [("_law_v", 4)]) rfl sc__law_bases.nd (id_rng2 ed_int (ed_op vb_add op_add3 (ed_cb vc_len call_len_seq B.len (ad_cons (ed_var 1) ad_nil)) ed_int) B.range) (by first | decide | with_unfolding_all rfl) (by decide) (fun _ _ _ _ _ => (gd_name (i := 4) sc__law_bases.nd rfl (by first | exact .inl rfl | exact .inr rfl))) (fun _ _ _ _ _ => ptd_nil) (fun _ _ _ _ _ => (ed_call c__law_base hr (by decide) dvs0 runF_len (ad_cons (ed_var 1) (ad_cons (ed_var 2) (ad_cons (ed_var 4) ad_nil)))))) ad_nil))))
  ssd_nil)
  (ssd_cons (sd_set 3 sc__law_bases.nd (ed_lst ad_nil))
  (ssd_cons (sd_for rfl PassesOwn.never (id_rng2 ed_int (ed_op vb_add op_add3 (ed_cb vc_len call_len_seq B.len (ad_cons (ed_var 1) ad_nil)) ed_int) B.range) (gd_name (i := 4) sc__law_bases.nd rfl (by first | exact .inl rfl | exact .inr rfl))
  (ssd_cons (sd_setF 5 sc__law_bases.nd (ed_ix (ed_var 1) (ed_op vb_sub op_sub (ed_var 4) ed_int)))
  (ssd_cons (sd_for rfl PassesOwn.never (id_rng1 (ed_op vb_mod op_mod (ed_ct vc_int call_int1 B.int (ad_cons (ed_ix (ed_var 0) (ed_var 4)) ad_nil)) ed_int) B.range) (gd_name (i := 6) sc__law_bases.nd rfl (by first | exact .inl rfl | exact .inr rfl))
  (ssd_one (sd_if (td_cmp vq_gt (oq_gt hr.units) (nomark _) (ed_var 5) ed_int)
  (ssd_one (sd_setF 5 sc__law_bases.nd (ed_ix (ed_var 1) (ed_op vb_sub op_sub (ed_var 5) ed_int))))
  ssd_nil)))
  (ssd_cons (sd_expr (ed_app 3 (ed_var 5)))
  ssd_nil))))
  (ssd_cons (sd_ret (ed_ct vc_tuple call_tuple_of B.tuple (ad_cons (ed_var 3) ad_nil)))
  ssd_nil))))
theorem okx_check_version (B : Bi mg) (XI : Xi K mg xcs xys xfs xtab) (XT_NotUsable : ExT P w K mg base "NotUsable" ["word", "at"]) (F : FunD K "check_version" "check_version" (defArgs s_check_version) (defBody s_check_version) (defScope s_check_version) dvs kws f fd) (c_is_number : Kf P w K mg base 2 "is_number" (spD K 1 F_is_number) []) : FnOk P w K mg base (L2N.CX P w) 3 f fd ["history", "name", "thing", "least"] (spX K mg 4 FY_check_version) :=
  fnX F sc_check_version rfl rfl fun cdv A outer s H E hr tk => (ssdx_one (sdx_if (WD.td (wd_or (td_not (td_val (ed_call c_is_number hr (by decide) dvs0 runF_len (ad_cons (ed_var 2) ad_nil)))) (wd_or1 (td_not (td_chain vq_le (oq_le hr.units) vq_le (oq_le hr.units) (ed_var 3) (ed_var 2) (ed_cb vc_len call_len_seq B.len (ad_cons (ed_var 0) ad_nil)))))))
  (ssdx_one (sdx_raise XT_NotUsable hr (by decide) rfl tk (ad_cons (ed_var 1) (ad_cons (ed_neg ed_int) ad_nil))))
  ssdx_nil))
theorem ok_check_version (B : Bi mg) (F : FunD K "check_version" "check_version" (defArgs s_check_version) (defBody s_check_version) (defScope s_check_version) dvs kws f fd) (c_is_number : Kf P w K mg base 2 "is_number" (spD K 1 F_is_number) []) : FnOk P w K mg base CX0 3 f fd ["history", "name", "thing", "least"] (spD K 4 F_check_version) :=
  fnD F sc_check_version rfl rfl fun cdv A outer s H E hr => (ssd_one (sd_if (WD.td (wd_or (td_not (td_val (ed_call c_is_number hr (by decide) dvs0 runF_len (ad_cons (ed_var 2) ad_nil)))) (wd_or1 (td_not (td_chain vq_le (oq_le hr.units) vq_le (oq_le hr.units) (ed_var 3) (ed_var 2) (ed_cb vc_len call_len_seq B.len (ad_cons (ed_var 0) ad_nil)))))))
  (ssd_one sd_never)
  ssd_nil))
theorem ok_up_to (F : FunD K "up_to" "up_to" (defArgs s_up_to) (defBody s_up_to) (defScope s_up_to) dvs kws f fd) (c_is_natural : Kf P w K mg base 2 "is_natural" (spD K 1 F_is_natural) []) : FnOk P w K mg base CX0 3 f fd ["thing", "greatest"] (spD K 2 F_up_to) :=
  fnD F sc_up_to rfl rfl fun cdv A outer s H E hr => (ssd_one (sd_ret (ed_and (ed_call c_is_natural hr (by decide) dvs0 runF_len (ad_cons (ed_var 0) ad_nil)) (ed_one (ed_cmp vq_le (oq_le hr.units) (nomark _) (ed_var 0) (ed_var 1))))))
theorem ok_ask_version (F : FunD K "ask_version" "ask_version" (defArgs s_ask_version) (defBody s_ask_version) (defScope s_ask_version) dvs kws f fd) (c_is_number : Kf P w K mg base 2 "is_number" (spD K 1 F_is_number) []) (c_many_of : Kf P w K mg base 1 "many_of" (spD K 1 F_many_of) []) : FnOk P w K mg base CX0 3 f fd ["history", "word", "version", "least"] (spD K 4 F_ask_version) :=
  fnD F sc_ask_version rfl rfl fun cdv A outer s H E hr => (ssd_one (sd_if (td_not (WD.td (wd_and (td_val (ed_call c_is_number hr (by decide) dvs0 runF_len (ad_cons (ed_var 2) ad_nil))) (wd_and1 (td_chain vq_le (oq_le hr.units) vq_le (oq_le hr.units) (ed_var 3) (ed_var 2) (ed_call c_many_of hr (by decide) dvs0 runF_len (ad_cons (ed_var 0) ad_nil)))))))
  (ssd_one sd_never)
  ssd_nil))
theorem ok_is_heights (B : Bi mg) (F : FunD K "is_heights" "is_heights" (defArgs s_is_heights) (defBody s_is_heights) (defScope s_is_heights) dvs kws f fd) (c_is_natural : Kf P w K mg base 2 "is_natural" (spD K 1 F_is_natural) []) : FnOk P w K mg base CX0 3 f fd ["history", "thing"] (spD K 2 F_is_heights) :=
  fnD F sc_is_heights rfl rfl fun cdv A outer s H E hr => (ssd_cons (sd_if (WD.td (wd_or (td_not (td_val (ed_isi .tuple (ed_var 1) B.isinstance B.tuple))) (wd_or1 (td_cmp vb_ne (op_neD hr.units) (nomark _) (ed_cb vc_len call_len_seq B.len (ad_cons (ed_var 1) ad_nil)) (ed_cb vc_len call_len_seq B.len (ad_cons (ed_var 0) ad_nil))))))
  (ssd_one (sd_ret ed_bl))
  ssd_nil)
  (ssd_cons (sd_ret (ed_cb vc_all (cr_all rfl) B.all (ad_cons (ed_lc (own := [("height", 2)]) rfl sc_is_heights.nd (id_seq (ed_var 1)) (by first | decide | with_unfolding_all rfl) (by decide) (fun _ _ _ _ _ => (gd_name (i := 2) sc_is_heights.nd rfl (by first | exact .inl rfl | exact .inr rfl))) (fun _ _ _ _ _ => ptd_nil) (fun _ _ _ _ _ => (ed_call c_is_natural hr (by decide) dvs0 runF_len (ad_cons (ed_var 2) ad_nil)))) ad_nil)))
  ssd_nil))
theorem okx__words_of (B : Bi mg) (XI : Xi K mg xcs xys xfs xtab) (XT_InvalidText : ExT P w K mg base "InvalidText" ["line", "field"]) (XT_NotUsable : ExT P w K mg base "NotUsable" ["word", "at"]) (F : FunD K "_words_of" "_words_of" (defArgs s__words_of) (defBody s__words_of) (defScope s__words_of) dvs kws f fd) : FnOk P w K mg base (L2N.CX P w) 3 f fd ["text", "name"] (spX K mg 2 FY__words_of) :=
  fnX F sc__words_of rfl rfl fun cdv A outer s H E hr tk => (ssdx_cons (sdx_if (td_not (td_val (ed_isi .str (ed_var 0) B.isinstance B.str)))
  (ssdx_one (sdx_raise XT_NotUsable hr (by decide) rfl tk (ad_cons ed_str (ad_cons (ed_neg ed_int) ad_nil))))
  ssdx_nil)
  (ssdx_cons (SD.x (sd_setF 2 sc__words_of.nd (ed_splt (ed_var 0) ed_str)))
  (ssdx_cons (sdx_if (td_cmp vb_ne (op_neD hr.units) (nomark _) (ed_ix (ed_var 2) ed_int) (ed_var 1))
  (ssdx_one (sdx_raise XT_InvalidText hr (by decide) rfl tk (ad_cons ed_int (ad_cons ed_int ad_nil))))
  ssdx_nil)
  (ssdx_cons (SD.x (sd_ret (ed_var 2)))
  ssdx_nil))))
theorem ok__words_of (B : Bi mg) (F : FunD K "_words_of" "_words_of" (defArgs s__words_of) (defBody s__words_of) (defScope s__words_of) dvs kws f fd) : FnOk P w K mg base CX0 3 f fd ["text", "name"] (spD K 2 F__words_of) :=
  fnD F sc__words_of rfl rfl fun cdv A outer s H E hr => (ssd_cons (sd_if (td_not (td_val (ed_isi .str (ed_var 0) B.isinstance B.str)))
  (ssd_one sd_never)
  ssd_nil)
  (ssd_cons (sd_setF 2 sc__words_of.nd (ed_splt (ed_var 0) ed_str))
  (ssd_cons (sd_if (td_cmp vb_ne (op_neD hr.units) (nomark _) (ed_ix (ed_var 2) ed_int) (ed_var 1))
  (ssd_one sd_never)
  ssd_nil)
  (ssd_cons (sd_ret (ed_var 2))
  ssd_nil))))
theorem okx_is_elder (F : FunD K "is_elder" "is_elder" (defArgs s_is_elder) (defBody s_is_elder) (defScope s_is_elder) dvs kws f fd) (c_Xcheck_version_3 : KfX P w K mg base 3 "check_version" (spX K mg 4 FX_check_version) [.int 0]) (c__upward : Kf P w K mg base 1 "_upward" (spD K 2 F__upward) []) : FnOk P w K mg base (L2N.CX P w) 4 f fd ["history", "one", "other"] (spX K mg 3 FY_is_elder) :=
  fnX F sc_is_elder rfl rfl fun cdv A outer s H E hr tk => (ssdx_cons (sdx_expr (edx_call c_Xcheck_version_3 hr (by decide) (dvsI dvs0) (orRx_len runF_len runX_len) tk (ad_cons (ed_var 0) (ad_cons ed_str (ad_cons (ed_var 1) ad_nil)))))
  (ssdx_cons (sdx_expr (edx_call c_Xcheck_version_3 hr (by decide) (dvsI dvs0) (orRx_len runF_len runX_len) tk (ad_cons (ed_var 0) (ad_cons ed_str (ad_cons (ed_var 2) ad_nil)))))
  (ssdx_cons (SD.x (sd_ret (ed_cmp vb_inB op_in_seq (by with_unfolding_all rfl) (ed_var 1) (ed_call c__upward hr (by decide) dvs0 runF_len (ad_cons (ed_var 0) (ad_cons (ed_var 2) ad_nil))))))
  ssdx_nil)))
theorem ok_is_elder (F : FunD K "is_elder" "is_elder" (defArgs s_is_elder) (defBody s_is_elder) (defScope s_is_elder) dvs kws f fd) (c__upward : Kf P w K mg base 1 "_upward" (spD K 2 F__upward) []) (c_check_version_3 : Kf P w K mg base 3 "check_version" (spD K 4 F_check_version) [.int 0]) : FnOk P w K mg base CX0 4 f fd ["history", "one", "other"] (spD K 3 F_is_elder) :=
  fnD F sc_is_elder rfl rfl fun cdv A outer s H E hr => (ssd_cons (sd_expr (ed_call c_check_version_3 hr (by decide) (dvsI dvs0) runF_len (ad_cons (ed_var 0) (ad_cons ed_str (ad_cons (ed_var 1) ad_nil)))))
  (ssd_cons (sd_expr (ed_call c_check_version_3 hr (by decide) (dvsI dvs0) runF_len (ad_cons (ed_var 0) (ad_cons ed_str (ad_cons (ed_var 2) ad_nil)))))
  (ssd_cons (sd_ret (ed_cmp vb_inB op_in_seq (by with_unfolding_all rfl) (ed_var 1) (ed_call c__upward hr (by decide) dvs0 runF_len (ad_cons (ed_var 0) (ad_cons (ed_var 2) ad_nil)))))
  ssd_nil)))
theorem okx_need_version (B : Bi mg) (XI : Xi K mg xcs xys xfs xtab) (XT_NotUsable : ExT P w K mg base "NotUsable" ["word", "at"]) (F : FunD K "need_version" "need_version" (defArgs s_need_version) (defBody s_need_version) (defScope s_need_version) dvs kws f fd) (c_up_to : Kf P w K mg base 3 "up_to" (spD K 2 F_up_to) []) : FnOk P w K mg base (L2N.CX P w) 4 f fd ["history", "version"] (spX K mg 2 FY_need_version) :=
  fnX F sc_need_version rfl rfl fun cdv A outer s H E hr tk => (ssdx_one (sdx_if (td_not (td_val (ed_call c_up_to hr (by decide) dvs0 runF_len (ad_cons (ed_var 1) (ad_cons (ed_cb vc_len call_len_seq B.len (ad_cons (ed_var 0) ad_nil)) ad_nil)))))
  (ssdx_one (sdx_raise XT_NotUsable hr (by decide) rfl tk (ad_cons ed_str (ad_cons (ed_neg ed_int) ad_nil))))
  ssdx_nil))
theorem ok_need_version (B : Bi mg) (F : FunD K "need_version" "need_version" (defArgs s_need_version) (defBody s_need_version) (defScope s_need_version) dvs kws f fd) (c_up_to : Kf P w K mg base 3 "up_to" (spD K 2 F_up_to) []) : FnOk P w K mg base CX0 4 f fd ["history", "version"] (spD K 2 F_need_version) :=
  fnD F sc_need_version rfl rfl fun cdv A outer s H E hr => (ssd_one (sd_if (td_not (td_val (ed_call c_up_to hr (by decide) dvs0 runF_len (ad_cons (ed_var 1) (ad_cons (ed_cb vc_len call_len_seq B.len (ad_cons (ed_var 0) ad_nil)) ad_nil)))))
  (ssd_one sd_never)
  ssd_nil))
theorem ok_branch_of (B : Bi mg) (F : FunD K "branch_of" "branch_of" (defArgs s_branch_of) (defBody s_branch_of) (defScope s_branch_of) dvs kws f fd) (c_check_version_3 : Kf P w K mg base 3 "check_version" (spD K 4 F_check_version) [.int 0]) : FnOk P w K mg base CX0 4 f fd ["history", "version"] (spD K 2 F_branch_of) :=
  fnD F sc_branch_of rfl rfl fun cdv A outer s H E hr => (ssd_cons (sd_expr (ed_call c_check_version_3 hr (by decide) (dvsI dvs0) runF_len (ad_cons (ed_var 0) (ad_cons ed_str (ad_cons (ed_var 1) ad_nil)))))
  (ssd_cons (sd_set 2 sc_branch_of.nd (ed_rep (ad_cons ed_bl ad_nil) (ed_op vb_add op_add3 (ed_cb vc_len call_len_seq B.len (ad_cons (ed_var 0) ad_nil)) ed_int)))
  (ssd_cons (sd_put 2 ed_bl (ed_var 1))
  (ssd_cons (sd_for rfl PassesOwn.never (id_enum (ed_var 0) B.enumerate) (gd_tup rfl (gsd_cons (i := 3) sc_branch_of.nd rfl (by first | exact .inl rfl | exact .inr rfl) (gsd_cons (i := 4) sc_branch_of.nd rfl (by first | exact .inl rfl | exact .inr rfl) gsd_nil)))
  (ssd_one (sd_if (td_val (ed_ix (ed_var 2) (ed_var 4)))
  (ssd_one (sd_put 2 ed_bl (ed_op vb_add op_add3 (ed_var 3) ed_int)))
  ssd_nil)))
  (ssd_cons (SD.fz 2 (sd_ret (ed_ct vc_tuple call_tuple_of B.tuple (ad_cons (ed_lc (own := [("at", 5), ("is_in", 6)]) rfl sc_branch_of.nd (id_enum (ed_var 2) B.enumerate) (by first | decide | with_unfolding_all rfl) (by decide) (fun _ _ _ _ _ => (gd_tup rfl (gsd_cons (i := 5) sc_branch_of.nd rfl (by first | exact .inl rfl | exact .inr rfl) (gsd_cons (i := 6) sc_branch_of.nd rfl (by first | exact .inl rfl | exact .inr rfl) gsd_nil)))) (fun _ _ _ _ _ => (ptd_one (td_val (ed_var 6)))) (fun _ _ _ _ _ => (ed_var 5))) ad_nil))))
  ssd_nil)))))
theorem okx_bases_by (B : Bi mg) (XI : Xi K mg xcs xys xfs xtab) (XT_NotUsable : ExT P w K mg base "NotUsable" ["word", "at"]) (F : FunD K "bases_by" "bases_by" (defArgs s_bases_by) (defBody s_bases_by) (defScope s_bases_by) dvs kws f fd) (c_is_heights : Kf P w K mg base 3 "is_heights" (spD K 2 F_is_heights) []) : FnOk P w K mg base (L2N.CX P w) 4 f fd ["history", "heights"] (spX K mg 2 FY_bases_by) :=
  fnX F sc_bases_by rfl rfl fun cdv A outer s H E hr tk => (ssdx_cons (sdx_if (td_not (td_val (ed_call c_is_heights hr (by decide) dvs0 runF_len (ad_cons (ed_var 0) (ad_cons (ed_var 1) ad_nil)))))
  (ssdx_one (sdx_raise XT_NotUsable hr (by decide) rfl tk (ad_cons ed_str (ad_cons (ed_neg ed_int) ad_nil))))
  ssdx_nil)
  (ssdx_cons (SD.x (sd_set 2 sc_bases_by.nd (ed_lst ad_nil)))
  (ssdx_cons (SD.x (sd_for rfl (passes_of rfl) (id_zip (ed_var 1) (ed_var 0) B.zip) (gd_tup rfl (gsd_cons (i := 3) sc_bases_by.nd rfl (by first | exact .inl rfl | exact .inr rfl) (gsd_cons (i := 4) sc_bases_by.nd rfl (by first | exact .inl rfl | exact .inr rfl) gsd_nil)))
  (ssd_cons (sd_setF 5 sc_bases_by.nd (ed_var 4))
  (ssd_cons (sd_while (fuI 5) (passes_of rfl) (WD.td (wd_and (td_cmp vb_ne (op_neD hr.units) (nomark _) (ed_var 5) ed_int) (wd_and1 (td_cmp vq_le (oq_le hr.units) (nomark _) (ed_ix (ed_var 1) (ed_op vb_sub op_sub (ed_var 5) ed_int)) (ed_var 3)))))
  (ssd_one (sd_setF 5 sc_bases_by.nd (ed_ix (ed_var 0) (ed_op vb_sub op_sub (ed_var 5) ed_int)))))
  (ssd_cons (sd_expr (ed_app 2 (ed_var 5)))
  ssd_nil)))))
  (ssdx_cons (SD.x (sd_ret (ed_ct vc_tuple call_tuple_of B.tuple (ad_cons (ed_var 2) ad_nil))))
  ssdx_nil))))
theorem ok_bases_by (B : Bi mg) (F : FunD K "bases_by" "bases_by" (defArgs s_bases_by) (defBody s_bases_by) (defScope s_bases_by) dvs kws f fd) (c_is_heights : Kf P w K mg base 3 "is_heights" (spD K 2 F_is_heights) []) : FnOk P w K mg base CX0 4 f fd ["history", "heights"] (spD K 2 F_bases_by) :=
  fnD F sc_bases_by rfl rfl fun cdv A outer s H E hr => (ssd_cons (sd_if (td_not (td_val (ed_call c_is_heights hr (by decide) dvs0 runF_len (ad_cons (ed_var 0) (ad_cons (ed_var 1) ad_nil)))))
  (ssd_one sd_never)
  ssd_nil)
  (ssd_cons (sd_set 2 sc_bases_by.nd (ed_lst ad_nil))
  (ssd_cons (sd_for rfl PassesOwn.never (id_zip (ed_var 1) (ed_var 0) B.zip) (gd_tup rfl (gsd_cons (i := 3) sc_bases_by.nd rfl (by first | exact .inl rfl | exact .inr rfl) (gsd_cons (i := 4) sc_bases_by.nd rfl (by first | exact .inl rfl | exact .inr rfl) gsd_nil)))
  (ssd_cons (sd_setF 5 sc_bases_by.nd (ed_var 4))
  (ssd_cons (sd_while (fuI 5) PassesOwn.never (WD.td (wd_and (td_cmp vb_ne (op_neD hr.units) (nomark _) (ed_var 5) ed_int) (wd_and1 (td_cmp vq_le (oq_le hr.units) (nomark _) (ed_ix (ed_var 1) (ed_op vb_sub op_sub (ed_var 5) ed_int)) (ed_var 3)))))
  (ssd_one (sd_setF 5 sc_bases_by.nd (ed_ix (ed_var 0) (ed_op vb_sub op_sub (ed_var 5) ed_int)))))
  (ssd_cons (sd_expr (ed_app 2 (ed_var 5)))
  ssd_nil))))
  (ssd_cons (sd_ret (ed_ct vc_tuple call_tuple_of B.tuple (ad_cons (ed_var 2) ad_nil)))
  ssd_nil))))
theorem okx_heights_line (B : Bi mg) (XI : Xi K mg xcs xys xfs xtab) (XT_NotUsable : ExT P w K mg base "NotUsable" ["word", "at"]) (F : FunD K "heights_line" "heights_line" (defArgs s_heights_line) (defBody s_heights_line) (defScope s_heights_line) dvs kws f fd) (c_is_heights : Kf P w K mg base 3 "is_heights" (spD K 2 F_is_heights) []) : FnOk P w K mg base (L2N.CX P w) 4 f fd ["history", "heights"] (spX K mg 2 FY_heights_line) :=
  fnX F sc_heights_line rfl rfl fun cdv A outer s H E hr tk => (ssdx_cons (sdx_if (td_not (td_val (ed_call c_is_heights hr (by decide) dvs0 runF_len (ad_cons (ed_var 0) (ad_cons (ed_var 1) ad_nil)))))
  (ssdx_one (sdx_raise XT_NotUsable hr (by decide) rfl tk (ad_cons ed_str (ad_cons (ed_neg ed_int) ad_nil))))
  ssdx_nil)
  (ssdx_cons (SD.x (sd_ret (ed_join ed_str (ed_op vb_add op_add3 (ed_lst (ad_cons ed_str ad_nil)) (ed_lc (own := [("height", 2)]) rfl sc_heights_line.nd (id_seq (ed_var 1)) (by first | decide | with_unfolding_all rfl) (by decide) (fun _ _ _ _ _ => (gd_name (i := 2) sc_heights_line.nd rfl (by first | exact .inl rfl | exact .inr rfl))) (fun _ _ _ _ _ => ptd_nil) (fun _ _ _ _ _ => (ed_ct vc_strN call_str_int B.str (ad_cons (ed_var 2) ad_nil))))))))
  ssdx_nil))
theorem ok_heights_line (B : Bi mg) (F : FunD K "heights_line" "heights_line" (defArgs s_heights_line) (defBody s_heights_line) (defScope s_heights_line) dvs kws f fd) (c_is_heights : Kf P w K mg base 3 "is_heights" (spD K 2 F_is_heights) []) : FnOk P w K mg base CX0 4 f fd ["history", "heights"] (spD K 2 F_heights_line) :=
  fnD F sc_heights_line rfl rfl fun cdv A outer s H E hr => (ssd_cons (sd_if (td_not (td_val (ed_call c_is_heights hr (by decide) dvs0 runF_len (ad_cons (ed_var 0) (ad_cons (ed_var 1) ad_nil)))))
  (ssd_one sd_never)
  ssd_nil)
  (ssd_cons (sd_ret (ed_join ed_str (ed_op vb_add op_add3 (ed_lst (ad_cons ed_str ad_nil)) (ed_lc (own := [("height", 2)]) rfl sc_heights_line.nd (id_seq (ed_var 1)) (by first | decide | with_unfolding_all rfl) (by decide) (fun _ _ _ _ _ => (gd_name (i := 2) sc_heights_line.nd rfl (by first | exact .inl rfl | exact .inr rfl))) (fun _ _ _ _ _ => ptd_nil) (fun _ _ _ _ _ => (ed_ct vc_strN call_str_int B.str (ad_cons (ed_var 2) ad_nil)))))))
  ssd_nil))
theorem okx_read_heights (B : Bi mg) (XI : Xi K mg xcs xys xfs xtab) (XT_InvalidText : ExT P w K mg base "InvalidText" ["line", "field"]) (F : FunD K "read_heights" "read_heights" (defArgs s_read_heights) (defBody s_read_heights) (defScope s_read_heights) dvs kws f fd) (c_X_words_of : KfX P w K mg base 3 "_words_of" (spX K mg 2 FX__words_of) []) (c__number_in : Kf P w K mg base 1 "_number_in" (spD K 1 F__number_in) []) : FnOk P w K mg base (L2N.CX P w) 4 f fd ["history", "text"] (spX K mg 2 FY_read_heights) :=
  fnX F sc_read_heights rfl rfl fun cdv A outer s H E hr tk => (ssdx_cons (sdx_set 2 sc_read_heights.nd (edx_call c_X_words_of hr (by decide) dvs0 (orRx_len runF_len runX_len) tk (ad_cons (ed_var 1) (ad_cons ed_str ad_nil))))
  (ssdx_cons (SD.x (sd_set 3 sc_read_heights.nd (ed_lst ad_nil)))
  (ssdx_cons (sdx_for rfl (passes_of rfl) (id_enum (ed_sl (ed_var 2) (od_at ed_int) od_no) B.enumerate) (gd_tup rfl (gsd_cons (i := 4) sc_read_heights.nd rfl (by first | exact .inl rfl | exact .inr rfl) (gsd_cons (i := 5) sc_read_heights.nd rfl (by first | exact .inl rfl | exact .inr rfl) gsd_nil)))
  (ssdx_cons (SD.x (sd_setF 6 sc_read_heights.nd (ed_call c__number_in hr (by decide) dvs0 runF_len (ad_cons (ed_var 5) ad_nil))))
  (ssdx_cons (sdx_if (WD.td (wd_or (td_cmp vq_ge (oq_ge hr.units) (nomark _) (ed_var 4) (ed_cb vc_len call_len_seq B.len (ad_cons (ed_var 0) ad_nil))) (wd_or1 (td_cmp vq_lt (oq_lt hr.units) (nomark _) (ed_var 6) ed_int))))
  (ssdx_one (sdx_raise XT_InvalidText hr (by decide) rfl tk (ad_cons ed_int (ad_cons (ed_op vb_add op_add3 (ed_var 4) ed_int) ad_nil))))
  ssdx_nil)
  (ssdx_cons (SD.x (sd_expr (ed_app 3 (ed_var 6))))
  ssdx_nil))))
  (ssdx_cons (sdx_if (td_cmp vq_lt (oq_lt hr.units) (nomark _) (ed_cb vc_len call_len_seq B.len (ad_cons (ed_var 3) ad_nil)) (ed_cb vc_len call_len_seq B.len (ad_cons (ed_var 0) ad_nil)))
  (ssdx_one (sdx_raise XT_InvalidText hr (by decide) rfl tk (ad_cons ed_int (ad_cons (ed_cb vc_len call_len_seq B.len (ad_cons (ed_var 2) ad_nil)) ad_nil))))
  ssdx_nil)
  (ssdx_cons (SD.x (sd_ret (ed_ct vc_tuple call_tuple_of B.tuple (ad_cons (ed_var 3) ad_nil))))
  ssdx_nil)))))
theorem ok_read_heights (B : Bi mg) (F : FunD K "read_heights" "read_heights" (defArgs s_read_heights) (defBody s_read_heights) (defScope s_read_heights) dvs kws f fd) (c__number_in : Kf P w K mg base 1 "_number_in" (spD K 1 F__number_in) []) (c__words_of : Kf P w K mg base 3 "_words_of" (spD K 2 F__words_of) []) : FnOk P w K mg base CX0 4 f fd ["history", "text"] (spD K 2 F_read_heights) :=
  fnD F sc_read_heights rfl rfl fun cdv A outer s H E hr => (ssd_cons (sd_setF 2 sc_read_heights.nd (ed_call c__words_of hr (by decide) dvs0 runF_len (ad_cons (ed_var 1) (ad_cons ed_str ad_nil))))
  (ssd_cons (sd_set 3 sc_read_heights.nd (ed_lst ad_nil))
  (ssd_cons (sd_for rfl PassesOwn.never (id_enum (ed_sl (ed_var 2) (od_at ed_int) od_no) B.enumerate) (gd_tup rfl (gsd_cons (i := 4) sc_read_heights.nd rfl (by first | exact .inl rfl | exact .inr rfl) (gsd_cons (i := 5) sc_read_heights.nd rfl (by first | exact .inl rfl | exact .inr rfl) gsd_nil)))
  (ssd_cons (sd_setF 6 sc_read_heights.nd (ed_call c__number_in hr (by decide) dvs0 runF_len (ad_cons (ed_var 5) ad_nil)))
  (ssd_cons (sd_if (WD.td (wd_or (td_cmp vq_ge (oq_ge hr.units) (nomark _) (ed_var 4) (ed_cb vc_len call_len_seq B.len (ad_cons (ed_var 0) ad_nil))) (wd_or1 (td_cmp vq_lt (oq_lt hr.units) (nomark _) (ed_var 6) ed_int))))
  (ssd_one sd_never)
  ssd_nil)
  (ssd_cons (sd_expr (ed_app 3 (ed_var 6)))
  ssd_nil))))
  (ssd_cons (sd_if (td_cmp vq_lt (oq_lt hr.units) (nomark _) (ed_cb vc_len call_len_seq B.len (ad_cons (ed_var 3) ad_nil)) (ed_cb vc_len call_len_seq B.len (ad_cons (ed_var 0) ad_nil)))
  (ssd_one sd_never)
  ssd_nil)
  (ssd_cons (sd_ret (ed_ct vc_tuple call_tuple_of B.tuple (ad_cons (ed_var 3) ad_nil)))
  ssd_nil)))))
theorem okx_is_bases (B : Bi mg) (F : FunD K "is_bases" "is_bases" (defArgs s_is_bases) (defBody s_is_bases) (defScope s_is_bases) dvs kws f fd) (c_is_elder : Kf P w K mg base 4 "is_elder" (spD K 3 F_is_elder) []) (c_is_number : Kf P w K mg base 2 "is_number" (spD K 1 F_is_number) []) (c_many_of : Kf P w K mg base 1 "many_of" (spD K 1 F_many_of) []) : FnOk P w K mg base (L2N.CX P w) 5 f fd ["history", "thing"] (spX K mg 2 FY_is_bases) :=
  fnX F sc_is_bases rfl rfl fun cdv A outer s H E hr tk => (ssdx_cons (SD.x (sd_if (td_not (WD.td (wd_and (td_val (ed_isi .tuple (ed_var 1) B.isinstance B.tuple)) (wd_and1 (td_cmp vb_eq (op_eqD hr.units) (nomark _) (ed_cb vc_len call_len_seq B.len (ad_cons (ed_var 1) ad_nil)) (ed_call c_many_of hr (by decide) dvs0 runF_len (ad_cons (ed_var 0) ad_nil)))))))
  (ssd_one (sd_ret ed_bl))
  ssd_nil))
  (ssdx_cons (SD.x (sd_for rfl (passes_of rfl) (id_enum (ed_var 1) B.enumerate) (gd_tup rfl (gsd_cons (i := 2) sc_is_bases.nd rfl (by first | exact .inl rfl | exact .inr rfl) (gsd_cons (i := 3) sc_is_bases.nd rfl (by first | exact .inl rfl | exact .inr rfl) gsd_nil)))
  (ssd_one (sd_if (td_not (WD.td (wd_and (td_val (ed_call c_is_number hr (by decide) dvs0 runF_len (ad_cons (ed_var 3) ad_nil))) (wd_and (td_cmp vq_le (oq_le hr.units) (nomark _) (ed_var 3) (ed_var 2)) (wd_and1 (td_val (ed_call c_is_elder hr (by decide) dvs0 runF_len (ad_cons (ed_var 0) (ad_cons (ed_var 3) (ad_cons (ed_op vb_add op_add3 (ed_var 2) ed_int) ad_nil))))))))))
  (ssd_one (sd_ret ed_bl))
  ssd_nil))))
  (ssdx_cons (SD.x (sd_ret ed_bl))
  ssdx_nil)))
theorem ok_is_bases (B : Bi mg) (F : FunD K "is_bases" "is_bases" (defArgs s_is_bases) (defBody s_is_bases) (defScope s_is_bases) dvs kws f fd) (c_is_elder : Kf P w K mg base 4 "is_elder" (spD K 3 F_is_elder) []) (c_is_number : Kf P w K mg base 2 "is_number" (spD K 1 F_is_number) []) (c_many_of : Kf P w K mg base 1 "many_of" (spD K 1 F_many_of) []) : FnOk P w K mg base CX0 5 f fd ["history", "thing"] (spD K 2 F_is_bases) :=
  fnD F sc_is_bases rfl rfl fun cdv A outer s H E hr => (ssd_cons (sd_if (td_not (WD.td (wd_and (td_val (ed_isi .tuple (ed_var 1) B.isinstance B.tuple)) (wd_and1 (td_cmp vb_eq (op_eqD hr.units) (nomark _) (ed_cb vc_len call_len_seq B.len (ad_cons (ed_var 1) ad_nil)) (ed_call c_many_of hr (by decide) dvs0 runF_len (ad_cons (ed_var 0) ad_nil)))))))
  (ssd_one (sd_ret ed_bl))
  ssd_nil)
  (ssd_cons (sd_for rfl PassesOwn.never (id_enum (ed_var 1) B.enumerate) (gd_tup rfl (gsd_cons (i := 2) sc_is_bases.nd rfl (by first | exact .inl rfl | exact .inr rfl) (gsd_cons (i := 3) sc_is_bases.nd rfl (by first | exact .inl rfl | exact .inr rfl) gsd_nil)))
  (ssd_one (sd_if (td_not (WD.td (wd_and (td_val (ed_call c_is_number hr (by decide) dvs0 runF_len (ad_cons (ed_var 3) ad_nil))) (wd_and (td_cmp vq_le (oq_le hr.units) (nomark _) (ed_var 3) (ed_var 2)) (wd_and1 (td_val (ed_call c_is_elder hr (by decide) dvs0 runF_len (ad_cons (ed_var 0) (ad_cons (ed_var 3) (ad_cons (ed_op vb_add op_add3 (ed_var 2) ed_int) ad_nil))))))))))
  (ssd_one (sd_ret ed_bl))
  ssd_nil)))
  (ssd_cons (sd_ret ed_bl)
  ssd_nil)))
theorem okx_records_of (B : Bi mg) (XI : Xi K mg xcs xys xfs xtab) (XT_NotUsable : ExT P w K mg base "NotUsable" ["word", "at"]) (F : FunD K "records_of" "records_of" (defArgs s_records_of) (defBody s_records_of) (defScope s_records_of) dvs kws f fd) (c_Xbases_by : KfX P w K mg base 4 "bases_by" (spX K mg 2 FX_bases_by) []) (c_is_number : Kf P w K mg base 2 "is_number" (spD K 1 F_is_number) []) : FnOk P w K mg base (L2N.CX P w) 5 f fd ["history", "heights", "version"] (spX K mg 3 FY_records_of) :=
  fnX F sc_records_of rfl rfl fun cdv A outer s H E hr tk => (ssdx_cons (sdx_set 3 sc_records_of.nd (edx_call c_Xbases_by hr (by decide) dvs0 (orRx_len runF_len runX_len) tk (ad_cons (ed_var 0) (ad_cons (ed_var 1) ad_nil))))
  (ssdx_cons (sdx_if (WD.td (wd_or (td_not (td_val (ed_call c_is_number hr (by decide) dvs0 runF_len (ad_cons (ed_var 2) ad_nil)))) (wd_or1 (td_cmp vq_gt (oq_gt hr.units) (nomark _) (ed_var 2) (ed_cb vc_len call_len_seq B.len (ad_cons (ed_var 0) ad_nil))))))
  (ssdx_one (sdx_raise XT_NotUsable hr (by decide) rfl tk (ad_cons ed_str (ad_cons (ed_neg ed_int) ad_nil))))
  ssdx_nil)
  (ssdx_cons (SD.x (sd_set 4 sc_records_of.nd (ed_lst ad_nil)))
  (ssdx_cons (SD.x (sd_setF 5 sc_records_of.nd (ed_var 2)))
  (ssdx_cons (SD.x (sd_while (fuI 5) (passes_of rfl) (td_cmp vb_ne (op_neD hr.units) (nomark _) (ed_var 5) ed_int)
  (ssd_cons (sd_expr (ed_app 4 (ed_var 5)))
  (ssd_cons (sd_setF 5 sc_records_of.nd (ed_ix (ed_var 3) (ed_op vb_sub op_sub (ed_var 5) ed_int)))
  ssd_nil))))
  (ssdx_cons (SD.x (sd_ret (ed_ct vc_tuple call_tuple_of B.tuple (ad_cons (ed_var 4) ad_nil))))
  ssdx_nil))))))
theorem ok_records_of (B : Bi mg) (F : FunD K "records_of" "records_of" (defArgs s_records_of) (defBody s_records_of) (defScope s_records_of) dvs kws f fd) (c_bases_by : Kf P w K mg base 4 "bases_by" (spD K 2 F_bases_by) []) (c_is_number : Kf P w K mg base 2 "is_number" (spD K 1 F_is_number) []) : FnOk P w K mg base CX0 5 f fd ["history", "heights", "version"] (spD K 3 F_records_of) :=
  fnD F sc_records_of rfl rfl fun cdv A outer s H E hr => (ssd_cons (sd_setF 3 sc_records_of.nd (ed_call c_bases_by hr (by decide) dvs0 runF_len (ad_cons (ed_var 0) (ad_cons (ed_var 1) ad_nil))))
  (ssd_cons (sd_if (WD.td (wd_or (td_not (td_val (ed_call c_is_number hr (by decide) dvs0 runF_len (ad_cons (ed_var 2) ad_nil)))) (wd_or1 (td_cmp vq_gt (oq_gt hr.units) (nomark _) (ed_var 2) (ed_cb vc_len call_len_seq B.len (ad_cons (ed_var 0) ad_nil))))))
  (ssd_one sd_never)
  ssd_nil)
  (ssd_cons (sd_set 4 sc_records_of.nd (ed_lst ad_nil))
  (ssd_cons (sd_setF 5 sc_records_of.nd (ed_var 2))
  (ssd_cons (sd_while (fuI 5) PassesOwn.never (td_cmp vb_ne (op_neD hr.units) (nomark _) (ed_var 5) ed_int)
  (ssd_cons (sd_expr (ed_app 4 (ed_var 5)))
  (ssd_cons (sd_setF 5 sc_records_of.nd (ed_ix (ed_var 3) (ed_op vb_sub op_sub (ed_var 5) ed_int)))
  ssd_nil)))
  (ssd_cons (sd_ret (ed_ct vc_tuple call_tuple_of B.tuple (ad_cons (ed_var 4) ad_nil)))
  ssd_nil))))))
theorem okx_open_at (B : Bi mg) (F : FunD K "open_at" "open_at" (defArgs s_open_at) (defBody s_open_at) (defScope s_open_at) dvs kws f fd) (c_Xbases_by : KfX P w K mg base 4 "bases_by" (spX K mg 2 FX_bases_by) []) (c_Xneed_version : KfX P w K mg base 4 "need_version" (spX K mg 2 FX_need_version) []) (c_at_or_below : Kf P w K mg base 1 "at_or_below" (spD K 3 F_at_or_below) []) : FnOk P w K mg base (L2N.CX P w) 5 f fd ["history", "heights", "version"] (spX K mg 3 FY_open_at) :=
  fnX F sc_open_at rfl rfl fun cdv A outer s H E hr tk => (ssdx_cons (sdx_set 3 sc_open_at.nd (edx_call c_Xbases_by hr (by decide) dvs0 (orRx_len runF_len runX_len) tk (ad_cons (ed_var 0) (ad_cons (ed_var 1) ad_nil))))
  (ssdx_cons (sdx_expr (edx_call c_Xneed_version hr (by decide) dvs0 (orRx_len runF_len runX_len) tk (ad_cons (ed_var 0) (ad_cons (ed_var 2) ad_nil))))
  (ssdx_cons (SD.x (sd_set 4 sc_open_at.nd (ed_lst ad_nil)))
  (ssdx_cons (SD.x (sd_for rfl (passes_of rfl) (id_rng2 (ed_var 2) (ed_op vb_add op_add3 (ed_cb vc_len call_len_seq B.len (ad_cons (ed_var 0) ad_nil)) ed_int) B.range) (gd_name (i := 5) sc_open_at.nd rfl (by first | exact .inl rfl | exact .inr rfl))
  (ssd_one (sd_if (WD.td (wd_and (td_cmp vq_lt (oq_lt hr.units) (nomark _) (ed_ix (ed_var 3) (ed_op vb_sub op_sub (ed_var 5) ed_int)) (ed_var 2)) (wd_and1 (td_val (ed_call c_at_or_below hr (by decide) dvs0 runF_len (ad_cons (ed_var 0) (ad_cons (ed_var 2) (ad_cons (ed_var 5) ad_nil))))))))
  (ssd_one (sd_expr (ed_app 4 (ed_var 5))))
  ssd_nil))))
  (ssdx_cons (SD.x (sd_ret (ed_ct vc_tuple call_tuple_of B.tuple (ad_cons (ed_var 4) ad_nil))))
  ssdx_nil)))))
theorem ok_open_at (B : Bi mg) (F : FunD K "open_at" "open_at" (defArgs s_open_at) (defBody s_open_at) (defScope s_open_at) dvs kws f fd) (c_at_or_below : Kf P w K mg base 1 "at_or_below" (spD K 3 F_at_or_below) []) (c_bases_by : Kf P w K mg base 4 "bases_by" (spD K 2 F_bases_by) []) (c_need_version : Kf P w K mg base 4 "need_version" (spD K 2 F_need_version) []) : FnOk P w K mg base CX0 5 f fd ["history", "heights", "version"] (spD K 3 F_open_at) :=
  fnD F sc_open_at rfl rfl fun cdv A outer s H E hr => (ssd_cons (sd_setF 3 sc_open_at.nd (ed_call c_bases_by hr (by decide) dvs0 runF_len (ad_cons (ed_var 0) (ad_cons (ed_var 1) ad_nil))))
  (ssd_cons (sd_expr (ed_call c_need_version hr (by decide) dvs0 runF_len (ad_cons (ed_var 0) (ad_cons (ed_var 2) ad_nil))))
  (ssd_cons (sd_set 4 sc_open_at.nd (ed_lst ad_nil))
  (ssd_cons (sd_for rfl PassesOwn.never (id_rng2 (ed_var 2) (ed_op vb_add op_add3 (ed_cb vc_len call_len_seq B.len (ad_cons (ed_var 0) ad_nil)) ed_int) B.range) (gd_name (i := 5) sc_open_at.nd rfl (by first | exact .inl rfl | exact .inr rfl))
  (ssd_one (sd_if (WD.td (wd_and (td_cmp vq_lt (oq_lt hr.units) (nomark _) (ed_ix (ed_var 3) (ed_op vb_sub op_sub (ed_var 5) ed_int)) (ed_var 2)) (wd_and1 (td_val (ed_call c_at_or_below hr (by decide) dvs0 runF_len (ad_cons (ed_var 0) (ad_cons (ed_var 2) (ad_cons (ed_var 5) ad_nil))))))))
  (ssd_one (sd_expr (ed_app 4 (ed_var 5))))
  ssd_nil)))
  (ssd_cons (sd_ret (ed_ct vc_tuple call_tuple_of B.tuple (ad_cons (ed_var 4) ad_nil)))
  ssd_nil)))))
theorem okx_ask_bases (XI : Xi K mg xcs xys xfs xtab) (XT_NotUsable : ExT P w K mg base "NotUsable" ["word", "at"]) (F : FunD K "ask_bases" "ask_bases" (defArgs s_ask_bases) (defBody s_ask_bases) (defScope s_ask_bases) dvs kws f fd) (c_is_bases : Kf P w K mg base 5 "is_bases" (spD K 2 F_is_bases) []) : FnOk P w K mg base (L2N.CX P w) 6 f fd ["history", "bases"] (spX K mg 2 FY_ask_bases) :=
  fnX F sc_ask_bases rfl rfl fun cdv A outer s H E hr tk => (ssdx_one (sdx_if (td_not (td_val (ed_call c_is_bases hr (by decide) dvs0 runF_len (ad_cons (ed_var 0) (ad_cons (ed_var 1) ad_nil)))))
  (ssdx_one (sdx_raise XT_NotUsable hr (by decide) rfl tk (ad_cons ed_str (ad_cons (ed_neg ed_int) ad_nil))))
  ssdx_nil))
theorem ok_ask_bases (F : FunD K "ask_bases" "ask_bases" (defArgs s_ask_bases) (defBody s_ask_bases) (defScope s_ask_bases) dvs kws f fd) (c_is_bases : Kf P w K mg base 5 "is_bases" (spD K 2 F_is_bases) []) : FnOk P w K mg base CX0 6 f fd ["history", "bases"] (spD K 2 F_ask_bases) :=
  fnD F sc_ask_bases rfl rfl fun cdv A outer s H E hr => (ssd_one (sd_if (td_not (td_val (ed_call c_is_bases hr (by decide) dvs0 runF_len (ad_cons (ed_var 0) (ad_cons (ed_var 1) ad_nil)))))
  (ssd_one sd_never)
  ssd_nil))
theorem okx_open_row (F : FunD K "open_row" "open_row" (defArgs s_open_row) (defBody s_open_row) (defScope s_open_row) dvs kws f fd) (c_Xopen_at : KfX P w K mg base 5 "open_at" (spX K mg 3 FX_open_at) []) (c_falling : Kf P w K mg base 1 "falling" (spD K 1 F_falling) []) : FnOk P w K mg base (L2N.CX P w) 6 f fd ["history", "heights", "version"] (spX K mg 3 FY_open_row) :=
  fnX F sc_open_row rfl rfl fun cdv A outer s H E hr tk => (ssdx_one (sdx_ret (edx_callA c_falling hr (by decide) dvs0 runF_len (adx_cons (edx_lc (own := [("other", 3)]) rfl sc_open_row.nd (edx_call c_Xopen_at hr (by decide) dvs0 (orRx_len runF_len runX_len) tk (ad_cons (ed_var 0) (ad_cons (ed_var 1) (ad_cons (ed_var 2) ad_nil)))) (by first | decide | with_unfolding_all rfl) (by decide) (fun _ _ _ _ _ => (gd_name (i := 3) sc_open_row.nd rfl (by first | exact .inl rfl | exact .inr rfl))) (fun _ _ _ _ _ => ptd_nil) (fun _ _ _ _ _ => (ed_ix (ed_var 1) (ed_op vb_sub op_sub (ed_var 3) ed_int)))) (AD.x ad_nil)))))
theorem ok_open_row (F : FunD K "open_row" "open_row" (defArgs s_open_row) (defBody s_open_row) (defScope s_open_row) dvs kws f fd) (c_falling : Kf P w K mg base 1 "falling" (spD K 1 F_falling) []) (c_open_at : Kf P w K mg base 5 "open_at" (spD K 3 F_open_at) []) : FnOk P w K mg base CX0 6 f fd ["history", "heights", "version"] (spD K 3 F_open_row) :=
  fnD F sc_open_row rfl rfl fun cdv A outer s H E hr => (ssd_one (sd_ret (ed_call c_falling hr (by decide) dvs0 runF_len (ad_cons (ed_lc (own := [("other", 3)]) rfl sc_open_row.nd (id_seq (ed_call c_open_at hr (by decide) dvs0 runF_len (ad_cons (ed_var 0) (ad_cons (ed_var 1) (ad_cons (ed_var 2) ad_nil))))) (by first | decide | with_unfolding_all rfl) (by decide) (fun _ _ _ _ _ => (gd_name (i := 3) sc_open_row.nd rfl (by first | exact .inl rfl | exact .inr rfl))) (fun _ _ _ _ _ => ptd_nil) (fun _ _ _ _ _ => (ed_ix (ed_var 1) (ed_op vb_sub op_sub (ed_var 3) ed_int)))) ad_nil))))
theorem okx_reads_by (B : Bi mg) (F : FunD K "reads_by" "reads_by" (defArgs s_reads_by) (defBody s_reads_by) (defScope s_reads_by) dvs kws f fd) (c_Xask_bases : KfX P w K mg base 6 "ask_bases" (spX K mg 2 FX_ask_bases) []) : FnOk P w K mg base (L2N.CX P w) 7 f fd ["history", "bases"] (spX K mg 2 FY_reads_by) :=
  fnX F sc_reads_by rfl rfl fun cdv A outer s H E hr tk => (ssdx_cons (sdx_expr (edx_call c_Xask_bases hr (by decide) dvs0 (orRx_len runF_len runX_len) tk (ad_cons (ed_var 0) (ad_cons (ed_var 1) ad_nil))))
  (ssdx_cons (SD.x (sd_set 2 sc_reads_by.nd (ed_lst (ad_cons ed_int ad_nil))))
  (ssdx_cons (SD.x (sd_for rfl (passes_of rfl) (id_seq (ed_var 1)) (gd_name (i := 3) sc_reads_by.nd rfl (by first | exact .inl rfl | exact .inr rfl))
  (ssd_one (sd_expr (ed_app 2 (ed_op vb_add op_add3 (ed_ix (ed_var 2) (ed_var 3)) ed_int))))))
  (ssdx_cons (SD.x (sd_ret (ed_ct vc_tuple call_tuple_of B.tuple (ad_cons (ed_var 2) ad_nil))))
  ssdx_nil))))
theorem ok_reads_by (B : Bi mg) (F : FunD K "reads_by" "reads_by" (defArgs s_reads_by) (defBody s_reads_by) (defScope s_reads_by) dvs kws f fd) (c_ask_bases : Kf P w K mg base 6 "ask_bases" (spD K 2 F_ask_bases) []) : FnOk P w K mg base CX0 7 f fd ["history", "bases"] (spD K 2 F_reads_by) :=
  fnD F sc_reads_by rfl rfl fun cdv A outer s H E hr => (ssd_cons (sd_expr (ed_call c_ask_bases hr (by decide) dvs0 runF_len (ad_cons (ed_var 0) (ad_cons (ed_var 1) ad_nil))))
  (ssd_cons (sd_set 2 sc_reads_by.nd (ed_lst (ad_cons ed_int ad_nil)))
  (ssd_cons (sd_for rfl PassesOwn.never (id_seq (ed_var 1)) (gd_name (i := 3) sc_reads_by.nd rfl (by first | exact .inl rfl | exact .inr rfl))
  (ssd_one (sd_expr (ed_app 2 (ed_op vb_add op_add3 (ed_ix (ed_var 2) (ed_var 3)) ed_int)))))
  (ssd_cons (sd_ret (ed_ct vc_tuple call_tuple_of B.tuple (ad_cons (ed_var 2) ad_nil)))
  ssd_nil))))
theorem ok_holders_of (B : Bi mg) (F : FunD K "holders_of" "holders_of" (defArgs s_holders_of) (defBody s_holders_of) (defScope s_holders_of) dvs kws f fd) (c_ask_bases : Kf P w K mg base 6 "ask_bases" (spD K 2 F_ask_bases) []) (c_ask_version : Kf P w K mg base 3 "ask_version" (spD K 4 F_ask_version) []) (c_branch_of : Kf P w K mg base 4 "branch_of" (spD K 2 F_branch_of) []) : FnOk P w K mg base CX0 7 f fd ["history", "bases", "change"] (spD K 3 F_holders_of) :=
  fnD F sc_holders_of rfl rfl fun cdv A outer s H E hr => (ssd_cons (sd_expr (ed_call c_ask_bases hr (by decide) dvs0 runF_len (ad_cons (ed_var 0) (ad_cons (ed_var 1) ad_nil))))
  (ssd_cons (sd_expr (ed_call c_ask_version hr (by decide) dvs0 runF_len (ad_cons (ed_var 0) (ad_cons ed_str (ad_cons (ed_var 2) (ad_cons ed_int ad_nil))))))
  (ssd_cons (sd_ret (ed_ct vc_tuple call_tuple_of B.tuple (ad_cons (ed_lc (own := [("version", 3)]) rfl sc_holders_of.nd (id_seq (ed_call c_branch_of hr (by decide) dvs0 runF_len (ad_cons (ed_var 0) (ad_cons (ed_var 2) ad_nil)))) (by first | decide | with_unfolding_all rfl) (by decide) (fun _ _ _ _ _ => (gd_name (i := 3) sc_holders_of.nd rfl (by first | exact .inl rfl | exact .inr rfl))) (fun _ _ _ _ _ => (ptd_one (td_cmp vq_lt (oq_lt hr.units) (nomark _) (ed_ix (ed_var 1) (ed_op vb_sub op_sub (ed_var 3) ed_int)) (ed_var 2)))) (fun _ _ _ _ _ => (ed_var 3))) ad_nil)))
  ssd_nil)))
theorem okx_heights_of (B : Bi mg) (XI : Xi K mg xcs xys xfs xtab) (XT_NotUsable : ExT P w K mg base "NotUsable" ["word", "at"]) (F : FunD K "heights_of" "heights_of" (defArgs s_heights_of) (defBody s_heights_of) (defScope s_heights_of) dvs kws f fd) (c_Xreads_by : KfX P w K mg base 7 "reads_by" (spX K mg 2 FX_reads_by) []) (c_is_bases : Kf P w K mg base 5 "is_bases" (spD K 2 F_is_bases) []) : FnOk P w K mg base (L2N.CX P w) 8 f fd ["history", "bases"] (spX K mg 2 FY_heights_of) :=
  fnX F sc_heights_of rfl rfl fun cdv A outer s H E hr tk => (ssdx_cons (sdx_if (td_not (td_val (ed_call c_is_bases hr (by decide) dvs0 runF_len (ad_cons (ed_var 0) (ad_cons (ed_var 1) ad_nil)))))
  (ssdx_one (sdx_raise XT_NotUsable hr (by decide) rfl tk (ad_cons ed_str (ad_cons (ed_neg ed_int) ad_nil))))
  ssdx_nil)
  (ssdx_cons (sdx_set 2 sc_heights_of.nd (edx_call c_Xreads_by hr (by decide) dvs0 (orRx_len runF_len runX_len) tk (ad_cons (ed_var 0) (ad_cons (ed_var 1) ad_nil))))
  (ssdx_cons (SD.x (sd_setF 3 sc_heights_of.nd (ed_cb vc_maxB (cr_maxB rfl hr.units) B.max (ad_cons (ed_var 2) ad_nil))))
  (ssdx_cons (SD.x (sd_ret (ed_ct vc_tuple call_tuple_of B.tuple (ad_cons (ed_lc (own := [("many", 4)]) rfl sc_heights_of.nd (id_seq (ed_sl (ed_var 2) (od_at ed_int) od_no)) (by first | decide | with_unfolding_all rfl) (by decide) (fun _ _ _ _ _ => (gd_name (i := 4) sc_heights_of.nd rfl (by first | exact .inl rfl | exact .inr rfl))) (fun _ _ _ _ _ => ptd_nil) (fun _ _ _ _ _ => (ed_op vb_sub op_sub (ed_op vb_add op_add3 (ed_var 3) ed_int) (ed_var 4)))) ad_nil))))
  ssdx_nil))))
theorem ok_heights_of (B : Bi mg) (F : FunD K "heights_of" "heights_of" (defArgs s_heights_of) (defBody s_heights_of) (defScope s_heights_of) dvs kws f fd) (c_is_bases : Kf P w K mg base 5 "is_bases" (spD K 2 F_is_bases) []) (c_reads_by : Kf P w K mg base 7 "reads_by" (spD K 2 F_reads_by) []) : FnOk P w K mg base CX0 8 f fd ["history", "bases"] (spD K 2 F_heights_of) :=
  fnD F sc_heights_of rfl rfl fun cdv A outer s H E hr => (ssd_cons (sd_if (td_not (td_val (ed_call c_is_bases hr (by decide) dvs0 runF_len (ad_cons (ed_var 0) (ad_cons (ed_var 1) ad_nil)))))
  (ssd_one sd_never)
  ssd_nil)
  (ssd_cons (sd_setF 2 sc_heights_of.nd (ed_call c_reads_by hr (by decide) dvs0 runF_len (ad_cons (ed_var 0) (ad_cons (ed_var 1) ad_nil))))
  (ssd_cons (sd_setF 3 sc_heights_of.nd (ed_cb vc_maxB (cr_maxB rfl hr.units) B.max (ad_cons (ed_var 2) ad_nil)))
  (ssd_cons (sd_ret (ed_ct vc_tuple call_tuple_of B.tuple (ad_cons (ed_lc (own := [("many", 4)]) rfl sc_heights_of.nd (id_seq (ed_sl (ed_var 2) (od_at ed_int) od_no)) (by first | decide | with_unfolding_all rfl) (by decide) (fun _ _ _ _ _ => (gd_name (i := 4) sc_heights_of.nd rfl (by first | exact .inl rfl | exact .inr rfl))) (fun _ _ _ _ _ => ptd_nil) (fun _ _ _ _ _ => (ed_op vb_sub op_sub (ed_op vb_add op_add3 (ed_var 3) ed_int) (ed_var 4)))) ad_nil)))
  ssd_nil))))
theorem okh__law_same (B : Bi mg) (F : FunD K "_law_same" "_law_same" (defArgs s__law_same) (defBody s__law_same) (defScope s__law_same) dvs kws f fd) (hc : ∀ {k : Nat} {sp : Sp}, L2H.FnH P w K mg base CX0 k f fd ["_law_one", "_law_other"] sp → KfH P w K mg base k "_law_same" sp) : ∀ N, L2H.FnH P w K mg base CX0 (1 + N) f fd ["_law_one", "_law_other"] (spD K 2 (R__law_same N)) := by
  intro N
  induction N with
  | zero => exact fnH_void
  | succ N ih =>
    have c__law_same := hc ih
    exact fnDH F sc__law_same rfl rfl fun cdv A outer s H E p hr hot => (ssd_cons (sd_if (td_val (ed_isi .tuple (ed_var 1) B.isinstance B.tuple))
  (ssd_cons (sd_if (WD.td (wd_or (td_not (td_val (ed_isi .tuple (ed_var 0) B.isinstance B.tuple))) (wd_or1 (td_cmp vb_ne (op_neD hr.units) (nomark _) (ed_cb vc_len call_len_seq B.len (ad_cons (ed_var 0) ad_nil)) (ed_cb vc_len call_len_seq B.len (ad_cons (ed_var 1) ad_nil))))))
  (ssd_one (sd_ret ed_bl))
  ssd_nil)
  (ssd_cons (sd_forH hot PassesOwn.never (ed_cb vc_len call_len_seq B.len (ad_cons (ed_var 1) ad_nil)) B.range (gd_name (i := 2) sc__law_same.nd rfl (by first | exact .inl rfl | exact .inr rfl))
  (ssd_one (sd_if (td_not (td_val (ed_callH c__law_same hr hot (Nat.le_refl _) (len__law_same N) (ad_cons (ed_ix (ed_var 0) (ed_var 2)) (ad_cons (ed_ix (ed_var 1) (ed_var 2)) ad_nil)))))
  (ssd_one (sd_ret ed_bl))
  ssd_nil)))
  (ssd_cons (sd_ret ed_bl)
  ssd_nil)))
  ssd_nil)
  (ssd_cons (sd_if (td_cmp vb_is op_is2 (nomark _) (ed_var 1) ed_non)
  (ssd_one (sd_ret (ed_cmp vb_is op_is2 (nomark _) (ed_var 0) ed_non)))
  ssd_nil)
  (ssd_cons (sd_if (td_val (ed_isi .bool (ed_var 1) B.isinstance B.bool))
  (ssd_one (sd_ret (ed_and (ed_isi .bool (ed_var 0) B.isinstance B.bool) (ed_one (ed_cmp vb_eq (op_eqD hr.units) (nomark _) (ed_var 0) (ed_var 1))))))
  ssd_nil)
  (ssd_cons (sd_if (td_val (ed_isi .int (ed_var 1) B.isinstance B.int))
  (ssd_one (sd_ret (ed_and (ed_isi .int (ed_var 0) B.isinstance B.int) (ed_and (ed_not (ed_isi .bool (ed_var 0) B.isinstance B.bool)) (ed_one (ed_cmp vb_eq (op_eqD hr.units) (nomark _) (ed_var 0) (ed_var 1)))))))
  ssd_nil)
  (ssd_cons (sd_ret (ed_and (ed_isi .str (ed_var 0) B.isinstance B.str) (ed_one (ed_cmp vb_eq (op_eqD hr.units) (nomark _) (ed_var 0) (ed_var 1)))))
  ssd_nil)))))
theorem ok__law_same (B : Bi mg) (F : FunD K "_law_same" "_law_same" (defArgs s__law_same) (defBody s__law_same) (defScope s__law_same) dvs kws f fd) (hc : ∀ {k : Nat} {sp : Sp}, FnOk P w K mg base CX0 k f fd ["_law_one", "_law_other"] sp → Kf P w K mg base k "_law_same" sp []) : ∀ N, FnOk P w K mg base CX0 (1 + N) f fd ["_law_one", "_law_other"] (spD K 2 (R__law_same N)) := by
  intro N
  induction N with
  | zero => exact fn_void
  | succ N ih =>
    have c__law_same := hc ih
    exact fnD F sc__law_same rfl rfl fun cdv A outer s H E hr => (ssd_cons (sd_if (td_val (ed_isi .tuple (ed_var 1) B.isinstance B.tuple))
  (ssd_cons (sd_if (WD.td (wd_or (td_not (td_val (ed_isi .tuple (ed_var 0) B.isinstance B.tuple))) (wd_or1 (td_cmp vb_ne (op_neD hr.units) (nomark _) (ed_cb vc_len call_len_seq B.len (ad_cons (ed_var 0) ad_nil)) (ed_cb vc_len call_len_seq B.len (ad_cons (ed_var 1) ad_nil))))))
  (ssd_one (sd_ret ed_bl))
  ssd_nil)
  (ssd_cons (sd_for rfl PassesOwn.never (id_rng1 (ed_cb vc_len call_len_seq B.len (ad_cons (ed_var 1) ad_nil)) B.range) (gd_name (i := 2) sc__law_same.nd rfl (by first | exact .inl rfl | exact .inr rfl))
  (ssd_one (sd_if (td_not (td_val (ed_call c__law_same hr (Nat.le_refl _) dvs0 (len__law_same N) (ad_cons (ed_ix (ed_var 0) (ed_var 2)) (ad_cons (ed_ix (ed_var 1) (ed_var 2)) ad_nil)))))
  (ssd_one (sd_ret ed_bl))
  ssd_nil)))
  (ssd_cons (sd_ret ed_bl)
  ssd_nil)))
  ssd_nil)
  (ssd_cons (sd_if (td_cmp vb_is op_is2 (nomark _) (ed_var 1) ed_non)
  (ssd_one (sd_ret (ed_cmp vb_is op_is2 (nomark _) (ed_var 0) ed_non)))
  ssd_nil)
  (ssd_cons (sd_if (td_val (ed_isi .bool (ed_var 1) B.isinstance B.bool))
  (ssd_one (sd_ret (ed_and (ed_isi .bool (ed_var 0) B.isinstance B.bool) (ed_one (ed_cmp vb_eq (op_eqD hr.units) (nomark _) (ed_var 0) (ed_var 1))))))
  ssd_nil)
  (ssd_cons (sd_if (td_val (ed_isi .int (ed_var 1) B.isinstance B.int))
  (ssd_one (sd_ret (ed_and (ed_isi .int (ed_var 0) B.isinstance B.int) (ed_and (ed_not (ed_isi .bool (ed_var 0) B.isinstance B.bool)) (ed_one (ed_cmp vb_eq (op_eqD hr.units) (nomark _) (ed_var 0) (ed_var 1)))))))
  ssd_nil)
  (ssd_cons (sd_ret (ed_and (ed_isi .str (ed_var 0) B.isinstance B.str) (ed_one (ed_cmp vb_eq (op_eqD hr.units) (nomark _) (ed_var 0) (ed_var 1)))))
  ssd_nil)))))
theorem ok__law_looks (B : Bi mg) (F : FunD K "_law_looks" "_law_looks" (defArgs s__law_looks) (defBody s__law_looks) (defScope s__law_looks) dvs kws f fd) (c__law_base : Kf P w K mg base 1 "_law_base" (spD K 3 F__law_base) []) (c__law_open : Kf P w K mg base 1 "_law_open" (spD K 3 F__law_open) []) (c__law_same : Kf P w K mg base 9 "_law_same" (spD K 2 F__law_same) []) (c__law_some : Kf P w K mg base 1 "_law_some" (spD K 2 F__law_some) []) (c_bases_by : Kf P w K mg base 4 "bases_by" (spD K 2 F_bases_by) []) (c_bases_by_kw0_1_0 : KfK P w K mg base 4 "bases_by" (spD K 2 F_bases_by) 0 ["heights", "history"] [1, 0]) (c_holders_of : Kf P w K mg base 7 "holders_of" (spD K 3 F_holders_of) []) (c_is_heights : Kf P w K mg base 3 "is_heights" (spD K 2 F_is_heights) []) (c_open_at : Kf P w K mg base 5 "open_at" (spD K 3 F_open_at) []) (c_open_at_kw0_2_1_0 : KfK P w K mg base 5 "open_at" (spD K 3 F_open_at) 0 ["version", "heights", "history"] [2, 1, 0]) (c_open_row : Kf P w K mg base 6 "open_row" (spD K 3 F_open_row) []) (c_open_row_kw0_2_1_0 : KfK P w K mg base 6 "open_row" (spD K 3 F_open_row) 0 ["version", "heights", "history"] [2, 1, 0]) (c_records_of : Kf P w K mg base 5 "records_of" (spD K 3 F_records_of) []) (c_records_of_kw0_2_1_0 : KfK P w K mg base 5 "records_of" (spD K 3 F_records_of) 0 ["version", "heights", "history"] [2, 1, 0]) : FnOk P w K mg base CX0 10 f fd ["_law_tree_here", "_law_heights_here", "_law_pick"] (spD K 3 F__law_looks) :=
  fnD F sc__law_looks rfl rfl fun cdv A outer s H E hr => (ssd_cons (sd_setF 3 sc__law_looks.nd (ed_cb vc_len call_len_seq B.len (ad_cons (ed_var 0) ad_nil)))
  (ssd_cons (sd_setF 4 sc__law_looks.nd (ed_ct vc_tuple call_tuple_of B.tuple (ad_cons (ed_lc (own := [("_law_v", 5)]) rfl sc__law_looks.nd (id_rng2 ed_int (ed_op vb_add op_add3 (ed_var 3) ed_int) B.range) (by first | decide | with_unfolding_all rfl) (by decide) (fun _ _ _ _ _ => (gd_name (i := 5) sc__law_looks.nd rfl (by first | exact .inl rfl | exact .inr rfl))) (fun _ _ _ _ _ => ptd_nil) (fun _ _ _ _ _ => (ed_call c__law_base hr (by decide) dvs0 runF_len (ad_cons (ed_var 0) (ad_cons (ed_var 1) (ad_cons (ed_var 5) ad_nil)))))) ad_nil)))
  (ssd_cons (sd_if (WD.td (wd_or (td_not (td_val (ed_call c__law_same hr (by decide) dvs0 (len__law_same 8) (ad_cons (ed_call c_is_heights hr (by decide) dvs0 runF_len (ad_cons (ed_var 0) (ad_cons (ed_var 1) ad_nil))) (ad_cons ed_bl ad_nil))))) (wd_or1 (td_not (td_val (ed_call c__law_same hr (by decide) dvs0 (len__law_same 8) (ad_cons (ed_call c_bases_by hr (by decide) dvs0 runF_len (ad_cons (ed_var 0) (ad_cons (ed_var 1) ad_nil))) (ad_cons (ed_var 4) ad_nil))))))))
  (ssd_one (sd_ret ed_bl))
  ssd_nil)
  (ssd_cons (sd_if (td_not (td_val (ed_call c__law_same hr (by decide) dvs0 (len__law_same 8) (ad_cons (ed_call c_records_of hr (by decide) dvs0 runF_len (ad_cons (ed_var 0) (ad_cons (ed_var 1) (ad_cons ed_int ad_nil)))) (ad_cons (ed_tup ad_nil) ad_nil)))))
  (ssd_one (sd_ret ed_bl))
  ssd_nil)
  (ssd_cons (sd_for rfl PassesOwn.never (id_seq (ed_call c__law_some hr (by decide) dvs0 runF_len (ad_cons (ed_var 3) (ad_cons (ed_var 2) ad_nil)))) (gd_name (i := 5) sc__law_looks.nd rfl (by first | exact .inl rfl | exact .inr rfl))
  (ssd_cons (sd_set 6 sc__law_looks.nd (ed_lst ad_nil))
  (ssd_cons (sd_setF 7 sc__law_looks.nd (ed_var 5))
  (ssd_cons (sd_while (fuI 7) PassesOwn.never (td_cmp vq_gt (oq_gt hr.units) (nomark _) (ed_var 7) ed_int)
  (ssd_cons (sd_expr (ed_app 6 (ed_var 7)))
  (ssd_cons (sd_setF 7 sc__law_looks.nd (ed_ix (ed_var 4) (ed_op vb_sub op_sub (ed_var 7) ed_int)))
  ssd_nil)))
  (ssd_cons (sd_setF 8 sc__law_looks.nd (ed_call c__law_open hr (by decide) dvs0 runF_len (ad_cons (ed_var 0) (ad_cons (ed_var 1) (ad_cons (ed_var 5) ad_nil)))))
  (ssd_cons (sd_setF 9 sc__law_looks.nd (ed_ct vc_tuple call_tuple_of B.tuple (ad_cons (ed_srt (ad_cons (ed_lc (own := [("_law_z", 10)]) rfl sc__law_looks.nd (id_seq (ed_var 8)) (by first | decide | with_unfolding_all rfl) (by decide) (fun _ _ _ _ _ => (gd_name (i := 10) sc__law_looks.nd rfl (by first | exact .inl rfl | exact .inr rfl))) (fun _ _ _ _ _ => ptd_nil) (fun _ _ _ _ _ => (ed_ix (ed_var 1) (ed_op vb_sub op_sub (ed_var 10) ed_int)))) ad_nil) B.sorted) ad_nil)))
  (ssd_cons (sd_if (td_not (td_val (ed_call c__law_same hr (by decide) dvs0 (len__law_same 8) (ad_cons (ed_call c_records_of hr (by decide) dvs0 runF_len (ad_cons (ed_var 0) (ad_cons (ed_var 1) (ad_cons (ed_var 5) ad_nil)))) (ad_cons (ed_ct vc_tuple call_tuple_of B.tuple (ad_cons (ed_var 6) ad_nil)) ad_nil)))))
  (ssd_one (sd_ret ed_bl))
  ssd_nil)
  (ssd_cons (sd_if (td_not (td_val (ed_call c__law_same hr (by decide) dvs0 (len__law_same 8) (ad_cons (ed_call c_open_at hr (by decide) dvs0 runF_len (ad_cons (ed_var 0) (ad_cons (ed_var 1) (ad_cons (ed_var 5) ad_nil)))) (ad_cons (ed_var 8) ad_nil)))))
  (ssd_one (sd_ret ed_bl))
  ssd_nil)
  (ssd_cons (sd_if (td_not (td_val (ed_call c__law_same hr (by decide) dvs0 (len__law_same 8) (ad_cons (ed_callK0 c_open_row_kw0_2_1_0 hr (by decide) runF_len (kd_cons (ed_var 5) (kd_cons (ed_var 1) (kd_cons (ed_var 0) kd_nil))) (len_cons (len_cons (len_cons len_nil)))) (ad_cons (ed_var 9) ad_nil)))))
  (ssd_one (sd_ret ed_bl))
  ssd_nil)
  (ssd_cons (sd_if (td_not (td_val (ed_call c__law_same hr (by decide) dvs0 (len__law_same 8) (ad_cons (ed_call c_open_row hr (by decide) dvs0 runF_len (ad_cons (ed_var 0) (ad_cons (ed_var 1) (ad_cons (ed_var 5) ad_nil)))) (ad_cons (ed_var 9) ad_nil)))))
  (ssd_one (sd_ret ed_bl))
  ssd_nil)
  (ssd_cons (sd_if (td_not (td_val (ed_call c__law_same hr (by decide) dvs0 (len__law_same 8) (ad_cons (ed_callK0 c_records_of_kw0_2_1_0 hr (by decide) runF_len (kd_cons (ed_var 5) (kd_cons (ed_var 1) (kd_cons (ed_var 0) kd_nil))) (len_cons (len_cons (len_cons len_nil)))) (ad_cons (ed_ct vc_tuple call_tuple_of B.tuple (ad_cons (ed_var 6) ad_nil)) ad_nil)))))
  (ssd_one (sd_ret ed_bl))
  ssd_nil)
  (ssd_cons (sd_if (td_not (td_val (ed_call c__law_same hr (by decide) dvs0 (len__law_same 8) (ad_cons (ed_callK0 c_open_at_kw0_2_1_0 hr (by decide) runF_len (kd_cons (ed_var 5) (kd_cons (ed_var 1) (kd_cons (ed_var 0) kd_nil))) (len_cons (len_cons (len_cons len_nil)))) (ad_cons (ed_var 8) ad_nil)))))
  (ssd_one (sd_ret ed_bl))
  ssd_nil)
  (ssd_cons (sd_if (td_not (td_val (ed_call c__law_same hr (by decide) dvs0 (len__law_same 8) (ad_cons (ed_call c_holders_of hr (by decide) dvs0 runF_len (ad_cons (ed_var 0) (ad_cons (ed_callK0 c_bases_by_kw0_1_0 hr (by decide) runF_len (kd_cons (ed_var 1) (kd_cons (ed_var 0) kd_nil)) (len_cons (len_cons len_nil))) (ad_cons (ed_var 5) ad_nil)))) (ad_cons (ed_var 8) ad_nil)))))
  (ssd_one (sd_ret ed_bl))
  ssd_nil)
  ssd_nil)))))))))))))
  (ssd_cons (sd_ret ed_bl)
  ssd_nil))))))
theorem ok__law_turned (B : Bi mg) (F : FunD K "_law_turned" "_law_turned" (defArgs s__law_turned) (defBody s__law_turned) (defScope s__law_turned) dvs kws f fd) (c__law_base : Kf P w K mg base 1 "_law_base" (spD K 3 F__law_base) []) (c__law_nested : Kf P w K mg base 1 "_law_nested" (spD K 2 F__law_nested) []) (c__law_same : Kf P w K mg base 9 "_law_same" (spD K 2 F__law_same) []) (c_bases_by : Kf P w K mg base 4 "bases_by" (spD K 2 F_bases_by) []) (c_heights_of : Kf P w K mg base 8 "heights_of" (spD K 2 F_heights_of) []) (c_heights_of_kw0_1_0 : KfK P w K mg base 8 "heights_of" (spD K 2 F_heights_of) 0 ["bases", "history"] [1, 0]) : FnOk P w K mg base CX0 10 f fd ["_law_tree_here", "_law_bases_here"] (spD K 2 F__law_turned) :=
  fnD F sc__law_turned rfl rfl fun cdv A outer s H E hr => (ssd_cons (sd_set 2 sc__law_turned.nd (ed_lst (ad_cons ed_int ad_nil)))
  (ssd_cons (sd_for rfl PassesOwn.never (id_rng2 ed_int (ed_op vb_add op_add3 (ed_cb vc_len call_len_seq B.len (ad_cons (ed_var 0) ad_nil)) ed_int) B.range) (gd_name (i := 3) sc__law_turned.nd rfl (by first | exact .inl rfl | exact .inr rfl))
  (ssd_one (sd_expr (ed_app 2 (ed_op vb_add op_add3 ed_int (ed_ix (ed_var 2) (ed_ix (ed_var 1) (ed_op vb_sub op_sub (ed_var 3) ed_int))))))))
  (ssd_cons (sd_setF 4 sc__law_turned.nd (ed_ct vc_tuple call_tuple_of B.tuple (ad_cons (ed_lc (own := [("_law_v", 3)]) rfl sc__law_turned.nd (id_rng2 ed_int (ed_op vb_add op_add3 (ed_cb vc_len call_len_seq B.len (ad_cons (ed_var 0) ad_nil)) ed_int) B.range) (by first | decide | with_unfolding_all rfl) (by decide) (fun _ _ _ _ _ => (gd_name (i := 3) sc__law_turned.nd rfl (by first | exact .inl rfl | exact .inr rfl))) (fun _ _ _ _ _ => ptd_nil) (fun _ _ _ _ _ => (ed_op vb_sub op_sub (ed_op vb_add op_add3 (ed_cb vc_maxB (cr_maxB rfl hr.units) B.max (ad_cons (ed_var 2) ad_nil)) ed_int) (ed_ix (ed_var 2) (ed_var 3))))) ad_nil)))
  (ssd_cons (sd_setF 5 sc__law_turned.nd (ed_call c_heights_of hr (by decide) dvs0 runF_len (ad_cons (ed_var 0) (ad_cons (ed_var 1) ad_nil))))
  (ssd_cons (sd_if (WD.td (wd_or (td_not (td_val (ed_call c__law_same hr (by decide) dvs0 (len__law_same 8) (ad_cons (ed_var 5) (ad_cons (ed_var 4) ad_nil))))) (wd_or1 (td_not (td_val (ed_call c__law_same hr (by decide) dvs0 (len__law_same 8) (ad_cons (ed_callK0 c_heights_of_kw0_1_0 hr (by decide) runF_len (kd_cons (ed_var 1) (kd_cons (ed_var 0) kd_nil)) (len_cons (len_cons len_nil))) (ad_cons (ed_var 4) ad_nil))))))))
  (ssd_one (sd_ret ed_bl))
  ssd_nil)
  (ssd_cons (sd_setF 6 sc__law_turned.nd (ed_call c_bases_by hr (by decide) dvs0 runF_len (ad_cons (ed_var 0) (ad_cons (ed_var 5) ad_nil))))
  (ssd_cons (sd_setF 7 sc__law_turned.nd (ed_ct vc_tuple call_tuple_of B.tuple (ad_cons (ed_lc (own := [("_law_v", 3)]) rfl sc__law_turned.nd (id_rng2 ed_int (ed_op vb_add op_add3 (ed_cb vc_len call_len_seq B.len (ad_cons (ed_var 0) ad_nil)) ed_int) B.range) (by first | decide | with_unfolding_all rfl) (by decide) (fun _ _ _ _ _ => (gd_name (i := 3) sc__law_turned.nd rfl (by first | exact .inl rfl | exact .inr rfl))) (fun _ _ _ _ _ => ptd_nil) (fun _ _ _ _ _ => (ed_call c__law_base hr (by decide) dvs0 runF_len (ad_cons (ed_var 0) (ad_cons (ed_var 4) (ad_cons (ed_var 3) ad_nil)))))) ad_nil)))
  (ssd_cons (sd_ret (ed_and (ed_call c__law_same hr (by decide) dvs0 (len__law_same 8) (ad_cons (ed_var 6) (ad_cons (ed_var 7) ad_nil))) (ed_one (ed_cmp vb_eq (op_eqD hr.units) (nomark _) (ed_call c__law_same hr (by decide) dvs0 (len__law_same 8) (ad_cons (ed_var 6) (ad_cons (ed_var 1) ad_nil))) (ed_call c__law_nested hr (by decide) dvs0 runF_len (ad_cons (ed_var 0) (ad_cons (ed_var 1) ad_nil)))))))
  ssd_nil))))))))
theorem ok__law_field (B : Bi mg) (XI : Xi K mg xcs xys xfs xtab) (F : FunD K "_law_field" "_law_field" (defArgs s__law_field) (defBody s__law_field) (defScope s__law_field) dvs kws f fd) (c_H_law_same : KfH P w K mg base 9 "_law_same" (spD K 2 F__law_same)) (c_Xread_heights : KfX P w K mg base 4 "read_heights" (spX K mg 2 FX_read_heights) []) : FnOk P w K mg base CX0 10 f fd ["_law_tree_here", "_law_text"] (spD K 2 F__law_field) :=
  fnD F sc__law_field rfl rfl fun cdv A outer s H E hr => (ssd_cons (sd_tryT rfl rfl sc__law_field.nd (i := 2) (XI.sub "InvalidText") (fun W2 pn xe tk hp =>
  (ssdx_one (sdx_expr (edx_call c_Xread_heights hr (by decide) dvs0 (orRx_len runF_len runX_len) tk (ad_cons (ed_var 0) (ad_cons (ed_var 1) ad_nil)))))) (fun k C a dd oe pn hk hz hf =>
  (ssd_cons (sd_if (WD.td (wd_and (td_val (ed_isT (XI.kit "TextError") hk hz.zc hf B.isinstance)) (wd_and (td_val (ed_isT (XI.kit "MarkError") hk hz.zc hf B.isinstance)) (wd_and1 (td_val (ed_callH c_H_law_same (room_suite hr) (hot_suite hz hf) (by decide) (len__law_same 8) (ad_cons (ed_fld (XI.fld "line") hk hz.zc hf) (ad_cons ed_int ad_nil))))))))
  (ssd_one (sd_ret (ed_fld (XI.fld "field") hk hz.zc hf)))
  ssd_nil)
  (ssd_cons (sd_ret ed_str)
  ssd_nil))))
  (ssd_cons (sd_ret ed_non)
  ssd_nil))
theorem ok__law_ask (B : Bi mg) (XI : Xi K mg xcs xys xfs xtab) (F : FunD K "_law_ask" "_law_ask" (defArgs s__law_ask) (defBody s__law_ask) (defScope s__law_ask) dvs kws f fd) (c_H_law_same : KfH P w K mg base 9 "_law_same" (spD K 2 F__law_same)) (c_Xbases_by : KfX P w K mg base 4 "bases_by" (spX K mg 2 FX_bases_by) []) (c_Xheights_line : KfX P w K mg base 4 "heights_line" (spX K mg 2 FX_heights_line) []) (c_Xheights_of : KfX P w K mg base 8 "heights_of" (spX K mg 2 FX_heights_of) []) (c_Xopen_at : KfX P w K mg base 5 "open_at" (spX K mg 3 FX_open_at) []) (c_Xopen_row : KfX P w K mg base 6 "open_row" (spX K mg 3 FX_open_row) []) (c_Xread_heights : KfX P w K mg base 4 "read_heights" (spX K mg 2 FX_read_heights) []) (c_Xrecords_of : KfX P w K mg base 5 "records_of" (spX K mg 3 FX_records_of) []) : FnOk P w K mg base CX0 10 f fd ["_law_number", "_law_tree_here", "_law_thing", "_law_version"] (spD K 4 F__law_ask) :=
  fnD F sc__law_ask rfl rfl fun cdv A outer s H E hr => (ssd_cons (sd_tryT rfl rfl sc__law_ask.nd (i := 4) (XI.sub "NotUsable") (fun W2 pn xe tk hp =>
  (ssdx_one (sdx_if (td_cmp vb_eq (op_eqD hr.units) (nomark _) (ed_var 0) ed_int)
  (ssdx_one (sdx_expr (edx_call c_Xbases_by hr (by decide) dvs0 (orRx_len runF_len runX_len) tk (ad_cons (ed_var 1) (ad_cons (ed_var 2) ad_nil)))))
  (ssdx_one (sdx_if (td_cmp vb_eq (op_eqD hr.units) (nomark _) (ed_var 0) ed_int)
  (ssdx_one (sdx_expr (edx_call c_Xheights_of hr (by decide) dvs0 (orRx_len runF_len runX_len) tk (ad_cons (ed_var 1) (ad_cons (ed_var 2) ad_nil)))))
  (ssdx_one (sdx_if (td_cmp vb_eq (op_eqD hr.units) (nomark _) (ed_var 0) ed_int)
  (ssdx_one (sdx_expr (edx_call c_Xrecords_of hr (by decide) dvs0 (orRx_len runF_len runX_len) tk (ad_cons (ed_var 1) (ad_cons (ed_var 2) (ad_cons (ed_var 3) ad_nil))))))
  (ssdx_one (sdx_if (td_cmp vb_eq (op_eqD hr.units) (nomark _) (ed_var 0) ed_int)
  (ssdx_one (sdx_expr (edx_call c_Xopen_at hr (by decide) dvs0 (orRx_len runF_len runX_len) tk (ad_cons (ed_var 1) (ad_cons (ed_var 2) (ad_cons (ed_var 3) ad_nil))))))
  (ssdx_one (sdx_if (td_cmp vb_eq (op_eqD hr.units) (nomark _) (ed_var 0) ed_int)
  (ssdx_one (sdx_expr (edx_call c_Xopen_row hr (by decide) dvs0 (orRx_len runF_len runX_len) tk (ad_cons (ed_var 1) (ad_cons (ed_var 2) (ad_cons (ed_var 3) ad_nil))))))
  (ssdx_one (sdx_if (td_cmp vb_eq (op_eqD hr.units) (nomark _) (ed_var 0) ed_int)
  (ssdx_one (sdx_expr (edx_call c_Xheights_line hr (by decide) dvs0 (orRx_len runF_len runX_len) tk (ad_cons (ed_var 1) (ad_cons (ed_var 2) ad_nil)))))
  (ssdx_one (sdx_expr (edx_call c_Xread_heights hr (by decide) dvs0 (orRx_len runF_len runX_len) tk (ad_cons (ed_var 1) (ad_cons (ed_var 2) ad_nil)))))))))))))))))) (fun k C a dd oe pn hk hz hf =>
  (ssd_cons (sd_if (WD.td (wd_and (td_val (ed_isT (XI.kit "BookError") hk hz.zc hf B.isinstance)) (wd_and (td_not (td_val (ed_isT (XI.kit "Faulty") hk hz.zc hf B.isinstance))) (wd_and1 (td_val (ed_callH c_H_law_same (room_suite hr) (hot_suite hz hf) (by decide) (len__law_same 8) (ad_cons (ed_fld (XI.fld "at") hk hz.zc hf) (ad_cons (ed_neg ed_int) ad_nil))))))))
  (ssd_one (sd_ret (ed_fld (XI.fld "word") hk hz.zc hf)))
  ssd_nil)
  (ssd_cons (sd_ret ed_str)
  ssd_nil))))
  (ssd_cons (sd_ret ed_non)
  ssd_nil))
theorem ok__law_lines (B : Bi mg) (F : FunD K "_law_lines" "_law_lines" (defArgs s__law_lines) (defBody s__law_lines) (defScope s__law_lines) dvs kws f fd) (c__law_field : Kf P w K mg base 10 "_law_field" (spD K 2 F__law_field) []) (c__law_same : Kf P w K mg base 9 "_law_same" (spD K 2 F__law_same) []) (c_heights_line : Kf P w K mg base 4 "heights_line" (spD K 2 F_heights_line) []) (c_heights_line_kw0_1_0 : KfK P w K mg base 4 "heights_line" (spD K 2 F_heights_line) 0 ["heights", "history"] [1, 0]) (c_is_heights_kw0_1_0 : KfK P w K mg base 3 "is_heights" (spD K 2 F_is_heights) 0 ["thing", "history"] [1, 0]) (c_read_heights : Kf P w K mg base 4 "read_heights" (spD K 2 F_read_heights) []) (c_read_heights_kw0_1_0 : KfK P w K mg base 4 "read_heights" (spD K 2 F_read_heights) 0 ["text", "history"] [1, 0]) : FnOk P w K mg base CX0 11 f fd ["_law_tree_here", "_law_heights_here", "_law_row"] (spD K 3 F__law_lines) :=
  fnD F sc__law_lines rfl rfl fun cdv A outer s H E hr => (ssd_cons (sd_setF 3 sc__law_lines.nd (ed_op vb_add op_add3 (ed_lst (ad_cons ed_str ad_nil)) (ed_lc (own := [("_law_height", 9)]) rfl sc__law_lines.nd (id_seq (ed_var 1)) (by first | decide | with_unfolding_all rfl) (by decide) (fun _ _ _ _ _ => (gd_name (i := 9) sc__law_lines.nd rfl (by first | exact .inl rfl | exact .inr rfl))) (fun _ _ _ _ _ => ptd_nil) (fun _ _ _ _ _ => (ed_ct vc_strN call_str_int B.str (ad_cons (ed_var 9) ad_nil))))))
  (ssd_cons (sd_setF 4 sc__law_lines.nd (ed_join ed_str (ed_var 3)))
  (ssd_cons (sd_if (td_not (td_val (ed_call c__law_same hr (by decide) dvs0 (len__law_same 8) (ad_cons (ed_tup (ad_cons (ed_call c_heights_line hr (by decide) dvs0 runF_len (ad_cons (ed_var 0) (ad_cons (ed_var 1) ad_nil))) (ad_cons (ed_callK0 c_heights_line_kw0_1_0 hr (by decide) runF_len (kd_cons (ed_var 1) (kd_cons (ed_var 0) kd_nil)) (len_cons (len_cons len_nil))) ad_nil))) (ad_cons (ed_tup (ad_cons (ed_var 4) (ad_cons (ed_var 4) ad_nil))) ad_nil)))))
  (ssd_one (sd_ret ed_bl))
  ssd_nil)
  (ssd_cons (sd_if (td_not (td_val (ed_call c__law_same hr (by decide) dvs0 (len__law_same 8) (ad_cons (ed_callK0 c_is_heights_kw0_1_0 hr (by decide) runF_len (kd_cons (ed_var 1) (kd_cons (ed_var 0) kd_nil)) (len_cons (len_cons len_nil))) (ad_cons ed_bl ad_nil)))))
  (ssd_one (sd_ret ed_bl))
  ssd_nil)
  (ssd_cons (sd_if (td_not (td_val (ed_call c__law_same hr (by decide) dvs0 (len__law_same 8) (ad_cons (ed_call c_read_heights hr (by decide) dvs0 runF_len (ad_cons (ed_var 0) (ad_cons (ed_var 4) ad_nil))) (ad_cons (ed_var 1) ad_nil)))))
  (ssd_one (sd_ret ed_bl))
  ssd_nil)
  (ssd_cons (sd_if (td_not (td_val (ed_call c__law_same hr (by decide) dvs0 (len__law_same 8) (ad_cons (ed_callK0 c_read_heights_kw0_1_0 hr (by decide) runF_len (kd_cons (ed_var 4) (kd_cons (ed_var 0) kd_nil)) (len_cons (len_cons len_nil))) (ad_cons (ed_var 1) ad_nil)))))
  (ssd_one (sd_ret ed_bl))
  ssd_nil)
  (ssd_cons (sd_setF 5 sc__law_lines.nd (ed_ix (ed_tup (ad_cons ed_str (ad_cons ed_str (ad_cons ed_str (ad_cons ed_str (ad_cons ed_str (ad_cons ed_str (ad_cons ed_str (ad_cons ed_str (ad_cons ed_str (ad_cons ed_str (ad_cons ed_str ad_nil)))))))))))) (ed_op vb_mod op_mod (ed_ct vc_int call_int1 B.int (ad_cons (ed_ix (ed_var 2) ed_int) ad_nil)) ed_int)))
  (ssd_cons (sd_setF 6 sc__law_lines.nd (ed_op vb_mod op_mod (ed_ct vc_int call_int1 B.int (ad_cons (ed_ix (ed_var 2) ed_int) ad_nil)) (ed_op vb_add op_add3 (ed_cb vc_len call_len_seq B.len (ad_cons (ed_var 3) ad_nil)) ed_int)))
  (ssd_cons (sd_if (td_cmp vb_eq (op_eqD hr.units) (nomark _) (ed_var 6) ed_int)
  (ssd_one (sd_setF 5 sc__law_lines.nd (ed_ix (ed_tup (ad_cons ed_str (ad_cons ed_str (ad_cons ed_str (ad_cons ed_str (ad_cons ed_str (ad_cons ed_str ad_nil))))))) (ed_op vb_mod op_mod (ed_ct vc_int call_int1 B.int (ad_cons (ed_ix (ed_var 2) ed_int) ad_nil)) ed_int))))
  ssd_nil)
  (ssd_cons (sd_setF 7 sc__law_lines.nd (ed_op vb_add op_add3 (ed_op vb_add op_add3 (ed_sl (ed_var 3) od_no (od_at (ed_var 6))) (ed_lst (ad_cons (ed_var 5) ad_nil))) (ed_sl (ed_var 3) (od_at (ed_op vb_add op_add3 (ed_var 6) ed_int)) od_no)))
  (ssd_cons (sd_if (td_not (td_val (ed_call c__law_same hr (by decide) dvs0 (len__law_same 8) (ad_cons (ed_call c__law_field hr (by decide) dvs0 runF_len (ad_cons (ed_var 0) (ad_cons (ed_join ed_str (ed_var 7)) ad_nil))) (ad_cons (ed_var 6) ad_nil)))))
  (ssd_one (sd_ret ed_bl))
  ssd_nil)
  (ssd_cons (sd_if (td_not (td_val (ed_call c__law_same hr (by decide) dvs0 (len__law_same 8) (ad_cons (ed_call c__law_field hr (by decide) dvs0 runF_len (ad_cons (ed_var 0) (ad_cons (ed_op vb_adS op_add_str (ed_var 4) ed_str) ad_nil))) (ad_cons (ed_cb vc_len call_len_seq B.len (ad_cons (ed_var 3) ad_nil)) ad_nil)))))
  (ssd_one (sd_ret ed_bl))
  ssd_nil)
  (ssd_cons (sd_setF 8 sc__law_lines.nd (ed_op vb_mod op_mod (ed_ct vc_int call_int1 B.int (ad_cons (ed_ix (ed_var 2) ed_int) ad_nil)) (ed_cb vc_len call_len_seq B.len (ad_cons (ed_var 3) ad_nil))))
  (ssd_cons (sd_ret (ed_call c__law_same hr (by decide) dvs0 (len__law_same 8) (ad_cons (ed_call c__law_field hr (by decide) dvs0 runF_len (ad_cons (ed_var 0) (ad_cons (ed_join ed_str (ed_sl (ed_var 3) od_no (od_at (ed_var 8)))) ad_nil))) (ad_cons (ed_var 8) ad_nil))))
  ssd_nil))))))))))))))
theorem ok__law_refused (B : Bi mg) (F : FunD K "_law_refused" "_law_refused" (defArgs s__law_refused) (defBody s__law_refused) (defScope s__law_refused) dvs kws f fd) (c__law_ask : Kf P w K mg base 10 "_law_ask" (spD K 4 F__law_ask) []) (c__law_bent : Kf P w K mg base 1 "_law_bent" (spD K 3 F__law_bent) []) (c__law_same : Kf P w K mg base 9 "_law_same" (spD K 2 F__law_same) []) (c_is_heights : Kf P w K mg base 3 "is_heights" (spD K 2 F_is_heights) []) : FnOk P w K mg base CX0 11 f fd ["_law_tree_here", "_law_heights_here", "_law_bases_here", "_law_row"] (spD K 4 F__law_refused) :=
  fnD F sc__law_refused rfl rfl fun cdv A outer s H E hr => (ssd_cons (sd_setF 4 sc__law_refused.nd (ed_call c__law_bent hr (by decide) dvs0 runF_len (ad_cons (ed_var 3) (ad_cons (ed_var 1) (ad_cons (ed_ix (ed_tup (ad_cons ed_int (ad_cons (ed_neg ed_int) (ad_cons ed_bl (ad_cons ed_str (ad_cons ed_bl (ad_cons (ed_tup (ad_cons ed_int ad_nil)) (ad_cons (ed_neg (ed_op vb_pow op_pow ed_int ed_int)) ad_nil)))))))) (ed_op vb_mod op_mod (ed_ct vc_int call_int1 B.int (ad_cons (ed_ix (ed_var 3) ed_int) ad_nil)) ed_int)) ad_nil)))))
  (ssd_cons (sd_setF 5 sc__law_refused.nd (ed_ix (ed_tup (ad_cons (ed_neg ed_int) (ad_cons (ed_op vb_add op_add3 (ed_cb vc_len call_len_seq B.len (ad_cons (ed_var 0) ad_nil)) ed_int) (ad_cons ed_bl (ad_cons ed_str (ad_cons (ed_tup (ad_cons ed_int ad_nil)) (ad_cons ed_bl (ad_cons (ed_op vb_pow op_pow ed_int ed_int) ad_nil)))))))) (ed_op vb_mod op_mod (ed_ct vc_int call_int1 B.int (ad_cons (ed_ix (ed_var 3) ed_int) ad_nil)) ed_int)))
  (ssd_cons (sd_if (td_not (td_val (ed_call c__law_same hr (by decide) dvs0 (len__law_same 8) (ad_cons (ed_call c_is_heights hr (by decide) dvs0 runF_len (ad_cons (ed_var 0) (ad_cons (ed_var 4) ad_nil))) (ad_cons ed_bl ad_nil)))))
  (ssd_one (sd_ret ed_bl))
  ssd_nil)
  (ssd_cons (sd_for rfl PassesOwn.never (id_seq (ed_tup (ad_cons ed_int (ad_cons ed_int (ad_cons ed_int (ad_cons ed_int (ad_cons ed_int ad_nil))))))) (gd_name (i := 6) sc__law_refused.nd rfl (by first | exact .inl rfl | exact .inr rfl))
  (ssd_one (sd_if (td_not (td_val (ed_call c__law_same hr (by decide) dvs0 (len__law_same 8) (ad_cons (ed_call c__law_ask hr (by decide) dvs0 runF_len (ad_cons (ed_var 6) (ad_cons (ed_var 0) (ad_cons (ed_var 4) (ad_cons (ed_var 5) ad_nil))))) (ad_cons ed_str ad_nil)))))
  (ssd_one (sd_ret ed_bl))
  ssd_nil)))
  (ssd_cons (sd_for rfl PassesOwn.never (id_seq (ed_tup (ad_cons ed_int (ad_cons ed_int (ad_cons ed_int ad_nil))))) (gd_name (i := 6) sc__law_refused.nd rfl (by first | exact .inl rfl | exact .inr rfl))
  (ssd_one (sd_if (td_not (td_val (ed_call c__law_same hr (by decide) dvs0 (len__law_same 8) (ad_cons (ed_call c__law_ask hr (by decide) dvs0 runF_len (ad_cons (ed_var 6) (ad_cons (ed_var 0) (ad_cons (ed_var 1) (ad_cons (ed_var 5) ad_nil))))) (ad_cons ed_str ad_nil)))))
  (ssd_one (sd_ret ed_bl))
  ssd_nil)))
  (ssd_cons (sd_if (td_not (td_val (ed_call c__law_same hr (by decide) dvs0 (len__law_same 8) (ad_cons (ed_call c__law_ask hr (by decide) dvs0 runF_len (ad_cons ed_int (ad_cons (ed_var 0) (ad_cons (ed_var 1) (ad_cons ed_int ad_nil))))) (ad_cons ed_str ad_nil)))))
  (ssd_one (sd_ret ed_bl))
  ssd_nil)
  (ssd_cons (sd_if (td_not (td_val (ed_call c__law_same hr (by decide) dvs0 (len__law_same 8) (ad_cons (ed_call c__law_ask hr (by decide) dvs0 runF_len (ad_cons ed_int (ad_cons (ed_var 0) (ad_cons (ed_var 1) (ad_cons ed_int ad_nil))))) (ad_cons ed_str ad_nil)))))
  (ssd_one (sd_ret ed_bl))
  ssd_nil)
  (ssd_cons (sd_setF 4 sc__law_refused.nd (ed_call c__law_bent hr (by decide) dvs0 runF_len (ad_cons (ed_sl (ed_var 3) (od_at ed_int) od_no) (ad_cons (ed_var 2) (ad_cons (ed_ix (ed_tup (ad_cons (ed_neg ed_int) (ad_cons ed_bl (ad_cons ed_non (ad_cons ed_str (ad_cons ed_bl (ad_cons ed_non ad_nil))))))) (ed_op vb_mod op_mod (ed_ct vc_int call_int1 B.int (ad_cons (ed_ix (ed_var 3) ed_int) ad_nil)) ed_int)) ad_nil)))))
  (ssd_cons (sd_if (td_not (td_val (ed_call c__law_same hr (by decide) dvs0 (len__law_same 8) (ad_cons (ed_call c__law_ask hr (by decide) dvs0 runF_len (ad_cons ed_int (ad_cons (ed_var 0) (ad_cons (ed_var 4) (ad_cons ed_int ad_nil))))) (ad_cons ed_str ad_nil)))))
  (ssd_one (sd_ret ed_bl))
  ssd_nil)
  (ssd_cons (sd_if (WD.td (wd_or (td_not (td_val (ed_call c__law_same hr (by decide) dvs0 (len__law_same 8) (ad_cons (ed_call c__law_ask hr (by decide) dvs0 runF_len (ad_cons ed_int (ad_cons (ed_var 0) (ad_cons (ed_var 2) (ad_cons ed_int ad_nil))))) (ad_cons ed_non ad_nil))))) (wd_or1 (td_not (td_val (ed_call c__law_same hr (by decide) dvs0 (len__law_same 8) (ad_cons (ed_call c__law_ask hr (by decide) dvs0 runF_len (ad_cons ed_int (ad_cons (ed_var 0) (ad_cons (ed_var 1) (ad_cons ed_int ad_nil))))) (ad_cons ed_non ad_nil))))))))
  (ssd_one (sd_ret ed_bl))
  ssd_nil)
  (ssd_cons (sd_ret (ed_call c__law_same hr (by decide) dvs0 (len__law_same 8) (ad_cons (ed_call c__law_ask hr (by decide) dvs0 runF_len (ad_cons ed_int (ad_cons (ed_var 0) (ad_cons (ed_ix (ed_tup (ad_cons ed_non (ad_cons ed_int (ad_cons (ed_tup (ad_cons ed_str ad_nil)) (ad_cons ed_bl ad_nil))))) (ed_op vb_mod op_mod (ed_ct vc_int call_int1 B.int (ad_cons (ed_ix (ed_var 3) ed_int) ad_nil)) ed_int)) (ad_cons ed_int ad_nil))))) (ad_cons ed_str ad_nil))))
  ssd_nil)))))))))))
theorem ok_law (B : Bi mg) (F : FunD K "law" "law" (defArgs s_law) (defBody s_law) (defScope s_law) dvs kws f fd) (c__law_bases : Kf P w K mg base 2 "_law_bases" (spD K 3 F__law_bases) []) (c__law_draw : Kf P w K mg base 1 "_law_draw" (spD K 3 F__law_draw) []) (c__law_heights : Kf P w K mg base 1 "_law_heights" (spD K 2 F__law_heights) []) (c__law_lines : Kf P w K mg base 11 "_law_lines" (spD K 3 F__law_lines) []) (c__law_looks : Kf P w K mg base 10 "_law_looks" (spD K 3 F__law_looks) []) (c__law_refused : Kf P w K mg base 11 "_law_refused" (spD K 4 F__law_refused) []) (c__law_tree : Kf P w K mg base 1 "_law_tree" (spD K 2 F__law_tree) []) (c__law_turned : Kf P w K mg base 10 "_law_turned" (spD K 2 F__law_turned) []) : FnOk P w K mg base CX0 12 f fd ["_law_script"] (spD K 1 F_law) :=
  fnD F sc_law rfl rfl fun cdv A outer s H E hr => (ssd_cons (sd_setF 1 sc_law.nd (ed_call c__law_draw hr (by decide) dvs0 runF_len (ad_cons (ed_var 0) (ad_cons ed_int (ad_cons ed_int ad_nil)))))
  (ssd_cons (sd_setF 2 sc_law.nd (ed_ix (ed_tup (ad_cons ed_int (ad_cons ed_int (ad_cons ed_int (ad_cons ed_int (ad_cons ed_int (ad_cons ed_int (ad_cons ed_int (ad_cons ed_int (ad_cons ed_int (ad_cons ed_int (ad_cons ed_int (ad_cons ed_int (ad_cons ed_int (ad_cons ed_int (ad_cons ed_int (ad_cons ed_int ad_nil))))))))))))))))) (ed_op vb_mod op_mod (ed_ct vc_int call_int1 B.int (ad_cons (ed_ix (ed_var 1) ed_int) ad_nil)) ed_int)))
  (ssd_cons (sd_setF 3 sc_law.nd (ed_call c__law_tree hr (by decide) dvs0 runF_len (ad_cons (ed_call c__law_draw hr (by decide) dvs0 runF_len (ad_cons (ed_var 0) (ad_cons ed_int (ad_cons ed_int ad_nil)))) (ad_cons (ed_var 2) ad_nil))))
  (ssd_cons (sd_setF 4 sc_law.nd (ed_call c__law_heights hr (by decide) dvs0 runF_len (ad_cons (ed_call c__law_draw hr (by decide) dvs0 runF_len (ad_cons (ed_var 0) (ad_cons ed_int (ad_cons ed_int ad_nil)))) (ad_cons (ed_var 2) ad_nil))))
  (ssd_cons (sd_setF 5 sc_law.nd (ed_call c__law_bases hr (by decide) dvs0 runF_len (ad_cons (ed_call c__law_draw hr (by decide) dvs0 runF_len (ad_cons (ed_var 0) (ad_cons ed_int (ad_cons ed_int ad_nil)))) (ad_cons (ed_var 3) (ad_cons (ed_var 4) ad_nil)))))
  (ssd_cons (sd_if (WD.td (wd_or (td_not (td_val (ed_call c__law_looks hr (by decide) dvs0 runF_len (ad_cons (ed_var 3) (ad_cons (ed_var 4) (ad_cons (ed_ix (ed_var 1) ed_int) ad_nil)))))) (wd_or1 (td_not (td_val (ed_call c__law_turned hr (by decide) dvs0 runF_len (ad_cons (ed_var 3) (ad_cons (ed_var 5) ad_nil))))))))
  (ssd_one (sd_ret ed_bl))
  ssd_nil)
  (ssd_cons (sd_if (td_not (td_val (ed_call c__law_lines hr (by decide) dvs0 runF_len (ad_cons (ed_var 3) (ad_cons (ed_var 4) (ad_cons (ed_call c__law_draw hr (by decide) dvs0 runF_len (ad_cons (ed_var 0) (ad_cons ed_int (ad_cons ed_int ad_nil)))) ad_nil))))))
  (ssd_one (sd_ret ed_bl))
  ssd_nil)
  (ssd_cons (sd_ret (ed_call c__law_refused hr (by decide) dvs0 runF_len (ad_cons (ed_var 3) (ad_cons (ed_var 4) (ad_cons (ed_var 5) (ad_cons (ed_call c__law_draw hr (by decide) dvs0 runF_len (ad_cons (ed_var 0) (ad_cons ed_int (ad_cons ed_int ad_nil)))) ad_nil))))))
  ssd_nil))))))))
end
end K12
namespace K12
open PySem PySem.Spec PyProof.Rows L2 DL
noncomputable section
def f_is_integer (thing : PyData) : Option Bool :=
  (isD .int thing).bind fun t1 => (andO t1 ((isD .bool thing).bind fun t2 => some (!t2))).bind fun t3 => some t3
def f_many_of (history : (List Int)) : Option Int :=
  some (history.length : Int)
def f_upward_L1 (history : (List Int)) (version_ : Int) (found_ : (List Int)) : Option (Int × (List Int)) :=
  (atI history (version_ - (1 : Int))).bind fun version3 => (appO found_ version3).bind fun found4 => some (version3, found4)
def f_upward_L1c (history : (List Int)) (version_ : Int) (found_ : (List Int)) : Option Bool :=
  some (decide ((0 : Int) < version_))
def f_upward (history : (List Int)) (version : Int) : Option (List Int) :=
  (some []).bind fun found1 => (whS (fun (s_ : Int × (List Int)) => f_upward_L1c history s_.1 s_.2) (fun (s_ : Int × (List Int)) => f_upward_L1 history s_.1 s_.2) (version.toNat + 1) (version, found1)).bind fun s8 => some s8.2
def f_at_or_below_L1 (history : (List Int)) (version : Int) (step_ : Int) : Option (Int) :=
  (atI history (step_ - (1 : Int))).bind fun step3 => some step3
def f_at_or_below_L1c (history : (List Int)) (version : Int) (step_ : Int) : Option Bool :=
  some (decide (version < step_))
def f_at_or_below (history : (List Int)) (version : Int) (other : Int) : Option Bool :=
  (some other).bind fun step1 => (whS (fun (step_ : Int) => f_at_or_below_L1c history version step_) (fun (step_ : Int) => f_at_or_below_L1 history version step_) (step1.toNat + 1) step1).bind fun step7 => some (decide (step7 = version))
def f_falling (members : (List Int)) : Option (List Int) :=
  some (downI members)
def f_number_in (word : Str) : Option Int :=
  (orO (!(Txt.isdigit word)) ((ixSO word (0 : Int)).bind fun t1 => (bD (p_eq (PyData.str t1) (PyData.str ("0" : Str)))).bind fun t2 => some t2)).bind fun t3 => if t3 = true then some (0 : Int) else (intSO word).bind fun t5 => some t5
def f_w_draw_L1 (many : Int) (x_1 : Int) (cell_ : Int) (row_ : (List Int)) : Option (Int × (List Int)) :=
  (appO row_ (cell_ % (9967 : Int))).bind fun row14 => (some (cell_ / (9967 : Int))).bind fun cell15 => some (cell15, row14)
def f_w_draw_L2 (many : Int) (x_2 : Int) (row_ : (List Int)) (mixed_ : Int) : Option ((List Int) × Int) :=
  (some (((mixed_ * (40014 : Int)) + (5501 : Int)) % (2147483563 : Int))).bind fun mixed24 => (appO row_ ((mixed24 / (11 : Int)) % (9967 : Int))).bind fun row25 => some (row25, mixed24)
def f_w_draw (script : (List Int)) (at_ : Int) (many : Int) : Option (List Int) :=
  if (decide ((script.length : Int) = (0 : Int))) = true then (rng1O many).bind fun is2 => (lcC (fun x3 => some true) (fun x3 => some (0 : Int)) is2).bind fun t4 => some t4 else (modO at_ (script.length : Int)).bind fun t5 => (atI script t5).bind fun cell7 => (some []).bind fun row8 => (andO (decide (at_ < (script.length : Int))) ((powO (10 : Int) (18 : Int)).bind fun t9 => some (decide (t9 ≤ (if cell7 < 0 then -cell7 else cell7))))).bind fun t10 => if t10 = true then (rng1O many).bind fun is12 => (forS (fun x_1 (s_ : Int × (List Int)) => f_w_draw_L1 many x_1 s_.1 s_.2) is12 (cell7, row8)).bind fun s19 => some s19.2 else (some (((((cell7 * (40692 : Int)) + (at_ * (3791 : Int))) + ((script.length : Int) * (911 : Int))) + (17 : Int)) % (2147483399 : Int))).bind fun mixed21 => (rng1O many).bind fun is22 => (forS (fun x_2 (s_ : (List Int) × Int) => f_w_draw_L2 many x_2 s_.1 s_.2) is22 (row8, mixed21)).bind fun s29 => some s29.1
def f_w_tree_L1 (row : (List Int)) (many : Int) (manner : Int) (x_1 : Int) (parents_ : (List Int)) : Option ((List Int)) :=
  (atI row ((1 : Int) + x_1)).bind fun pick8 => if (decide (manner = (0 : Int))) = true then (modO pick8 (x_1 + (1 : Int))).bind fun t10 => (appO parents_ t10).bind fun parents11 => some parents11 else if (decide (manner = (1 : Int))) = true then (modO pick8 (min (2 : Int) (x_1 + (1 : Int)))).bind fun t13 => (appO parents_ (x_1 - t13)).bind fun parents14 => some parents14 else if ((decide (manner = (2 : Int))) && (decide ((0 : Int) < (pick8 % (8 : Int))))) = true then (appO parents_ x_1).bind fun parents16 => some parents16 else if (decide (manner = (2 : Int))) = true then (modO (pick8 / (8 : Int)) (x_1 + (1 : Int))).bind fun t18 => (appO parents_ t18).bind fun parents19 => some parents19 else (modO pick8 (min (3 : Int) (x_1 + (1 : Int)))).bind fun t20 => (appO parents_ t20).bind fun parents21 => some parents21
def f_w_tree (row : (List Int)) (many : Int) : Option (List Int) :=
  (atI row (0 : Int)).bind fun t1 => (some (t1 % (4 : Int))).bind fun manner2 => (some []).bind fun parents3 => (rng1O many).bind fun is4 => (forS (fun x_1 (parents_ : (List Int)) => f_w_tree_L1 row many manner2 x_1 parents_) is4 parents3).bind fun parents40 => some parents40
def f_w_heights_L1 (row : (List Int)) (many : Int) (manner : Int) (x_1 : Int) (heights_ : (List Int)) : Option ((List Int)) :=
  (atI row ((1 : Int) + x_1)).bind fun pick8 => if (decide (manner < (3 : Int))) = true then (appO heights_ ((1 : Int) + (pick8 % (3 : Int)))).bind fun heights10 => some heights10 else if (decide (manner < (5 : Int))) = true then (appO heights_ ((1 : Int) + (pick8 % (2 : Int)))).bind fun heights12 => some heights12 else if (decide (manner = (5 : Int))) = true then (appO heights_ ((1 : Int) + (pick8 % (12 : Int)))).bind fun heights14 => some heights14 else if ((decide (manner = (6 : Int))) && (decide ((0 : Int) < (pick8 % (6 : Int))))) = true then (appO heights_ (((1 : Int) + many) - x_1)).bind fun heights16 => some heights16 else if (decide (manner = (6 : Int))) = true then (appO heights_ ((1 : Int) + (pick8 % (5 : Int)))).bind fun heights18 => some heights18 else (powO (10 : Int) (28 : Int)).bind fun t19 => (mulO t19 ((1 : Int) + (pick8 % (5 : Int)))).bind fun t20 => (appO heights_ (t20 + ((pick8 / (7 : Int)) % (3 : Int)))).bind fun heights21 => some heights21
def f_w_heights (row : (List Int)) (many : Int) : Option (List Int) :=
  (atI row (0 : Int)).bind fun t1 => (some (t1 % (8 : Int))).bind fun manner2 => (some []).bind fun heights3 => (rng1O many).bind fun is4 => (forS (fun x_1 (heights_ : (List Int)) => f_w_heights_L1 row many manner2 x_1 heights_) is4 heights3).bind fun heights40 => some heights40
def f_w_base_L1 (tree : (List Int)) (heights : (List Int)) (version : Int) (up_ : Int) : Option (Int) :=
  (atI tree (up_ - (1 : Int))).bind fun up4 => some up4
def f_w_base_L1c (tree : (List Int)) (heights : (List Int)) (version : Int) (up_ : Int) : Option Bool :=
  (andO (decide ((0 : Int) < up_)) ((atI heights (up_ - (1 : Int))).bind fun t5 => (atI heights (version - (1 : Int))).bind fun t6 => some (decide (t5 ≤ t6)))).bind fun t7 => some t7
def f_w_base (tree : (List Int)) (heights : (List Int)) (version : Int) : Option Int :=
  (atI tree (version - (1 : Int))).bind fun up2 => (whS (fun (up_ : Int) => f_w_base_L1c tree heights version up_) (fun (up_ : Int) => f_w_base_L1 tree heights version up_) (up2.toNat + 1) up2).bind fun up14 => some up14
def f_w_open_L2 (tree : (List Int)) (heights : (List Int)) (version : Int) (found : (List Int)) (z_ : Int) (at__ : Int) (clear_ : Bool) : Option (Int × Bool) :=
  (atI tree (at__ - (1 : Int))).bind fun at_9 => (andO (decide (version ≤ at_9)) ((atI heights (at_9 - (1 : Int))).bind fun t10 => (atI heights (z_ - (1 : Int))).bind fun t11 => some (decide (t11 < t10)))).bind fun t12 => if t12 = true then (some false).bind fun clear14 => some (at_9, clear14) else some (at_9, clear_)
def f_w_open_L2c (tree : (List Int)) (heights : (List Int)) (version : Int) (found : (List Int)) (z_ : Int) (at__ : Int) (clear_ : Bool) : Option Bool :=
  some ((decide (version < at__)) && clear_)
def f_w_open_L1 (tree : (List Int)) (heights : (List Int)) (version : Int) (x_1 : Int) (found_ : (List Int)) : Option ((List Int)) :=
  (some x_1).bind fun at_6 => (some true).bind fun clear7 => (whS (fun (s_ : Int × Bool) => f_w_open_L2c tree heights version found_ x_1 s_.1 s_.2) (fun (s_ : Int × Bool) => f_w_open_L2 tree heights version found_ x_1 s_.1 s_.2) 300 (at_6, clear7)).bind fun s22 => if (s22.2 && (decide (s22.1 = version))) = true then (appO found_ x_1).bind fun found24 => some found24 else some found_
def f_w_open (tree : (List Int)) (heights : (List Int)) (version : Int) : Option (List Int) :=
  (some []).bind fun found1 => (rngO version ((tree.length : Int) + (1 : Int))).bind fun is2 => (forS (fun x_1 (found_ : (List Int)) => f_w_open_L1 tree heights version x_1 found_) is2 found1).bind fun found41 => some found41
def f_w_some (many : Int) (pick : Int) : Option (List Int) :=
  if (decide (many < (10 : Int))) = true then (rgLO (1 : Int) (many + (1 : Int))).bind fun t2 => some t2 else (modO pick many).bind fun t3 => (modO (pick / (3 : Int)) many).bind fun t4 => (modO (pick / (7 : Int)) many).bind fun t5 => some [(1 : Int), many, ((1 : Int) + t3), ((1 : Int) + t4), ((1 : Int) + t5)]
def f_w_nested_L2 (tree : (List Int)) (bases : (List Int)) (z_ : Int) (at__ : Int) : Option (Lp (Int) Bool) :=
  (atI bases (z_ - (1 : Int))).bind fun t6 => (andO (decide (t6 < at__)) ((atI bases (z_ - (1 : Int))).bind fun t7 => (atI bases (at__ - (1 : Int))).bind fun t8 => some (decide (t8 < t7)))).bind fun t9 => if t9 = true then some (.rt false) else (atI tree (at__ - (1 : Int))).bind fun at_12 => some (.nx at_12)
def f_w_nested_L2c (tree : (List Int)) (bases : (List Int)) (z_ : Int) (at__ : Int) : Option Bool :=
  some (decide ((0 : Int) < at__))
def f_w_nested_L1 (tree : (List Int)) (bases : (List Int)) (x_1 : Int) : Option (Lp (Unit) Bool) :=
  (atI tree (x_1 - (1 : Int))).bind fun at_5 => thenL (whG (fun (at__ : Int) => f_w_nested_L2c tree bases x_1 at__) (fun (at__ : Int) => f_w_nested_L2 tree bases x_1 at__) (at_5.toNat + 1) at_5) (fun r_ => some (.rt r_)) fun at_21 => some (.nx ())
def f_w_nested (tree : (List Int)) (bases : (List Int)) : Option Bool :=
  (rngO (1 : Int) ((tree.length : Int) + (1 : Int))).bind fun is1 => thenL (forG (fun x_1 (s_ : Unit) => f_w_nested_L1 tree bases x_1) is1 ()) (fun r_ => some r_) fun s35 => some true
def f_w_bent (row : (List Int)) (good : (List Int)) (odd : PyData) : Option PyData :=
  (atI row (0 : Int)).bind fun t1 => (some (t1 % (6 : Int))).bind fun kind2 => if (decide (kind2 = (0 : Int))) = true then some ((ls PyData.int) good) else if (decide (kind2 = (1 : Int))) = true then (andO (decide ((0 : Int) < (good.length : Int))) ((atI good (0 : Int)).bind fun t5 => some (decide (t5 = (0 : Int))))).bind fun t6 => (catO good [((1 : Int) - (if t6 = true then (1 : Int) else 0))]).bind fun t7 => some ((tp PyData.int) t7) else if (decide (kind2 = (2 : Int))) = true then (atI row (1 : Int)).bind fun t9 => (atI [(nn ()), (PyData.int (7 : Int)), (PyData.str ("1" : Str)), (PyData.bool true)] (t9 % (4 : Int))).bind fun t10 => some t10 else if ((decide (kind2 = (3 : Int))) && (decide ((0 : Int) < (good.length : Int)))) = true then some ((tp PyData.int) (cutD good (some (1 : Int)) none)) else if (decide ((good.length : Int) = (0 : Int))) = true then some ((p1 PyData.int) (1 : Int)) else (atI row (1 : Int)).bind fun t13 => (modO t13 (good.length : Int)).bind fun place15 => (bD (p_is odd (nn ()))).bind fun t16 => if t16 = true then (catO (cutD good none (some place15)) [(place15 + (1 : Int))]).bind fun t18 => (catO t18 (cutD good (some (place15 + (1 : Int))) none)).bind fun t19 => some ((tp PyData.int) t19) else (catO (List.map PyData.int (cutD good none (some place15))) [odd]).bind fun t20 => (catO t20 (List.map PyData.int (cutD good (some (place15 + (1 : Int))) none))).bind fun t21 => some ((tp idD) t21)
def f_is_number (thing : Int) : Option Bool :=
  (f_is_integer (PyData.int thing)).bind fun t1 => some (t1 && (decide ((0 : Int) ≤ thing)))
def f_is_natural (thing : PyData) : Option Bool :=
  (f_is_integer thing).bind fun t1 => (andO t1 ((bD (q_ge thing (PyData.int (1 : Int)))).bind fun t2 => some (t2))).bind fun t3 => some t3
def f_w_bases_L2 (row : (List Int)) (tree : (List Int)) (bases : (List Int)) (v_ : Int) (x_2 : Int) (up_ : Int) : Option (Int) :=
  if (decide ((0 : Int) < up_)) = true then (atI tree (up_ - (1 : Int))).bind fun up19 => some up19 else some up_
def f_w_bases_L1 (row : (List Int)) (tree : (List Int)) (x_1 : Int) (bases_ : (List Int)) : Option ((List Int)) :=
  (atI tree (x_1 - (1 : Int))).bind fun up13 => (atI row x_1).bind fun t14 => (rng1O (t14 % (4 : Int))).bind fun is15 => (forS (fun x_2 (up_ : Int) => f_w_bases_L2 row tree bases_ x_1 x_2 up_) is15 up13).bind fun up25 => (appO bases_ up25).bind fun bases27 => some bases27
def f_w_bases (row : (List Int)) (tree : (List Int)) (heights : (List Int)) : Option (List Int) :=
  (atI row (0 : Int)).bind fun t1 => if (decide ((t1 % (3 : Int)) = (1 : Int))) = true then (rngO (1 : Int) ((tree.length : Int) + (1 : Int))).bind fun is3 => (lcC (fun x4 => some true) (fun x4 => (f_w_base tree heights x4).bind fun t5 => some t5) is3).bind fun t6 => some t6 else (some []).bind fun bases7 => (rngO (1 : Int) ((tree.length : Int) + (1 : Int))).bind fun is8 => (forS (fun x_1 (bases_ : (List Int)) => f_w_bases_L1 row tree x_1 bases_) is8 bases7).bind fun bases44 => some bases44
def f_check_version (history : (List Int)) (name : Str) (thing : Int) (least : Int) : Option Unit :=
  (f_is_number thing).bind fun t1 => if ((!t1) || (!(decide (least ≤ thing) && decide (thing ≤ (history.length : Int))))) = true then none else some ()
def f_up_to (thing : Int) (greatest : Int) : Option Bool :=
  (f_is_natural (PyData.int thing)).bind fun t1 => some (t1 && (decide (thing ≤ greatest)))
def f_ask_version (history : (List Int)) (word : Str) (version : Int) (least : Int) : Option Unit :=
  (f_is_number version).bind fun t1 => (andO t1 ((f_many_of history).bind fun t2 => some (decide (least ≤ version) && decide (version ≤ t2)))).bind fun t3 => if (!t3) = true then none else some ()
def f_is_heights (history : (List Int)) (thing : PyData) : Option Bool :=
  (isD .tuple thing).bind fun t1 => (orO (!t1) ((iD (c_len [thing])).bind fun t2 => some (!decide (t2 = (history.length : Int))))).bind fun t3 => if t3 = true then some false else (wkD thing).bind fun is5 => (lcC (fun x6 => some true) (fun x6 => (f_is_natural x6).bind fun t7 => some t7) is5).bind fun t8 => some (t8.all id)
def f_words_of (text : Str) (name : Str) : Option (List Str) :=
  if (!true) = true then none else (spltO text (" " : Str)).bind fun words3 => (atI words3 (0 : Int)).bind fun t4 => (bD (p_ne (PyData.str t4) (PyData.str name))).bind fun t5 => if t5 = true then none else some words3
def f_is_elder (history : (List Int)) (one : Int) (other : Int) : Option Bool :=
  (f_check_version history ("one" : Str) one (0 : Int)).bind fun t1 => (f_check_version history ("other" : Str) other (0 : Int)).bind fun t2 => (f_upward history other).bind fun t3 => some (decide (one ∈ t3))
def f_need_version (history : (List Int)) (version : Int) : Option Unit :=
  (f_up_to version (history.length : Int)).bind fun t1 => if (!t1) = true then none else some ()
def f_branch_of_L1 (history : (List Int)) (x_1 : (Int × Int)) (inside_ : (List Bool)) : Option ((List Bool)) :=
  (atI inside_ x_1.2).bind fun t7 => if t7 = true then (putO inside_ (x_1.1 + (1 : Int)) true).bind fun inside9 => some inside9 else some inside_
def f_branch_of (history : (List Int)) (version : Int) : Option (List Int) :=
  (f_check_version history ("version" : Str) version (0 : Int)).bind fun t1 => (repO [false] ((history.length : Int) + (1 : Int))).bind fun inside3 => (putO inside3 version true).bind fun inside4 => (forS (fun x_1 (inside_ : (List Bool)) => f_branch_of_L1 history x_1 inside_) (enumL history) inside4).bind fun inside16 => (lcC (fun x19 => some x19.2) (fun x19 => some x19.1) (enumL inside16)).bind fun t20 => some t20
def f_bases_by_L2 (history : (List Int)) (heights : (List Int)) (bases : (List Int)) (height : Int) (elder_ : Int) : Option (Int) :=
  (atI history (elder_ - (1 : Int))).bind fun elder9 => some elder9
def f_bases_by_L2c (history : (List Int)) (heights : (List Int)) (bases : (List Int)) (height : Int) (elder_ : Int) : Option Bool :=
  (andO (!decide (elder_ = (0 : Int))) ((atI heights (elder_ - (1 : Int))).bind fun t10 => some (decide (t10 ≤ height)))).bind fun t11 => some t11
def f_bases_by_L1 (history : (List Int)) (heights : (List Int)) (x_1 : (Int × Int)) (bases_ : (List Int)) : Option ((List Int)) :=
  (some x_1.2).bind fun elder7 => (whS (fun (elder_ : Int) => f_bases_by_L2c history heights bases_ x_1.1 elder_) (fun (elder_ : Int) => f_bases_by_L2 history heights bases_ x_1.1 elder_) (elder7.toNat + 1) elder7).bind fun elder17 => (appO bases_ elder17).bind fun bases18 => some bases18
def f_bases_by (history : (List Int)) (heights : (List Int)) : Option (List Int) :=
  (f_is_heights history ((tp PyData.int) heights)).bind fun t1 => if (!t1) = true then none else (some []).bind fun bases3 => (forS (fun x_1 (bases_ : (List Int)) => f_bases_by_L1 history heights x_1 bases_) (heights.zip history) bases3).bind fun bases31 => some bases31
def f_heights_line (history : (List Int)) (heights : (List Int)) : Option Str :=
  (f_is_heights history ((tp PyData.int) heights)).bind fun t1 => if (!t1) = true then none else (lcC (fun x3 => some true) (fun x3 => (strNO x3).bind fun t4 => some t4) heights).bind fun t5 => (catO [("heights" : Str)] t5).bind fun t6 => (joinSO (" " : Str) t6).bind fun t7 => some t7
def f_read_heights_L1 (history : (List Int)) (words : (List Str)) (x_1 : (Int × Str)) (heights_ : (List Int)) : Option ((List Int)) :=
  (f_number_in x_1.2).bind fun height8 => if ((decide ((history.length : Int) ≤ x_1.1)) || (decide (height8 < (1 : Int)))) = true then none else (appO heights_ height8).bind fun heights10 => some heights10
def f_read_heights (history : (List Int)) (text : Str) : Option (List Int) :=
  (f_words_of text ("heights" : Str)).bind fun words2 => (some []).bind fun heights3 => (forS (fun x_1 (heights_ : (List Int)) => f_read_heights_L1 history words2 x_1 heights_) (enumL (cutD words2 (some (1 : Int)) none)) heights3).bind fun heights19 => if (decide ((heights19.length : Int) < (history.length : Int))) = true then none else some heights19
def f_is_bases_L1 (history : (List Int)) (thing : (List Int)) (x_1 : (Int × Int)) : Option (Lp (Unit) Bool) :=
  (f_is_number x_1.2).bind fun t6 => (andO t6 ((andO (decide (x_1.2 ≤ x_1.1)) ((f_is_elder history x_1.2 (x_1.1 + (1 : Int))).bind fun t7 => some t7)).bind fun t8 => some t8)).bind fun t9 => if (!t9) = true then some (.rt false) else some (.nx ())
def f_is_bases (history : (List Int)) (thing : (List Int)) : Option Bool :=
  (andO true ((f_many_of history).bind fun t1 => some (decide ((thing.length : Int) = t1)))).bind fun t2 => if (!t2) = true then some false else thenL (forG (fun x_1 (s_ : Unit) => f_is_bases_L1 history thing x_1) (enumL thing) ()) (fun r_ => some r_) fun s18 => some true
def f_records_of_L1 (bases : (List Int)) (records_ : (List Int)) (step_ : Int) : Option ((List Int) × Int) :=
  (appO records_ step_).bind fun records7 => (atI bases (step_ - (1 : Int))).bind fun step9 => some (records7, step9)
def f_records_of_L1c (bases : (List Int)) (records_ : (List Int)) (step_ : Int) : Option Bool :=
  some (!decide (step_ = (0 : Int)))
def f_records_of (history : (List Int)) (heights : (List Int)) (version : Int) : Option (List Int) :=
  (f_bases_by history heights).bind fun bases2 => (f_is_number version).bind fun t3 => if ((!t3) || (decide ((history.length : Int) < version))) = true then none else (some []).bind fun records5 => (some version).bind fun step6 => (whS (fun (s_ : (List Int) × Int) => f_records_of_L1c bases2 s_.1 s_.2) (fun (s_ : (List Int) × Int) => f_records_of_L1 bases2 s_.1 s_.2) (step6.toNat + 1) (records5, step6)).bind fun s13 => some s13.1
def f_open_at_L1 (history : (List Int)) (version : Int) (bases : (List Int)) (x_1 : Int) (found_ : (List Int)) : Option ((List Int)) :=
  (atI bases (x_1 - (1 : Int))).bind fun t7 => (andO (decide (t7 < version)) ((f_at_or_below history version x_1).bind fun t8 => some t8)).bind fun t9 => if t9 = true then (appO found_ x_1).bind fun found11 => some found11 else some found_
def f_open_at (history : (List Int)) (heights : (List Int)) (version : Int) : Option (List Int) :=
  (f_bases_by history heights).bind fun bases2 => (f_need_version history version).bind fun t3 => (some []).bind fun found4 => (rngO version ((history.length : Int) + (1 : Int))).bind fun is5 => (forS (fun x_1 (found_ : (List Int)) => f_open_at_L1 history version bases2 x_1 found_) is5 found4).bind fun found19 => some found19
def f_ask_bases (history : (List Int)) (bases : (List Int)) : Option Unit :=
  (f_is_bases history bases).bind fun t1 => if (!t1) = true then none else some ()
def f_open_row (history : (List Int)) (heights : (List Int)) (version : Int) : Option (List Int) :=
  (f_open_at history heights version).bind fun t1 => (lcC (fun x2 => some true) (fun x2 => (atI heights (x2 - (1 : Int))).bind fun t3 => some t3) t1).bind fun t4 => (f_falling t4).bind fun t5 => some t5
def f_reads_by_L1 (bases : (List Int)) (x_1 : Int) (counts_ : (List Int)) : Option ((List Int)) :=
  (atI counts_ x_1).bind fun t4 => (appO counts_ (t4 + (1 : Int))).bind fun counts5 => some counts5
def f_reads_by (history : (List Int)) (bases : (List Int)) : Option (List Int) :=
  (f_ask_bases history bases).bind fun t1 => (some [(0 : Int)]).bind fun counts2 => (forS (fun x_1 (counts_ : (List Int)) => f_reads_by_L1 bases x_1 counts_) bases counts2).bind fun counts10 => some counts10
def f_holders_of (history : (List Int)) (bases : (List Int)) (change : Int) : Option (List Int) :=
  (f_ask_bases history bases).bind fun t1 => (f_ask_version history ("change" : Str) change (1 : Int)).bind fun t2 => (f_branch_of history change).bind fun t3 => (lcC (fun x4 => (atI bases (x4 - (1 : Int))).bind fun t5 => some (decide (t5 < change))) (fun x4 => some x4) t3).bind fun t6 => some t6
def f_heights_of (history : (List Int)) (bases : (List Int)) : Option (List Int) :=
  (f_is_bases history bases).bind fun t1 => if (!t1) = true then none else (f_reads_by history bases).bind fun reads4 => (maxO1 reads4).bind fun greatest6 => (lcC (fun x7 => some true) (fun x7 => some ((greatest6 + (1 : Int)) - x7)) (cutD reads4 (some (1 : Int)) none)).bind fun t8 => some t8
def f_w_same_L1 (rec_ : PyData → PyData → Option Bool) (one : PyData) (other : PyData) (x_1 : Int) : Option (Lp (Unit) Bool) :=
  (vD (p_ix one (PyData.int x_1))).bind fun t11 => (vD (p_ix other (PyData.int x_1))).bind fun t12 => (rec_ t11 t12).bind fun t13 => if (!t13) = true then some (.rt false) else some (.nx ())
def f_w_same_B (rec_ : PyData → PyData → Option Bool) (one : PyData) (other : PyData) : Option Bool :=
  (isD .tuple other).bind fun t1 => if t1 = true then (isD .tuple one).bind fun t3 => (orO (!t3) ((iD (c_len [one])).bind fun t4 => (iD (c_len [other])).bind fun t5 => some (!decide (t4 = t5)))).bind fun t6 => if t6 = true then some false else (iD (c_len [other])).bind fun t8 => (rng1O t8).bind fun is9 => thenL (forG (fun x_1 (s_ : Unit) => f_w_same_L1 rec_ one other x_1) is9 ()) (fun r_ => some r_) fun s20 => some true else (bD (p_is other (nn ()))).bind fun t22 => if t22 = true then (bD (p_is one (nn ()))).bind fun t24 => some t24 else (isD .bool other).bind fun t25 => if t25 = true then (isD .bool one).bind fun t27 => (andO t27 ((bD (p_eq one other)).bind fun t28 => some t28)).bind fun t29 => some t29 else (isD .int other).bind fun t30 => if t30 = true then (isD .int one).bind fun t32 => (andO t32 ((isD .bool one).bind fun t33 => (andO (!t33) ((bD (p_eq one other)).bind fun t34 => some t34)).bind fun t35 => some t35)).bind fun t36 => some t36 else (isD .str one).bind fun t37 => (andO t37 ((bD (p_eq one other)).bind fun t38 => some t38)).bind fun t39 => some t39
def f_w_same_R : Nat → PyData → PyData → Option Bool
  | 0 => fun _ _ => none
  | N + 1 => f_w_same_B (f_w_same_R N)
def f_w_same (one : PyData) (other : PyData) : Option Bool := f_w_same_R 8 one other
def f_w_looks_L2 (tree : (List Int)) (heights : (List Int)) (pick : Int) (many : Int) (bases : (List Int)) (v_ : Int) (chain_ : (List Int)) (at__ : Int) : Option ((List Int) × Int) :=
  (appO chain_ at__).bind fun chain24 => (atI bases (at__ - (1 : Int))).bind fun at_26 => some (chain24, at_26)
def f_w_looks_L2c (tree : (List Int)) (heights : (List Int)) (pick : Int) (many : Int) (bases : (List Int)) (v_ : Int) (chain_ : (List Int)) (at__ : Int) : Option Bool :=
  some (decide ((0 : Int) < at__))
def f_w_looks_L1 (tree : (List Int)) (heights : (List Int)) (pick : Int) (many : Int) (bases : (List Int)) (x_1 : Int) : Option (Lp (Unit) Bool) :=
  (some []).bind fun chain22 => (some x_1).bind fun at_23 => (whS (fun (s_ : (List Int) × Int) => f_w_looks_L2c tree heights pick many bases x_1 s_.1 s_.2) (fun (s_ : (List Int) × Int) => f_w_looks_L2 tree heights pick many bases x_1 s_.1 s_.2) (at_23.toNat + 1) (chain22, at_23)).bind fun s30 => (f_w_open tree heights x_1).bind fun found32 => (lcC (fun x33 => some true) (fun x33 => (atI heights (x33 - (1 : Int))).bind fun t34 => some t34) found32).bind fun t35 => (some (downI t35)).bind fun falling36 => (f_records_of tree heights x_1).bind fun t37 => (f_w_same ((tp PyData.int) t37) ((tp PyData.int) s30.1)).bind fun t38 => if (!t38) = true then some (.rt false) else (f_open_at tree heights x_1).bind fun t40 => (f_w_same ((tp PyData.int) t40) ((tp PyData.int) found32)).bind fun t41 => if (!t41) = true then some (.rt false) else (f_open_row tree heights x_1).bind fun t43 => (f_w_same ((tp PyData.int) t43) ((tp PyData.int) falling36)).bind fun t44 => if (!t44) = true then some (.rt false) else (f_open_row tree heights x_1).bind fun t46 => (f_w_same ((tp PyData.int) t46) ((tp PyData.int) falling36)).bind fun t47 => if (!t47) = true then some (.rt false) else (f_records_of tree heights x_1).bind fun t49 => (f_w_same ((tp PyData.int) t49) ((tp PyData.int) s30.1)).bind fun t50 => if (!t50) = true then some (.rt false) else (f_open_at tree heights x_1).bind fun t52 => (f_w_same ((tp PyData.int) t52) ((tp PyData.int) found32)).bind fun t53 => if (!t53) = true then some (.rt false) else (f_bases_by tree heights).bind fun t55 => (f_holders_of tree t55 x_1).bind fun t56 => (f_w_same ((tp PyData.int) t56) ((tp PyData.int) found32)).bind fun t57 => if (!t57) = true then some (.rt false) else some (.nx ())
def f_w_looks (tree : (List Int)) (heights : (List Int)) (pick : Int) : Option Bool :=
  (some (tree.length : Int)).bind fun many1 => (rngO (1 : Int) (many1 + (1 : Int))).bind fun is2 => (lcC (fun x3 => some true) (fun x3 => (f_w_base tree heights x3).bind fun t4 => some t4) is2).bind fun bases6 => (f_is_heights tree ((tp PyData.int) heights)).bind fun t7 => (f_w_same (PyData.bool t7) (PyData.bool true)).bind fun t8 => (orO (!t8) ((f_bases_by tree heights).bind fun t9 => (f_w_same ((tp PyData.int) t9) ((tp PyData.int) bases6)).bind fun t10 => some (!t10))).bind fun t11 => if t11 = true then some false else (f_records_of tree heights (0 : Int)).bind fun t13 => (f_w_same ((tp PyData.int) t13) ((tp PyData.int) [])).bind fun t14 => if (!t14) = true then some false else (f_w_some many1 pick).bind fun t16 => thenL (forG (fun x_1 (s_ : Unit) => f_w_looks_L1 tree heights pick many1 bases6 x_1) t16 ()) (fun r_ => some r_) fun s98 => some true
def f_w_turned_L1 (tree : (List Int)) (bases : (List Int)) (x_1 : Int) (reads_ : (List Int)) : Option ((List Int)) :=
  (atI bases (x_1 - (1 : Int))).bind fun t4 => (atI reads_ t4).bind fun t5 => (appO reads_ ((1 : Int) + t5)).bind fun reads6 => some reads6
def f_w_turned (tree : (List Int)) (bases : (List Int)) : Option Bool :=
  (some [(0 : Int)]).bind fun reads1 => (rngO (1 : Int) ((tree.length : Int) + (1 : Int))).bind fun is2 => (forS (fun x_1 (reads_ : (List Int)) => f_w_turned_L1 tree bases x_1 reads_) is2 reads1).bind fun reads12 => (rngO (1 : Int) ((tree.length : Int) + (1 : Int))).bind fun is14 => (lcC (fun x15 => some true) (fun x15 => (maxO1 reads12).bind fun t16 => (atI reads12 x15).bind fun t17 => some ((t16 + (1 : Int)) - t17)) is14).bind fun due19 => (f_heights_of tree bases).bind fun told21 => (f_w_same ((tp PyData.int) told21) ((tp PyData.int) due19)).bind fun t22 => (orO (!t22) ((f_heights_of tree bases).bind fun t23 => (f_w_same ((tp PyData.int) t23) ((tp PyData.int) due19)).bind fun t24 => some (!t24))).bind fun t25 => if t25 = true then some false else (f_bases_by tree told21).bind fun again28 => (rngO (1 : Int) ((tree.length : Int) + (1 : Int))).bind fun is29 => (lcC (fun x30 => some true) (fun x30 => (f_w_base tree due19 x30).bind fun t31 => some t31) is29).bind fun mine33 => (f_w_same ((tp PyData.int) again28) ((tp PyData.int) mine33)).bind fun t34 => (andO t34 ((f_w_same ((tp PyData.int) again28) ((tp PyData.int) bases)).bind fun t35 => (f_w_nested tree bases).bind fun t36 => some (decide (t35 = t36)))).bind fun t37 => some t37
def f_w_field (tree : PyData) (text : Str) : Option PyData := chI idD (F__law_field [idD tree, PyData.str text])
def f_w_ask (number : Int) (tree : PyData) (thing : PyData) (version : PyData) : Option PyData := chI idD (F__law_ask [PyData.int number, idD tree, idD thing, idD version])
def f_w_lines_J1 (tree : (List Int)) (row : (List Int)) (words : (List Str)) (line : Str) (place : Int) (odd_ : Str) : Option (Bool) :=
  (catO (cutD words none (some place)) [odd_]).bind fun t31 => (catO t31 (cutD words (some (place + (1 : Int))) none)).bind fun spoilt33 => (joinSO (" " : Str) spoilt33).bind fun t34 => (f_w_field ((tp PyData.int) tree) t34).bind fun t35 => (f_w_same t35 (PyData.int place)).bind fun t36 => if (!t36) = true then some false else (adSO line (" 1" : Str)).bind fun t38 => (f_w_field ((tp PyData.int) tree) t38).bind fun t39 => (f_w_same t39 (PyData.int (words.length : Int))).bind fun t40 => if (!t40) = true then some false else (atI row (2 : Int)).bind fun t42 => (modO t42 (words.length : Int)).bind fun short44 => (joinSO (" " : Str) (cutD words none (some short44))).bind fun t45 => (f_w_field ((tp PyData.int) tree) t45).bind fun t46 => (f_w_same t46 (PyData.int short44)).bind fun t47 => some t47
def f_w_lines (tree : (List Int)) (heights : (List Int)) (row : (List Int)) : Option Bool :=
  (lcC (fun x1 => some true) (fun x1 => (strNO x1).bind fun t2 => some t2) heights).bind fun t3 => (catO [("heights" : Str)] t3).bind fun words5 => (joinSO (" " : Str) words5).bind fun line7 => (f_heights_line tree heights).bind fun t8 => (f_heights_line tree heights).bind fun t9 => (f_w_same ((p2 PyData.str PyData.str) (t8, t9)) ((p2 PyData.str PyData.str) (line7, line7))).bind fun t10 => if (!t10) = true then some false else (f_is_heights tree ((tp PyData.int) heights)).bind fun t12 => (f_w_same (PyData.bool t12) (PyData.bool true)).bind fun t13 => if (!t13) = true then some false else (f_read_heights tree line7).bind fun t15 => (f_w_same ((tp PyData.int) t15) ((tp PyData.int) heights)).bind fun t16 => if (!t16) = true then some false else (f_read_heights tree line7).bind fun t18 => (f_w_same ((tp PyData.int) t18) ((tp PyData.int) heights)).bind fun t19 => if (!t19) = true then some false else (atI row (0 : Int)).bind fun t21 => (atI [("0" : Str), ("-1" : Str), ("01" : Str), ("x" : Str), ("" : Str), ("+2" : Str), ("2." : Str), ("1_0" : Str), ("2
" : Str), ("True" : Str), ("00" : Str)] (t21 % (11 : Int))).bind fun odd23 => (atI row (1 : Int)).bind fun t24 => (modO t24 ((words5.length : Int) + (1 : Int))).bind fun place26 => if (decide (place26 = (0 : Int))) = true then (atI row (0 : Int)).bind fun t65 => (atI [("height" : Str), ("" : Str), ("Heights" : Str), ("heights:" : Str), ("bounds" : Str), ("heights
" : Str)] (t65 % (6 : Int))).bind fun odd67 => f_w_lines_J1 tree row words5 line7 place26 odd67 else f_w_lines_J1 tree row words5 line7 place26 odd23
def f_w_refused_L1 (tree : (List Int)) (heights : (List Int)) (bases : (List Int)) (row : (List Int)) (bad : PyData) (worse : PyData) (x_1 : Int) : Option (Lp (Unit) Bool) :=
  (f_w_ask x_1 ((tp PyData.int) tree) bad worse).bind fun t14 => (f_w_same t14 (PyData.str ("heights" : Str))).bind fun t15 => if (!t15) = true then some (.rt false) else some (.nx ())
def f_w_refused_L2 (tree : (List Int)) (heights : (List Int)) (bases : (List Int)) (row : (List Int)) (worse : PyData) (x_2 : Int) : Option (Lp (Unit) Bool) :=
  (f_w_ask x_2 ((tp PyData.int) tree) ((tp PyData.int) heights) worse).bind fun t24 => (f_w_same t24 (PyData.str ("version" : Str))).bind fun t25 => if (!t25) = true then some (.rt false) else some (.nx ())
def f_w_refused (tree : (List Int)) (heights : (List Int)) (bases : (List Int)) (row : (List Int)) : Option Bool :=
  (powO (10 : Int) (20 : Int)).bind fun t1 => (atI row (2 : Int)).bind fun t2 => (atI [(PyData.int (0 : Int)), (PyData.int (-1 : Int)), (PyData.bool true), (PyData.str ("1" : Str)), (PyData.bool false), ((p1 PyData.int) (1 : Int)), (PyData.int (-t1))] (t2 % (7 : Int))).bind fun t3 => (f_w_bent row heights t3).bind fun bad5 => (powO (10 : Int) (20 : Int)).bind fun t6 => (atI row (3 : Int)).bind fun t7 => (atI [(PyData.int (-1 : Int)), (PyData.int ((tree.length : Int) + (1 : Int))), (PyData.bool true), (PyData.str ("1" : Str)), ((p1 PyData.int) (1 : Int)), (PyData.bool false), (PyData.int t6)] (t7 % (7 : Int))).bind fun worse9 => (f_is_heights tree bad5).bind fun t10 => (f_w_same (PyData.bool t10) (PyData.bool false)).bind fun t11 => if (!t11) = true then some false else thenL (forG (fun x_1 (s_ : Unit) => f_w_refused_L1 tree heights bases row bad5 worse9 x_1) [(0 : Int), (2 : Int), (3 : Int), (4 : Int), (5 : Int)] ()) (fun r_ => some r_) fun s21 => thenL (forG (fun x_2 (s_ : Unit) => f_w_refused_L2 tree heights bases row worse9 x_2) [(2 : Int), (3 : Int), (4 : Int)] ()) (fun r_ => some r_) fun s31 => (f_w_ask (3 : Int) ((tp PyData.int) tree) ((tp PyData.int) heights) (PyData.int (0 : Int))).bind fun t33 => (f_w_same t33 (PyData.str ("version" : Str))).bind fun t34 => if (!t34) = true then some false else (f_w_ask (4 : Int) ((tp PyData.int) tree) ((tp PyData.int) heights) (PyData.int (0 : Int))).bind fun t36 => (f_w_same t36 (PyData.str ("version" : Str))).bind fun t37 => if (!t37) = true then some false else (atI row (5 : Int)).bind fun t39 => (atI [(PyData.int (-1 : Int)), (PyData.bool true), (nn ()), (PyData.str ("0" : Str)), (PyData.bool false), (nn ())] (t39 % (6 : Int))).bind fun t40 => (f_w_bent (cutD row (some (3 : Int)) none) bases t40).bind fun bad42 => (f_w_ask (1 : Int) ((tp PyData.int) tree) bad42 (PyData.int (0 : Int))).bind fun t43 => (f_w_same t43 (PyData.str ("bases" : Str))).bind fun t44 => if (!t44) = true then some false else (f_w_ask (1 : Int) ((tp PyData.int) tree) ((tp PyData.int) bases) (PyData.int (0 : Int))).bind fun t46 => (f_w_same t46 (nn ())).bind fun t47 => (orO (!t47) ((f_w_ask (5 : Int) ((tp PyData.int) tree) ((tp PyData.int) heights) (PyData.int (0 : Int))).bind fun t48 => (f_w_same t48 (nn ())).bind fun t49 => some (!t49))).bind fun t50 => if t50 = true then some false else (atI row (4 : Int)).bind fun t52 => (atI [(nn ()), (PyData.int (5 : Int)), ((p1 PyData.str) ("heights" : Str)), (PyData.bool true)] (t52 % (4 : Int))).bind fun t53 => (f_w_ask (6 : Int) ((tp PyData.int) tree) t53 (PyData.int (0 : Int))).bind fun t54 => (f_w_same t54 (PyData.str ("text" : Str))).bind fun t55 => some t55
def f_law (script : (List Int)) : Option Bool :=
  (f_w_draw script (0 : Int) (4 : Int)).bind fun first2 => (atI first2 (0 : Int)).bind fun t3 => (atI [(3 : Int), (4 : Int), (5 : Int), (6 : Int), (7 : Int), (0 : Int), (1 : Int), (2 : Int), (9 : Int), (5 : Int), (6 : Int), (4 : Int), (8 : Int), (24 : Int), (7 : Int), (40 : Int)] (t3 % (16 : Int))).bind fun many5 => (f_w_draw script (1 : Int) (41 : Int)).bind fun t6 => (f_w_tree t6 many5).bind fun tree8 => (f_w_draw script (2 : Int) (41 : Int)).bind fun t9 => (f_w_heights t9 many5).bind fun heights11 => (f_w_draw script (3 : Int) (41 : Int)).bind fun t12 => (f_w_bases t12 tree8 heights11).bind fun bases14 => (atI first2 (1 : Int)).bind fun t15 => (f_w_looks tree8 heights11 t15).bind fun t16 => (orO (!t16) ((f_w_turned tree8 bases14).bind fun t17 => some (!t17))).bind fun t18 => if t18 = true then some false else (f_w_draw script (4 : Int) (4 : Int)).bind fun t20 => (f_w_lines tree8 heights11 t20).bind fun t21 => if (!t21) = true then some false else (f_w_draw script (5 : Int) (8 : Int)).bind fun t23 => (f_w_refused tree8 heights11 bases14 t23).bind fun t24 => some t24
end
end K12
namespace K12
open PySem PySem.Spec PyProof.Rows L2 DL
theorem k_is_integer {thing : PyData} {r : Bool} (h : f_is_integer thing = some r) : F_is_integer [idD thing] = some (.im (PyData.bool r)) := by
  unfold f_is_integer at h
  refine t_fnI (enc := PyData.bool) rfl ?_
  show wS _ [im (idD thing)] _
  obtain ⟨t1, h_t1, h⟩ := bnd h
  obtain ⟨t3, h_t3, h⟩ := bnd h
  cases h
  refine (w_ret (andX (isX (vI rfl) rfl h_t1) h_t3 (fun _ _ hq => (by obtain ⟨t2, h_t2, hq⟩ := bnd hq; have hq := Option.some.inj hq; subst hq; exact (notX (isX (vI rfl) rfl h_t2))))) ?_)
  exact rfl
theorem k_many_of {history : (List Int)} {r : Int} (h : f_many_of history = some r) : F_many_of [(tp PyData.int) history] = some (.im (PyData.int r)) := by
  unfold f_many_of at h
  refine t_fnI (enc := PyData.int) rfl ?_
  show wS _ [im ((tp PyData.int) history)] _
  cases h
  refine (w_ret (cbX (dX (vI rfl) d0 rfl) (o_lenT (f := PyData.int) (l := history))) ?_)
  exact rfl
theorem k__upward {history : (List Int)} {version : Int} {r : (List Int)} (h : f_upward history version = some r) : F__upward [(tp PyData.int) history, PyData.int version] = some (.ac (r.map PyData.int)) := by
  unfold f_upward at h
  refine t_fnA (enc := PyData.int) rfl ?_
  show wS _ [im ((tp PyData.int) history), im (PyData.int version), none] _
  obtain ⟨found1, h_found1, h⟩ := bnd h
  refine w_seq ((t_setA (f := PyData.int) (v := []) (w := found1) h_found1 (lstX a0 (Nat.le_of_ble_eq_true rfl)) rfl ?_))
  show wS _ [im ((tp PyData.int) history), im (PyData.int version), ac (found1.map PyData.int)] _
  obtain ⟨s8, hl, h⟩ := bnd h
  refine w_seq ((t_whS (fun (s_ : Int × (List Int)) => f_upward_L1c history s_.1 s_.2) (fun (s_ : Int × (List Int)) => f_upward_L1 history s_.1 s_.2) (fun (s_ : Int × (List Int)) e => e = [im ((tp PyData.int) history), im (PyData.int s_.1), ac (s_.2.map PyData.int)]) (N := (version.toNat + 1)) rfl rfl hl (fun s_ b_ h e he => ?_) (fun s_ s2_ h e he => ?_) (fun e he => ?_)))
  · subst he
    obtain ⟨version_, found_⟩ := s_
    replace h : f_upward_L1c history version_ found_ = some b_ := h
    unfold f_upward_L1c at h
    cases h
    exact (bang (binX (vI rfl) cI rfl rfl e_qgt))
  · subst he
    obtain ⟨version_, found_⟩ := s_
    show wS _ [im ((tp PyData.int) history), im (PyData.int version_), ac (found_.map PyData.int)] _
    replace h : f_upward_L1 history version_ found_ = some s2_ := h
    unfold f_upward_L1 at h
    obtain ⟨version6, h_t5, h⟩ := bnd h
    refine w_seq ((t_set (f := PyData.int) (v := version6) (w := version6) rfl (binX (vI rfl) (binX (vI rfl) cI rfl rfl e_sub) rfl rfl (o_ixT (f := PyData.int) (l := history) h_t5)) rfl ?_))
    show wS _ [im ((tp PyData.int) history), im (PyData.int version6), ac (found_.map PyData.int)] _
    obtain ⟨found7, h_found7, h⟩ := bnd h
    refine w_seq ((t_app (f := PyData.int) (l := found_) (a := version6) h_found7 ⟨_, (vI rfl), rfl⟩ rfl rfl ?_))
    show wS _ [im ((tp PyData.int) history), im (PyData.int version6), ac (found7.map PyData.int)] _
    refine w_nx ?_
    cases h
    exact rfl
  · subst he
    show wS _ [im ((tp PyData.int) history), im (PyData.int s8.1), ac (s8.2.map PyData.int)] _
    cases h
    refine w_seq ((w_ret (vB rfl) ?_))
    exact rfl
theorem k_at_or_below {history : (List Int)} {version : Int} {other : Int} {r : Bool} (h : f_at_or_below history version other = some r) : F_at_or_below [(tp PyData.int) history, PyData.int version, PyData.int other] = some (.im (PyData.bool r)) := by
  unfold f_at_or_below at h
  refine t_fnI (enc := PyData.bool) rfl ?_
  show wS _ [im ((tp PyData.int) history), im (PyData.int version), im (PyData.int other), none] _
  obtain ⟨step1, h_step1, h⟩ := bnd h
  refine w_seq ((t_set (f := PyData.int) (v := other) (w := step1) h_step1 (vI rfl) rfl ?_))
  show wS _ [im ((tp PyData.int) history), im (PyData.int version), im (PyData.int other), im (PyData.int step1)] _
  obtain ⟨step7, hl, h⟩ := bnd h
  refine w_seq ((t_whS (fun (step_ : Int) => f_at_or_below_L1c history version step_) (fun (step_ : Int) => f_at_or_below_L1 history version step_) (fun (step_ : Int) e => e = [im ((tp PyData.int) history), im (PyData.int version), im (PyData.int other), im (PyData.int step_)]) (N := (step1.toNat + 1)) rfl rfl hl (fun step_ b_ h e he => ?_) (fun step_ s2_ h e he => ?_) (fun e he => ?_)))
  · subst he
    replace h : f_at_or_below_L1c history version step_ = some b_ := h
    unfold f_at_or_below_L1c at h
    cases h
    exact (bang (binX (vI rfl) (vI rfl) rfl rfl e_qgt))
  · subst he
    show wS _ [im ((tp PyData.int) history), im (PyData.int version), im (PyData.int other), im (PyData.int step_)] _
    replace h : f_at_or_below_L1 history version step_ = some s2_ := h
    unfold f_at_or_below_L1 at h
    obtain ⟨step5, h_t4, h⟩ := bnd h
    refine (t_set (f := PyData.int) (v := step5) (w := step5) rfl (binX (vI rfl) (binX (vI rfl) cI rfl rfl e_sub) rfl rfl (o_ixT (f := PyData.int) (l := history) h_t4)) rfl ?_)
    cases h
    exact rfl
  · subst he
    show wS _ [im ((tp PyData.int) history), im (PyData.int version), im (PyData.int other), im (PyData.int step7)] _
    cases h
    refine w_seq ((w_ret (binX (vI rfl) (vI rfl) rfl rfl e_eq) ?_))
    exact rfl
theorem k_falling {members : (List Int)} {r : (List Int)} (h : f_falling members = some r) : F_falling [(ls PyData.int) members] = some (.im ((tp PyData.int) r)) := by
  unfold f_falling at h
  refine t_fnI (enc := (tp PyData.int)) rfl ?_
  show wS _ [im ((ls PyData.int) members)] _
  cases h
  refine (w_ret (cbX (dX (srtLX (ns := members) (dX (vI rfl) d0 rfl)) d0 rfl) rfl) ?_)
  exact rfl
theorem k__number_in {word : Str} {r : Int} (h : f_number_in word = some r) : F__number_in [PyData.str word] = some (.im (PyData.int r)) := by
  unfold f_number_in at h
  refine t_fnI (enc := PyData.int) rfl ?_
  show wS _ [im (PyData.str word)] _
  obtain ⟨t3, h_t3, h⟩ := bnd h
  refine w_seq ((w_if (b := t3) (torX (tnot (bang (isdX (vI rfl)))) h_t3 (fun _ _ hq => (by obtain ⟨t1, h_t1, hq⟩ := bnd hq; obtain ⟨t2, h_t2, hq⟩ := bnd hq; have hq := Option.some.inj hq; subst hq; exact (bang (binX (binX (vI rfl) cI rfl rfl (o_ixS h_t1)) cI rfl rfl (bD_ok h_t2)))))) (fun hc4 => ?_) (fun hc4 => ?_)))
  · rw [if1 hc4] at h
    cases h
    refine (w_ret cI ?_)
    exact rfl
  · rw [if0 hc4] at h
    refine w_nx ?_
    show wS _ [im (PyData.str word)] _
    obtain ⟨t5, h_t5, h⟩ := bnd h
    cases h
    refine w_seq ((w_ret (cbX (dX (vI rfl) d0 rfl) (o_intS h_t5)) ?_))
    exact rfl
theorem k__law_draw {script : (List Int)} {at_ : Int} {many : Int} {r : (List Int)} (h : f_w_draw script at_ many = some r) : F__law_draw [(ls PyData.int) script, PyData.int at_, PyData.int many] = some (.ac (r.map PyData.int)) := by
  unfold f_w_draw at h
  refine t_fnA (enc := PyData.int) rfl ?_
  show wS _ [im ((ls PyData.int) script), im (PyData.int at_), im (PyData.int many), none, none, none, none] _
  refine w_seq ((w_if (b := (decide ((script.length : Int) = (0 : Int)))) (bang (binX (cbX (dX (vI rfl) d0 rfl) (o_lenL (f := PyData.int) (l := script))) cI rfl rfl e_eq)) (fun hc1 => ?_) (fun hc1 => ?_)))
  · rw [if1 hc1] at h
    obtain ⟨is2, h_is2, h⟩ := bnd h
    obtain ⟨t4, h_t4, h⟩ := bnd h
    cases h
    refine (w_ret (lcX (enc := PyData.int) (encB := PyData.int) h_t4 (rng1I (vI rfl) h_is2) rfl (fun x3 _ => ⟨_, rfl, rfl, fun _ hq => (by have hq := Option.some.inj hq; subst hq; rfl), fun _ _ hq => (by have hq := Option.some.inj hq; subst hq; exact ⟨_, cI, rfl, rfl⟩)⟩)) ?_)
    exact rfl
  · rw [if0 hc1] at h
    refine w_nx ?_
    show wS _ [im ((ls PyData.int) script), im (PyData.int at_), im (PyData.int many), none, none, none, none] _
    obtain ⟨t5, h_t5, h⟩ := bnd h
    obtain ⟨cell7, h_t6, h⟩ := bnd h
    refine w_seq ((t_set (f := PyData.int) (v := cell7) (w := cell7) rfl (cbX (dX (binX (vI rfl) (binX (cbX (dX (vI rfl) d0 rfl) o_int) (cbX (dX (vI rfl) d0 rfl) (o_lenL (f := PyData.int) (l := script))) rfl rfl (o_mod h_t5)) rfl rfl (o_ixL (f := PyData.int) (l := script) h_t6)) d0 rfl) o_int) rfl ?_))
    show wS _ [im ((ls PyData.int) script), im (PyData.int at_), im (PyData.int many), im (PyData.int cell7), none, none, none] _
    obtain ⟨row8, h_row8, h⟩ := bnd h
    refine w_seq ((t_setA (f := PyData.int) (v := []) (w := row8) h_row8 (lstX a0 (Nat.le_of_ble_eq_true rfl)) rfl ?_))
    show wS _ [im ((ls PyData.int) script), im (PyData.int at_), im (PyData.int many), im (PyData.int cell7), ac (row8.map PyData.int), none, none] _
    obtain ⟨t10, h_t10, h⟩ := bnd h
    refine w_seq ((w_if (b := t10) (tandX (bang (binX (vI rfl) (cbX (dX (vI rfl) d0 rfl) (o_lenL (f := PyData.int) (l := script))) rfl rfl e_qlt)) h_t10 (fun _ _ hq => (by obtain ⟨t9, h_t9, hq⟩ := bnd hq; have hq := Option.some.inj hq; subst hq; exact (bang (binX (cbX (dX (vI rfl) d0 rfl) o_abs) (binX cI cI rfl rfl (o_pow h_t9)) rfl rfl e_qge))))) (fun hc11 => ?_) (fun hc11 => ?_)))
    · rw [if1 hc11] at h
      obtain ⟨is12, h_is12, h⟩ := bnd h
      obtain ⟨s19, hl, h⟩ := bnd h
      refine w_seq ((t_forS PyData.int is12 (fun x_1 (s_ : Int × (List Int)) => f_w_draw_L1 many x_1 s_.1 s_.2) (fun (s_ : Int × (List Int)) e => ∃ (o16 : Option PyData), e = [im ((ls PyData.int) script), im (PyData.int at_), im (PyData.int many), im (PyData.int s_.1), ac (s_.2.map PyData.int), none, imo o16]) (rng1I (vI rfl) h_is12) ⟨none, rfl⟩ hl (fun x_1 s_ s2_ h e he => ?_) (fun e he => ?_)))
      · obtain ⟨o16, rfl⟩ := he
        obtain ⟨cell_, row_⟩ := s_
        refine ⟨rfl, _, rfl, ?_⟩
        show wS _ [im ((ls PyData.int) script), im (PyData.int at_), im (PyData.int many), im (PyData.int cell_), ac (row_.map PyData.int), none, im (PyData.int x_1)] _
        replace h : f_w_draw_L1 many x_1 cell_ row_ = some s2_ := h
        unfold f_w_draw_L1 at h
        obtain ⟨row17, h_row17, h⟩ := bnd h
        refine w_seq ((t_app (f := PyData.int) (l := row_) (a := (cell_ % (9967 : Int))) h_row17 ⟨_, (binX (cbX (dX (vI rfl) d0 rfl) o_int) cI rfl rfl (e_mod (by decide))), rfl⟩ rfl rfl ?_))
        show wS _ [im ((ls PyData.int) script), im (PyData.int at_), im (PyData.int many), im (PyData.int cell_), ac (row17.map PyData.int), none, im (PyData.int x_1)] _
        obtain ⟨cell18, h_cell18, h⟩ := bnd h
        refine w_seq ((t_set (f := PyData.int) (v := (cell_ / (9967 : Int))) (w := cell18) h_cell18 (binX (vI rfl) cI rfl rfl (e_div (by decide) (by decide))) rfl ?_))
        show wS _ [im ((ls PyData.int) script), im (PyData.int at_), im (PyData.int many), im (PyData.int cell18), ac (row17.map PyData.int), none, im (PyData.int x_1)] _
        refine w_nx ?_
        cases h
        exact ⟨some (PyData.int x_1), rfl⟩
      · obtain ⟨o20, rfl⟩ := he
        show wS _ [im ((ls PyData.int) script), im (PyData.int at_), im (PyData.int many), im (PyData.int s19.1), ac (s19.2.map PyData.int), none, imo o20] _
        cases h
        refine w_seq ((w_ret (vB rfl) ?_))
        exact rfl
    · rw [if0 hc11] at h
      refine w_nx ?_
      show wS _ [im ((ls PyData.int) script), im (PyData.int at_), im (PyData.int many), im (PyData.int cell7), ac (row8.map PyData.int), none, none] _
      obtain ⟨mixed21, h_mixed21, h⟩ := bnd h
      refine w_seq ((t_set (f := PyData.int) (v := (((((cell7 * (40692 : Int)) + (at_ * (3791 : Int))) + ((script.length : Int) * (911 : Int))) + (17 : Int)) % (2147483399 : Int))) (w := mixed21) h_mixed21 (binX (cbX (dX (binX (binX (binX (binX (vI rfl) cI rfl rfl (e_mul (.inr (by decide)))) (binX (vI rfl) cI rfl rfl (e_mul (.inr (by decide)))) rfl rfl e_add) (binX (cbX (dX (vI rfl) d0 rfl) (o_lenL (f := PyData.int) (l := script))) cI rfl rfl (e_mul (.inr (by decide)))) rfl rfl e_add) cI rfl rfl e_add) d0 rfl) o_int) cI rfl rfl (e_mod (by decide))) rfl ?_))
      show wS _ [im ((ls PyData.int) script), im (PyData.int at_), im (PyData.int many), im (PyData.int cell7), ac (row8.map PyData.int), im (PyData.int mixed21), none] _
      obtain ⟨is22, h_is22, h⟩ := bnd h
      obtain ⟨s29, hl, h⟩ := bnd h
      refine w_seq ((t_forS PyData.int is22 (fun x_2 (s_ : (List Int) × Int) => f_w_draw_L2 many x_2 s_.1 s_.2) (fun (s_ : (List Int) × Int) e => ∃ (o26 : Option PyData), e = [im ((ls PyData.int) script), im (PyData.int at_), im (PyData.int many), im (PyData.int cell7), ac (s_.1.map PyData.int), im (PyData.int s_.2), imo o26]) (rng1I (vI rfl) h_is22) ⟨none, rfl⟩ hl (fun x_2 s_ s2_ h e he => ?_) (fun e he => ?_)))
      · obtain ⟨o26, rfl⟩ := he
        obtain ⟨row_, mixed_⟩ := s_
        refine ⟨rfl, _, rfl, ?_⟩
        show wS _ [im ((ls PyData.int) script), im (PyData.int at_), im (PyData.int many), im (PyData.int cell7), ac (row_.map PyData.int), im (PyData.int mixed_), im (PyData.int x_2)] _
        replace h : f_w_draw_L2 many x_2 row_ mixed_ = some s2_ := h
        unfold f_w_draw_L2 at h
        obtain ⟨mixed27, h_mixed27, h⟩ := bnd h
        refine w_seq ((t_set (f := PyData.int) (v := (((mixed_ * (40014 : Int)) + (5501 : Int)) % (2147483563 : Int))) (w := mixed27) h_mixed27 (binX (cbX (dX (binX (binX (vI rfl) cI rfl rfl (e_mul (.inr (by decide)))) cI rfl rfl e_add) d0 rfl) o_int) cI rfl rfl (e_mod (by decide))) rfl ?_))
        show wS _ [im ((ls PyData.int) script), im (PyData.int at_), im (PyData.int many), im (PyData.int cell7), ac (row_.map PyData.int), im (PyData.int mixed27), im (PyData.int x_2)] _
        obtain ⟨row28, h_row28, h⟩ := bnd h
        refine w_seq ((t_app (f := PyData.int) (l := row_) (a := ((mixed27 / (11 : Int)) % (9967 : Int))) h_row28 ⟨_, (binX (cbX (dX (binX (vI rfl) cI rfl rfl (e_div (by decide) (by decide))) d0 rfl) o_int) cI rfl rfl (e_mod (by decide))), rfl⟩ rfl rfl ?_))
        show wS _ [im ((ls PyData.int) script), im (PyData.int at_), im (PyData.int many), im (PyData.int cell7), ac (row28.map PyData.int), im (PyData.int mixed27), im (PyData.int x_2)] _
        refine w_nx ?_
        cases h
        exact ⟨some (PyData.int x_2), rfl⟩
      · obtain ⟨o30, rfl⟩ := he
        show wS _ [im ((ls PyData.int) script), im (PyData.int at_), im (PyData.int many), im (PyData.int cell7), ac (s29.1.map PyData.int), im (PyData.int s29.2), imo o30] _
        cases h
        refine w_seq ((w_ret (vB rfl) ?_))
        exact rfl
theorem k__law_tree {row : (List Int)} {many : Int} {r : (List Int)} (h : f_w_tree row many = some r) : F__law_tree [(ls PyData.int) row, PyData.int many] = some (.im ((tp PyData.int) r)) := by
  unfold f_w_tree at h
  refine t_fnI (enc := (tp PyData.int)) rfl ?_
  show wS _ [im ((ls PyData.int) row), im (PyData.int many), none, none, none, none] _
  obtain ⟨t1, h_t1, h⟩ := bnd h
  obtain ⟨manner2, h_manner2, h⟩ := bnd h
  refine w_seq ((t_set (f := PyData.int) (v := (t1 % (4 : Int))) (w := manner2) h_manner2 (binX (cbX (dX (binX (vI rfl) cI rfl rfl (o_ixL (f := PyData.int) (l := row) h_t1)) d0 rfl) o_int) cI rfl rfl (e_mod (by decide))) rfl ?_))
  show wS _ [im ((ls PyData.int) row), im (PyData.int many), im (PyData.int manner2), none, none, none] _
  obtain ⟨parents3, h_parents3, h⟩ := bnd h
  refine w_seq ((t_setA (f := PyData.int) (v := []) (w := parents3) h_parents3 (lstX a0 (Nat.le_of_ble_eq_true rfl)) rfl ?_))
  show wS _ [im ((ls PyData.int) row), im (PyData.int many), im (PyData.int manner2), ac (parents3.map PyData.int), none, none] _
  obtain ⟨is4, h_is4, h⟩ := bnd h
  obtain ⟨parents40, hl, h⟩ := bnd h
  refine w_seq ((t_forS PyData.int is4 (fun x_1 (parents_ : (List Int)) => f_w_tree_L1 row many manner2 x_1 parents_) (fun (parents_ : (List Int)) e => ∃ (o22 : Option PyData) (o23 : Option PyData), e = [im ((ls PyData.int) row), im (PyData.int many), im (PyData.int manner2), ac (parents_.map PyData.int), imo o22, imo o23]) (rng1I (vI rfl) h_is4) ⟨none, none, rfl⟩ hl (fun x_1 parents_ s2_ h e he => ?_) (fun e he => ?_)))
  · obtain ⟨o22, o23, rfl⟩ := he
    refine ⟨rfl, _, rfl, ?_⟩
    show wS _ [im ((ls PyData.int) row), im (PyData.int many), im (PyData.int manner2), ac (parents_.map PyData.int), im (PyData.int x_1), imo o23] _
    replace h : f_w_tree_L1 row many manner2 x_1 parents_ = some s2_ := h
    unfold f_w_tree_L1 at h
    obtain ⟨pick25, h_t24, h⟩ := bnd h
    refine w_seq ((t_set (f := PyData.int) (v := pick25) (w := pick25) rfl (cbX (dX (binX (vI rfl) (binX cI (vI rfl) rfl rfl e_add) rfl rfl (o_ixL (f := PyData.int) (l := row) h_t24)) d0 rfl) o_int) rfl ?_))
    show wS _ [im ((ls PyData.int) row), im (PyData.int many), im (PyData.int manner2), ac (parents_.map PyData.int), im (PyData.int x_1), im (PyData.int pick25)] _
    refine w_seq ((w_if (b := (decide (manner2 = (0 : Int)))) (bang (binX (vI rfl) cI rfl rfl e_eq)) (fun hc26 => ?_) (fun hc26 => ?_)))
    · rw [if1 hc26] at h
      obtain ⟨t27, h_t27, h⟩ := bnd h
      obtain ⟨parents28, h_parents28, h⟩ := bnd h
      refine (t_app (f := PyData.int) (l := parents_) (a := t27) h_parents28 ⟨_, (binX (vI rfl) (binX (vI rfl) cI rfl rfl e_add) rfl rfl (o_mod h_t27)), rfl⟩ rfl rfl ?_)
      show wS _ [im ((ls PyData.int) row), im (PyData.int many), im (PyData.int manner2), ac (parents28.map PyData.int), im (PyData.int x_1), im (PyData.int pick25)] _
      refine w_nx ?_
      cases h
      exact ⟨some (PyData.int x_1), some (PyData.int pick25), rfl⟩
    · rw [if0 hc26] at h
      refine (w_if (b := (decide (manner2 = (1 : Int)))) (bang (binX (vI rfl) cI rfl rfl e_eq)) (fun hc29 => ?_) (fun hc29 => ?_))
      · rw [if1 hc29] at h
        obtain ⟨t30, h_t30, h⟩ := bnd h
        obtain ⟨parents31, h_parents31, h⟩ := bnd h
        refine (t_app (f := PyData.int) (l := parents_) (a := (x_1 - t30)) h_parents31 ⟨_, (binX (vI rfl) (binX (vI rfl) (cbX (dX cI (dX (binX (vI rfl) cI rfl rfl e_add) d0 rfl) rfl) o_min2) rfl rfl (o_mod h_t30)) rfl rfl e_sub), rfl⟩ rfl rfl ?_)
        show wS _ [im ((ls PyData.int) row), im (PyData.int many), im (PyData.int manner2), ac (parents31.map PyData.int), im (PyData.int x_1), im (PyData.int pick25)] _
        refine w_nx ?_
        cases h
        exact ⟨some (PyData.int x_1), some (PyData.int pick25), rfl⟩
      · rw [if0 hc29] at h
        refine (w_if (b := ((decide (manner2 = (2 : Int))) && (decide ((0 : Int) < (pick25 % (8 : Int)))))) (tandXt (bang (binX (vI rfl) cI rfl rfl e_eq)) (bang (binX (binX (vI rfl) cI rfl rfl (e_mod (by decide))) cI rfl rfl e_qgt))) (fun hc32 => ?_) (fun hc32 => ?_))
        · rw [if1 hc32] at h
          obtain ⟨parents33, h_parents33, h⟩ := bnd h
          refine (t_app (f := PyData.int) (l := parents_) (a := x_1) h_parents33 ⟨_, (vI rfl), rfl⟩ rfl rfl ?_)
          show wS _ [im ((ls PyData.int) row), im (PyData.int many), im (PyData.int manner2), ac (parents33.map PyData.int), im (PyData.int x_1), im (PyData.int pick25)] _
          refine w_nx ?_
          cases h
          exact ⟨some (PyData.int x_1), some (PyData.int pick25), rfl⟩
        · rw [if0 hc32] at h
          refine (w_if (b := (decide (manner2 = (2 : Int)))) (bang (binX (vI rfl) cI rfl rfl e_eq)) (fun hc34 => ?_) (fun hc34 => ?_))
          · rw [if1 hc34] at h
            obtain ⟨t35, h_t35, h⟩ := bnd h
            obtain ⟨parents36, h_parents36, h⟩ := bnd h
            refine (t_app (f := PyData.int) (l := parents_) (a := t35) h_parents36 ⟨_, (binX (cbX (dX (binX (vI rfl) cI rfl rfl (e_div (by decide) (by decide))) d0 rfl) o_int) (binX (vI rfl) cI rfl rfl e_add) rfl rfl (o_mod h_t35)), rfl⟩ rfl rfl ?_)
            show wS _ [im ((ls PyData.int) row), im (PyData.int many), im (PyData.int manner2), ac (parents36.map PyData.int), im (PyData.int x_1), im (PyData.int pick25)] _
            refine w_nx ?_
            cases h
            exact ⟨some (PyData.int x_1), some (PyData.int pick25), rfl⟩
          · rw [if0 hc34] at h
            obtain ⟨t37, h_t37, h⟩ := bnd h
            obtain ⟨parents38, h_parents38, h⟩ := bnd h
            refine (t_app (f := PyData.int) (l := parents_) (a := t37) h_parents38 ⟨_, (binX (vI rfl) (cbX (dX cI (dX (binX (vI rfl) cI rfl rfl e_add) d0 rfl) rfl) o_min2) rfl rfl (o_mod h_t37)), rfl⟩ rfl rfl ?_)
            show wS _ [im ((ls PyData.int) row), im (PyData.int many), im (PyData.int manner2), ac (parents38.map PyData.int), im (PyData.int x_1), im (PyData.int pick25)] _
            refine w_nx ?_
            cases h
            exact ⟨some (PyData.int x_1), some (PyData.int pick25), rfl⟩
  · obtain ⟨o41, o42, rfl⟩ := he
    show wS _ [im ((ls PyData.int) row), im (PyData.int many), im (PyData.int manner2), ac (parents40.map PyData.int), imo o41, imo o42] _
    cases h
    refine w_seq ((w_ret (cbX (dX (vB rfl) d0 rfl) rfl) ?_))
    exact rfl
theorem k__law_heights {row : (List Int)} {many : Int} {r : (List Int)} (h : f_w_heights row many = some r) : F__law_heights [(ls PyData.int) row, PyData.int many] = some (.im ((tp PyData.int) r)) := by
  unfold f_w_heights at h
  refine t_fnI (enc := (tp PyData.int)) rfl ?_
  show wS _ [im ((ls PyData.int) row), im (PyData.int many), none, none, none, none] _
  obtain ⟨t1, h_t1, h⟩ := bnd h
  obtain ⟨manner2, h_manner2, h⟩ := bnd h
  refine w_seq ((t_set (f := PyData.int) (v := (t1 % (8 : Int))) (w := manner2) h_manner2 (binX (cbX (dX (binX (vI rfl) cI rfl rfl (o_ixL (f := PyData.int) (l := row) h_t1)) d0 rfl) o_int) cI rfl rfl (e_mod (by decide))) rfl ?_))
  show wS _ [im ((ls PyData.int) row), im (PyData.int many), im (PyData.int manner2), none, none, none] _
  obtain ⟨heights3, h_heights3, h⟩ := bnd h
  refine w_seq ((t_setA (f := PyData.int) (v := []) (w := heights3) h_heights3 (lstX a0 (Nat.le_of_ble_eq_true rfl)) rfl ?_))
  show wS _ [im ((ls PyData.int) row), im (PyData.int many), im (PyData.int manner2), ac (heights3.map PyData.int), none, none] _
  obtain ⟨is4, h_is4, h⟩ := bnd h
  obtain ⟨heights40, hl, h⟩ := bnd h
  refine w_seq ((t_forS PyData.int is4 (fun x_1 (heights_ : (List Int)) => f_w_heights_L1 row many manner2 x_1 heights_) (fun (heights_ : (List Int)) e => ∃ (o22 : Option PyData) (o23 : Option PyData), e = [im ((ls PyData.int) row), im (PyData.int many), im (PyData.int manner2), ac (heights_.map PyData.int), imo o22, imo o23]) (rng1I (vI rfl) h_is4) ⟨none, none, rfl⟩ hl (fun x_1 heights_ s2_ h e he => ?_) (fun e he => ?_)))
  · obtain ⟨o22, o23, rfl⟩ := he
    refine ⟨rfl, _, rfl, ?_⟩
    show wS _ [im ((ls PyData.int) row), im (PyData.int many), im (PyData.int manner2), ac (heights_.map PyData.int), im (PyData.int x_1), imo o23] _
    replace h : f_w_heights_L1 row many manner2 x_1 heights_ = some s2_ := h
    unfold f_w_heights_L1 at h
    obtain ⟨pick25, h_t24, h⟩ := bnd h
    refine w_seq ((t_set (f := PyData.int) (v := pick25) (w := pick25) rfl (cbX (dX (binX (vI rfl) (binX cI (vI rfl) rfl rfl e_add) rfl rfl (o_ixL (f := PyData.int) (l := row) h_t24)) d0 rfl) o_int) rfl ?_))
    show wS _ [im ((ls PyData.int) row), im (PyData.int many), im (PyData.int manner2), ac (heights_.map PyData.int), im (PyData.int x_1), im (PyData.int pick25)] _
    refine w_seq ((w_if (b := (decide (manner2 < (3 : Int)))) (bang (binX (vI rfl) cI rfl rfl e_qlt)) (fun hc26 => ?_) (fun hc26 => ?_)))
    · rw [if1 hc26] at h
      obtain ⟨heights27, h_heights27, h⟩ := bnd h
      refine (t_app (f := PyData.int) (l := heights_) (a := ((1 : Int) + (pick25 % (3 : Int)))) h_heights27 ⟨_, (binX cI (binX (vI rfl) cI rfl rfl (e_mod (by decide))) rfl rfl e_add), rfl⟩ rfl rfl ?_)
      show wS _ [im ((ls PyData.int) row), im (PyData.int many), im (PyData.int manner2), ac (heights27.map PyData.int), im (PyData.int x_1), im (PyData.int pick25)] _
      refine w_nx ?_
      cases h
      exact ⟨some (PyData.int x_1), some (PyData.int pick25), rfl⟩
    · rw [if0 hc26] at h
      refine (w_if (b := (decide (manner2 < (5 : Int)))) (bang (binX (vI rfl) cI rfl rfl e_qlt)) (fun hc28 => ?_) (fun hc28 => ?_))
      · rw [if1 hc28] at h
        obtain ⟨heights29, h_heights29, h⟩ := bnd h
        refine (t_app (f := PyData.int) (l := heights_) (a := ((1 : Int) + (pick25 % (2 : Int)))) h_heights29 ⟨_, (binX cI (binX (vI rfl) cI rfl rfl (e_mod (by decide))) rfl rfl e_add), rfl⟩ rfl rfl ?_)
        show wS _ [im ((ls PyData.int) row), im (PyData.int many), im (PyData.int manner2), ac (heights29.map PyData.int), im (PyData.int x_1), im (PyData.int pick25)] _
        refine w_nx ?_
        cases h
        exact ⟨some (PyData.int x_1), some (PyData.int pick25), rfl⟩
      · rw [if0 hc28] at h
        refine (w_if (b := (decide (manner2 = (5 : Int)))) (bang (binX (vI rfl) cI rfl rfl e_eq)) (fun hc30 => ?_) (fun hc30 => ?_))
        · rw [if1 hc30] at h
          obtain ⟨heights31, h_heights31, h⟩ := bnd h
          refine (t_app (f := PyData.int) (l := heights_) (a := ((1 : Int) + (pick25 % (12 : Int)))) h_heights31 ⟨_, (binX cI (binX (vI rfl) cI rfl rfl (e_mod (by decide))) rfl rfl e_add), rfl⟩ rfl rfl ?_)
          show wS _ [im ((ls PyData.int) row), im (PyData.int many), im (PyData.int manner2), ac (heights31.map PyData.int), im (PyData.int x_1), im (PyData.int pick25)] _
          refine w_nx ?_
          cases h
          exact ⟨some (PyData.int x_1), some (PyData.int pick25), rfl⟩
        · rw [if0 hc30] at h
          refine (w_if (b := ((decide (manner2 = (6 : Int))) && (decide ((0 : Int) < (pick25 % (6 : Int)))))) (tandXt (bang (binX (vI rfl) cI rfl rfl e_eq)) (bang (binX (binX (vI rfl) cI rfl rfl (e_mod (by decide))) cI rfl rfl e_qgt))) (fun hc32 => ?_) (fun hc32 => ?_))
          · rw [if1 hc32] at h
            obtain ⟨heights33, h_heights33, h⟩ := bnd h
            refine (t_app (f := PyData.int) (l := heights_) (a := (((1 : Int) + many) - x_1)) h_heights33 ⟨_, (binX (binX cI (vI rfl) rfl rfl e_add) (vI rfl) rfl rfl e_sub), rfl⟩ rfl rfl ?_)
            show wS _ [im ((ls PyData.int) row), im (PyData.int many), im (PyData.int manner2), ac (heights33.map PyData.int), im (PyData.int x_1), im (PyData.int pick25)] _
            refine w_nx ?_
            cases h
            exact ⟨some (PyData.int x_1), some (PyData.int pick25), rfl⟩
          · rw [if0 hc32] at h
            refine (w_if (b := (decide (manner2 = (6 : Int)))) (bang (binX (vI rfl) cI rfl rfl e_eq)) (fun hc34 => ?_) (fun hc34 => ?_))
            · rw [if1 hc34] at h
              obtain ⟨heights35, h_heights35, h⟩ := bnd h
              refine (t_app (f := PyData.int) (l := heights_) (a := ((1 : Int) + (pick25 % (5 : Int)))) h_heights35 ⟨_, (binX cI (binX (vI rfl) cI rfl rfl (e_mod (by decide))) rfl rfl e_add), rfl⟩ rfl rfl ?_)
              show wS _ [im ((ls PyData.int) row), im (PyData.int many), im (PyData.int manner2), ac (heights35.map PyData.int), im (PyData.int x_1), im (PyData.int pick25)] _
              refine w_nx ?_
              cases h
              exact ⟨some (PyData.int x_1), some (PyData.int pick25), rfl⟩
            · rw [if0 hc34] at h
              obtain ⟨t36, h_t36, h⟩ := bnd h
              obtain ⟨t37, h_t37, h⟩ := bnd h
              obtain ⟨heights38, h_heights38, h⟩ := bnd h
              refine (t_app (f := PyData.int) (l := heights_) (a := (t37 + ((pick25 / (7 : Int)) % (3 : Int)))) h_heights38 ⟨_, (binX (binX (binX cI cI rfl rfl (o_pow h_t36)) (binX cI (binX (vI rfl) cI rfl rfl (e_mod (by decide))) rfl rfl e_add) rfl rfl (o_mul h_t37)) (binX (cbX (dX (binX (vI rfl) cI rfl rfl (e_div (by decide) (by decide))) d0 rfl) o_int) cI rfl rfl (e_mod (by decide))) rfl rfl e_add), rfl⟩ rfl rfl ?_)
              show wS _ [im ((ls PyData.int) row), im (PyData.int many), im (PyData.int manner2), ac (heights38.map PyData.int), im (PyData.int x_1), im (PyData.int pick25)] _
              refine w_nx ?_
              cases h
              exact ⟨some (PyData.int x_1), some (PyData.int pick25), rfl⟩
  · obtain ⟨o41, o42, rfl⟩ := he
    show wS _ [im ((ls PyData.int) row), im (PyData.int many), im (PyData.int manner2), ac (heights40.map PyData.int), imo o41, imo o42] _
    cases h
    refine w_seq ((w_ret (cbX (dX (vB rfl) d0 rfl) rfl) ?_))
    exact rfl
theorem k__law_base {tree : (List Int)} {heights : (List Int)} {version : Int} {r : Int} (h : f_w_base tree heights version = some r) : F__law_base [(tp PyData.int) tree, (tp PyData.int) heights, PyData.int version] = some (.im (PyData.int r)) := by
  unfold f_w_base at h
  refine t_fnI (enc := PyData.int) rfl ?_
  show wS _ [im ((tp PyData.int) tree), im ((tp PyData.int) heights), im (PyData.int version), none] _
  obtain ⟨up2, h_t1, h⟩ := bnd h
  refine w_seq ((t_set (f := PyData.int) (v := up2) (w := up2) rfl (binX (vI rfl) (binX (vI rfl) cI rfl rfl e_sub) rfl rfl (o_ixT (f := PyData.int) (l := tree) h_t1)) rfl ?_))
  show wS _ [im ((tp PyData.int) tree), im ((tp PyData.int) heights), im (PyData.int version), im (PyData.int up2)] _
  obtain ⟨up14, hl, h⟩ := bnd h
  refine w_seq ((t_whS (fun (up_ : Int) => f_w_base_L1c tree heights version up_) (fun (up_ : Int) => f_w_base_L1 tree heights version up_) (fun (up_ : Int) e => e = [im ((tp PyData.int) tree), im ((tp PyData.int) heights), im (PyData.int version), im (PyData.int up_)]) (N := (up2.toNat + 1)) rfl rfl hl (fun up_ b_ h e he => ?_) (fun up_ s2_ h e he => ?_) (fun e he => ?_)))
  · subst he
    replace h : f_w_base_L1c tree heights version up_ = some b_ := h
    unfold f_w_base_L1c at h
    obtain ⟨t12, h_t12, h⟩ := bnd h
    cases h
    exact (tandX (bang (binX (vI rfl) cI rfl rfl e_qgt)) h_t12 (fun _ _ hq => (by obtain ⟨t10, h_t10, hq⟩ := bnd hq; obtain ⟨t11, h_t11, hq⟩ := bnd hq; have hq := Option.some.inj hq; subst hq; exact (bang (binX (binX (vI rfl) (binX (vI rfl) cI rfl rfl e_sub) rfl rfl (o_ixT (f := PyData.int) (l := heights) h_t10)) (binX (vI rfl) (binX (vI rfl) cI rfl rfl e_sub) rfl rfl (o_ixT (f := PyData.int) (l := heights) h_t11)) rfl rfl e_qle)))))
  · subst he
    show wS _ [im ((tp PyData.int) tree), im ((tp PyData.int) heights), im (PyData.int version), im (PyData.int up_)] _
    replace h : f_w_base_L1 tree heights version up_ = some s2_ := h
    unfold f_w_base_L1 at h
    obtain ⟨up9, h_t8, h⟩ := bnd h
    refine (t_set (f := PyData.int) (v := up9) (w := up9) rfl (binX (vI rfl) (binX (vI rfl) cI rfl rfl e_sub) rfl rfl (o_ixT (f := PyData.int) (l := tree) h_t8)) rfl ?_)
    cases h
    exact rfl
  · subst he
    show wS _ [im ((tp PyData.int) tree), im ((tp PyData.int) heights), im (PyData.int version), im (PyData.int up14)] _
    cases h
    refine w_seq ((w_ret (vI rfl) ?_))
    exact rfl
theorem k__law_open {tree : (List Int)} {heights : (List Int)} {version : Int} {r : (List Int)} (h : f_w_open tree heights version = some r) : F__law_open [(tp PyData.int) tree, (tp PyData.int) heights, PyData.int version] = some (.im ((tp PyData.int) r)) := by
  unfold f_w_open at h
  refine t_fnI (enc := (tp PyData.int)) rfl ?_
  show wS _ [im ((tp PyData.int) tree), im ((tp PyData.int) heights), im (PyData.int version), none, none, none, none] _
  obtain ⟨found1, h_found1, h⟩ := bnd h
  refine w_seq ((t_setA (f := PyData.int) (v := []) (w := found1) h_found1 (lstX a0 (Nat.le_of_ble_eq_true rfl)) rfl ?_))
  show wS _ [im ((tp PyData.int) tree), im ((tp PyData.int) heights), im (PyData.int version), ac (found1.map PyData.int), none, none, none] _
  obtain ⟨is2, h_is2, h⟩ := bnd h
  obtain ⟨found41, hl, h⟩ := bnd h
  refine w_seq ((t_forS PyData.int is2 (fun x_1 (found_ : (List Int)) => f_w_open_L1 tree heights version x_1 found_) (fun (found_ : (List Int)) e => ∃ (o25 : Option PyData) (o26 : Option PyData) (o27 : Option PyData), e = [im ((tp PyData.int) tree), im ((tp PyData.int) heights), im (PyData.int version), ac (found_.map PyData.int), imo o25, imo o26, imo o27]) (rng2I (vI rfl) (binX (cbX (dX (vI rfl) d0 rfl) (o_lenT (f := PyData.int) (l := tree))) cI rfl rfl e_add) h_is2) ⟨none, none, none, rfl⟩ hl (fun x_1 found_ s2_ h e he => ?_) (fun e he => ?_)))
  · obtain ⟨o25, o26, o27, rfl⟩ := he
    refine ⟨rfl, _, rfl, ?_⟩
    show wS _ [im ((tp PyData.int) tree), im ((tp PyData.int) heights), im (PyData.int version), ac (found_.map PyData.int), im (PyData.int x_1), imo o26, imo o27] _
    replace h : f_w_open_L1 tree heights version x_1 found_ = some s2_ := h
    unfold f_w_open_L1 at h
    obtain ⟨at_28, h_at_28, h⟩ := bnd h
    refine w_seq ((t_set (f := PyData.int) (v := x_1) (w := at_28) h_at_28 (vI rfl) rfl ?_))
    show wS _ [im ((tp PyData.int) tree), im ((tp PyData.int) heights), im (PyData.int version), ac (found_.map PyData.int), im (PyData.int x_1), im (PyData.int at_28), imo o27] _
    obtain ⟨clear29, h_clear29, h⟩ := bnd h
    refine w_seq ((t_set (f := PyData.bool) (v := true) (w := clear29) h_clear29 cI rfl ?_))
    show wS _ [im ((tp PyData.int) tree), im ((tp PyData.int) heights), im (PyData.int version), ac (found_.map PyData.int), im (PyData.int x_1), im (PyData.int at_28), im (PyData.bool clear29)] _
    obtain ⟨s37, hl, h⟩ := bnd h
    refine w_seq ((t_whS (fun (s_ : Int × Bool) => f_w_open_L2c tree heights version found_ x_1 s_.1 s_.2) (fun (s_ : Int × Bool) => f_w_open_L2 tree heights version found_ x_1 s_.1 s_.2) (fun (s_ : Int × Bool) e => e = [im ((tp PyData.int) tree), im ((tp PyData.int) heights), im (PyData.int version), ac (found_.map PyData.int), im (PyData.int x_1), im (PyData.int s_.1), im (PyData.bool s_.2)]) (N := 300) rfl rfl hl (fun s_ b_ h e he => ?_) (fun s_ s2_ h e he => ?_) (fun e he => ?_)))
    · subst he
      obtain ⟨at__, clear_⟩ := s_
      replace h : f_w_open_L2c tree heights version found_ x_1 at__ clear_ = some b_ := h
      unfold f_w_open_L2c at h
      cases h
      exact (tandXt (bang (binX (vI rfl) (vI rfl) rfl rfl e_qgt)) (bang (vI rfl)))
    · subst he
      obtain ⟨at__, clear_⟩ := s_
      show wS _ [im ((tp PyData.int) tree), im ((tp PyData.int) heights), im (PyData.int version), ac (found_.map PyData.int), im (PyData.int x_1), im (PyData.int at__), im (PyData.bool clear_)] _
      replace h : f_w_open_L2 tree heights version found_ x_1 at__ clear_ = some s2_ := h
      unfold f_w_open_L2 at h
      obtain ⟨at_31, h_t30, h⟩ := bnd h
      refine w_seq ((t_set (f := PyData.int) (v := at_31) (w := at_31) rfl (binX (vI rfl) (binX (vI rfl) cI rfl rfl e_sub) rfl rfl (o_ixT (f := PyData.int) (l := tree) h_t30)) rfl ?_))
      show wS _ [im ((tp PyData.int) tree), im ((tp PyData.int) heights), im (PyData.int version), ac (found_.map PyData.int), im (PyData.int x_1), im (PyData.int at_31), im (PyData.bool clear_)] _
      obtain ⟨t34, h_t34, h⟩ := bnd h
      refine w_seq ((w_if (b := t34) (tandX (bang (binX (vI rfl) (vI rfl) rfl rfl e_qge)) h_t34 (fun _ _ hq => (by obtain ⟨t32, h_t32, hq⟩ := bnd hq; obtain ⟨t33, h_t33, hq⟩ := bnd hq; have hq := Option.some.inj hq; subst hq; exact (bang (binX (binX (vI rfl) (binX (vI rfl) cI rfl rfl e_sub) rfl rfl (o_ixT (f := PyData.int) (l := heights) h_t32)) (binX (vI rfl) (binX (vI rfl) cI rfl rfl e_sub) rfl rfl (o_ixT (f := PyData.int) (l := heights) h_t33)) rfl rfl e_qgt))))) (fun hc35 => ?_) (fun hc35 => ?_)))
      · rw [if1 hc35] at h
        obtain ⟨clear36, h_clear36, h⟩ := bnd h
        refine (t_set (f := PyData.bool) (v := false) (w := clear36) h_clear36 cI rfl ?_)
        show wS _ [im ((tp PyData.int) tree), im ((tp PyData.int) heights), im (PyData.int version), ac (found_.map PyData.int), im (PyData.int x_1), im (PyData.int at_31), im (PyData.bool clear36)] _
        refine w_nx ?_
        cases h
        exact rfl
      · rw [if0 hc35] at h
        refine w_nx ?_
        show wS _ [im ((tp PyData.int) tree), im ((tp PyData.int) heights), im (PyData.int version), ac (found_.map PyData.int), im (PyData.int x_1), im (PyData.int at_31), im (PyData.bool clear_)] _
        refine w_nx ?_
        cases h
        exact rfl
    · subst he
      show wS _ [im ((tp PyData.int) tree), im ((tp PyData.int) heights), im (PyData.int version), ac (found_.map PyData.int), im (PyData.int x_1), im (PyData.int s37.1), im (PyData.bool s37.2)] _
      refine w_seq ((w_if (b := (s37.2 && (decide (s37.1 = version)))) (tandXt (bang (vI rfl)) (bang (binX (vI rfl) (vI rfl) rfl rfl e_eq))) (fun hc38 => ?_) (fun hc38 => ?_)))
      · rw [if1 hc38] at h
        obtain ⟨found39, h_found39, h⟩ := bnd h
        refine (t_app (f := PyData.int) (l := found_) (a := x_1) h_found39 ⟨_, (vI rfl), rfl⟩ rfl rfl ?_)
        show wS _ [im ((tp PyData.int) tree), im ((tp PyData.int) heights), im (PyData.int version), ac (found39.map PyData.int), im (PyData.int x_1), im (PyData.int s37.1), im (PyData.bool s37.2)] _
        refine w_nx ?_
        cases h
        exact ⟨some (PyData.int x_1), some (PyData.int s37.1), some (PyData.bool s37.2), rfl⟩
      · rw [if0 hc38] at h
        refine w_nx ?_
        show wS _ [im ((tp PyData.int) tree), im ((tp PyData.int) heights), im (PyData.int version), ac (found_.map PyData.int), im (PyData.int x_1), im (PyData.int s37.1), im (PyData.bool s37.2)] _
        refine w_nx ?_
        cases h
        exact ⟨some (PyData.int x_1), some (PyData.int s37.1), some (PyData.bool s37.2), rfl⟩
  · obtain ⟨o42, o43, o44, rfl⟩ := he
    show wS _ [im ((tp PyData.int) tree), im ((tp PyData.int) heights), im (PyData.int version), ac (found41.map PyData.int), imo o42, imo o43, imo o44] _
    cases h
    refine w_seq ((w_ret (cbX (dX (vB rfl) d0 rfl) rfl) ?_))
    exact rfl
theorem k__law_some {many : Int} {pick : Int} {r : (List Int)} (h : f_w_some many pick = some r) : F__law_some [PyData.int many, PyData.int pick] = some (.ac (r.map PyData.int)) := by
  unfold f_w_some at h
  refine t_fnA (enc := PyData.int) rfl ?_
  show wS _ [im (PyData.int many), im (PyData.int pick)] _
  refine w_seq ((w_if (b := (decide (many < (10 : Int)))) (bang (binX (vI rfl) cI rfl rfl e_qlt)) (fun hc1 => ?_) (fun hc1 => ?_)))
  · rw [if1 hc1] at h
    obtain ⟨t2, h_t2, h⟩ := bnd h
    cases h
    refine (w_ret (lrgX (rg2X cI (binX (vI rfl) cI rfl rfl e_add)) h_t2) ?_)
    exact rfl
  · rw [if0 hc1] at h
    refine w_nx ?_
    show wS _ [im (PyData.int many), im (PyData.int pick)] _
    obtain ⟨t3, h_t3, h⟩ := bnd h
    obtain ⟨t4, h_t4, h⟩ := bnd h
    obtain ⟨t5, h_t5, h⟩ := bnd h
    cases h
    refine w_seq ((w_ret (lstX (aI cI (aI (vI rfl) (aI (binX cI (binX (cbX (dX (vI rfl) d0 rfl) o_int) (vI rfl) rfl rfl (o_mod h_t3)) rfl rfl e_add) (aI (binX cI (binX (cbX (dX (binX (vI rfl) cI rfl rfl (e_div (by decide) (by decide))) d0 rfl) o_int) (vI rfl) rfl rfl (o_mod h_t4)) rfl rfl e_add) (aI (binX cI (binX (cbX (dX (binX (vI rfl) cI rfl rfl (e_div (by decide) (by decide))) d0 rfl) o_int) (vI rfl) rfl rfl (o_mod h_t5)) rfl rfl e_add) a0))))) (Nat.le_of_ble_eq_true rfl)) ?_))
    exact rfl
theorem k__law_nested {tree : (List Int)} {bases : (List Int)} {r : Bool} (h : f_w_nested tree bases = some r) : F__law_nested [(tp PyData.int) tree, (tp PyData.int) bases] = some (.im (PyData.bool r)) := by
  unfold f_w_nested at h
  refine t_fnI (enc := PyData.bool) rfl ?_
  show wS _ [im ((tp PyData.int) tree), im ((tp PyData.int) bases), none, none] _
  obtain ⟨is1, h_is1, h⟩ := bnd h
  obtain ⟨l_, hl, h⟩ := bnd h
  refine w_seq ((t_forG PyData.int is1 (fun x_1 (s_ : Unit) => f_w_nested_L1 tree bases x_1) (fun (s_ : Unit) e => ∃ (o22 : Option PyData) (o23 : Option PyData), e = [im ((tp PyData.int) tree), im ((tp PyData.int) bases), imo o22, imo o23]) (rtI PyData.bool) (rng2I cI (binX (cbX (dX (vI rfl) d0 rfl) (o_lenT (f := PyData.int) (l := tree))) cI rfl rfl e_add) h_is1) ⟨none, none, rfl⟩ hl (fun x_1 s_ l2_ h e he => ?_) (fun s35 hs e he => ?_) (fun r_ hs r2_ e hr => ?_)))
  · obtain ⟨o22, o23, rfl⟩ := he
    refine ⟨rfl, _, rfl, ?_⟩
    show wS _ [im ((tp PyData.int) tree), im ((tp PyData.int) bases), im (PyData.int x_1), imo o23] _
    replace h : f_w_nested_L1 tree bases x_1 = some l2_ := h
    unfold f_w_nested_L1 at h
    obtain ⟨at_25, h_t24, h⟩ := bnd h
    refine w_seq ((t_set (f := PyData.int) (v := at_25) (w := at_25) rfl (binX (vI rfl) (binX (vI rfl) cI rfl rfl e_sub) rfl rfl (o_ixT (f := PyData.int) (l := tree) h_t24)) rfl ?_))
    show wS _ [im ((tp PyData.int) tree), im ((tp PyData.int) bases), im (PyData.int x_1), im (PyData.int at_25)] _
    obtain ⟨l_, hl, h⟩ := bnd h
    refine w_seq ((t_whG (fun (at__ : Int) => f_w_nested_L2c tree bases x_1 at__) (fun (at__ : Int) => f_w_nested_L2 tree bases x_1 at__) (fun (at__ : Int) e => e = [im ((tp PyData.int) tree), im ((tp PyData.int) bases), im (PyData.int x_1), im (PyData.int at__)]) (rtI PyData.bool) (N := (at_25.toNat + 1)) rfl rfl hl (fun at__ b_ h e he => ?_) (fun at__ l2_ h e he => ?_) (fun at_34 hs e he => ?_) (fun r_ hs r2_ e hr => ?_)))
    · subst he
      replace h : f_w_nested_L2c tree bases x_1 at__ = some b_ := h
      unfold f_w_nested_L2c at h
      cases h
      exact (bang (binX (vI rfl) cI rfl rfl e_qgt))
    · subst he
      show wS _ [im ((tp PyData.int) tree), im ((tp PyData.int) bases), im (PyData.int x_1), im (PyData.int at__)] _
      replace h : f_w_nested_L2 tree bases x_1 at__ = some l2_ := h
      unfold f_w_nested_L2 at h
      obtain ⟨t26, h_t26, h⟩ := bnd h
      obtain ⟨t29, h_t29, h⟩ := bnd h
      refine w_seq ((w_if (b := t29) (tandX (bang (binX (binX (vI rfl) (binX (vI rfl) cI rfl rfl e_sub) rfl rfl (o_ixT (f := PyData.int) (l := bases) h_t26)) (vI rfl) rfl rfl e_qlt)) h_t29 (fun _ _ hq => (by obtain ⟨t27, h_t27, hq⟩ := bnd hq; obtain ⟨t28, h_t28, hq⟩ := bnd hq; have hq := Option.some.inj hq; subst hq; exact (bang (binX (binX (vI rfl) (binX (vI rfl) cI rfl rfl e_sub) rfl rfl (o_ixT (f := PyData.int) (l := bases) h_t27)) (binX (vI rfl) (binX (vI rfl) cI rfl rfl e_sub) rfl rfl (o_ixT (f := PyData.int) (l := bases) h_t28)) rfl rfl e_qgt))))) (fun hc30 => ?_) (fun hc30 => ?_)))
      · rw [if1 hc30] at h
        cases h
        refine (w_ret cI ?_)
        exact rfl
      · rw [if0 hc30] at h
        refine w_nx ?_
        show wS _ [im ((tp PyData.int) tree), im ((tp PyData.int) bases), im (PyData.int x_1), im (PyData.int at__)] _
        obtain ⟨at_32, h_t31, h⟩ := bnd h
        refine w_seq ((t_set (f := PyData.int) (v := at_32) (w := at_32) rfl (binX (vI rfl) (binX (vI rfl) cI rfl rfl e_sub) rfl rfl (o_ixT (f := PyData.int) (l := tree) h_t31)) rfl ?_))
        show wS _ [im ((tp PyData.int) tree), im ((tp PyData.int) bases), im (PyData.int x_1), im (PyData.int at_32)] _
        refine w_nx ?_
        cases h
        exact rfl
    · subst hs
      replace h : _ = some l2_ := h
      dsimp only at h
      subst he
      show wS _ [im ((tp PyData.int) tree), im ((tp PyData.int) bases), im (PyData.int x_1), im (PyData.int at_34)] _
      refine w_nx ?_
      cases h
      exact ⟨some (PyData.int x_1), some (PyData.int at_34), rfl⟩
    · subst hs
      cases h
      exact hr
  · subst hs
    replace h : _ = some r := h
    dsimp only at h
    obtain ⟨o36, o37, rfl⟩ := he
    show wS _ [im ((tp PyData.int) tree), im ((tp PyData.int) bases), imo o36, imo o37] _
    cases h
    refine w_seq ((w_ret cI ?_))
    exact rfl
  · subst hs
    cases h
    exact hr
theorem k__law_bent {row : (List Int)} {good : (List Int)} {odd : PyData} {r : PyData} (h : f_w_bent row good odd = some r) : F__law_bent [(ls PyData.int) row, (tp PyData.int) good, idD odd] = some (.im (idD r)) := by
  unfold f_w_bent at h
  refine t_fnI (enc := idD) rfl ?_
  show wS _ [im ((ls PyData.int) row), im ((tp PyData.int) good), im (idD odd), none, none] _
  obtain ⟨t1, h_t1, h⟩ := bnd h
  obtain ⟨kind2, h_kind2, h⟩ := bnd h
  refine w_seq ((t_set (f := PyData.int) (v := (t1 % (6 : Int))) (w := kind2) h_kind2 (binX (cbX (dX (binX (vI rfl) cI rfl rfl (o_ixL (f := PyData.int) (l := row) h_t1)) d0 rfl) o_int) cI rfl rfl (e_mod (by decide))) rfl ?_))
  show wS _ [im ((ls PyData.int) row), im ((tp PyData.int) good), im (idD odd), im (PyData.int kind2), none] _
  refine w_seq ((w_if (b := (decide (kind2 = (0 : Int)))) (bang (binX (vI rfl) cI rfl rfl e_eq)) (fun hc3 => ?_) (fun hc3 => ?_)))
  · rw [if1 hc3] at h
    cases h
    refine (w_ret (frzX (cbX (dX (vI rfl) d0 rfl) rfl)) ?_)
    exact rfl
  · rw [if0 hc3] at h
    refine w_nx ?_
    show wS _ [im ((ls PyData.int) row), im ((tp PyData.int) good), im (idD odd), im (PyData.int kind2), none] _
    refine w_seq ((w_if (b := (decide (kind2 = (1 : Int)))) (bang (binX (vI rfl) cI rfl rfl e_eq)) (fun hc4 => ?_) (fun hc4 => ?_)))
    · rw [if1 hc4] at h
      obtain ⟨t6, h_t6, h⟩ := bnd h
      obtain ⟨t7, h_t7, h⟩ := bnd h
      cases h
      refine (w_ret (binX (vI rfl) (tupI (aI (binX cI (cbX (dX (andX (binX (cbX (dX (vI rfl) d0 rfl) (o_lenT (f := PyData.int) (l := good))) cI rfl rfl e_qgt) h_t6 (fun _ _ hq => (by obtain ⟨t5, h_t5, hq⟩ := bnd hq; have hq := Option.some.inj hq; subst hq; exact (binX (binX (vI rfl) cI rfl rfl (o_ixT (f := PyData.int) (l := good) h_t5)) cI rfl rfl e_eq)))) d0 rfl) o_intB) rfl rfl e_sub) a0) (Nat.le_of_ble_eq_true rfl)) rfl rfl (o_catT (f := PyData.int) (l := good) (m := [((1 : Int) - (if t6 = true then (1 : Int) else 0))]) h_t7)) ?_)
      exact rfl
    · rw [if0 hc4] at h
      refine w_nx ?_
      show wS _ [im ((ls PyData.int) row), im ((tp PyData.int) good), im (idD odd), im (PyData.int kind2), none] _
      refine w_seq ((w_if (b := (decide (kind2 = (2 : Int)))) (bang (binX (vI rfl) cI rfl rfl e_eq)) (fun hc8 => ?_) (fun hc8 => ?_)))
      · rw [if1 hc8] at h
        obtain ⟨t9, h_t9, h⟩ := bnd h
        obtain ⟨t10, h_t10, h⟩ := bnd h
        cases h
        refine (w_ret (binX (tupI (aI cI (aI cI (aI cI (aI cI a0)))) (Nat.le_of_ble_eq_true rfl)) (binX (cbX (dX (binX (vI rfl) cI rfl rfl (o_ixL (f := PyData.int) (l := row) h_t9)) d0 rfl) o_int) cI rfl rfl (e_mod (by decide))) rfl rfl (o_ixT (f := idD) (l := [(nn ()), (PyData.int (7 : Int)), (PyData.str ("1" : Str)), (PyData.bool true)]) h_t10)) ?_)
        exact rfl
      · rw [if0 hc8] at h
        refine w_nx ?_
        show wS _ [im ((ls PyData.int) row), im ((tp PyData.int) good), im (idD odd), im (PyData.int kind2), none] _
        refine w_seq ((w_if (b := ((decide (kind2 = (3 : Int))) && (decide ((0 : Int) < (good.length : Int))))) (tandXt (bang (binX (vI rfl) cI rfl rfl e_eq)) (bang (binX (cbX (dX (vI rfl) d0 rfl) (o_lenT (f := PyData.int) (l := good))) cI rfl rfl e_qgt))) (fun hc11 => ?_) (fun hc11 => ?_)))
        · rw [if1 hc11] at h
          cases h
          refine (w_ret (cutTX (f := PyData.int) (l := good) (vI rfl) (oA cI) oN) ?_)
          exact rfl
        · rw [if0 hc11] at h
          refine w_nx ?_
          show wS _ [im ((ls PyData.int) row), im ((tp PyData.int) good), im (idD odd), im (PyData.int kind2), none] _
          refine w_seq ((w_if (b := (decide ((good.length : Int) = (0 : Int)))) (bang (binX (cbX (dX (vI rfl) d0 rfl) (o_lenT (f := PyData.int) (l := good))) cI rfl rfl e_eq)) (fun hc12 => ?_) (fun hc12 => ?_)))
          · rw [if1 hc12] at h
            cases h
            refine (w_ret (tupI (aI cI a0) (Nat.le_of_ble_eq_true rfl)) ?_)
            exact rfl
          · rw [if0 hc12] at h
            refine w_nx ?_
            show wS _ [im ((ls PyData.int) row), im ((tp PyData.int) good), im (idD odd), im (PyData.int kind2), none] _
            obtain ⟨t13, h_t13, h⟩ := bnd h
            obtain ⟨place15, h_t14, h⟩ := bnd h
            refine w_seq ((t_set (f := PyData.int) (v := place15) (w := place15) rfl (binX (cbX (dX (binX (vI rfl) cI rfl rfl (o_ixL (f := PyData.int) (l := row) h_t13)) d0 rfl) o_int) (cbX (dX (vI rfl) d0 rfl) (o_lenT (f := PyData.int) (l := good))) rfl rfl (o_mod h_t14)) rfl ?_))
            show wS _ [im ((ls PyData.int) row), im ((tp PyData.int) good), im (idD odd), im (PyData.int kind2), im (PyData.int place15)] _
            obtain ⟨t16, h_t16, h⟩ := bnd h
            refine w_seq ((w_if (b := t16) (bang (binX (vI rfl) cI rfl rfl (bD_ok h_t16))) (fun hc17 => ?_) (fun hc17 => ?_)))
            · rw [if1 hc17] at h
              obtain ⟨t18, h_t18, h⟩ := bnd h
              obtain ⟨t19, h_t19, h⟩ := bnd h
              cases h
              refine (w_ret (binX (binX (cutTX (f := PyData.int) (l := good) (vI rfl) oN (oA (vI rfl))) (tupI (aI (binX (vI rfl) cI rfl rfl e_add) a0) (Nat.le_of_ble_eq_true rfl)) rfl rfl (o_catT (f := PyData.int) (l := (cutD good none (some place15))) (m := [(place15 + (1 : Int))]) h_t18)) (cutTX (f := PyData.int) (l := good) (vI rfl) (oA (binX (vI rfl) cI rfl rfl e_add)) oN) rfl rfl (o_catT (f := PyData.int) (l := t18) (m := (cutD good (some (place15 + (1 : Int))) none)) h_t19)) ?_)
              exact rfl
            · rw [if0 hc17] at h
              refine w_nx ?_
              show wS _ [im ((ls PyData.int) row), im ((tp PyData.int) good), im (idD odd), im (PyData.int kind2), im (PyData.int place15)] _
              obtain ⟨t20, h_t20, h⟩ := bnd h
              obtain ⟨t21, h_t21, h⟩ := bnd h
              cases h
              refine w_seq ((w_ret (binX (binX (imAnyT (f := PyData.int) (l := (cutD good none (some place15))) (cutTX (f := PyData.int) (l := good) (vI rfl) oN (oA (vI rfl)))) (tupI (aI (vI rfl) a0) (Nat.le_of_ble_eq_true rfl)) rfl rfl (o_catT (f := idD) (l := (List.map PyData.int (cutD good none (some place15)))) (m := [odd]) h_t20)) (imAnyT (f := PyData.int) (l := (cutD good (some (place15 + (1 : Int))) none)) (cutTX (f := PyData.int) (l := good) (vI rfl) (oA (binX (vI rfl) cI rfl rfl e_add)) oN)) rfl rfl (o_catT (f := idD) (l := t20) (m := (List.map PyData.int (cutD good (some (place15 + (1 : Int))) none))) h_t21)) ?_))
              exact rfl
theorem k_is_number {thing : Int} {r : Bool} (h : f_is_number thing = some r) : F_is_number [PyData.int thing] = some (.im (PyData.bool r)) := by
  unfold f_is_number at h
  refine t_fnI (enc := PyData.bool) rfl ?_
  show wS _ [im (PyData.int thing)] _
  obtain ⟨t1, h_t1, h⟩ := bnd h
  cases h
  refine (w_ret (andXt (callI (aI (vI rfl) a0) rfl (k_is_integer h_t1)) (binX (vI rfl) cI rfl rfl e_qge)) ?_)
  exact rfl
theorem k_is_natural {thing : PyData} {r : Bool} (h : f_is_natural thing = some r) : F_is_natural [idD thing] = some (.im (PyData.bool r)) := by
  unfold f_is_natural at h
  refine t_fnI (enc := PyData.bool) rfl ?_
  show wS _ [im (idD thing)] _
  obtain ⟨t1, h_t1, h⟩ := bnd h
  obtain ⟨t3, h_t3, h⟩ := bnd h
  cases h
  refine (w_ret (andX (callI (aI (vI rfl) a0) rfl (k_is_integer h_t1)) h_t3 (fun _ _ hq => (by obtain ⟨t2, h_t2, hq⟩ := bnd hq; have hq := Option.some.inj hq; subst hq; exact (binX (vI rfl) cI rfl rfl (bD_ok h_t2))))) ?_)
  exact rfl
theorem k__law_bases {row : (List Int)} {tree : (List Int)} {heights : (List Int)} {r : (List Int)} (h : f_w_bases row tree heights = some r) : F__law_bases [(ls PyData.int) row, (tp PyData.int) tree, (tp PyData.int) heights] = some (.im ((tp PyData.int) r)) := by
  unfold f_w_bases at h
  refine t_fnI (enc := (tp PyData.int)) rfl ?_
  show wS _ [im ((ls PyData.int) row), im ((tp PyData.int) tree), im ((tp PyData.int) heights), none, none, none, none] _
  obtain ⟨t1, h_t1, h⟩ := bnd h
  refine w_seq ((w_if (b := (decide ((t1 % (3 : Int)) = (1 : Int)))) (bang (binX (binX (cbX (dX (binX (vI rfl) cI rfl rfl (o_ixL (f := PyData.int) (l := row) h_t1)) d0 rfl) o_int) cI rfl rfl (e_mod (by decide))) cI rfl rfl e_eq)) (fun hc2 => ?_) (fun hc2 => ?_)))
  · rw [if1 hc2] at h
    obtain ⟨is3, h_is3, h⟩ := bnd h
    obtain ⟨t6, h_t6, h⟩ := bnd h
    cases h
    refine (w_ret (cbX (dX (lcX (enc := PyData.int) (encB := PyData.int) h_t6 (rng2I cI (binX (cbX (dX (vI rfl) d0 rfl) (o_lenT (f := PyData.int) (l := tree))) cI rfl rfl e_add) h_is3) rfl (fun x4 _ => ⟨_, rfl, rfl, fun _ hq => (by have hq := Option.some.inj hq; subst hq; rfl), fun _ _ hq => (by obtain ⟨t5, h_t5, hq⟩ := bnd hq; have hq := Option.some.inj hq; subst hq; exact ⟨_, (callI (aI (vI rfl) (aI (vI rfl) (aI (vI rfl) a0))) rfl (k__law_base h_t5)), rfl, rfl⟩)⟩)) d0 rfl) rfl) ?_)
    exact rfl
  · rw [if0 hc2] at h
    refine w_nx ?_
    show wS _ [im ((ls PyData.int) row), im ((tp PyData.int) tree), im ((tp PyData.int) heights), none, none, none, none] _
    obtain ⟨bases7, h_bases7, h⟩ := bnd h
    refine w_seq ((t_setA (f := PyData.int) (v := []) (w := bases7) h_bases7 (lstX a0 (Nat.le_of_ble_eq_true rfl)) rfl ?_))
    show wS _ [im ((ls PyData.int) row), im ((tp PyData.int) tree), im ((tp PyData.int) heights), ac (bases7.map PyData.int), none, none, none] _
    obtain ⟨is8, h_is8, h⟩ := bnd h
    obtain ⟨bases44, hl, h⟩ := bnd h
    refine w_seq ((t_forS PyData.int is8 (fun x_1 (bases_ : (List Int)) => f_w_bases_L1 row tree x_1 bases_) (fun (bases_ : (List Int)) e => ∃ (o28 : Option PyData) (o29 : Option PyData) (o30 : Option PyData), e = [im ((ls PyData.int) row), im ((tp PyData.int) tree), im ((tp PyData.int) heights), ac (bases_.map PyData.int), imo o28, imo o29, imo o30]) (rng2I cI (binX (cbX (dX (vI rfl) d0 rfl) (o_lenT (f := PyData.int) (l := tree))) cI rfl rfl e_add) h_is8) ⟨none, none, none, rfl⟩ hl (fun x_1 bases_ s2_ h e he => ?_) (fun e he => ?_)))
    · obtain ⟨o28, o29, o30, rfl⟩ := he
      refine ⟨rfl, _, rfl, ?_⟩
      show wS _ [im ((ls PyData.int) row), im ((tp PyData.int) tree), im ((tp PyData.int) heights), ac (bases_.map PyData.int), im (PyData.int x_1), imo o29, imo o30] _
      replace h : f_w_bases_L1 row tree x_1 bases_ = some s2_ := h
      unfold f_w_bases_L1 at h
      obtain ⟨up32, h_t31, h⟩ := bnd h
      refine w_seq ((t_set (f := PyData.int) (v := up32) (w := up32) rfl (binX (vI rfl) (binX (vI rfl) cI rfl rfl e_sub) rfl rfl (o_ixT (f := PyData.int) (l := tree) h_t31)) rfl ?_))
      show wS _ [im ((ls PyData.int) row), im ((tp PyData.int) tree), im ((tp PyData.int) heights), ac (bases_.map PyData.int), im (PyData.int x_1), im (PyData.int up32), imo o30] _
      obtain ⟨t33, h_t33, h⟩ := bnd h
      obtain ⟨is34, h_is34, h⟩ := bnd h
      obtain ⟨up40, hl, h⟩ := bnd h
      refine w_seq ((t_forS PyData.int is34 (fun x_2 (up_ : Int) => f_w_bases_L2 row tree bases_ x_1 x_2 up_) (fun (up_ : Int) e => ∃ (o35 : Option PyData), e = [im ((ls PyData.int) row), im ((tp PyData.int) tree), im ((tp PyData.int) heights), ac (bases_.map PyData.int), im (PyData.int x_1), im (PyData.int up_), imo o35]) (rng1I (binX (cbX (dX (binX (vI rfl) (vI rfl) rfl rfl (o_ixL (f := PyData.int) (l := row) h_t33)) d0 rfl) o_int) cI rfl rfl (e_mod (by decide))) h_is34) ⟨o30, rfl⟩ hl (fun x_2 up_ s2_ h e he => ?_) (fun e he => ?_)))
      · obtain ⟨o35, rfl⟩ := he
        refine ⟨rfl, _, rfl, ?_⟩
        show wS _ [im ((ls PyData.int) row), im ((tp PyData.int) tree), im ((tp PyData.int) heights), ac (bases_.map PyData.int), im (PyData.int x_1), im (PyData.int up_), im (PyData.int x_2)] _
        replace h : f_w_bases_L2 row tree bases_ x_1 x_2 up_ = some s2_ := h
        unfold f_w_bases_L2 at h
        refine (w_if (b := (decide ((0 : Int) < up_))) (bang (binX (vI rfl) cI rfl rfl e_qgt)) (fun hc36 => ?_) (fun hc36 => ?_))
        · rw [if1 hc36] at h
          obtain ⟨up38, h_t37, h⟩ := bnd h
          refine (t_set (f := PyData.int) (v := up38) (w := up38) rfl (binX (vI rfl) (binX (vI rfl) cI rfl rfl e_sub) rfl rfl (o_ixT (f := PyData.int) (l := tree) h_t37)) rfl ?_)
          cases h
          exact ⟨some (PyData.int x_2), rfl⟩
        · rw [if0 hc36] at h
          refine w_nx ?_
          cases h
          exact ⟨some (PyData.int x_2), rfl⟩
      · obtain ⟨o41, rfl⟩ := he
        show wS _ [im ((ls PyData.int) row), im ((tp PyData.int) tree), im ((tp PyData.int) heights), ac (bases_.map PyData.int), im (PyData.int x_1), im (PyData.int up40), imo o41] _
        obtain ⟨bases42, h_bases42, h⟩ := bnd h
        refine w_seq ((t_app (f := PyData.int) (l := bases_) (a := up40) h_bases42 ⟨_, (vI rfl), rfl⟩ rfl rfl ?_))
        show wS _ [im ((ls PyData.int) row), im ((tp PyData.int) tree), im ((tp PyData.int) heights), ac (bases42.map PyData.int), im (PyData.int x_1), im (PyData.int up40), imo o41] _
        refine w_nx ?_
        cases h
        exact ⟨some (PyData.int x_1), some (PyData.int up40), o41, rfl⟩
    · obtain ⟨o45, o46, o47, rfl⟩ := he
      show wS _ [im ((ls PyData.int) row), im ((tp PyData.int) tree), im ((tp PyData.int) heights), ac (bases44.map PyData.int), imo o45, imo o46, imo o47] _
      cases h
      refine w_seq ((w_ret (cbX (dX (vB rfl) d0 rfl) rfl) ?_))
      exact rfl
theorem k_check_version {history : (List Int)} {name : Str} {thing : Int} {least : Int} {r : Unit} (h : f_check_version history name thing least = some r) : F_check_version [(tp PyData.int) history, PyData.str name, PyData.int thing, PyData.int least] = some (.im (nn r)) := by
  unfold f_check_version at h
  refine t_fnI (enc := nn) rfl ?_
  show wS _ [im ((tp PyData.int) history), im (PyData.str name), im (PyData.int thing), im (PyData.int least)] _
  obtain ⟨t1, h_t1, h⟩ := bnd h
  refine (w_if (b := ((!t1) || (!(decide (least ≤ thing) && decide (thing ≤ (history.length : Int)))))) (torXt (tnot (bang (callI (aI (vI rfl) a0) rfl (k_is_number h_t1)))) (tnot (bang (chX (vI rfl) (vI rfl) (cbX (dX (vI rfl) d0 rfl) (o_lenT (f := PyData.int) (l := history))) rfl rfl rfl e_qle e_qle)))) (fun hc2 => ?_) (fun hc2 => ?_))
  · rw [if1 hc2] at h
    cases h
  · rw [if0 hc2] at h
    refine w_nx ?_
    cases h
    exact rfl
theorem k_up_to {thing : Int} {greatest : Int} {r : Bool} (h : f_up_to thing greatest = some r) : F_up_to [PyData.int thing, PyData.int greatest] = some (.im (PyData.bool r)) := by
  unfold f_up_to at h
  refine t_fnI (enc := PyData.bool) rfl ?_
  show wS _ [im (PyData.int thing), im (PyData.int greatest)] _
  obtain ⟨t1, h_t1, h⟩ := bnd h
  cases h
  refine (w_ret (andXt (callI (aI (vI rfl) a0) rfl (k_is_natural h_t1)) (binX (vI rfl) (vI rfl) rfl rfl e_qle)) ?_)
  exact rfl
theorem k_ask_version {history : (List Int)} {word : Str} {version : Int} {least : Int} {r : Unit} (h : f_ask_version history word version least = some r) : F_ask_version [(tp PyData.int) history, PyData.str word, PyData.int version, PyData.int least] = some (.im (nn r)) := by
  unfold f_ask_version at h
  refine t_fnI (enc := nn) rfl ?_
  show wS _ [im ((tp PyData.int) history), im (PyData.str word), im (PyData.int version), im (PyData.int least)] _
  obtain ⟨t1, h_t1, h⟩ := bnd h
  obtain ⟨t3, h_t3, h⟩ := bnd h
  refine (w_if (b := (!t3)) (tnot (tandX (bang (callI (aI (vI rfl) a0) rfl (k_is_number h_t1))) h_t3 (fun _ _ hq => (by obtain ⟨t2, h_t2, hq⟩ := bnd hq; have hq := Option.some.inj hq; subst hq; exact (bang (chX (vI rfl) (vI rfl) (callI (aI (vI rfl) a0) rfl (k_many_of h_t2)) rfl rfl rfl e_qle e_qle)))))) (fun hc4 => ?_) (fun hc4 => ?_))
  · rw [if1 hc4] at h
    cases h
  · rw [if0 hc4] at h
    refine w_nx ?_
    cases h
    exact rfl
theorem k_is_heights {history : (List Int)} {thing : PyData} {r : Bool} (h : f_is_heights history thing = some r) : F_is_heights [(tp PyData.int) history, idD thing] = some (.im (PyData.bool r)) := by
  unfold f_is_heights at h
  refine t_fnI (enc := PyData.bool) rfl ?_
  show wS _ [im ((tp PyData.int) history), im (idD thing), none] _
  obtain ⟨t1, h_t1, h⟩ := bnd h
  obtain ⟨t3, h_t3, h⟩ := bnd h
  refine w_seq ((w_if (b := t3) (torX (tnot (bang (isX (vI rfl) rfl h_t1))) h_t3 (fun _ _ hq => (by obtain ⟨t2, h_t2, hq⟩ := bnd hq; have hq := Option.some.inj hq; subst hq; exact (bang (binX (cbX (dX (vI rfl) d0 rfl) (iD_ok h_t2)) (cbX (dX (vI rfl) d0 rfl) (o_lenT (f := PyData.int) (l := history))) rfl rfl e_ne))))) (fun hc4 => ?_) (fun hc4 => ?_)))
  · rw [if1 hc4] at h
    cases h
    refine (w_ret cI ?_)
    exact rfl
  · rw [if0 hc4] at h
    refine w_nx ?_
    show wS _ [im ((tp PyData.int) history), im (idD thing), none] _
    obtain ⟨is5, h_is5, h⟩ := bnd h
    obtain ⟨t8, h_t8, h⟩ := bnd h
    cases h
    refine w_seq ((w_ret (cbX (dX (lcX (enc := idD) (encB := PyData.bool) h_t8 (wkX (vI rfl) h_is5) rfl (fun x6 _ => ⟨_, rfl, rfl, fun _ hq => (by have hq := Option.some.inj hq; subst hq; rfl), fun _ _ hq => (by obtain ⟨t7, h_t7, hq⟩ := bnd hq; have hq := Option.some.inj hq; subst hq; exact ⟨_, (callI (aI (vI rfl) a0) rfl (k_is_natural h_t7)), rfl, rfl⟩)⟩)) d0 rfl) (o_allL (l := t8))) ?_))
    exact rfl
theorem k__words_of {text : Str} {name : Str} {r : (List Str)} (h : f_words_of text name = some r) : F__words_of [PyData.str text, PyData.str name] = some (.im ((ls PyData.str) r)) := by
  unfold f_words_of at h
  refine t_fnI (enc := (ls PyData.str)) rfl ?_
  show wS _ [im (PyData.str text), im (PyData.str name), none] _
  refine w_seq ((w_if (b := (!true)) (tnot (bang (isX (vI rfl) rfl rfl))) (fun hc1 => ?_) (fun hc1 => ?_)))
  · rw [if1 hc1] at h
    cases h
  · rw [if0 hc1] at h
    refine w_nx ?_
    show wS _ [im (PyData.str text), im (PyData.str name), none] _
    obtain ⟨words3, h_t2, h⟩ := bnd h
    refine w_seq ((t_setL (f := PyData.str) (v := words3) (w := words3) rfl (spltX (vI rfl) cI h_t2) rfl ?_))
    show wS _ [im (PyData.str text), im (PyData.str name), im ((ls PyData.str) words3)] _
    obtain ⟨t4, h_t4, h⟩ := bnd h
    obtain ⟨t5, h_t5, h⟩ := bnd h
    refine w_seq ((w_if (b := t5) (bang (binX (binX (vI rfl) cI rfl rfl (o_ixL (f := PyData.str) (l := words3) h_t4)) (vI rfl) rfl rfl (bD_ok h_t5))) (fun hc6 => ?_) (fun hc6 => ?_)))
    · rw [if1 hc6] at h
      cases h
    · rw [if0 hc6] at h
      refine w_nx ?_
      show wS _ [im (PyData.str text), im (PyData.str name), im ((ls PyData.str) words3)] _
      cases h
      refine w_seq ((w_ret (vI rfl) ?_))
      exact rfl
theorem k_is_elder {history : (List Int)} {one : Int} {other : Int} {r : Bool} (h : f_is_elder history one other = some r) : F_is_elder [(tp PyData.int) history, PyData.int one, PyData.int other] = some (.im (PyData.bool r)) := by
  unfold f_is_elder at h
  refine t_fnI (enc := PyData.bool) rfl ?_
  show wS _ [im ((tp PyData.int) history), im (PyData.int one), im (PyData.int other)] _
  obtain ⟨t1, h_t1, h⟩ := bnd h
  refine w_seq ((w_drop (callI (aI (vI rfl) (aI cI (aI (vI rfl) a0))) rfl (k_check_version h_t1)) ?_))
  show wS _ [im ((tp PyData.int) history), im (PyData.int one), im (PyData.int other)] _
  obtain ⟨t2, h_t2, h⟩ := bnd h
  refine w_seq ((w_drop (callI (aI (vI rfl) (aI cI (aI (vI rfl) a0))) rfl (k_check_version h_t2)) ?_))
  show wS _ [im ((tp PyData.int) history), im (PyData.int one), im (PyData.int other)] _
  obtain ⟨t3, h_t3, h⟩ := bnd h
  cases h
  refine w_seq ((w_ret (binX (vI rfl) (callA (aI (vI rfl) (aI (vI rfl) a0)) rfl (k__upward h_t3)) rfl rfl (o_inL (x := one) (l := t3))) ?_))
  exact rfl
theorem k_need_version {history : (List Int)} {version : Int} {r : Unit} (h : f_need_version history version = some r) : F_need_version [(tp PyData.int) history, PyData.int version] = some (.im (nn r)) := by
  unfold f_need_version at h
  refine t_fnI (enc := nn) rfl ?_
  show wS _ [im ((tp PyData.int) history), im (PyData.int version)] _
  obtain ⟨t1, h_t1, h⟩ := bnd h
  refine (w_if (b := (!t1)) (tnot (bang (callI (aI (vI rfl) (aI (cbX (dX (vI rfl) d0 rfl) (o_lenT (f := PyData.int) (l := history))) a0)) rfl (k_up_to h_t1)))) (fun hc2 => ?_) (fun hc2 => ?_))
  · rw [if1 hc2] at h
    cases h
  · rw [if0 hc2] at h
    refine w_nx ?_
    cases h
    exact rfl
theorem k_branch_of {history : (List Int)} {version : Int} {r : (List Int)} (h : f_branch_of history version = some r) : F_branch_of [(tp PyData.int) history, PyData.int version] = some (.im ((tp PyData.int) r)) := by
  unfold f_branch_of at h
  refine t_fnI (enc := (tp PyData.int)) rfl ?_
  show wS _ [im ((tp PyData.int) history), im (PyData.int version), none, none, none, none, none] _
  obtain ⟨t1, h_t1, h⟩ := bnd h
  refine w_seq ((w_drop (callI (aI (vI rfl) (aI cI (aI (vI rfl) a0))) rfl (k_check_version h_t1)) ?_))
  show wS _ [im ((tp PyData.int) history), im (PyData.int version), none, none, none, none, none] _
  obtain ⟨inside3, h_t2, h⟩ := bnd h
  refine w_seq ((t_setA (f := PyData.bool) (v := inside3) (w := inside3) rfl (repX (f := PyData.bool) (ds := [false]) (aI cI a0) (binX (cbX (dX (vI rfl) d0 rfl) (o_lenT (f := PyData.int) (l := history))) cI rfl rfl e_add) h_t2) rfl ?_))
  show wS _ [im ((tp PyData.int) history), im (PyData.int version), ac (inside3.map PyData.bool), none, none, none, none] _
  obtain ⟨inside4, h_inside4, h⟩ := bnd h
  refine w_seq ((t_put (f := PyData.bool) (l := inside3) h_inside4 ⟨_, cI, rfl⟩ rfl (vI rfl) rfl ?_))
  show wS _ [im ((tp PyData.int) history), im (PyData.int version), ac (inside4.map PyData.bool), none, none, none, none] _
  obtain ⟨inside16, hl, h⟩ := bnd h
  refine w_seq ((t_forS (p2 PyData.int PyData.int) (enumL history) (fun x_1 (inside_ : (List Bool)) => f_branch_of_L1 history x_1 inside_) (fun (inside_ : (List Bool)) e => ∃ (o10 : Option PyData) (o11 : Option PyData), e = [im ((tp PyData.int) history), im (PyData.int version), ac (inside_.map PyData.bool), imo o10, imo o11, none, none]) (enumI (f := PyData.int) (l := history) (seqTX (f := PyData.int) (l := history) (vI rfl))) ⟨none, none, rfl⟩ hl (fun x_1 inside_ s2_ h e he => ?_) (fun e he => ?_)))
  · obtain ⟨o10, o11, rfl⟩ := he
    refine ⟨rfl, _, rfl, ?_⟩
    show wS _ [im ((tp PyData.int) history), im (PyData.int version), ac (inside_.map PyData.bool), im (PyData.int x_1.1), im (PyData.int x_1.2), none, none] _
    replace h : f_branch_of_L1 history x_1 inside_ = some s2_ := h
    unfold f_branch_of_L1 at h
    obtain ⟨t12, h_t12, h⟩ := bnd h
    refine (w_if (b := t12) (bang (binX (vB rfl) (vI rfl) rfl rfl (o_ixL (f := PyData.bool) (l := inside_) h_t12))) (fun hc13 => ?_) (fun hc13 => ?_))
    · rw [if1 hc13] at h
      obtain ⟨inside14, h_inside14, h⟩ := bnd h
      refine (t_put (f := PyData.bool) (l := inside_) h_inside14 ⟨_, cI, rfl⟩ rfl (binX (vI rfl) cI rfl rfl e_add) rfl ?_)
      cases h
      exact ⟨some (PyData.int x_1.1), some (PyData.int x_1.2), rfl⟩
    · rw [if0 hc13] at h
      refine w_nx ?_
      cases h
      exact ⟨some (PyData.int x_1.1), some (PyData.int x_1.2), rfl⟩
  · obtain ⟨o17, o18, rfl⟩ := he
    show wS _ [im ((tp PyData.int) history), im (PyData.int version), ac (inside16.map PyData.bool), imo o17, imo o18, none, none] _
    obtain ⟨t20, h_t20, h⟩ := bnd h
    cases h
    refine w_seq ((w_fz (w_ret (cbX (dX (lcX (enc := (p2 PyData.int PyData.bool)) (encB := PyData.int) h_t20 (enumI (f := PyData.bool) (l := inside16) (seqLX (f := PyData.bool) (l := inside16) (vI rfl))) rfl (fun x19 _ => ⟨_, rfl, rfl, fun _ hq => (by have hq := Option.some.inj hq; subst hq; exact (bang (vI rfl))), fun _ _ hq => (by have hq := Option.some.inj hq; subst hq; exact ⟨_, (vI rfl), rfl, rfl⟩)⟩)) d0 rfl) rfl) ?_)))
    exact rfl
theorem k_bases_by {history : (List Int)} {heights : (List Int)} {r : (List Int)} (h : f_bases_by history heights = some r) : F_bases_by [(tp PyData.int) history, (tp PyData.int) heights] = some (.im ((tp PyData.int) r)) := by
  unfold f_bases_by at h
  refine t_fnI (enc := (tp PyData.int)) rfl ?_
  show wS _ [im ((tp PyData.int) history), im ((tp PyData.int) heights), none, none, none, none] _
  obtain ⟨t1, h_t1, h⟩ := bnd h
  refine w_seq ((w_if (b := (!t1)) (tnot (bang (callI (aI (vI rfl) (aI (vI rfl) a0)) rfl (k_is_heights h_t1)))) (fun hc2 => ?_) (fun hc2 => ?_)))
  · rw [if1 hc2] at h
    cases h
  · rw [if0 hc2] at h
    refine w_nx ?_
    show wS _ [im ((tp PyData.int) history), im ((tp PyData.int) heights), none, none, none, none] _
    obtain ⟨bases3, h_bases3, h⟩ := bnd h
    refine w_seq ((t_setA (f := PyData.int) (v := []) (w := bases3) h_bases3 (lstX a0 (Nat.le_of_ble_eq_true rfl)) rfl ?_))
    show wS _ [im ((tp PyData.int) history), im ((tp PyData.int) heights), ac (bases3.map PyData.int), none, none, none] _
    obtain ⟨bases31, hl, h⟩ := bnd h
    refine w_seq ((t_forS (p2 PyData.int PyData.int) (heights.zip history) (fun x_1 (bases_ : (List Int)) => f_bases_by_L1 history heights x_1 bases_) (fun (bases_ : (List Int)) e => ∃ (o19 : Option PyData) (o20 : Option PyData) (o21 : Option PyData), e = [im ((tp PyData.int) history), im ((tp PyData.int) heights), ac (bases_.map PyData.int), imo o19, imo o20, imo o21]) (zipTI (f := PyData.int) (g := PyData.int) (l := heights) (m := history) (vI rfl) (vI rfl)) ⟨none, none, none, rfl⟩ hl (fun x_1 bases_ s2_ h e he => ?_) (fun e he => ?_)))
    · obtain ⟨o19, o20, o21, rfl⟩ := he
      refine ⟨rfl, _, rfl, ?_⟩
      show wS _ [im ((tp PyData.int) history), im ((tp PyData.int) heights), ac (bases_.map PyData.int), im (PyData.int x_1.1), im (PyData.int x_1.2), imo o21] _
      replace h : f_bases_by_L1 history heights x_1 bases_ = some s2_ := h
      unfold f_bases_by_L1 at h
      obtain ⟨elder22, h_elder22, h⟩ := bnd h
      refine w_seq ((t_set (f := PyData.int) (v := x_1.2) (w := elder22) h_elder22 (vI rfl) rfl ?_))
      show wS _ [im ((tp PyData.int) history), im ((tp PyData.int) heights), ac (bases_.map PyData.int), im (PyData.int x_1.1), im (PyData.int x_1.2), im (PyData.int elder22)] _
      obtain ⟨elder28, hl, h⟩ := bnd h
      refine w_seq ((t_whS (fun (elder_ : Int) => f_bases_by_L2c history heights bases_ x_1.1 elder_) (fun (elder_ : Int) => f_bases_by_L2 history heights bases_ x_1.1 elder_) (fun (elder_ : Int) e => e = [im ((tp PyData.int) history), im ((tp PyData.int) heights), ac (bases_.map PyData.int), im (PyData.int x_1.1), im (PyData.int x_1.2), im (PyData.int elder_)]) (N := (elder22.toNat + 1)) rfl rfl hl (fun elder_ b_ h e he => ?_) (fun elder_ s2_ h e he => ?_) (fun e he => ?_)))
      · subst he
        replace h : f_bases_by_L2c history heights bases_ x_1.1 elder_ = some b_ := h
        unfold f_bases_by_L2c at h
        obtain ⟨t26, h_t26, h⟩ := bnd h
        cases h
        exact (tandX (bang (binX (vI rfl) cI rfl rfl e_ne)) h_t26 (fun _ _ hq => (by obtain ⟨t25, h_t25, hq⟩ := bnd hq; have hq := Option.some.inj hq; subst hq; exact (bang (binX (binX (vI rfl) (binX (vI rfl) cI rfl rfl e_sub) rfl rfl (o_ixT (f := PyData.int) (l := heights) h_t25)) (vI rfl) rfl rfl e_qle)))))
      · subst he
        show wS _ [im ((tp PyData.int) history), im ((tp PyData.int) heights), ac (bases_.map PyData.int), im (PyData.int x_1.1), im (PyData.int x_1.2), im (PyData.int elder_)] _
        replace h : f_bases_by_L2 history heights bases_ x_1.1 elder_ = some s2_ := h
        unfold f_bases_by_L2 at h
        obtain ⟨elder24, h_t23, h⟩ := bnd h
        refine (t_set (f := PyData.int) (v := elder24) (w := elder24) rfl (binX (vI rfl) (binX (vI rfl) cI rfl rfl e_sub) rfl rfl (o_ixT (f := PyData.int) (l := history) h_t23)) rfl ?_)
        cases h
        exact rfl
      · subst he
        show wS _ [im ((tp PyData.int) history), im ((tp PyData.int) heights), ac (bases_.map PyData.int), im (PyData.int x_1.1), im (PyData.int x_1.2), im (PyData.int elder28)] _
        obtain ⟨bases29, h_bases29, h⟩ := bnd h
        refine w_seq ((t_app (f := PyData.int) (l := bases_) (a := elder28) h_bases29 ⟨_, (vI rfl), rfl⟩ rfl rfl ?_))
        show wS _ [im ((tp PyData.int) history), im ((tp PyData.int) heights), ac (bases29.map PyData.int), im (PyData.int x_1.1), im (PyData.int x_1.2), im (PyData.int elder28)] _
        refine w_nx ?_
        cases h
        exact ⟨some (PyData.int x_1.1), some (PyData.int x_1.2), some (PyData.int elder28), rfl⟩
    · obtain ⟨o32, o33, o34, rfl⟩ := he
      show wS _ [im ((tp PyData.int) history), im ((tp PyData.int) heights), ac (bases31.map PyData.int), imo o32, imo o33, imo o34] _
      cases h
      refine w_seq ((w_ret (cbX (dX (vB rfl) d0 rfl) rfl) ?_))
      exact rfl
theorem k_heights_line {history : (List Int)} {heights : (List Int)} {r : Str} (h : f_heights_line history heights = some r) : F_heights_line [(tp PyData.int) history, (tp PyData.int) heights] = some (.im (PyData.str r)) := by
  unfold f_heights_line at h
  refine t_fnI (enc := PyData.str) rfl ?_
  show wS _ [im ((tp PyData.int) history), im ((tp PyData.int) heights), none] _
  obtain ⟨t1, h_t1, h⟩ := bnd h
  refine w_seq ((w_if (b := (!t1)) (tnot (bang (callI (aI (vI rfl) (aI (vI rfl) a0)) rfl (k_is_heights h_t1)))) (fun hc2 => ?_) (fun hc2 => ?_)))
  · rw [if1 hc2] at h
    cases h
  · rw [if0 hc2] at h
    refine w_nx ?_
    show wS _ [im ((tp PyData.int) history), im ((tp PyData.int) heights), none] _
    obtain ⟨t5, h_t5, h⟩ := bnd h
    obtain ⟨t6, h_t6, h⟩ := bnd h
    obtain ⟨t7, h_t7, h⟩ := bnd h
    cases h
    refine w_seq ((w_ret (joinSX (ys := t6) cI (binX (lstX (aI cI a0) (Nat.le_of_ble_eq_true rfl)) (lcX (enc := PyData.int) (encB := PyData.str) h_t5 (seqTX (f := PyData.int) (l := heights) (vI rfl)) rfl (fun x3 _ => ⟨_, rfl, rfl, fun _ hq => (by have hq := Option.some.inj hq; subst hq; rfl), fun _ _ hq => (by obtain ⟨t4, h_t4, hq⟩ := bnd hq; have hq := Option.some.inj hq; subst hq; exact ⟨_, (cbX (dX (vI rfl) d0 rfl) (o_strN h_t4)), rfl, rfl⟩)⟩)) rfl rfl (o_catL (f := PyData.str) (l := [("heights" : Str)]) (m := t5) h_t6)) rfl h_t7) ?_))
    exact rfl
theorem k_read_heights {history : (List Int)} {text : Str} {r : (List Int)} (h : f_read_heights history text = some r) : F_read_heights [(tp PyData.int) history, PyData.str text] = some (.im ((tp PyData.int) r)) := by
  unfold f_read_heights at h
  refine t_fnI (enc := (tp PyData.int)) rfl ?_
  show wS _ [im ((tp PyData.int) history), im (PyData.str text), none, none, none, none, none] _
  obtain ⟨words2, h_t1, h⟩ := bnd h
  refine w_seq ((t_set (f := (ls PyData.str)) (v := words2) (w := words2) rfl (callI (aI (vI rfl) (aI cI a0)) rfl (k__words_of h_t1)) rfl ?_))
  show wS _ [im ((tp PyData.int) history), im (PyData.str text), im ((ls PyData.str) words2), none, none, none, none] _
  obtain ⟨heights3, h_heights3, h⟩ := bnd h
  refine w_seq ((t_setA (f := PyData.int) (v := []) (w := heights3) h_heights3 (lstX a0 (Nat.le_of_ble_eq_true rfl)) rfl ?_))
  show wS _ [im ((tp PyData.int) history), im (PyData.str text), im ((ls PyData.str) words2), ac (heights3.map PyData.int), none, none, none] _
  obtain ⟨heights19, hl, h⟩ := bnd h
  refine w_seq ((t_forS (p2 PyData.int PyData.str) (enumL (cutD words2 (some (1 : Int)) none)) (fun x_1 (heights_ : (List Int)) => f_read_heights_L1 history words2 x_1 heights_) (fun (heights_ : (List Int)) e => ∃ (o11 : Option PyData) (o12 : Option PyData) (o13 : Option PyData), e = [im ((tp PyData.int) history), im (PyData.str text), im ((ls PyData.str) words2), ac (heights_.map PyData.int), imo o11, imo o12, imo o13]) (enumI (f := PyData.str) (l := (cutD words2 (some (1 : Int)) none)) (seqAX (f := PyData.str) (l := (cutD words2 (some (1 : Int)) none)) (cutLX (f := PyData.str) (l := words2) (vI rfl) (oA cI) oN rfl))) ⟨none, none, none, rfl⟩ hl (fun x_1 heights_ s2_ h e he => ?_) (fun e he => ?_)))
  · obtain ⟨o11, o12, o13, rfl⟩ := he
    refine ⟨rfl, _, rfl, ?_⟩
    show wS _ [im ((tp PyData.int) history), im (PyData.str text), im ((ls PyData.str) words2), ac (heights_.map PyData.int), im (PyData.int x_1.1), im (PyData.str x_1.2), imo o13] _
    replace h : f_read_heights_L1 history words2 x_1 heights_ = some s2_ := h
    unfold f_read_heights_L1 at h
    obtain ⟨height15, h_t14, h⟩ := bnd h
    refine w_seq ((t_set (f := PyData.int) (v := height15) (w := height15) rfl (callI (aI (vI rfl) a0) rfl (k__number_in h_t14)) rfl ?_))
    show wS _ [im ((tp PyData.int) history), im (PyData.str text), im ((ls PyData.str) words2), ac (heights_.map PyData.int), im (PyData.int x_1.1), im (PyData.str x_1.2), im (PyData.int height15)] _
    refine w_seq ((w_if (b := ((decide ((history.length : Int) ≤ x_1.1)) || (decide (height15 < (1 : Int))))) (torXt (bang (binX (vI rfl) (cbX (dX (vI rfl) d0 rfl) (o_lenT (f := PyData.int) (l := history))) rfl rfl e_qge)) (bang (binX (vI rfl) cI rfl rfl e_qlt))) (fun hc16 => ?_) (fun hc16 => ?_)))
    · rw [if1 hc16] at h
      cases h
    · rw [if0 hc16] at h
      refine w_nx ?_
      show wS _ [im ((tp PyData.int) history), im (PyData.str text), im ((ls PyData.str) words2), ac (heights_.map PyData.int), im (PyData.int x_1.1), im (PyData.str x_1.2), im (PyData.int height15)] _
      obtain ⟨heights17, h_heights17, h⟩ := bnd h
      refine w_seq ((t_app (f := PyData.int) (l := heights_) (a := height15) h_heights17 ⟨_, (vI rfl), rfl⟩ rfl rfl ?_))
      show wS _ [im ((tp PyData.int) history), im (PyData.str text), im ((ls PyData.str) words2), ac (heights17.map PyData.int), im (PyData.int x_1.1), im (PyData.str x_1.2), im (PyData.int height15)] _
      refine w_nx ?_
      cases h
      exact ⟨some (PyData.int x_1.1), some (PyData.str x_1.2), some (PyData.int height15), rfl⟩
  · obtain ⟨o20, o21, o22, rfl⟩ := he
    show wS _ [im ((tp PyData.int) history), im (PyData.str text), im ((ls PyData.str) words2), ac (heights19.map PyData.int), imo o20, imo o21, imo o22] _
    refine w_seq ((w_if (b := (decide ((heights19.length : Int) < (history.length : Int)))) (bang (binX (cbX (dX (vB rfl) d0 rfl) (o_lenL (f := PyData.int) (l := heights19))) (cbX (dX (vI rfl) d0 rfl) (o_lenT (f := PyData.int) (l := history))) rfl rfl e_qlt)) (fun hc23 => ?_) (fun hc23 => ?_)))
    · rw [if1 hc23] at h
      cases h
    · rw [if0 hc23] at h
      refine w_nx ?_
      show wS _ [im ((tp PyData.int) history), im (PyData.str text), im ((ls PyData.str) words2), ac (heights19.map PyData.int), imo o20, imo o21, imo o22] _
      cases h
      refine w_seq ((w_ret (cbX (dX (vB rfl) d0 rfl) rfl) ?_))
      exact rfl
theorem k_is_bases {history : (List Int)} {thing : (List Int)} {r : Bool} (h : f_is_bases history thing = some r) : F_is_bases [(tp PyData.int) history, (tp PyData.int) thing] = some (.im (PyData.bool r)) := by
  unfold f_is_bases at h
  refine t_fnI (enc := PyData.bool) rfl ?_
  show wS _ [im ((tp PyData.int) history), im ((tp PyData.int) thing), none, none] _
  obtain ⟨t2, h_t2, h⟩ := bnd h
  refine w_seq ((w_if (b := (!t2)) (tnot (tandX (bang (isX (vI rfl) rfl rfl)) h_t2 (fun _ _ hq => (by obtain ⟨t1, h_t1, hq⟩ := bnd hq; have hq := Option.some.inj hq; subst hq; exact (bang (binX (cbX (dX (vI rfl) d0 rfl) (o_lenT (f := PyData.int) (l := thing))) (callI (aI (vI rfl) a0) rfl (k_many_of h_t1)) rfl rfl e_eq)))))) (fun hc3 => ?_) (fun hc3 => ?_)))
  · rw [if1 hc3] at h
    cases h
    refine (w_ret cI ?_)
    exact rfl
  · rw [if0 hc3] at h
    refine w_nx ?_
    show wS _ [im ((tp PyData.int) history), im ((tp PyData.int) thing), none, none] _
    obtain ⟨l_, hl, h⟩ := bnd h
    refine w_seq ((t_forG (p2 PyData.int PyData.int) (enumL thing) (fun x_1 (s_ : Unit) => f_is_bases_L1 history thing x_1) (fun (s_ : Unit) e => ∃ (o11 : Option PyData) (o12 : Option PyData), e = [im ((tp PyData.int) history), im ((tp PyData.int) thing), imo o11, imo o12]) (rtI PyData.bool) (enumI (f := PyData.int) (l := thing) (seqTX (f := PyData.int) (l := thing) (vI rfl))) ⟨none, none, rfl⟩ hl (fun x_1 s_ l2_ h e he => ?_) (fun s18 hs e he => ?_) (fun r_ hs r2_ e hr => ?_)))
    · obtain ⟨o11, o12, rfl⟩ := he
      refine ⟨rfl, _, rfl, ?_⟩
      show wS _ [im ((tp PyData.int) history), im ((tp PyData.int) thing), im (PyData.int x_1.1), im (PyData.int x_1.2)] _
      replace h : f_is_bases_L1 history thing x_1 = some l2_ := h
      unfold f_is_bases_L1 at h
      obtain ⟨t13, h_t13, h⟩ := bnd h
      obtain ⟨t16, h_t16, h⟩ := bnd h
      refine (w_if (b := (!t16)) (tnot (tandX (bang (callI (aI (vI rfl) a0) rfl (k_is_number h_t13))) h_t16 (fun _ _ hq => (by obtain ⟨t15, h_t15, hq⟩ := bnd hq; have hq := Option.some.inj hq; subst hq; exact (tandX (bang (binX (vI rfl) (vI rfl) rfl rfl e_qle)) h_t15 (fun _ _ hq => (by obtain ⟨t14, h_t14, hq⟩ := bnd hq; have hq := Option.some.inj hq; subst hq; exact (bang (callI (aI (vI rfl) (aI (vI rfl) (aI (binX (vI rfl) cI rfl rfl e_add) a0))) rfl (k_is_elder h_t14)))))))))) (fun hc17 => ?_) (fun hc17 => ?_))
      · rw [if1 hc17] at h
        cases h
        refine (w_ret cI ?_)
        exact rfl
      · rw [if0 hc17] at h
        refine w_nx ?_
        cases h
        exact ⟨some (PyData.int x_1.1), some (PyData.int x_1.2), rfl⟩
    · subst hs
      replace h : _ = some r := h
      dsimp only at h
      obtain ⟨o19, o20, rfl⟩ := he
      show wS _ [im ((tp PyData.int) history), im ((tp PyData.int) thing), imo o19, imo o20] _
      cases h
      refine w_seq ((w_ret cI ?_))
      exact rfl
    · subst hs
      cases h
      exact hr
theorem k_records_of {history : (List Int)} {heights : (List Int)} {version : Int} {r : (List Int)} (h : f_records_of history heights version = some r) : F_records_of [(tp PyData.int) history, (tp PyData.int) heights, PyData.int version] = some (.im ((tp PyData.int) r)) := by
  unfold f_records_of at h
  refine t_fnI (enc := (tp PyData.int)) rfl ?_
  show wS _ [im ((tp PyData.int) history), im ((tp PyData.int) heights), im (PyData.int version), none, none, none] _
  obtain ⟨bases2, h_t1, h⟩ := bnd h
  refine w_seq ((t_set (f := (tp PyData.int)) (v := bases2) (w := bases2) rfl (callI (aI (vI rfl) (aI (vI rfl) a0)) rfl (k_bases_by h_t1)) rfl ?_))
  show wS _ [im ((tp PyData.int) history), im ((tp PyData.int) heights), im (PyData.int version), im ((tp PyData.int) bases2), none, none] _
  obtain ⟨t3, h_t3, h⟩ := bnd h
  refine w_seq ((w_if (b := ((!t3) || (decide ((history.length : Int) < version)))) (torXt (tnot (bang (callI (aI (vI rfl) a0) rfl (k_is_number h_t3)))) (bang (binX (vI rfl) (cbX (dX (vI rfl) d0 rfl) (o_lenT (f := PyData.int) (l := history))) rfl rfl e_qgt))) (fun hc4 => ?_) (fun hc4 => ?_)))
  · rw [if1 hc4] at h
    cases h
  · rw [if0 hc4] at h
    refine w_nx ?_
    show wS _ [im ((tp PyData.int) history), im ((tp PyData.int) heights), im (PyData.int version), im ((tp PyData.int) bases2), none, none] _
    obtain ⟨records5, h_records5, h⟩ := bnd h
    refine w_seq ((t_setA (f := PyData.int) (v := []) (w := records5) h_records5 (lstX a0 (Nat.le_of_ble_eq_true rfl)) rfl ?_))
    show wS _ [im ((tp PyData.int) history), im ((tp PyData.int) heights), im (PyData.int version), im ((tp PyData.int) bases2), ac (records5.map PyData.int), none] _
    obtain ⟨step6, h_step6, h⟩ := bnd h
    refine w_seq ((t_set (f := PyData.int) (v := version) (w := step6) h_step6 (vI rfl) rfl ?_))
    show wS _ [im ((tp PyData.int) history), im ((tp PyData.int) heights), im (PyData.int version), im ((tp PyData.int) bases2), ac (records5.map PyData.int), im (PyData.int step6)] _
    obtain ⟨s13, hl, h⟩ := bnd h
    refine w_seq ((t_whS (fun (s_ : (List Int) × Int) => f_records_of_L1c bases2 s_.1 s_.2) (fun (s_ : (List Int) × Int) => f_records_of_L1 bases2 s_.1 s_.2) (fun (s_ : (List Int) × Int) e => e = [im ((tp PyData.int) history), im ((tp PyData.int) heights), im (PyData.int version), im ((tp PyData.int) bases2), ac (s_.1.map PyData.int), im (PyData.int s_.2)]) (N := (step6.toNat + 1)) rfl rfl hl (fun s_ b_ h e he => ?_) (fun s_ s2_ h e he => ?_) (fun e he => ?_)))
    · subst he
      obtain ⟨records_, step_⟩ := s_
      replace h : f_records_of_L1c bases2 records_ step_ = some b_ := h
      unfold f_records_of_L1c at h
      cases h
      exact (bang (binX (vI rfl) cI rfl rfl e_ne))
    · subst he
      obtain ⟨records_, step_⟩ := s_
      show wS _ [im ((tp PyData.int) history), im ((tp PyData.int) heights), im (PyData.int version), im ((tp PyData.int) bases2), ac (records_.map PyData.int), im (PyData.int step_)] _
      replace h : f_records_of_L1 bases2 records_ step_ = some s2_ := h
      unfold f_records_of_L1 at h
      obtain ⟨records10, h_records10, h⟩ := bnd h
      refine w_seq ((t_app (f := PyData.int) (l := records_) (a := step_) h_records10 ⟨_, (vI rfl), rfl⟩ rfl rfl ?_))
      show wS _ [im ((tp PyData.int) history), im ((tp PyData.int) heights), im (PyData.int version), im ((tp PyData.int) bases2), ac (records10.map PyData.int), im (PyData.int step_)] _
      obtain ⟨step12, h_t11, h⟩ := bnd h
      refine w_seq ((t_set (f := PyData.int) (v := step12) (w := step12) rfl (binX (vI rfl) (binX (vI rfl) cI rfl rfl e_sub) rfl rfl (o_ixT (f := PyData.int) (l := bases2) h_t11)) rfl ?_))
      show wS _ [im ((tp PyData.int) history), im ((tp PyData.int) heights), im (PyData.int version), im ((tp PyData.int) bases2), ac (records10.map PyData.int), im (PyData.int step12)] _
      refine w_nx ?_
      cases h
      exact rfl
    · subst he
      show wS _ [im ((tp PyData.int) history), im ((tp PyData.int) heights), im (PyData.int version), im ((tp PyData.int) bases2), ac (s13.1.map PyData.int), im (PyData.int s13.2)] _
      cases h
      refine w_seq ((w_ret (cbX (dX (vB rfl) d0 rfl) rfl) ?_))
      exact rfl
theorem k_open_at {history : (List Int)} {heights : (List Int)} {version : Int} {r : (List Int)} (h : f_open_at history heights version = some r) : F_open_at [(tp PyData.int) history, (tp PyData.int) heights, PyData.int version] = some (.im ((tp PyData.int) r)) := by
  unfold f_open_at at h
  refine t_fnI (enc := (tp PyData.int)) rfl ?_
  show wS _ [im ((tp PyData.int) history), im ((tp PyData.int) heights), im (PyData.int version), none, none, none] _
  obtain ⟨bases2, h_t1, h⟩ := bnd h
  refine w_seq ((t_set (f := (tp PyData.int)) (v := bases2) (w := bases2) rfl (callI (aI (vI rfl) (aI (vI rfl) a0)) rfl (k_bases_by h_t1)) rfl ?_))
  show wS _ [im ((tp PyData.int) history), im ((tp PyData.int) heights), im (PyData.int version), im ((tp PyData.int) bases2), none, none] _
  obtain ⟨t3, h_t3, h⟩ := bnd h
  refine w_seq ((w_drop (callI (aI (vI rfl) (aI (vI rfl) a0)) rfl (k_need_version h_t3)) ?_))
  show wS _ [im ((tp PyData.int) history), im ((tp PyData.int) heights), im (PyData.int version), im ((tp PyData.int) bases2), none, none] _
  obtain ⟨found4, h_found4, h⟩ := bnd h
  refine w_seq ((t_setA (f := PyData.int) (v := []) (w := found4) h_found4 (lstX a0 (Nat.le_of_ble_eq_true rfl)) rfl ?_))
  show wS _ [im ((tp PyData.int) history), im ((tp PyData.int) heights), im (PyData.int version), im ((tp PyData.int) bases2), ac (found4.map PyData.int), none] _
  obtain ⟨is5, h_is5, h⟩ := bnd h
  obtain ⟨found19, hl, h⟩ := bnd h
  refine w_seq ((t_forS PyData.int is5 (fun x_1 (found_ : (List Int)) => f_open_at_L1 history version bases2 x_1 found_) (fun (found_ : (List Int)) e => ∃ (o12 : Option PyData), e = [im ((tp PyData.int) history), im ((tp PyData.int) heights), im (PyData.int version), im ((tp PyData.int) bases2), ac (found_.map PyData.int), imo o12]) (rng2I (vI rfl) (binX (cbX (dX (vI rfl) d0 rfl) (o_lenT (f := PyData.int) (l := history))) cI rfl rfl e_add) h_is5) ⟨none, rfl⟩ hl (fun x_1 found_ s2_ h e he => ?_) (fun e he => ?_)))
  · obtain ⟨o12, rfl⟩ := he
    refine ⟨rfl, _, rfl, ?_⟩
    show wS _ [im ((tp PyData.int) history), im ((tp PyData.int) heights), im (PyData.int version), im ((tp PyData.int) bases2), ac (found_.map PyData.int), im (PyData.int x_1)] _
    replace h : f_open_at_L1 history version bases2 x_1 found_ = some s2_ := h
    unfold f_open_at_L1 at h
    obtain ⟨t13, h_t13, h⟩ := bnd h
    obtain ⟨t15, h_t15, h⟩ := bnd h
    refine (w_if (b := t15) (tandX (bang (binX (binX (vI rfl) (binX (vI rfl) cI rfl rfl e_sub) rfl rfl (o_ixT (f := PyData.int) (l := bases2) h_t13)) (vI rfl) rfl rfl e_qlt)) h_t15 (fun _ _ hq => (by obtain ⟨t14, h_t14, hq⟩ := bnd hq; have hq := Option.some.inj hq; subst hq; exact (bang (callI (aI (vI rfl) (aI (vI rfl) (aI (vI rfl) a0))) rfl (k_at_or_below h_t14)))))) (fun hc16 => ?_) (fun hc16 => ?_))
    · rw [if1 hc16] at h
      obtain ⟨found17, h_found17, h⟩ := bnd h
      refine (t_app (f := PyData.int) (l := found_) (a := x_1) h_found17 ⟨_, (vI rfl), rfl⟩ rfl rfl ?_)
      cases h
      exact ⟨some (PyData.int x_1), rfl⟩
    · rw [if0 hc16] at h
      refine w_nx ?_
      cases h
      exact ⟨some (PyData.int x_1), rfl⟩
  · obtain ⟨o20, rfl⟩ := he
    show wS _ [im ((tp PyData.int) history), im ((tp PyData.int) heights), im (PyData.int version), im ((tp PyData.int) bases2), ac (found19.map PyData.int), imo o20] _
    cases h
    refine w_seq ((w_ret (cbX (dX (vB rfl) d0 rfl) rfl) ?_))
    exact rfl
theorem k_ask_bases {history : (List Int)} {bases : (List Int)} {r : Unit} (h : f_ask_bases history bases = some r) : F_ask_bases [(tp PyData.int) history, (tp PyData.int) bases] = some (.im (nn r)) := by
  unfold f_ask_bases at h
  refine t_fnI (enc := nn) rfl ?_
  show wS _ [im ((tp PyData.int) history), im ((tp PyData.int) bases)] _
  obtain ⟨t1, h_t1, h⟩ := bnd h
  refine (w_if (b := (!t1)) (tnot (bang (callI (aI (vI rfl) (aI (vI rfl) a0)) rfl (k_is_bases h_t1)))) (fun hc2 => ?_) (fun hc2 => ?_))
  · rw [if1 hc2] at h
    cases h
  · rw [if0 hc2] at h
    refine w_nx ?_
    cases h
    exact rfl
theorem k_open_row {history : (List Int)} {heights : (List Int)} {version : Int} {r : (List Int)} (h : f_open_row history heights version = some r) : F_open_row [(tp PyData.int) history, (tp PyData.int) heights, PyData.int version] = some (.im ((tp PyData.int) r)) := by
  unfold f_open_row at h
  refine t_fnI (enc := (tp PyData.int)) rfl ?_
  show wS _ [im ((tp PyData.int) history), im ((tp PyData.int) heights), im (PyData.int version), none] _
  obtain ⟨t1, h_t1, h⟩ := bnd h
  obtain ⟨t4, h_t4, h⟩ := bnd h
  obtain ⟨t5, h_t5, h⟩ := bnd h
  cases h
  refine (w_ret (callI (aA (lcX (enc := PyData.int) (encB := PyData.int) h_t4 (seqTX (f := PyData.int) (l := t1) (callI (aI (vI rfl) (aI (vI rfl) (aI (vI rfl) a0))) rfl (k_open_at h_t1))) rfl (fun x2 _ => ⟨_, rfl, rfl, fun _ hq => (by have hq := Option.some.inj hq; subst hq; rfl), fun _ _ hq => (by obtain ⟨t3, h_t3, hq⟩ := bnd hq; have hq := Option.some.inj hq; subst hq; exact ⟨_, (binX (vI rfl) (binX (vI rfl) cI rfl rfl e_sub) rfl rfl (o_ixT (f := PyData.int) (l := heights) h_t3)), rfl, rfl⟩)⟩)) a0) rfl (k_falling h_t5)) ?_)
  exact rfl
theorem k_reads_by {history : (List Int)} {bases : (List Int)} {r : (List Int)} (h : f_reads_by history bases = some r) : F_reads_by [(tp PyData.int) history, (tp PyData.int) bases] = some (.im ((tp PyData.int) r)) := by
  unfold f_reads_by at h
  refine t_fnI (enc := (tp PyData.int)) rfl ?_
  show wS _ [im ((tp PyData.int) history), im ((tp PyData.int) bases), none, none] _
  obtain ⟨t1, h_t1, h⟩ := bnd h
  refine w_seq ((w_drop (callI (aI (vI rfl) (aI (vI rfl) a0)) rfl (k_ask_bases h_t1)) ?_))
  show wS _ [im ((tp PyData.int) history), im ((tp PyData.int) bases), none, none] _
  obtain ⟨counts2, h_counts2, h⟩ := bnd h
  refine w_seq ((t_setA (f := PyData.int) (v := [(0 : Int)]) (w := counts2) h_counts2 (lstX (aI cI a0) (Nat.le_of_ble_eq_true rfl)) rfl ?_))
  show wS _ [im ((tp PyData.int) history), im ((tp PyData.int) bases), ac (counts2.map PyData.int), none] _
  obtain ⟨counts10, hl, h⟩ := bnd h
  refine w_seq ((t_forS PyData.int bases (fun x_1 (counts_ : (List Int)) => f_reads_by_L1 bases x_1 counts_) (fun (counts_ : (List Int)) e => ∃ (o6 : Option PyData), e = [im ((tp PyData.int) history), im ((tp PyData.int) bases), ac (counts_.map PyData.int), imo o6]) (seqTX (f := PyData.int) (l := bases) (vI rfl)) ⟨none, rfl⟩ hl (fun x_1 counts_ s2_ h e he => ?_) (fun e he => ?_)))
  · obtain ⟨o6, rfl⟩ := he
    refine ⟨rfl, _, rfl, ?_⟩
    show wS _ [im ((tp PyData.int) history), im ((tp PyData.int) bases), ac (counts_.map PyData.int), im (PyData.int x_1)] _
    replace h : f_reads_by_L1 bases x_1 counts_ = some s2_ := h
    unfold f_reads_by_L1 at h
    obtain ⟨t7, h_t7, h⟩ := bnd h
    obtain ⟨counts8, h_counts8, h⟩ := bnd h
    refine (t_app (f := PyData.int) (l := counts_) (a := (t7 + (1 : Int))) h_counts8 ⟨_, (binX (binX (vB rfl) (vI rfl) rfl rfl (o_ixL (f := PyData.int) (l := counts_) h_t7)) cI rfl rfl e_add), rfl⟩ rfl rfl ?_)
    cases h
    exact ⟨some (PyData.int x_1), rfl⟩
  · obtain ⟨o11, rfl⟩ := he
    show wS _ [im ((tp PyData.int) history), im ((tp PyData.int) bases), ac (counts10.map PyData.int), imo o11] _
    cases h
    refine w_seq ((w_ret (cbX (dX (vB rfl) d0 rfl) rfl) ?_))
    exact rfl
theorem k_holders_of {history : (List Int)} {bases : (List Int)} {change : Int} {r : (List Int)} (h : f_holders_of history bases change = some r) : F_holders_of [(tp PyData.int) history, (tp PyData.int) bases, PyData.int change] = some (.im ((tp PyData.int) r)) := by
  unfold f_holders_of at h
  refine t_fnI (enc := (tp PyData.int)) rfl ?_
  show wS _ [im ((tp PyData.int) history), im ((tp PyData.int) bases), im (PyData.int change), none] _
  obtain ⟨t1, h_t1, h⟩ := bnd h
  refine w_seq ((w_drop (callI (aI (vI rfl) (aI (vI rfl) a0)) rfl (k_ask_bases h_t1)) ?_))
  show wS _ [im ((tp PyData.int) history), im ((tp PyData.int) bases), im (PyData.int change), none] _
  obtain ⟨t2, h_t2, h⟩ := bnd h
  refine w_seq ((w_drop (callI (aI (vI rfl) (aI cI (aI (vI rfl) (aI cI a0)))) rfl (k_ask_version h_t2)) ?_))
  show wS _ [im ((tp PyData.int) history), im ((tp PyData.int) bases), im (PyData.int change), none] _
  obtain ⟨t3, h_t3, h⟩ := bnd h
  obtain ⟨t6, h_t6, h⟩ := bnd h
  cases h
  refine w_seq ((w_ret (cbX (dX (lcX (enc := PyData.int) (encB := PyData.int) h_t6 (seqTX (f := PyData.int) (l := t3) (callI (aI (vI rfl) (aI (vI rfl) a0)) rfl (k_branch_of h_t3))) rfl (fun x4 _ => ⟨_, rfl, rfl, fun _ hq => (by obtain ⟨t5, h_t5, hq⟩ := bnd hq; have hq := Option.some.inj hq; subst hq; exact (bang (binX (binX (vI rfl) (binX (vI rfl) cI rfl rfl e_sub) rfl rfl (o_ixT (f := PyData.int) (l := bases) h_t5)) (vI rfl) rfl rfl e_qlt))), fun _ _ hq => (by have hq := Option.some.inj hq; subst hq; exact ⟨_, (vI rfl), rfl, rfl⟩)⟩)) d0 rfl) rfl) ?_))
  exact rfl
theorem k_heights_of {history : (List Int)} {bases : (List Int)} {r : (List Int)} (h : f_heights_of history bases = some r) : F_heights_of [(tp PyData.int) history, (tp PyData.int) bases] = some (.im ((tp PyData.int) r)) := by
  unfold f_heights_of at h
  refine t_fnI (enc := (tp PyData.int)) rfl ?_
  show wS _ [im ((tp PyData.int) history), im ((tp PyData.int) bases), none, none, none] _
  obtain ⟨t1, h_t1, h⟩ := bnd h
  refine w_seq ((w_if (b := (!t1)) (tnot (bang (callI (aI (vI rfl) (aI (vI rfl) a0)) rfl (k_is_bases h_t1)))) (fun hc2 => ?_) (fun hc2 => ?_)))
  · rw [if1 hc2] at h
    cases h
  · rw [if0 hc2] at h
    refine w_nx ?_
    show wS _ [im ((tp PyData.int) history), im ((tp PyData.int) bases), none, none, none] _
    obtain ⟨reads4, h_t3, h⟩ := bnd h
    refine w_seq ((t_set (f := (tp PyData.int)) (v := reads4) (w := reads4) rfl (callI (aI (vI rfl) (aI (vI rfl) a0)) rfl (k_reads_by h_t3)) rfl ?_))
    show wS _ [im ((tp PyData.int) history), im ((tp PyData.int) bases), im ((tp PyData.int) reads4), none, none] _
    obtain ⟨greatest6, h_t5, h⟩ := bnd h
    refine w_seq ((t_set (f := PyData.int) (v := greatest6) (w := greatest6) rfl (cbX (dX (vI rfl) d0 rfl) (o_maxT (l := reads4) h_t5)) rfl ?_))
    show wS _ [im ((tp PyData.int) history), im ((tp PyData.int) bases), im ((tp PyData.int) reads4), im (PyData.int greatest6), none] _
    obtain ⟨t8, h_t8, h⟩ := bnd h
    cases h
    refine w_seq ((w_ret (cbX (dX (lcX (enc := PyData.int) (encB := PyData.int) h_t8 (seqTX (f := PyData.int) (l := (cutD reads4 (some (1 : Int)) none)) (cutTX (f := PyData.int) (l := reads4) (vI rfl) (oA cI) oN)) rfl (fun x7 _ => ⟨_, rfl, rfl, fun _ hq => (by have hq := Option.some.inj hq; subst hq; rfl), fun _ _ hq => (by have hq := Option.some.inj hq; subst hq; exact ⟨_, (binX (binX (vI rfl) cI rfl rfl e_add) (vI rfl) rfl rfl e_sub), rfl, rfl⟩)⟩)) d0 rfl) rfl) ?_))
    exact rfl
theorem kB__law_same {N : Nat} {rec_ : PyData → PyData → Option Bool} (hrec : ∀ {one : PyData} {other : PyData} {r : Bool}, rec_ one other = some r → R__law_same N [idD one, idD other] = some (.im (PyData.bool r))) {one : PyData} {other : PyData} {r : Bool} (h : f_w_same_B rec_ one other = some r) : R__law_same (N + 1) [idD one, idD other] = some (.im (PyData.bool r)) := by
  unfold f_w_same_B at h
  refine t_fnI (enc := PyData.bool) rfl ?_
  show wS _ [im (idD one), im (idD other), none] _
  obtain ⟨t1, h_t1, h⟩ := bnd h
  refine w_seq ((w_if (b := t1) (bang (isX (vI rfl) rfl h_t1)) (fun hc2 => ?_) (fun hc2 => ?_)))
  · rw [if1 hc2] at h
    obtain ⟨t3, h_t3, h⟩ := bnd h
    obtain ⟨t6, h_t6, h⟩ := bnd h
    refine w_seq ((w_if (b := t6) (torX (tnot (bang (isX (vI rfl) rfl h_t3))) h_t6 (fun _ _ hq => (by obtain ⟨t4, h_t4, hq⟩ := bnd hq; obtain ⟨t5, h_t5, hq⟩ := bnd hq; have hq := Option.some.inj hq; subst hq; exact (bang (binX (cbX (dX (vI rfl) d0 rfl) (iD_ok h_t4)) (cbX (dX (vI rfl) d0 rfl) (iD_ok h_t5)) rfl rfl e_ne))))) (fun hc7 => ?_) (fun hc7 => ?_)))
    · rw [if1 hc7] at h
      cases h
      refine (w_ret cI ?_)
      exact rfl
    · rw [if0 hc7] at h
      refine w_nx ?_
      show wS _ [im (idD one), im (idD other), none] _
      obtain ⟨t8, h_t8, h⟩ := bnd h
      obtain ⟨is9, h_is9, h⟩ := bnd h
      obtain ⟨l_, hl, h⟩ := bnd h
      refine w_seq ((t_forG PyData.int is9 (fun x_1 (s_ : Unit) => f_w_same_L1 rec_ one other x_1) (fun (s_ : Unit) e => ∃ (o15 : Option PyData), e = [im (idD one), im (idD other), imo o15]) (rtI PyData.bool) (rng1I (cbX (dX (vI rfl) d0 rfl) (iD_ok h_t8)) h_is9) ⟨none, rfl⟩ hl (fun x_1 s_ l2_ h e he => ?_) (fun s20 hs e he => ?_) (fun r_ hs r2_ e hr => ?_)))
      · obtain ⟨o15, rfl⟩ := he
        refine ⟨rfl, _, rfl, ?_⟩
        show wS _ [im (idD one), im (idD other), im (PyData.int x_1)] _
        replace h : f_w_same_L1 rec_ one other x_1 = some l2_ := h
        unfold f_w_same_L1 at h
        obtain ⟨t16, h_t16, h⟩ := bnd h
        obtain ⟨t17, h_t17, h⟩ := bnd h
        obtain ⟨t18, h_t18, h⟩ := bnd h
        refine (w_if (b := (!t18)) (tnot (bang (callI (aI (binX (vI rfl) (vI rfl) rfl rfl (vD_ok h_t16)) (aI (binX (vI rfl) (vI rfl) rfl rfl (vD_ok h_t17)) a0)) rfl (hrec h_t18)))) (fun hc19 => ?_) (fun hc19 => ?_))
        · rw [if1 hc19] at h
          cases h
          refine (w_ret cI ?_)
          exact rfl
        · rw [if0 hc19] at h
          refine w_nx ?_
          cases h
          exact ⟨some (PyData.int x_1), rfl⟩
      · subst hs
        replace h : _ = some r := h
        dsimp only at h
        obtain ⟨o21, rfl⟩ := he
        show wS _ [im (idD one), im (idD other), imo o21] _
        cases h
        refine w_seq ((w_ret cI ?_))
        exact rfl
      · subst hs
        cases h
        exact hr
  · rw [if0 hc2] at h
    refine w_nx ?_
    show wS _ [im (idD one), im (idD other), none] _
    obtain ⟨t22, h_t22, h⟩ := bnd h
    refine w_seq ((w_if (b := t22) (bang (binX (vI rfl) cI rfl rfl (bD_ok h_t22))) (fun hc23 => ?_) (fun hc23 => ?_)))
    · rw [if1 hc23] at h
      obtain ⟨t24, h_t24, h⟩ := bnd h
      cases h
      refine (w_ret (binX (vI rfl) cI rfl rfl (bD_ok h_t24)) ?_)
      exact rfl
    · rw [if0 hc23] at h
      refine w_nx ?_
      show wS _ [im (idD one), im (idD other), none] _
      obtain ⟨t25, h_t25, h⟩ := bnd h
      refine w_seq ((w_if (b := t25) (bang (isX (vI rfl) rfl h_t25)) (fun hc26 => ?_) (fun hc26 => ?_)))
      · rw [if1 hc26] at h
        obtain ⟨t27, h_t27, h⟩ := bnd h
        obtain ⟨t29, h_t29, h⟩ := bnd h
        cases h
        refine (w_ret (andX (isX (vI rfl) rfl h_t27) h_t29 (fun _ _ hq => (by obtain ⟨t28, h_t28, hq⟩ := bnd hq; have hq := Option.some.inj hq; subst hq; exact (binX (vI rfl) (vI rfl) rfl rfl (bD_ok h_t28))))) ?_)
        exact rfl
      · rw [if0 hc26] at h
        refine w_nx ?_
        show wS _ [im (idD one), im (idD other), none] _
        obtain ⟨t30, h_t30, h⟩ := bnd h
        refine w_seq ((w_if (b := t30) (bang (isX (vI rfl) rfl h_t30)) (fun hc31 => ?_) (fun hc31 => ?_)))
        · rw [if1 hc31] at h
          obtain ⟨t32, h_t32, h⟩ := bnd h
          obtain ⟨t36, h_t36, h⟩ := bnd h
          cases h
          refine (w_ret (andX (isX (vI rfl) rfl h_t32) h_t36 (fun _ _ hq => (by obtain ⟨t33, h_t33, hq⟩ := bnd hq; obtain ⟨t35, h_t35, hq⟩ := bnd hq; have hq := Option.some.inj hq; subst hq; exact (andX (notX (isX (vI rfl) rfl h_t33)) h_t35 (fun _ _ hq => (by obtain ⟨t34, h_t34, hq⟩ := bnd hq; have hq := Option.some.inj hq; subst hq; exact (binX (vI rfl) (vI rfl) rfl rfl (bD_ok h_t34)))))))) ?_)
          exact rfl
        · rw [if0 hc31] at h
          refine w_nx ?_
          show wS _ [im (idD one), im (idD other), none] _
          obtain ⟨t37, h_t37, h⟩ := bnd h
          obtain ⟨t39, h_t39, h⟩ := bnd h
          cases h
          refine w_seq ((w_ret (andX (isX (vI rfl) rfl h_t37) h_t39 (fun _ _ hq => (by obtain ⟨t38, h_t38, hq⟩ := bnd hq; have hq := Option.some.inj hq; subst hq; exact (binX (vI rfl) (vI rfl) rfl rfl (bD_ok h_t38))))) ?_))
          exact rfl
theorem kR__law_same : ∀ (N : Nat) {one : PyData} {other : PyData} {r : Bool}, f_w_same_R N one other = some r → R__law_same N [idD one, idD other] = some (.im (PyData.bool r))
  | 0, _, _, _, h => by cases h
  | N + 1, _, _, _, h => kB__law_same (fun h => kR__law_same N h) h
theorem k__law_same {one : PyData} {other : PyData} {r : Bool} (h : f_w_same one other = some r) : F__law_same [idD one, idD other] = some (.im (PyData.bool r)) := kR__law_same 8 h
theorem k__law_looks {tree : (List Int)} {heights : (List Int)} {pick : Int} {r : Bool} (h : f_w_looks tree heights pick = some r) : F__law_looks [(tp PyData.int) tree, (tp PyData.int) heights, PyData.int pick] = some (.im (PyData.bool r)) := by
  unfold f_w_looks at h
  refine t_fnI (enc := PyData.bool) rfl ?_
  show wS _ [im ((tp PyData.int) tree), im ((tp PyData.int) heights), im (PyData.int pick), none, none, none, none, none, none, none, none] _
  obtain ⟨many1, h_many1, h⟩ := bnd h
  refine w_seq ((t_set (f := PyData.int) (v := (tree.length : Int)) (w := many1) h_many1 (cbX (dX (vI rfl) d0 rfl) (o_lenT (f := PyData.int) (l := tree))) rfl ?_))
  show wS _ [im ((tp PyData.int) tree), im ((tp PyData.int) heights), im (PyData.int pick), im (PyData.int many1), none, none, none, none, none, none, none] _
  obtain ⟨is2, h_is2, h⟩ := bnd h
  obtain ⟨bases6, h_t5, h⟩ := bnd h
  refine w_seq ((t_set (f := (tp PyData.int)) (v := bases6) (w := bases6) rfl (cbX (dX (lcX (enc := PyData.int) (encB := PyData.int) h_t5 (rng2I cI (binX (vI rfl) cI rfl rfl e_add) h_is2) rfl (fun x3 _ => ⟨_, rfl, rfl, fun _ hq => (by have hq := Option.some.inj hq; subst hq; rfl), fun _ _ hq => (by obtain ⟨t4, h_t4, hq⟩ := bnd hq; have hq := Option.some.inj hq; subst hq; exact ⟨_, (callI (aI (vI rfl) (aI (vI rfl) (aI (vI rfl) a0))) rfl (k__law_base h_t4)), rfl, rfl⟩)⟩)) d0 rfl) rfl) rfl ?_))
  show wS _ [im ((tp PyData.int) tree), im ((tp PyData.int) heights), im (PyData.int pick), im (PyData.int many1), im ((tp PyData.int) bases6), none, none, none, none, none, none] _
  obtain ⟨t7, h_t7, h⟩ := bnd h
  obtain ⟨t8, h_t8, h⟩ := bnd h
  obtain ⟨t11, h_t11, h⟩ := bnd h
  refine w_seq ((w_if (b := t11) (torX (tnot (bang (callI (aI (callI (aI (vI rfl) (aI (vI rfl) a0)) rfl (k_is_heights h_t7)) (aI cI a0)) rfl (k__law_same h_t8)))) h_t11 (fun _ _ hq => (by obtain ⟨t9, h_t9, hq⟩ := bnd hq; obtain ⟨t10, h_t10, hq⟩ := bnd hq; have hq := Option.some.inj hq; subst hq; exact (tnot (bang (callI (aI (callI (aI (vI rfl) (aI (vI rfl) a0)) rfl (k_bases_by h_t9)) (aI (vI rfl) a0)) rfl (k__law_same h_t10))))))) (fun hc12 => ?_) (fun hc12 => ?_)))
  · rw [if1 hc12] at h
    cases h
    refine (w_ret cI ?_)
    exact rfl
  · rw [if0 hc12] at h
    refine w_nx ?_
    show wS _ [im ((tp PyData.int) tree), im ((tp PyData.int) heights), im (PyData.int pick), im (PyData.int many1), im ((tp PyData.int) bases6), none, none, none, none, none, none] _
    obtain ⟨t13, h_t13, h⟩ := bnd h
    obtain ⟨t14, h_t14, h⟩ := bnd h
    refine w_seq ((w_if (b := (!t14)) (tnot (bang (callI (aI (callI (aI (vI rfl) (aI (vI rfl) (aI cI a0))) rfl (k_records_of h_t13)) (aI (tupI a0 (Nat.le_of_ble_eq_true rfl)) a0)) rfl (k__law_same h_t14)))) (fun hc15 => ?_) (fun hc15 => ?_)))
    · rw [if1 hc15] at h
      cases h
      refine (w_ret cI ?_)
      exact rfl
    · rw [if0 hc15] at h
      refine w_nx ?_
      show wS _ [im ((tp PyData.int) tree), im ((tp PyData.int) heights), im (PyData.int pick), im (PyData.int many1), im ((tp PyData.int) bases6), none, none, none, none, none, none] _
      obtain ⟨t16, h_t16, h⟩ := bnd h
      obtain ⟨l_, hl, h⟩ := bnd h
      refine w_seq ((t_forG PyData.int t16 (fun x_1 (s_ : Unit) => f_w_looks_L1 tree heights pick many1 bases6 x_1) (fun (s_ : Unit) e => ∃ (o59 : Option PyData) (o60 : Option Sl) (o61 : Option PyData) (o62 : Option PyData) (o63 : Option PyData), e = [im ((tp PyData.int) tree), im ((tp PyData.int) heights), im (PyData.int pick), im (PyData.int many1), im ((tp PyData.int) bases6), imo o59, o60, imo o61, imo o62, imo o63, none]) (rtI PyData.bool) (seqAX (f := PyData.int) (l := t16) (callA (aI (vI rfl) (aI (vI rfl) a0)) rfl (k__law_some h_t16))) ⟨none, none, none, none, none, rfl⟩ hl (fun x_1 s_ l2_ h e he => ?_) (fun s98 hs e he => ?_) (fun r_ hs r2_ e hr => ?_)))
      · obtain ⟨o59, o60, o61, o62, o63, rfl⟩ := he
        refine ⟨rfl, _, rfl, ?_⟩
        show wS _ [im ((tp PyData.int) tree), im ((tp PyData.int) heights), im (PyData.int pick), im (PyData.int many1), im ((tp PyData.int) bases6), im (PyData.int x_1), o60, imo o61, imo o62, imo o63, none] _
        replace h : f_w_looks_L1 tree heights pick many1 bases6 x_1 = some l2_ := h
        unfold f_w_looks_L1 at h
        obtain ⟨chain64, h_chain64, h⟩ := bnd h
        refine w_seq ((t_setA (f := PyData.int) (v := []) (w := chain64) h_chain64 (lstX a0 (Nat.le_of_ble_eq_true rfl)) rfl ?_))
        show wS _ [im ((tp PyData.int) tree), im ((tp PyData.int) heights), im (PyData.int pick), im (PyData.int many1), im ((tp PyData.int) bases6), im (PyData.int x_1), ac (chain64.map PyData.int), imo o61, imo o62, imo o63, none] _
        obtain ⟨at_65, h_at_65, h⟩ := bnd h
        refine w_seq ((t_set (f := PyData.int) (v := x_1) (w := at_65) h_at_65 (vI rfl) rfl ?_))
        show wS _ [im ((tp PyData.int) tree), im ((tp PyData.int) heights), im (PyData.int pick), im (PyData.int many1), im ((tp PyData.int) bases6), im (PyData.int x_1), ac (chain64.map PyData.int), im (PyData.int at_65), imo o62, imo o63, none] _
        obtain ⟨s69, hl, h⟩ := bnd h
        refine w_seq ((t_whS (fun (s_ : (List Int) × Int) => f_w_looks_L2c tree heights pick many1 bases6 x_1 s_.1 s_.2) (fun (s_ : (List Int) × Int) => f_w_looks_L2 tree heights pick many1 bases6 x_1 s_.1 s_.2) (fun (s_ : (List Int) × Int) e => e = [im ((tp PyData.int) tree), im ((tp PyData.int) heights), im (PyData.int pick), im (PyData.int many1), im ((tp PyData.int) bases6), im (PyData.int x_1), ac (s_.1.map PyData.int), im (PyData.int s_.2), imo o62, imo o63, none]) (N := (at_65.toNat + 1)) rfl rfl hl (fun s_ b_ h e he => ?_) (fun s_ s2_ h e he => ?_) (fun e he => ?_)))
        · subst he
          obtain ⟨chain_, at__⟩ := s_
          replace h : f_w_looks_L2c tree heights pick many1 bases6 x_1 chain_ at__ = some b_ := h
          unfold f_w_looks_L2c at h
          cases h
          exact (bang (binX (vI rfl) cI rfl rfl e_qgt))
        · subst he
          obtain ⟨chain_, at__⟩ := s_
          show wS _ [im ((tp PyData.int) tree), im ((tp PyData.int) heights), im (PyData.int pick), im (PyData.int many1), im ((tp PyData.int) bases6), im (PyData.int x_1), ac (chain_.map PyData.int), im (PyData.int at__), imo o62, imo o63, none] _
          replace h : f_w_looks_L2 tree heights pick many1 bases6 x_1 chain_ at__ = some s2_ := h
          unfold f_w_looks_L2 at h
          obtain ⟨chain66, h_chain66, h⟩ := bnd h
          refine w_seq ((t_app (f := PyData.int) (l := chain_) (a := at__) h_chain66 ⟨_, (vI rfl), rfl⟩ rfl rfl ?_))
          show wS _ [im ((tp PyData.int) tree), im ((tp PyData.int) heights), im (PyData.int pick), im (PyData.int many1), im ((tp PyData.int) bases6), im (PyData.int x_1), ac (chain66.map PyData.int), im (PyData.int at__), imo o62, imo o63, none] _
          obtain ⟨at_68, h_t67, h⟩ := bnd h
          refine w_seq ((t_set (f := PyData.int) (v := at_68) (w := at_68) rfl (binX (vI rfl) (binX (vI rfl) cI rfl rfl e_sub) rfl rfl (o_ixT (f := PyData.int) (l := bases6) h_t67)) rfl ?_))
          show wS _ [im ((tp PyData.int) tree), im ((tp PyData.int) heights), im (PyData.int pick), im (PyData.int many1), im ((tp PyData.int) bases6), im (PyData.int x_1), ac (chain66.map PyData.int), im (PyData.int at_68), imo o62, imo o63, none] _
          refine w_nx ?_
          cases h
          exact rfl
        · subst he
          show wS _ [im ((tp PyData.int) tree), im ((tp PyData.int) heights), im (PyData.int pick), im (PyData.int many1), im ((tp PyData.int) bases6), im (PyData.int x_1), ac (s69.1.map PyData.int), im (PyData.int s69.2), imo o62, imo o63, none] _
          obtain ⟨found71, h_t70, h⟩ := bnd h
          refine w_seq ((t_set (f := (tp PyData.int)) (v := found71) (w := found71) rfl (callI (aI (vI rfl) (aI (vI rfl) (aI (vI rfl) a0))) rfl (k__law_open h_t70)) rfl ?_))
          show wS _ [im ((tp PyData.int) tree), im ((tp PyData.int) heights), im (PyData.int pick), im (PyData.int many1), im ((tp PyData.int) bases6), im (PyData.int x_1), ac (s69.1.map PyData.int), im (PyData.int s69.2), im ((tp PyData.int) found71), imo o63, none] _
          obtain ⟨t74, h_t74, h⟩ := bnd h
          obtain ⟨falling75, h_falling75, h⟩ := bnd h
          refine w_seq ((t_set (f := (tp PyData.int)) (v := (downI t74)) (w := falling75) h_falling75 (cbX (dX (srtLX (ns := t74) (dX (lcX (enc := PyData.int) (encB := PyData.int) h_t74 (seqTX (f := PyData.int) (l := found71) (vI rfl)) rfl (fun x72 _ => ⟨_, rfl, rfl, fun _ hq => (by have hq := Option.some.inj hq; subst hq; rfl), fun _ _ hq => (by obtain ⟨t73, h_t73, hq⟩ := bnd hq; have hq := Option.some.inj hq; subst hq; exact ⟨_, (binX (vI rfl) (binX (vI rfl) cI rfl rfl e_sub) rfl rfl (o_ixT (f := PyData.int) (l := heights) h_t73)), rfl, rfl⟩)⟩)) d0 rfl)) d0 rfl) rfl) rfl ?_))
          show wS _ [im ((tp PyData.int) tree), im ((tp PyData.int) heights), im (PyData.int pick), im (PyData.int many1), im ((tp PyData.int) bases6), im (PyData.int x_1), ac (s69.1.map PyData.int), im (PyData.int s69.2), im ((tp PyData.int) found71), im ((tp PyData.int) falling75), none] _
          obtain ⟨t76, h_t76, h⟩ := bnd h
          obtain ⟨t77, h_t77, h⟩ := bnd h
          refine w_seq ((w_if (b := (!t77)) (tnot (bang (callI (aI (callI (aI (vI rfl) (aI (vI rfl) (aI (vI rfl) a0))) rfl (k_records_of h_t76)) (aI (cbX (dX (vB rfl) d0 rfl) rfl) a0)) rfl (k__law_same h_t77)))) (fun hc78 => ?_) (fun hc78 => ?_)))
          · rw [if1 hc78] at h
            cases h
            refine (w_ret cI ?_)
            exact rfl
          · rw [if0 hc78] at h
            refine w_nx ?_
            show wS _ [im ((tp PyData.int) tree), im ((tp PyData.int) heights), im (PyData.int pick), im (PyData.int many1), im ((tp PyData.int) bases6), im (PyData.int x_1), ac (s69.1.map PyData.int), im (PyData.int s69.2), im ((tp PyData.int) found71), im ((tp PyData.int) falling75), none] _
            obtain ⟨t79, h_t79, h⟩ := bnd h
            obtain ⟨t80, h_t80, h⟩ := bnd h
            refine w_seq ((w_if (b := (!t80)) (tnot (bang (callI (aI (callI (aI (vI rfl) (aI (vI rfl) (aI (vI rfl) a0))) rfl (k_open_at h_t79)) (aI (vI rfl) a0)) rfl (k__law_same h_t80)))) (fun hc81 => ?_) (fun hc81 => ?_)))
            · rw [if1 hc81] at h
              cases h
              refine (w_ret cI ?_)
              exact rfl
            · rw [if0 hc81] at h
              refine w_nx ?_
              show wS _ [im ((tp PyData.int) tree), im ((tp PyData.int) heights), im (PyData.int pick), im (PyData.int many1), im ((tp PyData.int) bases6), im (PyData.int x_1), ac (s69.1.map PyData.int), im (PyData.int s69.2), im ((tp PyData.int) found71), im ((tp PyData.int) falling75), none] _
              obtain ⟨t82, h_t82, h⟩ := bnd h
              obtain ⟨t83, h_t83, h⟩ := bnd h
              refine w_seq ((w_if (b := (!t83)) (tnot (bang (callI (aI (callKI a0 (aI (vI rfl) (aI (vI rfl) (aI (vI rfl) a0))) rfl (k_open_row h_t82)) (aI (vI rfl) a0)) rfl (k__law_same h_t83)))) (fun hc84 => ?_) (fun hc84 => ?_)))
              · rw [if1 hc84] at h
                cases h
                refine (w_ret cI ?_)
                exact rfl
              · rw [if0 hc84] at h
                refine w_nx ?_
                show wS _ [im ((tp PyData.int) tree), im ((tp PyData.int) heights), im (PyData.int pick), im (PyData.int many1), im ((tp PyData.int) bases6), im (PyData.int x_1), ac (s69.1.map PyData.int), im (PyData.int s69.2), im ((tp PyData.int) found71), im ((tp PyData.int) falling75), none] _
                obtain ⟨t85, h_t85, h⟩ := bnd h
                obtain ⟨t86, h_t86, h⟩ := bnd h
                refine w_seq ((w_if (b := (!t86)) (tnot (bang (callI (aI (callI (aI (vI rfl) (aI (vI rfl) (aI (vI rfl) a0))) rfl (k_open_row h_t85)) (aI (vI rfl) a0)) rfl (k__law_same h_t86)))) (fun hc87 => ?_) (fun hc87 => ?_)))
                · rw [if1 hc87] at h
                  cases h
                  refine (w_ret cI ?_)
                  exact rfl
                · rw [if0 hc87] at h
                  refine w_nx ?_
                  show wS _ [im ((tp PyData.int) tree), im ((tp PyData.int) heights), im (PyData.int pick), im (PyData.int many1), im ((tp PyData.int) bases6), im (PyData.int x_1), ac (s69.1.map PyData.int), im (PyData.int s69.2), im ((tp PyData.int) found71), im ((tp PyData.int) falling75), none] _
                  obtain ⟨t88, h_t88, h⟩ := bnd h
                  obtain ⟨t89, h_t89, h⟩ := bnd h
                  refine w_seq ((w_if (b := (!t89)) (tnot (bang (callI (aI (callKI a0 (aI (vI rfl) (aI (vI rfl) (aI (vI rfl) a0))) rfl (k_records_of h_t88)) (aI (cbX (dX (vB rfl) d0 rfl) rfl) a0)) rfl (k__law_same h_t89)))) (fun hc90 => ?_) (fun hc90 => ?_)))
                  · rw [if1 hc90] at h
                    cases h
                    refine (w_ret cI ?_)
                    exact rfl
                  · rw [if0 hc90] at h
                    refine w_nx ?_
                    show wS _ [im ((tp PyData.int) tree), im ((tp PyData.int) heights), im (PyData.int pick), im (PyData.int many1), im ((tp PyData.int) bases6), im (PyData.int x_1), ac (s69.1.map PyData.int), im (PyData.int s69.2), im ((tp PyData.int) found71), im ((tp PyData.int) falling75), none] _
                    obtain ⟨t91, h_t91, h⟩ := bnd h
                    obtain ⟨t92, h_t92, h⟩ := bnd h
                    refine w_seq ((w_if (b := (!t92)) (tnot (bang (callI (aI (callKI a0 (aI (vI rfl) (aI (vI rfl) (aI (vI rfl) a0))) rfl (k_open_at h_t91)) (aI (vI rfl) a0)) rfl (k__law_same h_t92)))) (fun hc93 => ?_) (fun hc93 => ?_)))
                    · rw [if1 hc93] at h
                      cases h
                      refine (w_ret cI ?_)
                      exact rfl
                    · rw [if0 hc93] at h
                      refine w_nx ?_
                      show wS _ [im ((tp PyData.int) tree), im ((tp PyData.int) heights), im (PyData.int pick), im (PyData.int many1), im ((tp PyData.int) bases6), im (PyData.int x_1), ac (s69.1.map PyData.int), im (PyData.int s69.2), im ((tp PyData.int) found71), im ((tp PyData.int) falling75), none] _
                      obtain ⟨t94, h_t94, h⟩ := bnd h
                      obtain ⟨t95, h_t95, h⟩ := bnd h
                      obtain ⟨t96, h_t96, h⟩ := bnd h
                      refine w_seq ((w_if (b := (!t96)) (tnot (bang (callI (aI (callI (aI (vI rfl) (aI (callKI a0 (aI (vI rfl) (aI (vI rfl) a0)) rfl (k_bases_by h_t94)) (aI (vI rfl) a0))) rfl (k_holders_of h_t95)) (aI (vI rfl) a0)) rfl (k__law_same h_t96)))) (fun hc97 => ?_) (fun hc97 => ?_)))
                      · rw [if1 hc97] at h
                        cases h
                        refine (w_ret cI ?_)
                        exact rfl
                      · rw [if0 hc97] at h
                        refine w_nx ?_
                        show wS _ [im ((tp PyData.int) tree), im ((tp PyData.int) heights), im (PyData.int pick), im (PyData.int many1), im ((tp PyData.int) bases6), im (PyData.int x_1), ac (s69.1.map PyData.int), im (PyData.int s69.2), im ((tp PyData.int) found71), im ((tp PyData.int) falling75), none] _
                        refine w_nx ?_
                        cases h
                        exact ⟨some (PyData.int x_1), ac (s69.1.map PyData.int), some (PyData.int s69.2), some ((tp PyData.int) found71), some ((tp PyData.int) falling75), rfl⟩
      · subst hs
        replace h : _ = some r := h
        dsimp only at h
        obtain ⟨o99, o100, o101, o102, o103, rfl⟩ := he
        show wS _ [im ((tp PyData.int) tree), im ((tp PyData.int) heights), im (PyData.int pick), im (PyData.int many1), im ((tp PyData.int) bases6), imo o99, o100, imo o101, imo o102, imo o103, none] _
        cases h
        refine w_seq ((w_ret cI ?_))
        exact rfl
      · subst hs
        cases h
        exact hr
theorem k__law_turned {tree : (List Int)} {bases : (List Int)} {r : Bool} (h : f_w_turned tree bases = some r) : F__law_turned [(tp PyData.int) tree, (tp PyData.int) bases] = some (.im (PyData.bool r)) := by
  unfold f_w_turned at h
  refine t_fnI (enc := PyData.bool) rfl ?_
  show wS _ [im ((tp PyData.int) tree), im ((tp PyData.int) bases), none, none, none, none, none, none] _
  obtain ⟨reads1, h_reads1, h⟩ := bnd h
  refine w_seq ((t_setA (f := PyData.int) (v := [(0 : Int)]) (w := reads1) h_reads1 (lstX (aI cI a0) (Nat.le_of_ble_eq_true rfl)) rfl ?_))
  show wS _ [im ((tp PyData.int) tree), im ((tp PyData.int) bases), ac (reads1.map PyData.int), none, none, none, none, none] _
  obtain ⟨is2, h_is2, h⟩ := bnd h
  obtain ⟨reads12, hl, h⟩ := bnd h
  refine w_seq ((t_forS PyData.int is2 (fun x_1 (reads_ : (List Int)) => f_w_turned_L1 tree bases x_1 reads_) (fun (reads_ : (List Int)) e => ∃ (o7 : Option PyData), e = [im ((tp PyData.int) tree), im ((tp PyData.int) bases), ac (reads_.map PyData.int), imo o7, none, none, none, none]) (rng2I cI (binX (cbX (dX (vI rfl) d0 rfl) (o_lenT (f := PyData.int) (l := tree))) cI rfl rfl e_add) h_is2) ⟨none, rfl⟩ hl (fun x_1 reads_ s2_ h e he => ?_) (fun e he => ?_)))
  · obtain ⟨o7, rfl⟩ := he
    refine ⟨rfl, _, rfl, ?_⟩
    show wS _ [im ((tp PyData.int) tree), im ((tp PyData.int) bases), ac (reads_.map PyData.int), im (PyData.int x_1), none, none, none, none] _
    replace h : f_w_turned_L1 tree bases x_1 reads_ = some s2_ := h
    unfold f_w_turned_L1 at h
    obtain ⟨t8, h_t8, h⟩ := bnd h
    obtain ⟨t9, h_t9, h⟩ := bnd h
    obtain ⟨reads10, h_reads10, h⟩ := bnd h
    refine (t_app (f := PyData.int) (l := reads_) (a := ((1 : Int) + t9)) h_reads10 ⟨_, (binX cI (binX (vB rfl) (binX (vI rfl) (binX (vI rfl) cI rfl rfl e_sub) rfl rfl (o_ixT (f := PyData.int) (l := bases) h_t8)) rfl rfl (o_ixL (f := PyData.int) (l := reads_) h_t9)) rfl rfl e_add), rfl⟩ rfl rfl ?_)
    cases h
    exact ⟨some (PyData.int x_1), rfl⟩
  · obtain ⟨o13, rfl⟩ := he
    show wS _ [im ((tp PyData.int) tree), im ((tp PyData.int) bases), ac (reads12.map PyData.int), imo o13, none, none, none, none] _
    obtain ⟨is14, h_is14, h⟩ := bnd h
    obtain ⟨due19, h_t18, h⟩ := bnd h
    refine w_seq ((t_set (f := (tp PyData.int)) (v := due19) (w := due19) rfl (cbX (dX (lcX (enc := PyData.int) (encB := PyData.int) h_t18 (rng2I cI (binX (cbX (dX (vI rfl) d0 rfl) (o_lenT (f := PyData.int) (l := tree))) cI rfl rfl e_add) h_is14) (by cases o13 <;> rfl) (fun x15 _ => ⟨_, rfl, rfl, fun _ hq => (by have hq := Option.some.inj hq; subst hq; rfl), fun _ _ hq => (by obtain ⟨t16, h_t16, hq⟩ := bnd hq; obtain ⟨t17, h_t17, hq⟩ := bnd hq; have hq := Option.some.inj hq; subst hq; exact ⟨_, (binX (binX (cbX (dX (vB rfl) d0 rfl) (o_maxL (l := reads12) h_t16)) cI rfl rfl e_add) (binX (vB rfl) (vI rfl) rfl rfl (o_ixL (f := PyData.int) (l := reads12) h_t17)) rfl rfl e_sub), rfl, rfl⟩)⟩)) d0 rfl) rfl) rfl ?_))
    show wS _ [im ((tp PyData.int) tree), im ((tp PyData.int) bases), ac (reads12.map PyData.int), imo o13, im ((tp PyData.int) due19), none, none, none] _
    obtain ⟨told21, h_t20, h⟩ := bnd h
    refine w_seq ((t_set (f := (tp PyData.int)) (v := told21) (w := told21) rfl (callI (aI (vI rfl) (aI (vI rfl) a0)) rfl (k_heights_of h_t20)) rfl ?_))
    show wS _ [im ((tp PyData.int) tree), im ((tp PyData.int) bases), ac (reads12.map PyData.int), imo o13, im ((tp PyData.int) due19), im ((tp PyData.int) told21), none, none] _
    obtain ⟨t22, h_t22, h⟩ := bnd h
    obtain ⟨t25, h_t25, h⟩ := bnd h
    refine w_seq ((w_if (b := t25) (torX (tnot (bang (callI (aI (vI rfl) (aI (vI rfl) a0)) rfl (k__law_same h_t22)))) h_t25 (fun _ _ hq => (by obtain ⟨t23, h_t23, hq⟩ := bnd hq; obtain ⟨t24, h_t24, hq⟩ := bnd hq; have hq := Option.some.inj hq; subst hq; exact (tnot (bang (callI (aI (callKI a0 (aI (vI rfl) (aI (vI rfl) a0)) rfl (k_heights_of h_t23)) (aI (vI rfl) a0)) rfl (k__law_same h_t24))))))) (fun hc26 => ?_) (fun hc26 => ?_)))
    · rw [if1 hc26] at h
      cases h
      refine (w_ret cI ?_)
      exact rfl
    · rw [if0 hc26] at h
      refine w_nx ?_
      show wS _ [im ((tp PyData.int) tree), im ((tp PyData.int) bases), ac (reads12.map PyData.int), imo o13, im ((tp PyData.int) due19), im ((tp PyData.int) told21), none, none] _
      obtain ⟨again28, h_t27, h⟩ := bnd h
      refine w_seq ((t_set (f := (tp PyData.int)) (v := again28) (w := again28) rfl (callI (aI (vI rfl) (aI (vI rfl) a0)) rfl (k_bases_by h_t27)) rfl ?_))
      show wS _ [im ((tp PyData.int) tree), im ((tp PyData.int) bases), ac (reads12.map PyData.int), imo o13, im ((tp PyData.int) due19), im ((tp PyData.int) told21), im ((tp PyData.int) again28), none] _
      obtain ⟨is29, h_is29, h⟩ := bnd h
      obtain ⟨mine33, h_t32, h⟩ := bnd h
      refine w_seq ((t_set (f := (tp PyData.int)) (v := mine33) (w := mine33) rfl (cbX (dX (lcX (enc := PyData.int) (encB := PyData.int) h_t32 (rng2I cI (binX (cbX (dX (vI rfl) d0 rfl) (o_lenT (f := PyData.int) (l := tree))) cI rfl rfl e_add) h_is29) (by cases o13 <;> rfl) (fun x30 _ => ⟨_, rfl, rfl, fun _ hq => (by have hq := Option.some.inj hq; subst hq; rfl), fun _ _ hq => (by obtain ⟨t31, h_t31, hq⟩ := bnd hq; have hq := Option.some.inj hq; subst hq; exact ⟨_, (callI (aI (vI rfl) (aI (vI rfl) (aI (vI rfl) a0))) rfl (k__law_base h_t31)), rfl, rfl⟩)⟩)) d0 rfl) rfl) rfl ?_))
      show wS _ [im ((tp PyData.int) tree), im ((tp PyData.int) bases), ac (reads12.map PyData.int), imo o13, im ((tp PyData.int) due19), im ((tp PyData.int) told21), im ((tp PyData.int) again28), im ((tp PyData.int) mine33)] _
      obtain ⟨t34, h_t34, h⟩ := bnd h
      obtain ⟨t37, h_t37, h⟩ := bnd h
      cases h
      refine w_seq ((w_ret (andX (callI (aI (vI rfl) (aI (vI rfl) a0)) rfl (k__law_same h_t34)) h_t37 (fun _ _ hq => (by obtain ⟨t35, h_t35, hq⟩ := bnd hq; obtain ⟨t36, h_t36, hq⟩ := bnd hq; have hq := Option.some.inj hq; subst hq; exact (binX (callI (aI (vI rfl) (aI (vI rfl) a0)) rfl (k__law_same h_t35)) (callI (aI (vI rfl) (aI (vI rfl) a0)) rfl (k__law_nested h_t36)) rfl rfl e_eqB)))) ?_))
      exact rfl
theorem k__law_field {tree : PyData} {text : Str} {r : PyData} (h : f_w_field tree text = some r) : F__law_field [idD tree, PyData.str text] = some (.im (idD r)) := chI_ok h
theorem k__law_ask {number : Int} {tree : PyData} {thing : PyData} {version : PyData} {r : PyData} (h : f_w_ask number tree thing version = some r) : F__law_ask [PyData.int number, idD tree, idD thing, idD version] = some (.im (idD r)) := chI_ok h
theorem k__law_lines {tree : (List Int)} {heights : (List Int)} {row : (List Int)} {r : Bool} (h : f_w_lines tree heights row = some r) : F__law_lines [(tp PyData.int) tree, (tp PyData.int) heights, (ls PyData.int) row] = some (.im (PyData.bool r)) := by
  unfold f_w_lines at h
  refine t_fnI (enc := PyData.bool) rfl ?_
  show wS _ [im ((tp PyData.int) tree), im ((tp PyData.int) heights), im ((ls PyData.int) row), none, none, none, none, none, none, none] _
  obtain ⟨t3, h_t3, h⟩ := bnd h
  obtain ⟨words5, h_t4, h⟩ := bnd h
  refine w_seq ((t_setL (f := PyData.str) (v := words5) (w := words5) rfl (binX (lstX (aI cI a0) (Nat.le_of_ble_eq_true rfl)) (lcX (enc := PyData.int) (encB := PyData.str) h_t3 (seqTX (f := PyData.int) (l := heights) (vI rfl)) rfl (fun x1 _ => ⟨_, rfl, rfl, fun _ hq => (by have hq := Option.some.inj hq; subst hq; rfl), fun _ _ hq => (by obtain ⟨t2, h_t2, hq⟩ := bnd hq; have hq := Option.some.inj hq; subst hq; exact ⟨_, (cbX (dX (vI rfl) d0 rfl) (o_strN h_t2)), rfl, rfl⟩)⟩)) rfl rfl (o_catL (f := PyData.str) (l := [("heights" : Str)]) (m := t3) h_t4)) rfl ?_))
  show wS _ [im ((tp PyData.int) tree), im ((tp PyData.int) heights), im ((ls PyData.int) row), im ((ls PyData.str) words5), none, none, none, none, none, none] _
  obtain ⟨line7, h_t6, h⟩ := bnd h
  refine w_seq ((t_set (f := PyData.str) (v := line7) (w := line7) rfl (joinSX (ys := words5) cI (vI rfl) rfl h_t6) rfl ?_))
  show wS _ [im ((tp PyData.int) tree), im ((tp PyData.int) heights), im ((ls PyData.int) row), im ((ls PyData.str) words5), im (PyData.str line7), none, none, none, none, none] _
  obtain ⟨t8, h_t8, h⟩ := bnd h
  obtain ⟨t9, h_t9, h⟩ := bnd h
  obtain ⟨t10, h_t10, h⟩ := bnd h
  refine w_seq ((w_if (b := (!t10)) (tnot (bang (callI (aI (tupI (aI (callI (aI (vI rfl) (aI (vI rfl) a0)) rfl (k_heights_line h_t8)) (aI (callKI a0 (aI (vI rfl) (aI (vI rfl) a0)) rfl (k_heights_line h_t9)) a0)) (Nat.le_of_ble_eq_true rfl)) (aI (tupI (aI (vI rfl) (aI (vI rfl) a0)) (Nat.le_of_ble_eq_true rfl)) a0)) rfl (k__law_same h_t10)))) (fun hc11 => ?_) (fun hc11 => ?_)))
  · rw [if1 hc11] at h
    cases h
    refine (w_ret cI ?_)
    exact rfl
  · rw [if0 hc11] at h
    refine w_nx ?_
    show wS _ [im ((tp PyData.int) tree), im ((tp PyData.int) heights), im ((ls PyData.int) row), im ((ls PyData.str) words5), im (PyData.str line7), none, none, none, none, none] _
    obtain ⟨t12, h_t12, h⟩ := bnd h
    obtain ⟨t13, h_t13, h⟩ := bnd h
    refine w_seq ((w_if (b := (!t13)) (tnot (bang (callI (aI (callKI a0 (aI (vI rfl) (aI (vI rfl) a0)) rfl (k_is_heights h_t12)) (aI cI a0)) rfl (k__law_same h_t13)))) (fun hc14 => ?_) (fun hc14 => ?_)))
    · rw [if1 hc14] at h
      cases h
      refine (w_ret cI ?_)
      exact rfl
    · rw [if0 hc14] at h
      refine w_nx ?_
      show wS _ [im ((tp PyData.int) tree), im ((tp PyData.int) heights), im ((ls PyData.int) row), im ((ls PyData.str) words5), im (PyData.str line7), none, none, none, none, none] _
      obtain ⟨t15, h_t15, h⟩ := bnd h
      obtain ⟨t16, h_t16, h⟩ := bnd h
      refine w_seq ((w_if (b := (!t16)) (tnot (bang (callI (aI (callI (aI (vI rfl) (aI (vI rfl) a0)) rfl (k_read_heights h_t15)) (aI (vI rfl) a0)) rfl (k__law_same h_t16)))) (fun hc17 => ?_) (fun hc17 => ?_)))
      · rw [if1 hc17] at h
        cases h
        refine (w_ret cI ?_)
        exact rfl
      · rw [if0 hc17] at h
        refine w_nx ?_
        show wS _ [im ((tp PyData.int) tree), im ((tp PyData.int) heights), im ((ls PyData.int) row), im ((ls PyData.str) words5), im (PyData.str line7), none, none, none, none, none] _
        obtain ⟨t18, h_t18, h⟩ := bnd h
        obtain ⟨t19, h_t19, h⟩ := bnd h
        refine w_seq ((w_if (b := (!t19)) (tnot (bang (callI (aI (callKI a0 (aI (vI rfl) (aI (vI rfl) a0)) rfl (k_read_heights h_t18)) (aI (vI rfl) a0)) rfl (k__law_same h_t19)))) (fun hc20 => ?_) (fun hc20 => ?_)))
        · rw [if1 hc20] at h
          cases h
          refine (w_ret cI ?_)
          exact rfl
        · rw [if0 hc20] at h
          refine w_nx ?_
          show wS _ [im ((tp PyData.int) tree), im ((tp PyData.int) heights), im ((ls PyData.int) row), im ((ls PyData.str) words5), im (PyData.str line7), none, none, none, none, none] _
          obtain ⟨t21, h_t21, h⟩ := bnd h
          obtain ⟨odd23, h_t22, h⟩ := bnd h
          refine w_seq ((t_set (f := PyData.str) (v := odd23) (w := odd23) rfl (binX (tupI (aI cI (aI cI (aI cI (aI cI (aI cI (aI cI (aI cI (aI cI (aI cI (aI cI (aI cI a0))))))))))) (Nat.le_of_ble_eq_true rfl)) (binX (cbX (dX (binX (vI rfl) cI rfl rfl (o_ixL (f := PyData.int) (l := row) h_t21)) d0 rfl) o_int) cI rfl rfl (e_mod (by decide))) rfl rfl (o_ixT (f := PyData.str) (l := [("0" : Str), ("-1" : Str), ("01" : Str), ("x" : Str), ("" : Str), ("+2" : Str), ("2." : Str), ("1_0" : Str), ("2
" : Str), ("True" : Str), ("00" : Str)]) h_t22)) rfl ?_))
          show wS _ [im ((tp PyData.int) tree), im ((tp PyData.int) heights), im ((ls PyData.int) row), im ((ls PyData.str) words5), im (PyData.str line7), im (PyData.str odd23), none, none, none, none] _
          obtain ⟨t24, h_t24, h⟩ := bnd h
          obtain ⟨place26, h_t25, h⟩ := bnd h
          refine w_seq ((t_set (f := PyData.int) (v := place26) (w := place26) rfl (binX (cbX (dX (binX (vI rfl) cI rfl rfl (o_ixL (f := PyData.int) (l := row) h_t24)) d0 rfl) o_int) (binX (cbX (dX (vI rfl) d0 rfl) (o_lenL (f := PyData.str) (l := words5))) cI rfl rfl e_add) rfl rfl (o_mod h_t25)) rfl ?_))
          show wS _ [im ((tp PyData.int) tree), im ((tp PyData.int) heights), im ((ls PyData.int) row), im ((ls PyData.str) words5), im (PyData.str line7), im (PyData.str odd23), im (PyData.int place26), none, none, none] _
          refine t_join (fun (odd_ : Str) e => e = [im ((tp PyData.int) tree), im ((tp PyData.int) heights), im ((ls PyData.int) row), im ((ls PyData.str) words5), im (PyData.str line7), im (PyData.str odd_), im (PyData.int place26), none, none, none]) (fun (odd_ : Str) => f_w_lines_J1 tree row words5 line7 place26 odd_) (t := r) (fun odd_ e he h => ?_) ?_
          · subst he
            replace h : f_w_lines_J1 tree row words5 line7 place26 odd_ = some r := h
            unfold f_w_lines_J1 at h
            show wS _ [im ((tp PyData.int) tree), im ((tp PyData.int) heights), im ((ls PyData.int) row), im ((ls PyData.str) words5), im (PyData.str line7), im (PyData.str odd_), im (PyData.int place26), none, none, none] _
            obtain ⟨t48, h_t48, h⟩ := bnd h
            obtain ⟨spoilt50, h_t49, h⟩ := bnd h
            refine w_seq ((t_setL (f := PyData.str) (v := spoilt50) (w := spoilt50) rfl (binX (binX (cutLX (f := PyData.str) (l := words5) (vI rfl) oN (oA (vI rfl)) rfl) (lstX (aI (vI rfl) a0) (Nat.le_of_ble_eq_true rfl)) rfl rfl (o_catL (f := PyData.str) (l := (cutD words5 none (some place26))) (m := [odd_]) h_t48)) (cutLX (f := PyData.str) (l := words5) (vI rfl) (oA (binX (vI rfl) cI rfl rfl e_add)) oN rfl) rfl rfl (o_catL (f := PyData.str) (l := t48) (m := (cutD words5 (some (place26 + (1 : Int))) none)) h_t49)) rfl ?_))
            show wS _ [im ((tp PyData.int) tree), im ((tp PyData.int) heights), im ((ls PyData.int) row), im ((ls PyData.str) words5), im (PyData.str line7), im (PyData.str odd_), im (PyData.int place26), im ((ls PyData.str) spoilt50), none, none] _
            obtain ⟨t51, h_t51, h⟩ := bnd h
            obtain ⟨t52, h_t52, h⟩ := bnd h
            obtain ⟨t53, h_t53, h⟩ := bnd h
            refine w_seq ((w_if (b := (!t53)) (tnot (bang (callI (aI (callI (aI (vI rfl) (aI (joinSX (ys := spoilt50) cI (vI rfl) rfl h_t51) a0)) rfl (k__law_field h_t52)) (aI (vI rfl) a0)) rfl (k__law_same h_t53)))) (fun hc54 => ?_) (fun hc54 => ?_)))
            · rw [if1 hc54] at h
              cases h
              refine (w_ret cI ?_)
              exact rfl
            · rw [if0 hc54] at h
              refine w_nx ?_
              show wS _ [im ((tp PyData.int) tree), im ((tp PyData.int) heights), im ((ls PyData.int) row), im ((ls PyData.str) words5), im (PyData.str line7), im (PyData.str odd_), im (PyData.int place26), im ((ls PyData.str) spoilt50), none, none] _
              obtain ⟨t55, h_t55, h⟩ := bnd h
              obtain ⟨t56, h_t56, h⟩ := bnd h
              obtain ⟨t57, h_t57, h⟩ := bnd h
              refine w_seq ((w_if (b := (!t57)) (tnot (bang (callI (aI (callI (aI (vI rfl) (aI (binX (vI rfl) cI rfl rfl (o_adS h_t55)) a0)) rfl (k__law_field h_t56)) (aI (cbX (dX (vI rfl) d0 rfl) (o_lenL (f := PyData.str) (l := words5))) a0)) rfl (k__law_same h_t57)))) (fun hc58 => ?_) (fun hc58 => ?_)))
              · rw [if1 hc58] at h
                cases h
                refine (w_ret cI ?_)
                exact rfl
              · rw [if0 hc58] at h
                refine w_nx ?_
                show wS _ [im ((tp PyData.int) tree), im ((tp PyData.int) heights), im ((ls PyData.int) row), im ((ls PyData.str) words5), im (PyData.str line7), im (PyData.str odd_), im (PyData.int place26), im ((ls PyData.str) spoilt50), none, none] _
                obtain ⟨t59, h_t59, h⟩ := bnd h
                obtain ⟨short61, h_t60, h⟩ := bnd h
                refine w_seq ((t_set (f := PyData.int) (v := short61) (w := short61) rfl (binX (cbX (dX (binX (vI rfl) cI rfl rfl (o_ixL (f := PyData.int) (l := row) h_t59)) d0 rfl) o_int) (cbX (dX (vI rfl) d0 rfl) (o_lenL (f := PyData.str) (l := words5))) rfl rfl (o_mod h_t60)) rfl ?_))
                show wS _ [im ((tp PyData.int) tree), im ((tp PyData.int) heights), im ((ls PyData.int) row), im ((ls PyData.str) words5), im (PyData.str line7), im (PyData.str odd_), im (PyData.int place26), im ((ls PyData.str) spoilt50), im (PyData.int short61), none] _
                obtain ⟨t62, h_t62, h⟩ := bnd h
                obtain ⟨t63, h_t63, h⟩ := bnd h
                obtain ⟨t64, h_t64, h⟩ := bnd h
                cases h
                refine w_seq ((w_ret (callI (aI (callI (aI (vI rfl) (aI (joinSX (ys := (cutD words5 none (some short61))) cI (cutLX (f := PyData.str) (l := words5) (vI rfl) oN (oA (vI rfl)) rfl) rfl h_t62) a0)) rfl (k__law_field h_t63)) (aI (vI rfl) a0)) rfl (k__law_same h_t64)) ?_))
                exact rfl
          · refine ((w_if (b := (decide (place26 = (0 : Int)))) (bang (binX (vI rfl) cI rfl rfl e_eq)) (fun hc27 => ?_) (fun hc27 => ?_)))
            · rw [if1 hc27] at h
              obtain ⟨t65, h_t65, h⟩ := bnd h
              obtain ⟨odd67, h_t66, h⟩ := bnd h
              refine (t_set (f := PyData.str) (v := odd67) (w := odd67) rfl (binX (tupI (aI cI (aI cI (aI cI (aI cI (aI cI (aI cI a0)))))) (Nat.le_of_ble_eq_true rfl)) (binX (cbX (dX (binX (vI rfl) cI rfl rfl (o_ixL (f := PyData.int) (l := row) h_t65)) d0 rfl) o_int) cI rfl rfl (e_mod (by decide))) rfl rfl (o_ixT (f := PyData.str) (l := [("height" : Str), ("" : Str), ("Heights" : Str), ("heights:" : Str), ("bounds" : Str), ("heights
" : Str)]) h_t66)) rfl ?_)
              exact ⟨odd67, rfl, h⟩
            · rw [if0 hc27] at h
              refine w_nx ?_
              exact ⟨odd23, rfl, h⟩
theorem k__law_refused {tree : (List Int)} {heights : (List Int)} {bases : (List Int)} {row : (List Int)} {r : Bool} (h : f_w_refused tree heights bases row = some r) : F__law_refused [(tp PyData.int) tree, (tp PyData.int) heights, (tp PyData.int) bases, (ls PyData.int) row] = some (.im (PyData.bool r)) := by
  unfold f_w_refused at h
  refine t_fnI (enc := PyData.bool) rfl ?_
  show wS _ [im ((tp PyData.int) tree), im ((tp PyData.int) heights), im ((tp PyData.int) bases), im ((ls PyData.int) row), none, none, none] _
  obtain ⟨t1, h_t1, h⟩ := bnd h
  obtain ⟨t2, h_t2, h⟩ := bnd h
  obtain ⟨t3, h_t3, h⟩ := bnd h
  obtain ⟨bad5, h_t4, h⟩ := bnd h
  refine w_seq ((t_set (f := idD) (v := bad5) (w := bad5) rfl (callI (aI (vI rfl) (aI (vI rfl) (aI (binX (tupI (aI cI (aI (negI cI) (aI cI (aI cI (aI cI (aI (tupI (aI cI a0) (Nat.le_of_ble_eq_true rfl)) (aI (negI (binX cI cI rfl rfl (o_pow h_t1))) a0))))))) (Nat.le_of_ble_eq_true rfl)) (binX (cbX (dX (binX (vI rfl) cI rfl rfl (o_ixL (f := PyData.int) (l := row) h_t2)) d0 rfl) o_int) cI rfl rfl (e_mod (by decide))) rfl rfl (o_ixT (f := idD) (l := [(PyData.int (0 : Int)), (PyData.int (-1 : Int)), (PyData.bool true), (PyData.str ("1" : Str)), (PyData.bool false), ((p1 PyData.int) (1 : Int)), (PyData.int (-t1))]) h_t3)) a0))) rfl (k__law_bent h_t4)) rfl ?_))
  show wS _ [im ((tp PyData.int) tree), im ((tp PyData.int) heights), im ((tp PyData.int) bases), im ((ls PyData.int) row), im (idD bad5), none, none] _
  obtain ⟨t6, h_t6, h⟩ := bnd h
  obtain ⟨t7, h_t7, h⟩ := bnd h
  obtain ⟨worse9, h_t8, h⟩ := bnd h
  refine w_seq ((t_set (f := idD) (v := worse9) (w := worse9) rfl (binX (tupI (aI (negI cI) (aI (binX (cbX (dX (vI rfl) d0 rfl) (o_lenT (f := PyData.int) (l := tree))) cI rfl rfl e_add) (aI cI (aI cI (aI (tupI (aI cI a0) (Nat.le_of_ble_eq_true rfl)) (aI cI (aI (binX cI cI rfl rfl (o_pow h_t6)) a0))))))) (Nat.le_of_ble_eq_true rfl)) (binX (cbX (dX (binX (vI rfl) cI rfl rfl (o_ixL (f := PyData.int) (l := row) h_t7)) d0 rfl) o_int) cI rfl rfl (e_mod (by decide))) rfl rfl (o_ixT (f := idD) (l := [(PyData.int (-1 : Int)), (PyData.int ((tree.length : Int) + (1 : Int))), (PyData.bool true), (PyData.str ("1" : Str)), ((p1 PyData.int) (1 : Int)), (PyData.bool false), (PyData.int t6)]) h_t8)) rfl ?_))
  show wS _ [im ((tp PyData.int) tree), im ((tp PyData.int) heights), im ((tp PyData.int) bases), im ((ls PyData.int) row), im (idD bad5), im (idD worse9), none] _
  obtain ⟨t10, h_t10, h⟩ := bnd h
  obtain ⟨t11, h_t11, h⟩ := bnd h
  refine w_seq ((w_if (b := (!t11)) (tnot (bang (callI (aI (callI (aI (vI rfl) (aI (vI rfl) a0)) rfl (k_is_heights h_t10)) (aI cI a0)) rfl (k__law_same h_t11)))) (fun hc12 => ?_) (fun hc12 => ?_)))
  · rw [if1 hc12] at h
    cases h
    refine (w_ret cI ?_)
    exact rfl
  · rw [if0 hc12] at h
    refine w_nx ?_
    show wS _ [im ((tp PyData.int) tree), im ((tp PyData.int) heights), im ((tp PyData.int) bases), im ((ls PyData.int) row), im (idD bad5), im (idD worse9), none] _
    obtain ⟨l_, hl, h⟩ := bnd h
    refine w_seq ((t_forG PyData.int [(0 : Int), (2 : Int), (3 : Int), (4 : Int), (5 : Int)] (fun x_1 (s_ : Unit) => f_w_refused_L1 tree heights bases row bad5 worse9 x_1) (fun (s_ : Unit) e => ∃ (o17 : Option PyData), e = [im ((tp PyData.int) tree), im ((tp PyData.int) heights), im ((tp PyData.int) bases), im ((ls PyData.int) row), im (idD bad5), im (idD worse9), imo o17]) (rtI PyData.bool) (seqTX (f := PyData.int) (l := [(0 : Int), (2 : Int), (3 : Int), (4 : Int), (5 : Int)]) (tupI (aI cI (aI cI (aI cI (aI cI (aI cI a0))))) (Nat.le_of_ble_eq_true rfl))) ⟨none, rfl⟩ hl (fun x_1 s_ l2_ h e he => ?_) (fun s21 hs e he => ?_) (fun r_ hs r2_ e hr => ?_)))
    · obtain ⟨o17, rfl⟩ := he
      refine ⟨rfl, _, rfl, ?_⟩
      show wS _ [im ((tp PyData.int) tree), im ((tp PyData.int) heights), im ((tp PyData.int) bases), im ((ls PyData.int) row), im (idD bad5), im (idD worse9), im (PyData.int x_1)] _
      replace h : f_w_refused_L1 tree heights bases row bad5 worse9 x_1 = some l2_ := h
      unfold f_w_refused_L1 at h
      obtain ⟨t18, h_t18, h⟩ := bnd h
      obtain ⟨t19, h_t19, h⟩ := bnd h
      refine (w_if (b := (!t19)) (tnot (bang (callI (aI (callI (aI (vI rfl) (aI (vI rfl) (aI (vI rfl) (aI (vI rfl) a0)))) rfl (k__law_ask h_t18)) (aI cI a0)) rfl (k__law_same h_t19)))) (fun hc20 => ?_) (fun hc20 => ?_))
      · rw [if1 hc20] at h
        cases h
        refine (w_ret cI ?_)
        exact rfl
      · rw [if0 hc20] at h
        refine w_nx ?_
        cases h
        exact ⟨some (PyData.int x_1), rfl⟩
    · subst hs
      replace h : _ = some r := h
      dsimp only at h
      obtain ⟨o22, rfl⟩ := he
      show wS _ [im ((tp PyData.int) tree), im ((tp PyData.int) heights), im ((tp PyData.int) bases), im ((ls PyData.int) row), im (idD bad5), im (idD worse9), imo o22] _
      obtain ⟨l_, hl, h⟩ := bnd h
      refine w_seq ((t_forG PyData.int [(2 : Int), (3 : Int), (4 : Int)] (fun x_2 (s_ : Unit) => f_w_refused_L2 tree heights bases row worse9 x_2) (fun (s_ : Unit) e => ∃ (o27 : Option PyData), e = [im ((tp PyData.int) tree), im ((tp PyData.int) heights), im ((tp PyData.int) bases), im ((ls PyData.int) row), im (idD bad5), im (idD worse9), imo o27]) (rtI PyData.bool) (seqTX (f := PyData.int) (l := [(2 : Int), (3 : Int), (4 : Int)]) (tupI (aI cI (aI cI (aI cI a0))) (Nat.le_of_ble_eq_true rfl))) ⟨o22, rfl⟩ hl (fun x_2 s_ l2_ h e he => ?_) (fun s31 hs e he => ?_) (fun r_ hs r2_ e hr => ?_)))
      · obtain ⟨o27, rfl⟩ := he
        refine ⟨rfl, _, rfl, ?_⟩
        show wS _ [im ((tp PyData.int) tree), im ((tp PyData.int) heights), im ((tp PyData.int) bases), im ((ls PyData.int) row), im (idD bad5), im (idD worse9), im (PyData.int x_2)] _
        replace h : f_w_refused_L2 tree heights bases row worse9 x_2 = some l2_ := h
        unfold f_w_refused_L2 at h
        obtain ⟨t28, h_t28, h⟩ := bnd h
        obtain ⟨t29, h_t29, h⟩ := bnd h
        refine (w_if (b := (!t29)) (tnot (bang (callI (aI (callI (aI (vI rfl) (aI (vI rfl) (aI (vI rfl) (aI (vI rfl) a0)))) rfl (k__law_ask h_t28)) (aI cI a0)) rfl (k__law_same h_t29)))) (fun hc30 => ?_) (fun hc30 => ?_))
        · rw [if1 hc30] at h
          cases h
          refine (w_ret cI ?_)
          exact rfl
        · rw [if0 hc30] at h
          refine w_nx ?_
          cases h
          exact ⟨some (PyData.int x_2), rfl⟩
      · subst hs
        replace h : _ = some r := h
        dsimp only at h
        obtain ⟨o32, rfl⟩ := he
        show wS _ [im ((tp PyData.int) tree), im ((tp PyData.int) heights), im ((tp PyData.int) bases), im ((ls PyData.int) row), im (idD bad5), im (idD worse9), imo o32] _
        obtain ⟨t33, h_t33, h⟩ := bnd h
        obtain ⟨t34, h_t34, h⟩ := bnd h
        refine w_seq ((w_if (b := (!t34)) (tnot (bang (callI (aI (callI (aI cI (aI (vI rfl) (aI (vI rfl) (aI cI a0)))) rfl (k__law_ask h_t33)) (aI cI a0)) rfl (k__law_same h_t34)))) (fun hc35 => ?_) (fun hc35 => ?_)))
        · rw [if1 hc35] at h
          cases h
          refine (w_ret cI ?_)
          exact rfl
        · rw [if0 hc35] at h
          refine w_nx ?_
          show wS _ [im ((tp PyData.int) tree), im ((tp PyData.int) heights), im ((tp PyData.int) bases), im ((ls PyData.int) row), im (idD bad5), im (idD worse9), imo o32] _
          obtain ⟨t36, h_t36, h⟩ := bnd h
          obtain ⟨t37, h_t37, h⟩ := bnd h
          refine w_seq ((w_if (b := (!t37)) (tnot (bang (callI (aI (callI (aI cI (aI (vI rfl) (aI (vI rfl) (aI cI a0)))) rfl (k__law_ask h_t36)) (aI cI a0)) rfl (k__law_same h_t37)))) (fun hc38 => ?_) (fun hc38 => ?_)))
          · rw [if1 hc38] at h
            cases h
            refine (w_ret cI ?_)
            exact rfl
          · rw [if0 hc38] at h
            refine w_nx ?_
            show wS _ [im ((tp PyData.int) tree), im ((tp PyData.int) heights), im ((tp PyData.int) bases), im ((ls PyData.int) row), im (idD bad5), im (idD worse9), imo o32] _
            obtain ⟨t39, h_t39, h⟩ := bnd h
            obtain ⟨t40, h_t40, h⟩ := bnd h
            obtain ⟨bad42, h_t41, h⟩ := bnd h
            refine w_seq ((t_set (f := idD) (v := bad42) (w := bad42) rfl (callI (aA (cutLX (f := PyData.int) (l := row) (vI rfl) (oA cI) oN rfl) (aI (vI rfl) (aI (binX (tupI (aI (negI cI) (aI cI (aI cI (aI cI (aI cI (aI cI a0)))))) (Nat.le_of_ble_eq_true rfl)) (binX (cbX (dX (binX (vI rfl) cI rfl rfl (o_ixL (f := PyData.int) (l := row) h_t39)) d0 rfl) o_int) cI rfl rfl (e_mod (by decide))) rfl rfl (o_ixT (f := idD) (l := [(PyData.int (-1 : Int)), (PyData.bool true), (nn ()), (PyData.str ("0" : Str)), (PyData.bool false), (nn ())]) h_t40)) a0))) rfl (k__law_bent h_t41)) rfl ?_))
            show wS _ [im ((tp PyData.int) tree), im ((tp PyData.int) heights), im ((tp PyData.int) bases), im ((ls PyData.int) row), im (idD bad42), im (idD worse9), imo o32] _
            obtain ⟨t43, h_t43, h⟩ := bnd h
            obtain ⟨t44, h_t44, h⟩ := bnd h
            refine w_seq ((w_if (b := (!t44)) (tnot (bang (callI (aI (callI (aI cI (aI (vI rfl) (aI (vI rfl) (aI cI a0)))) rfl (k__law_ask h_t43)) (aI cI a0)) rfl (k__law_same h_t44)))) (fun hc45 => ?_) (fun hc45 => ?_)))
            · rw [if1 hc45] at h
              cases h
              refine (w_ret cI ?_)
              exact rfl
            · rw [if0 hc45] at h
              refine w_nx ?_
              show wS _ [im ((tp PyData.int) tree), im ((tp PyData.int) heights), im ((tp PyData.int) bases), im ((ls PyData.int) row), im (idD bad42), im (idD worse9), imo o32] _
              obtain ⟨t46, h_t46, h⟩ := bnd h
              obtain ⟨t47, h_t47, h⟩ := bnd h
              obtain ⟨t50, h_t50, h⟩ := bnd h
              refine w_seq ((w_if (b := t50) (torX (tnot (bang (callI (aI (callI (aI cI (aI (vI rfl) (aI (vI rfl) (aI cI a0)))) rfl (k__law_ask h_t46)) (aI cI a0)) rfl (k__law_same h_t47)))) h_t50 (fun _ _ hq => (by obtain ⟨t48, h_t48, hq⟩ := bnd hq; obtain ⟨t49, h_t49, hq⟩ := bnd hq; have hq := Option.some.inj hq; subst hq; exact (tnot (bang (callI (aI (callI (aI cI (aI (vI rfl) (aI (vI rfl) (aI cI a0)))) rfl (k__law_ask h_t48)) (aI cI a0)) rfl (k__law_same h_t49))))))) (fun hc51 => ?_) (fun hc51 => ?_)))
              · rw [if1 hc51] at h
                cases h
                refine (w_ret cI ?_)
                exact rfl
              · rw [if0 hc51] at h
                refine w_nx ?_
                show wS _ [im ((tp PyData.int) tree), im ((tp PyData.int) heights), im ((tp PyData.int) bases), im ((ls PyData.int) row), im (idD bad42), im (idD worse9), imo o32] _
                obtain ⟨t52, h_t52, h⟩ := bnd h
                obtain ⟨t53, h_t53, h⟩ := bnd h
                obtain ⟨t54, h_t54, h⟩ := bnd h
                obtain ⟨t55, h_t55, h⟩ := bnd h
                cases h
                refine w_seq ((w_ret (callI (aI (callI (aI cI (aI (vI rfl) (aI (binX (tupI (aI cI (aI cI (aI (tupI (aI cI a0) (Nat.le_of_ble_eq_true rfl)) (aI cI a0)))) (Nat.le_of_ble_eq_true rfl)) (binX (cbX (dX (binX (vI rfl) cI rfl rfl (o_ixL (f := PyData.int) (l := row) h_t52)) d0 rfl) o_int) cI rfl rfl (e_mod (by decide))) rfl rfl (o_ixT (f := idD) (l := [(nn ()), (PyData.int (5 : Int)), ((p1 PyData.str) ("heights" : Str)), (PyData.bool true)]) h_t53)) (aI cI a0)))) rfl (k__law_ask h_t54)) (aI cI a0)) rfl (k__law_same h_t55)) ?_))
                exact rfl
      · subst hs
        cases h
        exact hr
    · subst hs
      cases h
      exact hr
theorem k_law {script : (List Int)} {r : Bool} (h : f_law script = some r) : F_law [(ls PyData.int) script] = some (.im (PyData.bool r)) := by
  unfold f_law at h
  refine t_fnI (enc := PyData.bool) rfl ?_
  show wS _ [im ((ls PyData.int) script), none, none, none, none, none] _
  obtain ⟨first2, h_t1, h⟩ := bnd h
  refine w_seq ((t_setL (f := PyData.int) (v := first2) (w := first2) rfl (callA (aI (vI rfl) (aI cI (aI cI a0))) rfl (k__law_draw h_t1)) rfl ?_))
  show wS _ [im ((ls PyData.int) script), im ((ls PyData.int) first2), none, none, none, none] _
  obtain ⟨t3, h_t3, h⟩ := bnd h
  obtain ⟨many5, h_t4, h⟩ := bnd h
  refine w_seq ((t_set (f := PyData.int) (v := many5) (w := many5) rfl (binX (tupI (aI cI (aI cI (aI cI (aI cI (aI cI (aI cI (aI cI (aI cI (aI cI (aI cI (aI cI (aI cI (aI cI (aI cI (aI cI (aI cI a0)))))))))))))))) (Nat.le_of_ble_eq_true rfl)) (binX (cbX (dX (binX (vI rfl) cI rfl rfl (o_ixL (f := PyData.int) (l := first2) h_t3)) d0 rfl) o_int) cI rfl rfl (e_mod (by decide))) rfl rfl (o_ixT (f := PyData.int) (l := [(3 : Int), (4 : Int), (5 : Int), (6 : Int), (7 : Int), (0 : Int), (1 : Int), (2 : Int), (9 : Int), (5 : Int), (6 : Int), (4 : Int), (8 : Int), (24 : Int), (7 : Int), (40 : Int)]) h_t4)) rfl ?_))
  show wS _ [im ((ls PyData.int) script), im ((ls PyData.int) first2), im (PyData.int many5), none, none, none] _
  obtain ⟨t6, h_t6, h⟩ := bnd h
  obtain ⟨tree8, h_t7, h⟩ := bnd h
  refine w_seq ((t_set (f := (tp PyData.int)) (v := tree8) (w := tree8) rfl (callI (aA (callA (aI (vI rfl) (aI cI (aI cI a0))) rfl (k__law_draw h_t6)) (aI (vI rfl) a0)) rfl (k__law_tree h_t7)) rfl ?_))
  show wS _ [im ((ls PyData.int) script), im ((ls PyData.int) first2), im (PyData.int many5), im ((tp PyData.int) tree8), none, none] _
  obtain ⟨t9, h_t9, h⟩ := bnd h
  obtain ⟨heights11, h_t10, h⟩ := bnd h
  refine w_seq ((t_set (f := (tp PyData.int)) (v := heights11) (w := heights11) rfl (callI (aA (callA (aI (vI rfl) (aI cI (aI cI a0))) rfl (k__law_draw h_t9)) (aI (vI rfl) a0)) rfl (k__law_heights h_t10)) rfl ?_))
  show wS _ [im ((ls PyData.int) script), im ((ls PyData.int) first2), im (PyData.int many5), im ((tp PyData.int) tree8), im ((tp PyData.int) heights11), none] _
  obtain ⟨t12, h_t12, h⟩ := bnd h
  obtain ⟨bases14, h_t13, h⟩ := bnd h
  refine w_seq ((t_set (f := (tp PyData.int)) (v := bases14) (w := bases14) rfl (callI (aA (callA (aI (vI rfl) (aI cI (aI cI a0))) rfl (k__law_draw h_t12)) (aI (vI rfl) (aI (vI rfl) a0))) rfl (k__law_bases h_t13)) rfl ?_))
  show wS _ [im ((ls PyData.int) script), im ((ls PyData.int) first2), im (PyData.int many5), im ((tp PyData.int) tree8), im ((tp PyData.int) heights11), im ((tp PyData.int) bases14)] _
  obtain ⟨t15, h_t15, h⟩ := bnd h
  obtain ⟨t16, h_t16, h⟩ := bnd h
  obtain ⟨t18, h_t18, h⟩ := bnd h
  refine w_seq ((w_if (b := t18) (torX (tnot (bang (callI (aI (vI rfl) (aI (vI rfl) (aI (binX (vI rfl) cI rfl rfl (o_ixL (f := PyData.int) (l := first2) h_t15)) a0))) rfl (k__law_looks h_t16)))) h_t18 (fun _ _ hq => (by obtain ⟨t17, h_t17, hq⟩ := bnd hq; have hq := Option.some.inj hq; subst hq; exact (tnot (bang (callI (aI (vI rfl) (aI (vI rfl) a0)) rfl (k__law_turned h_t17))))))) (fun hc19 => ?_) (fun hc19 => ?_)))
  · rw [if1 hc19] at h
    cases h
    refine (w_ret cI ?_)
    exact rfl
  · rw [if0 hc19] at h
    refine w_nx ?_
    show wS _ [im ((ls PyData.int) script), im ((ls PyData.int) first2), im (PyData.int many5), im ((tp PyData.int) tree8), im ((tp PyData.int) heights11), im ((tp PyData.int) bases14)] _
    obtain ⟨t20, h_t20, h⟩ := bnd h
    obtain ⟨t21, h_t21, h⟩ := bnd h
    refine w_seq ((w_if (b := (!t21)) (tnot (bang (callI (aI (vI rfl) (aI (vI rfl) (aA (callA (aI (vI rfl) (aI cI (aI cI a0))) rfl (k__law_draw h_t20)) a0))) rfl (k__law_lines h_t21)))) (fun hc22 => ?_) (fun hc22 => ?_)))
    · rw [if1 hc22] at h
      cases h
      refine (w_ret cI ?_)
      exact rfl
    · rw [if0 hc22] at h
      refine w_nx ?_
      show wS _ [im ((ls PyData.int) script), im ((ls PyData.int) first2), im (PyData.int many5), im ((tp PyData.int) tree8), im ((tp PyData.int) heights11), im ((tp PyData.int) bases14)] _
      obtain ⟨t23, h_t23, h⟩ := bnd h
      obtain ⟨t24, h_t24, h⟩ := bnd h
      cases h
      refine w_seq ((w_ret (callI (aI (vI rfl) (aI (vI rfl) (aI (vI rfl) (aA (callA (aI (vI rfl) (aI cI (aI cI a0))) rfl (k__law_draw h_t23)) a0)))) rfl (k__law_refused h_t24)) ?_))
      exact rfl
end K12
namespace DL
open PySem PySem.Spec PyProof.Rows L2
def sh (w : Nat) (f : Int) (row : List Int) : Int := if w ≤ row.length ∧ f ≤ gv row w then gv row w + 1 else f
def srow (w : Nat) (f : Int) (row : List Int) : List Int := (row.filter fun m => decide (sh w f row ≤ m)) ++ [sh w f row]
section
variable (W : Nat → Nat) (F : Nat → Int) (p : Nat → Nat) (n : Nat)
def rwo (v : Nat) (mem : List Int) : List Int := srow (W v) (F v) (downI mem)
/-- what lies below u once k versions are gone through, from the last one on -/
def bl : Nat → Nat → List Int
  | 0, _ => []
  | k + 1, u => if u = p (n - k) then bl k u ++ rwo W F (n - k) (bl k (n - k)) else bl k u
def row (v : Nat) : List Int := rwo W F v (bl W F p n (n - v) v)
end
end DL
namespace DL
open PySem PySem.Spec PyProof.Rows L2
def lx : List Int → List Int → Prop
  | [], _ => True
  | _ :: _, [] => False
  | x :: xs, y :: ys => x < y ∨ (x = y ∧ lx xs ys)
def ins (x : Int) : List Int → List Int
  | [] => [x]
  | y :: ys => if y ≤ x then x :: y :: ys else y :: ins x ys
end DL
namespace DL
open PySem PySem.Spec PyProof.Rows L2
abbrev Par (p : Nat → Nat) (n : Nat) : Prop := ∀ v, 1 ≤ v → v ≤ n → p v < v
section
variable (p : Nat → Nat) (h : Nat → Int)
/-- from u up to v nobody is higher than t -/
def opB (v : Nat) (t : Int) : Nat → Nat → Bool
  | 0, u => u == v
  | k + 1, u => u == v || (decide (v < u) && (decide (h (p u) ≤ t) && opB v t k (p u)))
def op (v : Nat) (t : Int) (u : Nat) : Bool := opB p h v t u u
def opL (n v : Nat) : List Nat := ((List.range (n + 1)).filter fun z => decide (v ≤ z) && op p h v (h z) z)
def openRow (n v : Nat) : List Int := downI ((opL p h n v).map h)
end
section
variable {p : Nat → Nat} {h : Nat → Int} {n : Nat} (hp : Par p n)
include hp
theorem opB_more {v : Nat} {t : Int} : ∀ (u k : Nat), u ≤ n → u ≤ k → opB p h v t k u = opB p h v t u u := by
  intro u
  induction u using Nat.strongRecOn with
  | ind u ih =>
    intro k hu hk
    by_cases z : u = 0
    · subst z
      cases k with
      | zero => rfl
      | succ k =>
        show ((0 == v) || (decide (v < 0) && _)) = (0 == v)
        simp
    · obtain ⟨k, rfl⟩ : ∃ j, k = j + 1 := ⟨k - 1, by omega⟩
      obtain ⟨u, rfl⟩ : ∃ j, u = j + 1 := ⟨u - 1, by omega⟩
      have l := hp (u + 1) (by omega) hu
      show (_ || (_ && (_ && opB p h v t k (p (u + 1))))) = (_ || (_ && (_ && opB p h v t u (p (u + 1)))))
      rw [ih (p (u + 1)) l k (by omega) (by omega), ih (p (u + 1)) l u (by omega) (by omega)]
theorem op_eq {v u : Nat} {t : Int} (h1 : 1 ≤ u) (h2 : u ≤ n) : op p h v t u = (u == v || (decide (v < u) && (decide (h (p u) ≤ t) && op p h v t (p u)))) := by
  obtain ⟨u, rfl⟩ : ∃ j, u = j + 1 := ⟨u - 1, by omega⟩
  have l := hp (u + 1) (by omega) h2
  unfold op
  rw [← opB_more hp (h := h) (v := v) (t := t) (p (u + 1)) u (by omega) (by omega)]
  rfl
theorem op_self {v : Nat} {t : Int} (h1 : 1 ≤ v) (h2 : v ≤ n) : op p h v t v = true := by
  rw [op_eq hp h1 h2]
  simp
theorem op_ge {v t} : ∀ u, u ≤ n → op p h v t u = true → v ≤ u := by
  intro u
  cases u with
  | zero =>
    intro _ z
    have e : (0 == v) = true := z
    have := eq_of_beq e
    omega
  | succ u =>
    intro hu z
    rw [op_eq hp (by omega) hu, Bool.or_eq_true, Bool.and_eq_true] at z
    rcases z with z | z
    · have := eq_of_beq z
      omega
    · have := of_decide_eq_true z.1
      omega
omit hp in
theorem mem_opL {v z : Nat} : z ∈ opL p h n v ↔ z ≤ n ∧ v ≤ z ∧ op p h v (h z) z = true := by
  unfold opL
  rw [List.mem_filter, List.mem_range, Bool.and_eq_true, decide_eq_true_eq]
  constructor
  · rintro ⟨a, b, c⟩
    exact ⟨by omega, b, c⟩
  · rintro ⟨a, b, c⟩
    exact ⟨by omega, b, c⟩
end
end DL
namespace DL
open PySem PySem.Spec PyProof.Rows L2
section
variable (p : Nat → Nat) (h : Nat → Int)
def upB (t : Int) : Nat → Nat → Nat
  | 0, u => u
  | k + 1, u => if u = 0 ∨ t < h u then u else upB t k (p u)
def upF (t : Int) (u : Nat) : Nat := upB p h t u u
def anB (v : Nat) : Nat → Nat → Bool
  | 0, u => u == v
  | k + 1, u => if v < u then anB v k (p u) else u == v
def anF (v u : Nat) : Bool := anB p v u u
end
section
variable {p : Nat → Nat} {h : Nat → Int} {n : Nat} (hp : Par p n)
include hp
theorem upB_more {t : Int} : ∀ (u k : Nat), u ≤ n → u ≤ k → upB p h t k u = upB p h t u u := by
  intro u
  induction u using Nat.strongRecOn with
  | ind u ih =>
    intro k hu hk
    cases u with
    | zero =>
      cases k with
      | zero => rfl
      | succ k => exact if_pos (.inl rfl)
    | succ u =>
      obtain ⟨k, rfl⟩ : ∃ j, k = j + 1 := ⟨k - 1, by omega⟩
      have l := hp (u + 1) (by omega) hu
      show (if _ then _ else upB p h t k (p (u + 1))) = (if _ then _ else upB p h t u (p (u + 1)))
      rw [ih (p (u + 1)) l k (by omega) (by omega), ih (p (u + 1)) l u (by omega) (by omega)]
theorem upF_eq {t : Int} {u : Nat} (h1 : 1 ≤ u) (h2 : u ≤ n) : upF p h t u = if t < h u then u else upF p h t (p u) := by
  obtain ⟨u, rfl⟩ : ∃ j, u = j + 1 := ⟨u - 1, by omega⟩
  have l := hp (u + 1) (by omega) h2
  unfold upF
  rw [← upB_more hp (h := h) (t := t) (p (u + 1)) u (by omega) (by omega)]
  show (if u + 1 = 0 ∨ t < h (u + 1) then u + 1 else _) = _
  by_cases z : t < h (u + 1)
  · rw [if_pos (.inr z), if_pos z]
  · rw [if_neg (by omega), if_neg z]
theorem upF_le {t : Int} : ∀ u, u ≤ n → upF p h t u ≤ u := by
  intro u
  induction u using Nat.strongRecOn with
  | ind u ih =>
    intro hu
    cases u with
    | zero => exact Nat.le_refl _
    | succ u =>
      rw [upF_eq hp (by omega) hu]
      split
      · exact Nat.le_refl _
      · have l := hp (u + 1) (by omega) hu
        exact Nat.le_trans (ih _ l (by omega)) (by omega)
theorem anB_more {v : Nat} : ∀ (u k : Nat), u ≤ n → u ≤ k → anB p v k u = anB p v u u := by
  intro u
  induction u using Nat.strongRecOn with
  | ind u ih =>
    intro k hu hk
    cases u with
    | zero =>
      cases k with
      | zero => rfl
      | succ k => exact if_neg (by omega)
    | succ u =>
      obtain ⟨k, rfl⟩ : ∃ j, k = j + 1 := ⟨k - 1, by omega⟩
      have l := hp (u + 1) (by omega) hu
      show (if _ then anB p v k (p (u + 1)) else _) = (if _ then anB p v u (p (u + 1)) else _)
      rw [ih (p (u + 1)) l k (by omega) (by omega), ih (p (u + 1)) l u (by omega) (by omega)]
theorem anF_eq {v u : Nat} (h1 : 1 ≤ u) (h2 : u ≤ n) : anF p v u = if v < u then anF p v (p u) else u == v := by
  obtain ⟨u, rfl⟩ : ∃ j, u = j + 1 := ⟨u - 1, by omega⟩
  have l := hp (u + 1) (by omega) h2
  unfold anF
  rw [← anB_more hp (v := v) (p (u + 1)) u (by omega) (by omega)]
  rfl
theorem an_low {v u : Nat} (h : u < v) (hu : u ≤ n) : anF p v u = false := by
  cases u with
  | zero =>
    show (0 == v) = false
    simp
    omega
  | succ u =>
    rw [anF_eq hp (by omega) hu, if_neg (by omega)]
    simp
    omega
theorem op_up {v : Nat} {t : Int} (hv : 1 ≤ v) : ∀ z, v ≤ z → z ≤ n → (op p h v t z = true ↔ upF p h t (p z) < v ∧ anF p v z = true) := by
  intro z
  induction z using Nat.strongRecOn with
  | ind z ih =>
    intro h1 h2
    have l := hp z (by omega) h2
    have ul := upF_le hp (h := h) (t := t) (p z) (by omega)
    rw [op_eq hp (by omega) h2, anF_eq hp (by omega) h2]
    by_cases e : z = v
    · subst e
      rw [if_neg (by omega)]
      simp
      omega
    · have e2 : (z == v) = false := by simp; exact e
      rw [e2, Bool.false_or, decide_eq_true (by omega : v < z), Bool.true_and, if_pos (by omega : v < z), Bool.and_eq_true, decide_eq_true_eq]
      by_cases w : v ≤ p z
      · rw [ih (p z) l w (by omega), upF_eq hp (u := p z) (by omega) (by omega)]
        by_cases y : t < h (p z)
        · rw [if_pos y]
          constructor
          · rintro ⟨a, _⟩; omega
          · rintro ⟨a, _⟩; omega
        · rw [if_neg y]
          constructor
          · rintro ⟨_, b⟩; exact b
          · intro b; exact ⟨by omega, b⟩
      · have a1 := an_low hp (v := v) (u := p z) (by omega) (by omega)
        constructor
        · rintro ⟨_, b⟩
          have := op_ge hp _ (by omega) b
          omega
        · rintro ⟨_, b⟩
          rw [a1] at b
          cases b
end
end DL
namespace DL
open PySem PySem.Spec PyProof.Rows L2
section
variable {α β γ σ ρ τ X : Type}
theorem bs {o : Option α} {k : α → Option β} {a : α} {b : Option β} (h : o = some a) (q : k a = b) : o.bind k = b := by rw [h]; exact q
theorem bsX {o : Option α} {k : α → Option β} {a : α} {Q : β → Prop} (h : o = some a) (q : ∃ b, k a = some b ∧ Q b) : ∃ b, o.bind k = some b ∧ Q b := by
  rw [h]; exact q
theorem iT {c : Bool} {a b r : α} (h : c = true) (q : a = r) : (if c = true then a else b) = r := by rw [if_pos h]; exact q
theorem iF {c : Bool} {a b r : α} (h : c = false) (q : b = r) : (if c = true then a else b) = r := by rw [if_neg (by rw [h]; exact Bool.false_ne_true)]; exact q
theorem iTX {c : Bool} {a b : Option α} {Q : α → Prop} (h : c = true) (q : ∃ r, a = some r ∧ Q r) : ∃ r, (if c = true then a else b) = some r ∧ Q r := by rw [if_pos h]; exact q
theorem iFX {c : Bool} {a b : Option α} {Q : α → Prop} (h : c = false) (q : ∃ r, b = some r ∧ Q r) : ∃ r, (if c = true then a else b) = some r ∧ Q r := by rw [if_neg (by rw [h]; exact Bool.false_ne_true)]; exact q
theorem andE {p q : Bool} {o : Option Bool} (h : p = true → o = some q) : andO p o = some (p && q) := by
  cases p with
  | true => exact h rfl
  | false => rfl
theorem andT1 {q : Bool} {o : Option Bool} (h : o = some q) : andO true o = some q := h
theorem orF1 {q : Bool} {o : Option Bool} (h : o = some q) : orO false o = some q := h
theorem andTT {p : Bool} {o : Option Bool} (h1 : p = true) (h : o = some true) : andO p o = some true := by rw [h1]; exact h
theorem atI_nn {l : List α} {k : Nat} : atI l (k : Int) = l[k]? := atI_nat l k
theorem atI_gv [Inhabited α] {l : List α} {v : Nat} (h1 : 1 ≤ v) (h2 : v ≤ l.length) : atI l ((v : Int) - 1) = some (gv l v) := by
  rw [show ((v : Int) - 1) = ((v - 1 : Nat) : Int) by omega, atI_nn, gv_get (by omega), Nat.sub_add_cancel h1]
theorem atI_at [Inhabited α] {l : List α} {k : Nat} (h : k < l.length) : atI l (k : Int) = some (gv l (k + 1)) := by
  rw [atI_nn, gv_get h]
theorem gv_iN {P : List Nat} {v : Nat} (h1 : 1 ≤ v) (h2 : v ≤ P.length) : gv (iN P) v = ((gv P v : Nat) : Int) := by
  have z := gv_get (l := iN P) (k := v - 1) (by unfold iN; rw [List.length_map]; omega)
  have y := gv_get (l := P) (k := v - 1) (by omega)
  rw [Nat.sub_add_cancel h1] at z y
  unfold iN at z
  rw [List.getElem?_map, y] at z
  exact (Option.some.inj z).symm
theorem len_iN {P : List Nat} : (iN P).length = P.length := List.length_map _
theorem atI_iN {P : List Nat} {v : Nat} (h1 : 1 ≤ v) (h2 : v ≤ P.length) : atI (iN P) ((v : Int) - 1) = some ((gv P v : Nat) : Int) := by
  rw [atI_gv h1 (by rw [len_iN]; exact h2), gv_iN h1 h2]
theorem atI_rg {f : Nat → α} {n k : Nat} (h : k < n) : atI ((List.range n).map f) (k : Int) = some (f k) := by
  rw [atI_nn, List.getElem?_map, List.getElem?_range h]
  rfl
theorem gv_rg [Inhabited α] {f : Nat → α} {n v : Nat} (h1 : 1 ≤ v) (h2 : v ≤ n) : gv ((List.range n).map f) v = f (v - 1) := by
  have z := gv_get (l := (List.range n).map f) (k := v - 1) (by rw [List.length_map, List.length_range]; omega)
  rw [Nat.sub_add_cancel h1, List.getElem?_map, List.getElem?_range (by omega)] at z
  exact (Option.some.inj z).symm
theorem l_rg [Inhabited α] (l : List α) : l = (List.range l.length).map fun k => gv l (k + 1) := by
  refine List.ext_getElem? fun i => ?_
  rw [List.getElem?_map]
  by_cases hi : i < l.length
  · rw [gv_get hi, List.getElem?_range hi]
    rfl
  · rw [List.getElem?_eq_none (by omega), List.getElem?_eq_none (by rw [List.length_range]; omega)]
    rfl
theorem enum_rg [Inhabited α] (l : List α) : enumL l = (List.range l.length).map fun (k : Nat) => ((k : Int), gv l (k + 1)) := by
  refine List.ext_getElem? fun i => ?_
  unfold enumL
  rw [List.getElem?_zipWith, List.getElem?_map]
  by_cases hi : i < l.length
  · rw [gv_get hi, List.getElem?_range hi]
    rfl
  · rw [List.getElem?_eq_none (l := List.range l.length) (by rw [List.length_range]; omega)]
    rfl
theorem zip_rg [Inhabited α] [Inhabited β] (l : List α) (m : List β) (h : l.length = m.length) : l.zip m = (List.range l.length).map fun k => (gv l (k + 1), gv m (k + 1)) := by
  refine List.ext_getElem? fun i => ?_
  rw [List.zip_eq_zipWith, List.getElem?_zipWith, List.getElem?_map]
  by_cases hi : i < l.length
  · rw [gv_get hi, gv_get (l := m) (by omega), List.getElem?_range hi]
    rfl
  · rw [List.getElem?_eq_none (l := l) (by omega), List.getElem?_eq_none (l := List.range l.length) (by rw [List.length_range]; omega)]
    rfl
theorem putO_at {l : List α} {k : Nat} {a : α} (h : k < l.length) : putO l (k : Int) a = some (l.set k a) := by
  unfold putO
  rw [ixN_nat h]
  rfl
theorem appO_ok {l : List α} {a : α} (h : l.length + 1 ≤ 16777216) : appO l a = some (l ++ [a]) := if_pos h
theorem catO_ok {l m : List α} (h : l.length + m.length ≤ 16777216) : catO l m = some (l ++ m) := if_pos h
theorem maxO1_ok {l : List Int} (h : l ≠ []) : maxO1 l = some (maxI l) := if_neg h
theorem repO_ok {a : α} {n : Nat} (h : n ≤ 1000000) : repO [a] ((n : Int) + 1) = some (List.replicate (n + 1) a) := by
  unfold repO
  have e : ((n : Int) + 1).toNat = n + 1 := by omega
  rw [e, if_pos]
  · congr 1
    generalize n + 1 = m
    induction m with
    | zero => rfl
    | succ m ih => rw [List.replicate_succ, List.flatten_cons, ih]; rfl
  · simp only [List.length_cons, List.length_nil, Bool.and_eq_true, decide_eq_true_eq]
    exact ⟨okLen_yes (by omega), ⟨by omega, by omega⟩, okLen_yes (by omega)⟩
theorem rgC_n {m : Int} (h : 0 ≤ m) (h2 : m ≤ 1000001) : rgC m = true := decide_eq_true (by omega)
theorem rngO_v {v n : Nat} (h : n ≤ 1000000) (hv : v ≤ 1000000) : rngO (v : Int) ((n : Int) + 1) = some ((List.range (n + 1 - v)).map fun k => ((v + k : Nat) : Int)) := by
  unfold rngO
  rw [rgC_n (by omega) (by omega), rgC_n (by omega) (by omega), if_pos (show (true && true) = true from rfl), show ((n : Int) + 1 - (v : Int)).toNat = n + 1 - v by omega]
  congr 1
theorem rngO_1 {n : Nat} (h : n ≤ 1000000) : rngO 1 ((n : Int) + 1) = some ((List.range n).map fun k => ((k + 1 : Nat) : Int)) := by
  unfold rngO
  rw [rgC_n (m := 1) (by omega) (by omega), rgC_n (m := (n : Int) + 1) (by omega) (by omega), if_pos (show (true && true) = true from rfl), show ((n : Int) + 1 - 1).toNat = n by omega]
  congr 1
  refine List.map_congr_left fun k _ => ?_
  omega
theorem rng1O_n {n : Nat} (h : n ≤ 1000000) : rng1O (n : Int) = some ((List.range n).map fun (k : Nat) => (k : Int)) := by
  unfold rng1O
  rw [rgC_n (by omega) (by omega), if_pos rfl]
  rfl
theorem rgLO_1 {n : Nat} (h : n ≤ 1000000) : rgLO 1 ((n : Int) + 1) = some ((List.range n).map fun k => ((k + 1 : Nat) : Int)) := by
  unfold rgLO
  rw [rg1_ok h, if_pos rfl, show ((n : Int) + 1 - 1).toNat = n by omega]
  congr 1
  refine List.map_congr_left fun k _ => ?_
  omega
theorem forS_n {n : Nat} {f : Nat → X} {S : Nat → σ} {body : X → σ → Option σ} (h : ∀ k, k < n → body (f k) (S k) = some (S (k + 1))) : forS body ((List.range n).map f) (S 0) = some (S n) := by
  have go : ∀ (m a : Nat), a + m = n → forS body ((List.range' a m).map f) (S a) = some (S n) := by
    intro m
    induction m with
    | zero => intro a ha; rw [show a = n by omega]; rfl
    | succ m ih =>
      intro a ha
      rw [List.range'_succ, List.map_cons]
      show (body (f a) (S a)).bind _ = _
      rw [h a (by omega)]
      exact ih (a + 1) (by omega)
  rw [List.range_eq_range']
  exact go n 0 (by omega)
theorem forS_J {n : Nat} {f : Nat → X} (J : Nat → σ → Prop) {body : X → σ → Option σ} {s : σ} (h0 : J 0 s) (h : ∀ k, k < n → ∀ s, J k s → ∃ s', body (f k) s = some s' ∧ J (k + 1) s') : ∃ s', forS body ((List.range n).map f) s = some s' ∧ J n s' := by
  have go : ∀ (m a : Nat) (s : σ), a + m = n → J a s → ∃ s', forS body ((List.range' a m).map f) s = some s' ∧ J n s' := by
    intro m
    induction m with
    | zero => intro a s ha hs; rw [show n = a by omega]; exact ⟨s, rfl, hs⟩
    | succ m ih =>
      intro a s ha hs
      obtain ⟨s1, h1, h2⟩ := h a (by omega) s hs
      obtain ⟨s2, h3, h4⟩ := ih (a + 1) s1 (by omega) h2
      rw [List.range'_succ, List.map_cons]
      refine ⟨s2, ?_, h4⟩
      show (body (f a) s).bind _ = _
      rw [h1]
      exact h3
  rw [List.range_eq_range']
  exact go n 0 s (by omega) h0
theorem forG_all {l : List X} {body : X → Unit → Option (Lp Unit ρ)} (h : ∀ x ∈ l, body x () = some (.nx ())) : forG body l () = some (.nx ()) := by
  induction l with
  | nil => rfl
  | cons a l ih =>
    show (body a ()).bind _ = _
    rw [h a List.mem_cons_self]
    exact ih fun x m => h x (List.mem_cons_of_mem _ m)
theorem thenA {l : List X} {body : X → Unit → Option (Lp Unit ρ)} {rt : ρ → Option τ} {k : Unit → Option τ} {b : Option τ} (h : ∀ x ∈ l, body x () = some (.nx ())) (q : k () = b) : thenL (forG body l ()) rt k = b := by
  rw [thenL_nx (forG_all h)]
  exact q
theorem thenR {n : Nat} {f : Nat → X} {body : X → Unit → Option (Lp Unit ρ)} {rt : ρ → Option τ} {k : Unit → Option τ} {b : Option τ} (h : ∀ k, k < n → body (f k) () = some (.nx ())) (q : k () = b) : thenL (forG body ((List.range n).map f) ()) rt k = b :=
  thenA (fun x m => by
    obtain ⟨k, hk, rfl⟩ := List.mem_map.mp m
    exact h k (List.mem_range.mp hk)) q
theorem whT {c : σ → Option Bool} {body : σ → Option σ} {N : Nat} {s s' : σ} {r : Option σ} (h : c s = some true) (h2 : body s = some s') (q : whS c body N s' = r) : whS c body (N + 1) s = r := by
  show (c s).bind _ = _
  rw [h]
  show (body s).bind _ = _
  rw [h2]
  exact q
theorem whF {c : σ → Option Bool} {body : σ → Option σ} {N : Nat} {s : σ} (h : c s = some false) : whS c body (N + 1) s = some s := by
  show (c s).bind _ = _
  rw [h]
  rfl
theorem lcO_fm {p : X → Option Bool} {g : X → Option β} {p' : X → Bool} {g' : X → β} : ∀ {l : List X}, (∀ a ∈ l, p a = some (p' a)) → (∀ a ∈ l, p' a = true → g a = some (g' a)) → lcO p g l = some ((l.filter p').map g')
  | [], _, _ => rfl
  | a :: l, h1, h2 => by
    have ih := lcO_fm (l := l) (fun x m => h1 x (List.mem_cons_of_mem _ m)) fun x m => h2 x (List.mem_cons_of_mem _ m)
    show (p a).bind _ = _
    rw [h1 a List.mem_cons_self]
    show (if p' a = true then _ else _) = _
    by_cases z : p' a = true
    · rw [if_pos z, h2 a List.mem_cons_self z, List.filter_cons_of_pos z]
      show (lcO p g l).bind _ = _
      rw [ih]
      rfl
    · rw [if_neg z, List.filter_cons_of_neg z]
      exact ih
theorem lcC_fm {p : X → Option Bool} {g : X → Option β} {p' : X → Bool} {g' : X → β} {l : List X} (hl : l.length ≤ 16777216) (h1 : ∀ a ∈ l, p a = some (p' a)) (h2 : ∀ a ∈ l, p' a = true → g a = some (g' a)) : lcC p g l = some ((l.filter p').map g') := by
  unfold lcC
  rw [if_pos hl, lcO_fm h1 h2]
theorem lcC_map {g : X → Option β} {g' : X → β} {l : List X} (hl : l.length ≤ 16777216) (h : ∀ a ∈ l, g a = some (g' a)) : lcC (fun _ => some true) g l = some (l.map g') := by
  rw [lcC_fm (p' := fun _ => true) (g' := g') hl (fun _ _ => rfl) (fun a m _ => h a m), List.filter_eq_self.mpr fun _ _ => rfl]
theorem lcC_rg {n : Nat} {f : Nat → X} {g : X → Option β} {g' : Nat → β} (hl : n ≤ 16777216) (h : ∀ k, k < n → g (f k) = some (g' k)) : lcC (fun _ => some true) g ((List.range n).map f) = some ((List.range n).map g') := by
  unfold lcC
  rw [if_pos (by rw [List.length_map, List.length_range]; exact hl)]
  have go : ∀ l : List Nat, (∀ k ∈ l, k < n) → lcO (fun _ => some true) g (l.map f) = some (l.map g') := by
    intro l
    induction l with
    | nil => intro _; rfl
    | cons a l ih =>
      intro hm
      show (g (f a)).bind _ = _
      rw [h a (hm a List.mem_cons_self)]
      show (lcO _ g (l.map f)).bind _ = _
      rw [ih fun k m => hm k (List.mem_cons_of_mem _ m)]
      rfl
  exact go _ fun k m => List.mem_range.mp m
/-- numbers out of a list of numbers -/
theorem lcC_iN {p : Int → Option Bool} {p' : Nat → Bool} {l : List Nat} (hl : l.length ≤ 16777216) (h1 : ∀ a ∈ l, p (a : Int) = some (p' a)) : lcC p (fun x => some x) (iN l) = some (iN (l.filter p')) := by
  unfold lcC iN
  rw [if_pos (by rw [List.length_map]; exact hl)]
  have go : ∀ l : List Nat, (∀ a ∈ l, p (a : Int) = some (p' a)) → lcO p (fun x => some x) (l.map fun (n : Nat) => (n : Int)) = some ((l.filter p').map fun (n : Nat) => (n : Int)) := by
    intro l
    induction l with
    | nil => intro _; rfl
    | cons a l ih =>
      intro hm
      have ih := ih fun k m => hm k (List.mem_cons_of_mem _ m)
      show (p (a : Int)).bind _ = _
      rw [hm a List.mem_cons_self]
      show (if p' a = true then (lcO p _ _).bind _ else _) = _
      by_cases z : p' a = true
      · rw [if_pos z, List.filter_cons_of_pos z, ih]
        rfl
      · rw [if_neg z, List.filter_cons_of_neg z]
        exact ih
  exact go l h1
theorem cut_from {l : List α} {v : Nat} (h : v ≤ l.length) : cutD l (some (v : Int)) none = l.drop v := by
  unfold cutD
  rw [HT.sIx_nat, HT.sIx_none, show min v l.length = v by omega, List.take_of_length_le (by rw [List.length_drop]; omega)]
theorem cut_to {l : List α} {v : Nat} (h : v ≤ l.length) : cutD l none (some (v : Int)) = l.take v := by
  unfold cutD
  rw [HT.sIx_nat, HT.sIx_none, show min v l.length = v by omega, List.drop_zero, Nat.sub_zero]
theorem cut_1 {l : List α} (h : 1 ≤ l.length) : cutD l (some 1) none = l.drop 1 := cut_from (v := 1) h
end
theorem mem_fr {n x : Nat} {q : Nat → Bool} : x ∈ (List.range n).filter q ↔ x < n ∧ q x = true := by
  rw [List.mem_filter, List.mem_range]
theorem len_fr (n : Nat) (q : Nat → Bool) : ((List.range n).filter q).length ≤ n := by
  have := List.length_filter_le q (List.range n)
  rwa [List.length_range] at this
end DL
namespace DL
open PySem PySem.Spec PyProof.Rows L2
def upL (p : Nat → Nat) : Nat → Nat → List Nat
  | 0, _ => []
  | k + 1, u => if u = 0 then [] else p u :: upL p k (p u)
section
variable {p : Nat → Nat} {n : Nat} (hp : Par p n)
include hp
theorem an_self {v : Nat} (hv : v ≤ n) : anF p v v = true := by
  by_cases z : v = 0
  · subst z
    rfl
  · rw [anF_eq hp (by omega) hv, if_neg (by omega)]
    simp
theorem an_le {v u : Nat} (hu : u ≤ n) (h : anF p v u = true) : v ≤ u := by
  by_cases z : u < v
  · rw [an_low hp z hu] at h
    cases h
  · omega
theorem an_zero : ∀ u, u ≤ n → anF p 0 u = true := by
  intro u
  induction u using Nat.strongRecOn with
  | ind u ih =>
    intro hu
    by_cases z : u = 0
    · subst z
      rfl
    · have l := hp u (by omega) hu
      rw [anF_eq hp (by omega) hu, if_pos (by omega)]
      exact ih _ l (by omega)
theorem an_up {v u : Nat} (h1 : v < u) (hu : u ≤ n) : anF p v u = anF p v (p u) := by rw [anF_eq hp (by omega) hu, if_pos h1]
theorem an_trans {x y : Nat} (hxy : anF p x y = true) : ∀ z, z ≤ n → anF p y z = true → anF p x z = true := by
  intro z
  induction z using Nat.strongRecOn with
  | ind z ih =>
    intro hz h
    have l1 := an_le hp hz h
    have l0 := an_le hp (by omega) hxy
    by_cases e : y = z
    · rw [← e]
      exact hxy
    · have l := hp z (by omega) hz
      rw [an_up hp (by omega) hz] at h ⊢
      exact ih _ l (by omega) h
/-- two elders of one version lie on one way -/
theorem an_line {x y : Nat} (hxy : x ≤ y) : ∀ z, z ≤ n → anF p x z = true → anF p y z = true → anF p x y = true := by
  intro z
  induction z using Nat.strongRecOn with
  | ind z ih =>
    intro hz h1 h2
    have l1 := an_le hp hz h2
    by_cases e : y = z
    · rw [e]
      exact h1
    · have l := hp z (by omega) hz
      rw [an_up hp (by omega) hz] at h1 h2
      exact ih _ l (by omega) h1 h2
theorem mem_upL {x : Nat} : ∀ (k u : Nat), u ≤ n → u ≤ k → (x ∈ upL p k u ↔ x < u ∧ anF p x u = true)
  | 0, u, hu, hk => by
    constructor
    · intro h; cases h
    · intro h; omega
  | k + 1, u, hu, hk => by
    unfold upL
    by_cases z : u = 0
    · rw [if_pos z]
      constructor
      · intro h; cases h
      · intro h; omega
    · have l := hp u (by omega) hu
      rw [if_neg z, List.mem_cons, mem_upL k (p u) (by omega) (by omega)]
      constructor
      · rintro (h | ⟨h1, h2⟩)
        · subst h
          exact ⟨l, by rw [an_up hp l hu]; exact an_self hp (by omega)⟩
        · exact ⟨by omega, by rw [an_up hp (by omega) hu]; exact h2⟩
      · rintro ⟨h1, h2⟩
        rw [an_up hp h1 hu] at h2
        have := an_le hp (by omega) h2
        by_cases e : x = p u
        · exact .inl e
        · exact .inr ⟨by omega, h2⟩
end
end DL
namespace DL
open PySem PySem.Spec PyProof.Rows L2
/-- the base of v -/
def bsF (p : Nat → Nat) (h : Nat → Int) (v : Nat) : Nat := upF p h (h v) (p v)
def basL (p : Nat → Nat) (h : Nat → Int) (n : Nat) : List Nat := (List.range n).map fun k => bsF p h (k + 1)
/-- v, its base, the base's base, .. -/
def chL (b : Nat → Nat) : Nat → Nat → List Nat
  | 0, _ => []
  | k + 1, u => if u = 0 then [] else u :: chL b k (b u)
/-- bases: each is an elder -/
structure Bas (p b : Nat → Nat) (n : Nat) : Prop where
  lt : ∀ v, 1 ≤ v → v ≤ n → b v < v
  an : ∀ v, 1 ≤ v → v ≤ n → anF p (b v) v = true
section
variable {p : Nat → Nat} {h : Nat → Int} {n : Nat} (hp : Par p n)
include hp
theorem upF_an {t : Int} : ∀ u, u ≤ n → anF p (upF p h t u) u = true := by
  intro u
  induction u using Nat.strongRecOn with
  | ind u ih =>
    intro hu
    by_cases z : u = 0
    · subst z
      exact an_zero hp _ hu
    · have l := hp u (by omega) hu
      rw [upF_eq hp (by omega) hu]
      split
      · exact an_self hp hu
      · have le := upF_le hp (h := h) (t := t) (p u) (by omega)
        rw [an_up hp (by omega) hu]
        exact ih _ l (by omega)
theorem bas_by : Bas p (bsF p h) n := by
  refine ⟨fun v h1 h2 => ?_, fun v h1 h2 => ?_⟩
  · have l := hp v h1 h2
    have le := upF_le hp (h := h) (t := h v) (p v) (by omega)
    show upF p h (h v) (p v) < v
    omega
  · have l := hp v h1 h2
    have le := upF_le hp (h := h) (t := h v) (p v) (by omega)
    show anF p (upF p h (h v) (p v)) v = true
    rw [an_up hp (by omega) h2]
    exact upF_an hp _ (by omega)
theorem op_bs {v z : Nat} (hv : 1 ≤ v) (h1 : v ≤ z) (h2 : z ≤ n) : op p h v (h z) z = (decide (bsF p h z < v) && anF p v z) := by
  rw [Bool.eq_iff_iff, Bool.and_eq_true, decide_eq_true_eq]
  exact op_up hp hv z h1 h2
theorem opL_bs {v : Nat} (hv : 1 ≤ v) : opL p h n v = (List.range (n + 1)).filter fun z => decide (bsF p h z < v) && anF p v z := by
  unfold opL
  refine List.filter_congr fun z hz => ?_
  have hz := List.mem_range.mp hz
  by_cases y : v ≤ z
  · rw [decide_eq_true y, Bool.true_and, op_bs hp hv y (by omega)]
  · rw [decide_eq_false y, an_low hp (by omega) (by omega)]
    simp
end
section
variable {p b : Nat → Nat} {n : Nat}
theorem chL_more (hb : ∀ v, 1 ≤ v → v ≤ n → b v < v) : ∀ (u k : Nat), u ≤ n → u ≤ k → chL b k u = chL b u u := by
  intro u
  induction u using Nat.strongRecOn with
  | ind u ih =>
    intro k hu hk
    by_cases z : u = 0
    · subst z
      cases k with
      | zero => rfl
      | succ k => exact if_pos rfl
    · obtain ⟨k, rfl⟩ : ∃ j, k = j + 1 := ⟨k - 1, by omega⟩
      obtain ⟨u, rfl⟩ : ∃ j, u = j + 1 := ⟨u - 1, by omega⟩
      have l := hb (u + 1) (by omega) hu
      show (if _ then _ else _ :: chL b k (b (u + 1))) = (if _ then _ else _ :: chL b u (b (u + 1)))
      rw [ih _ l k (by omega) (by omega), ih _ l u (by omega) (by omega)]
/-- the chain of v -/
abbrev chn (b : Nat → Nat) (v : Nat) : List Nat := chL b v v
theorem chn_eq (hb : ∀ v, 1 ≤ v → v ≤ n → b v < v) {v : Nat} (h1 : 1 ≤ v) (h2 : v ≤ n) : chn b v = v :: chn b (b v) := by
  obtain ⟨v, rfl⟩ : ∃ j, v = j + 1 := ⟨v - 1, by omega⟩
  have l := hb (v + 1) (by omega) h2
  show (if v + 1 = 0 then [] else _ :: chL b v (b (v + 1))) = _
  rw [if_neg (by omega), chL_more hb _ v (by omega) (by omega)]
end
end DL
namespace DL
open PySem PySem.Spec PyProof.Rows L2
theorem gv_last' {α : Type} [Inhabited α] (l : List α) (a : α) : gv (l ++ [a]) (l.length + [a].length) = a := by
  have := gv_get (l := l ++ [a]) (k := l.length) (by simp)
  rw [List.getElem?_append_right (Nat.le_refl _), Nat.sub_self] at this
  exact (Option.some.inj this).symm
end DL
namespace DL
open PySem PySem.Spec PyProof.Rows L2
structure OkB (n : Nat) (R : Int) (ws : List (Nat × Int)) : Prop where
  r1 : 1 ≤ R
  r2 : R ≤ 999
  len : ws.length = n
  all : ∀ x ∈ ws, 1 ≤ x.1 ∧ x.1 ≤ 999 ∧ 1 ≤ x.2 ∧ x.2 ≤ R
abbrev zw (ws : List (Nat × Int)) : List (Int × Int) := ws.map fun x => ((x.1 : Int), x.2)
abbrev bz (R : Int) (ws : List (Nat × Int)) : Int × List (Int × Int) := (R, zw ws)
section
variable {P : List Nat} {R : Int} {ws : List (Nat × Int)} (O : OkB P.length R ws) (few : P.length ≤ 100)
include O few
theorem OkB.w {v : Nat} (h1 : 1 ≤ v) (h2 : v ≤ P.length) : 1 ≤ (gv ws v).1 ∧ (gv ws v).1 ≤ 999 := by
  have := O.all _ (gv_mem (l := ws) h1 (by rw [O.len]; exact h2))
  exact ⟨this.1, this.2.1⟩
end
end DL
namespace DL
open PySem PySem.Spec PyProof.Rows L2
end DL
namespace DL
open PySem
end DL
namespace DL
def aftL : List Nat → Nat → List Nat
  | [], _ => [1]
  | _ :: _, 0 => []
  | x :: xs, u + 1 => if xs = List.replicate u x then [x + 1] else x :: aftL xs u
abbrev aft (u : Nat) (m : List Nat) : List Nat := aftL m u
end DL
namespace DL
open PySem PySem.Spec PyProof.Rows L2
end DL
namespace DL
open PySem PySem.Spec PyProof.Rows L2
end DL
namespace DL
open PySem PySem.Spec PyProof.Rows L2
theorem log_le {n j : Nat} (h : n ≤ 2 ^ j) : n.log2 ≤ j := by
  by_cases z : n = 0
  · subst z
    rw [Nat.log2_zero]
    exact Nat.zero_le _
  · exact (Nat.pow_le_pow_iff_right (by decide)).mp (Nat.le_trans (Nat.log2_self_le z) h)
theorem iN_app (l m : List Nat) : iN l ++ iN m = iN (l ++ m) := by
  unfold iN
  rw [List.map_append]
end DL
namespace DL
open PySem PySem.Spec PyProof.Rows L2
theorem ix_tup {l : List PyData} {k : Nat} (h : k < l.length) : vD (p_ix (.tuple l) (.int (k : Int))) = some l[k] := by
  have q := o_ixT (f := idD) (l := l) (i := (k : Int)) (a := l[k]) (by rw [atI_nn]; exact List.getElem?_eq_getElem h)
  have e : tp idD l = .tuple l := congrArg PyData.tuple (List.map_id' l)
  rw [e] at q
  rw [q]
  rfl
theorem len_tup (l : List PyData) : iD (c_len [.tuple l]) = some (l.length : Int) := rfl
theorem modO_ok {i j : Int} (h : 0 < j) : modO i j = some (i % j) := if_pos h
end DL
namespace DL
open PySem PySem.Spec PyProof.Rows L2
theorem runX_inr {n nl : Nat} {g : Fsx} {ds : List PyData} {x : Xc} {e : Ev} (hl : ds.length = n) (h : g (env0 ds nl) = some (.inr (x, e))) : runX n nl g ds = some (.inr x) := by
  unfold runX
  rw [if_pos hl, h]
theorem runF_no {n nl : Nat} {g : Fs} {ds : List PyData} (h : g (env0 ds nl) = none) : runF n nl g ds = none := by
  unfold runF
  rw [h]
  split <;> rfl
theorem runF_rt {n nl : Nat} {g : Fs} {ds : List PyData} {d : PyData} {e : Ev} (hl : ds.length = n) (h : g (env0 ds nl) = some (.rt (.im d) e)) : runF n nl g ds = some (.im d) := by
  unfold runF
  rw [if_pos hl, h]
  rfl
theorem s_ifT {c : Ft} {f g : Fs} {e e1 : Ev} (h : c e = some (true, e1)) : s_if c f g e = f e1 := by
  unfold s_if
  rw [h]
theorem s_ifF {c : Ft} {f g : Fs} {e e1 : Ev} (h : c e = some (false, e1)) : s_if c f g e = g e1 := by
  unfold s_if
  rw [h]
theorem x_ifST {c : Ft} {f g : Fsx} {e e1 : Ev} (h : c e = some (true, e1)) : x_ifS c f g e = f e1 := by
  unfold x_ifS
  rw [h]
theorem x_ifSF {c : Ft} {f g : Fsx} {e e1 : Ev} (h : c e = some (false, e1)) : x_ifS c f g e = g e1 := by
  unfold x_ifS
  rw [h]
theorem xseq_nx {f g : Fsx} {e e1 : Ev} (h : f e = some (.inl (.nx e1))) : x_seq f g e = g e1 := by
  unfold x_seq
  rw [h]
theorem xseq_inr {f g : Fsx} {e : Ev} {y : Xc × Ev} (h : f e = some (.inr y)) : x_seq f g e = some (.inr y) := by
  unfold x_seq
  rw [h]
theorem sseq_nx {f g : Fs} {e e1 : Ev} (h : f e = some (.nx e1)) : s_seq f g e = g e1 := by
  unfold s_seq
  rw [h]
theorem sseq_rt {f g : Fs} {e e1 : Ev} {r : Rs} (h : f e = some (.rt r e1)) : s_seq f g e = some (.rt r e1) := by
  unfold s_seq
  rw [h]
theorem sseq_no {f g : Fs} {e : Ev} (h : f e = none) : s_seq f g e = none := by
  unfold s_seq
  rw [h]
theorem s_for_of {fi : Fi} {γ : PyData → Ev → Option Ev} {S : List Nat} {fb : Fs} {e e1 : Ev} {l : List PyData} (h : fi e = some (l, e1)) : s_for fi γ S fb e = forGo γ S fb l e1 := by
  unfold s_for
  rw [h]
theorem x_for_of {fi : Fi} {γ : PyData → Ev → Option Ev} {S : List Nat} {fb : Fsx} {e e1 : Ev} {l : List PyData} (h : fi e = some (l, e1)) : x_for fi γ S fb e = forGoX γ S fb l e1 := by
  unfold x_for
  rw [h]
theorem call_no {φ : List PyData → Option Rs} {dds ds : List PyData} {fa : Fa} {e e1 : Ev} (ha : argsI fa e = some (ds, e1)) (h : φ (ds ++ dds) = none) : x_call φ dds fa e = none := by
  rw [r_x_call, ha]
  dsimp only
  rw [h]
theorem drop_no {f : Fe} {e : Ev} (h : f e = none) : s_drop f e = none := by
  unfold s_drop
  rw [h]
theorem ret_no {f : Fe} {e : Ev} (h : f e = none) : s_ret f e = none := by
  unfold s_ret
  rw [h]
theorem setF_no {i : Nat} {f : Fe} {e : Ev} (h : f e = none) : s_setF i f e = none := by
  unfold s_setF s_set
  dsimp only
  rw [h]
theorem callX_inr {φ : List PyData → Option Ro} {dds ds : List PyData} {fa : Fa} {e e1 : Ev} {x : Xc} (ha : argsI fa e = some (ds, e1)) (h : φ (ds ++ dds) = some (.inr x)) : x_callX φ dds fa e = some (.inr (x, e1)) := by
  unfold x_callX
  rw [ha]
  dsimp only
  rw [h]
theorem callX_inl {φ : List PyData → Option Ro} {dds ds : List PyData} {fa : Fa} {e e1 : Ev} {d : PyData} (ha : argsI fa e = some (ds, e1)) (h : φ (ds ++ dds) = some (.inl (.im d))) : x_callX φ dds fa e = some (.inl (.im d, e1)) := by
  unfold x_callX
  rw [ha]
  dsimp only
  rw [h]
theorem xdrop_inr {f : Fex} {e : Ev} {y : Xc × Ev} (h : f e = some (.inr y)) : x_drop f e = some (.inr y) := by
  unfold x_drop
  rw [h]
theorem xdrop_inl {f : Fex} {e e1 : Ev} {r : Rs} (h : f e = some (.inl (r, e1))) : x_drop f e = some (.inl (.nx e1)) := by
  unfold x_drop
  rw [h]
theorem xret_inr {f : Fex} {e : Ev} {y : Xc × Ev} (h : f e = some (.inr y)) : x_ret f e = some (.inr y) := by
  unfold x_ret
  rw [h]
theorem xset_inr {i : Nat} {f : Fex} {e : Ev} {y : Xc × Ev} (h : f e = some (.inr y)) : x_set i f e = some (.inr y) := by
  unfold x_set
  rw [h]
theorem xset_inl {i : Nat} {f : Fex} {e e1 : Ev} {r : Rs} {fl : Fl} (h : f e = some (.inl (r, e1))) (k : s_setF i (fun _ => some (r, e1)) e = some fl) : x_set i f e = some (.inl fl) := by
  unfold x_set
  rw [h]
  dsimp only
  rw [k]
  rfl
theorem xS_of {f : Fs} {e : Ev} {fl : Fl} (h : f e = some fl) : xS f e = some (.inl fl) := by
  unfold xS
  rw [h]
  rfl
theorem orRx_no {φ : List PyData → Option Rs} {ψ : List PyData → Option Ro} {ds : List PyData} {o : Option Ro} (h : φ ds = none) (k : ψ ds = o) : orRx φ ψ ds = o := by
  unfold orRx
  rw [h]
  exact k
theorem noX_of {f : Fsx} {e : Ev} {fl : Fl} (h : f e = some (.inl fl)) : noX f e = some fl := by
  unfold noX
  rw [h]
/-- a statement that goes on, by what it gives -/
theorem nx_of {f : Fs} {e e1 : Ev} (h : wS f e (fun fl => fl = .nx e1)) : f e = some (.nx e1) := by
  obtain ⟨fl, h1, h2⟩ := h
  rw [h1, h2]
def nu (w : Str) : Xc := ⟨"NotUsable", [("at", .int (-1)), ("word", .str w)]⟩
end DL
namespace K12
open PySem PySem.Spec PyProof.Rows L2 DL
theorem q_is_number (i : Int) : f_is_number i = some (decide (0 ≤ i)) := rfl
theorem q_is_natural (i : Int) : f_is_natural (PyData.int i) = some (decide (1 ≤ i)) := rfl
theorem q_up_to (i j : Int) : f_up_to i j = some (decide (1 ≤ i) && decide (i ≤ j)) := rfl
theorem q_check {P : List Nat} {v : Nat} {w : Str} (h : v ≤ P.length) : f_check_version (iN P) w (v : Int) 0 = some () := by
  unfold f_check_version
  refine bs (q_is_number _) (iF ?_ rfl)
  rw [len_iN, decide_eq_true (by omega : (0 : Int) ≤ (v : Int)), decide_eq_true (by omega : (v : Int) ≤ (P.length : Int))]
  rfl
theorem q_ask_version {P : List Nat} {v : Nat} {w : Str} (h1 : 1 ≤ v) (h : v ≤ P.length) : f_ask_version (iN P) w (v : Int) 1 = some () := by
  unfold f_ask_version
  refine bs (q_is_number _) (bs (andTT (decide_eq_true (by omega)) (bs (a := (P.length : Int)) (by unfold f_many_of; rw [len_iN]) ?_)) (iF rfl rfl))
  rw [decide_eq_true (by omega : (1 : Int) ≤ (v : Int)), decide_eq_true (by omega : (v : Int) ≤ (P.length : Int))]
  rfl
theorem q_many {P : List Nat} : f_many_of (iN P) = some (P.length : Int) := by unfold f_many_of; rw [len_iN]
section
variable {P : List Nat} (hp : Par (gv P) P.length) (few : P.length ≤ 1000)
include hp few
theorem q_upward {v : Nat} (hv : v ≤ P.length) : f_upward (iN P) (v : Int) = some (iN (upL (gv P) v v)) := by
  have go : ∀ (k u N : Nat) (acc : List Int), u ≤ k → u ≤ P.length → u < N → acc.length + u ≤ 2000 →
      whS (fun s : Int × List Int => f_upward_L1c (iN P) s.1 s.2) (fun s : Int × List Int => f_upward_L1 (iN P) s.1 s.2) N ((u : Int), acc) = some ((0 : Int), acc ++ iN (upL (gv P) k u)) := by
    intro k
    induction k with
    | zero =>
      intro u N acc hu hn hN ha
      obtain ⟨N, rfl⟩ : ∃ m, N = m + 1 := ⟨N - 1, by omega⟩
      rw [whF (by show some (decide ((0 : Int) < (u : Int))) = _; rw [decide_eq_false (by omega)])]
      rw [show u = 0 by omega]
      show some ((0 : Int), acc) = some ((0 : Int), acc ++ [])
      rw [List.append_nil]
    | succ k ih =>
      intro u N acc hu hn hN ha
      obtain ⟨N, rfl⟩ : ∃ m, N = m + 1 := ⟨N - 1, by omega⟩
      by_cases z : u = 0
      · subst z
        rw [whF (by show some (decide ((0 : Int) < ((0 : Nat) : Int))) = _; rfl)]
        show some ((0 : Int), acc) = some ((0 : Int), acc ++ [])
        rw [List.append_nil]
      · have l := hp u (by omega) hn
        refine whT (s' := (((gv P u : Nat) : Int), acc ++ [((gv P u : Nat) : Int)])) (by show some (decide ((0 : Int) < (u : Int))) = _; rw [decide_eq_true (by omega)]) (bs (atI_iN (by omega) hn) (bs (appO_ok (l := acc) (by omega)) rfl)) ?_
        rw [ih (gv P u) N _ (by omega) (by omega) (by omega) (by rw [List.length_append, List.length_singleton]; omega)]
        have e : upL (gv P) (k + 1) u = gv P u :: upL (gv P) k (gv P u) := if_neg z
        rw [e, List.append_assoc]
        rfl
  unfold f_upward
  refine bs rfl (bs (go v v _ [] (Nat.le_refl _) hv (by omega) (by show 0 + v ≤ 2000; omega)) ?_)
  rfl
theorem q_is_elder {x v : Nat} (hx : x ≤ P.length) (hv : v ≤ P.length) : f_is_elder (iN P) (x : Int) (v : Int) = some (decide (x < v) && anF (gv P) x v) := by
  unfold f_is_elder
  refine bs (q_check hx) (bs (q_check hv) (bs (q_upward hp few hv) ?_))
  congr 1
  rw [Bool.eq_iff_iff, decide_eq_true_eq, Bool.and_eq_true, decide_eq_true_eq, mem_iN, mem_upL hp v v hv (Nat.le_refl _)]
theorem q_branch {v : Nat} (hv : v ≤ P.length) : f_branch_of (iN P) (v : Int) = some (iN ((List.range (P.length + 1)).filter (anF (gv P) v))) := by
  unfold f_branch_of
  refine bs (q_check hv) ?_
  rw [len_iN]
  refine bs (repO_ok (by omega)) ?_
  refine bs (putO_at (by rw [List.length_replicate]; omega)) ?_
  obtain ⟨S, hS⟩ : ∃ S : Nat → List Bool, S = fun k => (List.range (P.length + 1)).map fun u => decide (u = v) || (decide (u ≤ k) && anF (gv P) v u) := ⟨_, rfl⟩
  have s0 : (List.replicate (P.length + 1) false).set v true = S 0 := by
    rw [hS]
    refine List.ext_getElem? fun i => ?_
    rw [List.getElem?_map]
    by_cases hi : i < P.length + 1
    · rw [List.getElem?_range hi, List.getElem?_set]
      by_cases z : v = i
      · subst z
        rw [if_pos rfl, if_pos (by rw [List.length_replicate]; exact hi), Option.map_some, decide_eq_true rfl]
        rfl
      · rw [if_neg z, List.getElem?_replicate, if_pos hi, Option.map_some, decide_eq_false (fun y => z y.symm)]
        congr 1
        by_cases y : i ≤ 0
        · rw [show i = 0 by omega, an_low hp (by omega) (by omega)]
          rfl
        · rw [decide_eq_false y]
          rfl
    · rw [List.getElem?_eq_none (by rw [List.length_set, List.length_replicate]; omega), List.getElem?_eq_none (by rw [List.length_range]; omega)]
      rfl
  rw [s0]
  have en : enumL (iN P) = (List.range P.length).map fun (k : Nat) => ((k : Int), ((gv P (k + 1) : Nat) : Int)) := by
    rw [enum_rg, len_iN]
    refine List.map_congr_left fun k hk => ?_
    have := List.mem_range.mp hk
    rw [gv_iN (by omega) (by omega)]
  rw [en]
  refine bs (forS_n (S := S) fun k hk => ?_) ?_
  · have l := hp (k + 1) (by omega) (by omega)
    have g1 : atI (S k) ((gv P (k + 1) : Nat) : Int) = some (anF (gv P) v (gv P (k + 1))) := by
      rw [hS]
      rw [atI_rg (by omega)]
      congr 1
      by_cases z : gv P (k + 1) = v
      · rw [decide_eq_true z, z, an_self hp (by omega)]
        rfl
      · rw [decide_eq_false z, decide_eq_true (by omega : gv P (k + 1) ≤ k), Bool.false_or, Bool.true_and]
    unfold f_branch_of_L1
    refine bs g1 ?_
    have nx : ∀ b, (b = true → anF (gv P) v (gv P (k + 1)) = true) → (b = false → anF (gv P) v (gv P (k + 1)) = false) → (if b = true then (S k).set (k + 1) true else S k) = S (k + 1) := fun b h1 h2 => by
      have ae := anF_eq hp (v := v) (u := k + 1) (by omega) (by omega)
      rw [hS]
      refine List.ext_getElem? fun i => ?_
      have gi : ∀ j, j < P.length + 1 → ((List.range (P.length + 1)).map fun u => decide (u = v) || (decide (u ≤ k) && anF (gv P) v u))[j]? = some (decide (j = v) || (decide (j ≤ k) && anF (gv P) v j)) := fun j hj => by
        rw [List.getElem?_map, List.getElem?_range hj]
        rfl
      by_cases hi : i < P.length + 1
      · rw [List.getElem?_map, List.getElem?_range hi, Option.map_some]
        cases b with
        | true =>
          rw [if_pos rfl, List.getElem?_set]
          by_cases z : k + 1 = i
          · subst z
            rw [if_pos rfl, if_pos (by rw [List.length_map, List.length_range]; omega)]
            congr 1
            by_cases y : v < k + 1
            · rw [if_pos y, h1 rfl] at ae
              rw [ae, decide_eq_true (Nat.le_refl _)]
              simp
            · have := h1 rfl
              rw [an_low hp (by omega) (by omega)] at this
              cases this
          · rw [if_neg z, gi i hi]
            congr 3
            exact decide_eq_decide.mpr (by omega)
        | false =>
          rw [if_neg Bool.false_ne_true, gi i hi]
          by_cases z : k + 1 = i
          · subst z
            congr 1
            rw [decide_eq_false (by omega : ¬ k + 1 ≤ k), decide_eq_true (Nat.le_refl (k + 1)), ae]
            by_cases y : v < k + 1
            · rw [if_pos y, h2 rfl]
              simp
            · rw [if_neg y]
              simp
          · congr 3
            exact decide_eq_decide.mpr (by omega)
      · rw [List.getElem?_eq_none (l := (List.range (P.length + 1)).map fun u => decide (u = v) || (decide (u ≤ k + 1) && anF (gv P) v u)) (by rw [List.length_map, List.length_range]; omega)]
        refine List.getElem?_eq_none ?_
        split <;> simp <;> omega
    by_cases c : anF (gv P) v (gv P (k + 1)) = true
    · refine iT c ?_
      have := nx true (fun _ => c) (fun z => by cases z)
      rw [if_pos rfl] at this
      have pu : putO (S k) (((k : Nat) : Int) + 1) true = some (S (k + 1)) := by
        rw [show ((k : Nat) : Int) + 1 = ((k + 1 : Nat) : Int) by omega, putO_at (by rw [hS]; simp; omega), this]
      exact bs pu rfl
    · have c := Bool.eq_false_iff.mpr c
      refine iF c ?_
      have := nx false (fun z => by cases z) (fun _ => c)
      rw [if_neg Bool.false_ne_true] at this
      rw [this]
  · have sn : S P.length = (List.range (P.length + 1)).map (anF (gv P) v) := by
      rw [hS]
      refine List.map_congr_left fun u hu => ?_
      have := List.mem_range.mp hu
      rw [decide_eq_true (by omega : u ≤ P.length), Bool.true_and]
      by_cases z : u = v
      · rw [decide_eq_true z, z, an_self hp hv]
        rfl
      · rw [decide_eq_false z]
        rfl
    rw [sn]
    have en2 : enumL ((List.range (P.length + 1)).map (anF (gv P) v)) = (List.range (P.length + 1)).map fun (k : Nat) => ((k : Int), anF (gv P) v k) := by
      rw [enum_rg, List.length_map, List.length_range]
      refine List.map_congr_left fun k hk => ?_
      rw [gv_rg (by omega) (by have := List.mem_range.mp hk; omega)]
      rfl
    rw [en2]
    refine bs (lcC_fm (p' := fun x : Int × Bool => x.2) (g' := fun x : Int × Bool => x.1) (by rw [List.length_map, List.length_range]; omega) (fun _ _ => rfl) fun _ _ _ => rfl) ?_
    congr 1
    unfold iN
    rw [List.filter_map, List.map_map]
    rfl
theorem q_an {v z : Nat} (hv : 1 ≤ v) (hz : z ≤ P.length) : f_at_or_below (iN P) (v : Int) (z : Int) = some (anF (gv P) v z) := by
  have go : ∀ (u N : Nat), u ≤ P.length → u < N → ∃ w : Nat, whS (fun s : Int => f_at_or_below_L1c (iN P) (v : Int) s) (fun s : Int => f_at_or_below_L1 (iN P) (v : Int) s) N (u : Int) = some (w : Int) ∧ (w == v) = anF (gv P) v u := by
    intro u
    induction u using Nat.strongRecOn with
    | ind u ih =>
      intro N hu hN
      obtain ⟨N, rfl⟩ : ∃ m, N = m + 1 := ⟨N - 1, by omega⟩
      by_cases y : v < u
      · have l := hp u (by omega) hu
        obtain ⟨w, h1, h2⟩ := ih _ l N (by omega) (by omega)
        refine ⟨w, ?_, by rw [h2, anF_eq hp (by omega) hu, if_pos y]⟩
        exact whT (by show some (decide ((v : Int) < (u : Int))) = _; rw [decide_eq_true (by omega)]) (bs (atI_iN (by omega) hu) rfl) h1
      · refine ⟨u, whF (by show some (decide ((v : Int) < (u : Int))) = _; rw [decide_eq_false (by omega)]), ?_⟩
        by_cases x : u = 0
        · subst x
          rw [an_low hp (by omega) (by omega)]
          simp
          omega
        · rw [anF_eq hp (by omega) hu, if_neg y]
  obtain ⟨w, h1, h2⟩ := go z _ hz (show z < (z : Int).toNat + 1 by omega)
  unfold f_at_or_below
  refine bs rfl (bs h1 ?_)
  rw [← h2]
  congr 1
  rw [Bool.eq_iff_iff, decide_eq_true_eq, beq_iff_eq]
  omega
end
section
variable {P : List Nat} (hp : Par (gv P) P.length) (few : P.length ≤ 1000) {hs : List Int} (hl : hs.length = P.length) (pos : ∀ x ∈ hs, 1 ≤ x)
include hl pos few
theorem q_is_heights : f_is_heights (iN P) (tp PyData.int hs) = some true := by
  unfold f_is_heights
  refine bs (a := true) rfl (bs (a := false) ?_ (iF rfl (bs (a := hs.map PyData.int) rfl (bs (a := hs.map fun _ => true) ?_ ?_))))
  · refine orF1 (bs (len_tup _) ?_)
    rw [List.length_map, len_iN, hl, decide_eq_true rfl]
    rfl
  · refine (lcC_map (g' := fun _ => true) (by rw [List.length_map]; omega) fun a ha => ?_).trans (by rw [List.map_map]; rfl)
    obtain ⟨i, hi, rfl⟩ := List.mem_map.mp ha
    refine bs (q_is_natural i) ?_
    rw [decide_eq_true (pos i hi)]
  · congr 1
    rw [List.all_eq_true]
    intro x hx
    obtain ⟨y, _, rfl⟩ := List.mem_map.mp hx
    rfl
include hp
theorem q_bases_by : f_bases_by (iN P) hs = some (iN (basL (gv P) (gv hs) P.length)) := by
  unfold f_bases_by
  refine bs (q_is_heights few hl pos) (iF rfl (bs rfl ?_))
  have zz : hs.zip (iN P) = (List.range P.length).map fun k => (gv hs (k + 1), ((gv P (k + 1) : Nat) : Int)) := by
    rw [zip_rg _ _ (by rw [len_iN]; exact hl), hl]
    refine List.map_congr_left fun k hk => ?_
    have := List.mem_range.mp hk
    rw [gv_iN (by omega) (by omega)]
  rw [zz]
  refine bs (forS_n (S := fun k => iN (basL (gv P) (gv hs) k)) fun k hk => ?_) rfl
  unfold f_bases_by_L1
  obtain ⟨t, ht⟩ : ∃ t, t = gv hs (k + 1) := ⟨_, rfl⟩
  dsimp only
  rw [← ht]
  have go : ∀ (u N : Nat) (B : List Int), u ≤ P.length → u < N → whS (fun s : Int => f_bases_by_L2c (iN P) hs B t s) (fun s : Int => f_bases_by_L2 (iN P) hs B t s) N (u : Int) = some ((upF (gv P) (gv hs) t u : Nat) : Int) := by
    intro u
    induction u using Nat.strongRecOn with
    | ind u ih =>
      intro N B hu hN
      obtain ⟨N, rfl⟩ : ∃ m, N = m + 1 := ⟨N - 1, by omega⟩
      by_cases z : u = 0
      · subst z
        exact whF rfl
      · have l := hp u (by omega) hu
        have tst : f_bases_by_L2c (iN P) hs B t (u : Int) = some (decide (gv hs u ≤ t)) := by
          unfold f_bases_by_L2c
          refine bs (andE (q := decide (gv hs u ≤ t)) fun _ => bs (atI_gv (by omega) (by omega)) rfl) ?_
          rw [decide_eq_false (by omega : ¬ (u : Int) = 0)]
          rfl
        rw [upF_eq hp (by omega) hu]
        by_cases y : t < gv hs u
        · rw [if_pos y]
          refine whF ?_
          rw [tst, decide_eq_false (by omega)]
        · rw [if_neg y]
          refine whT (s' := ((gv P u : Nat) : Int)) ?_ ?_ (ih _ l N B (by omega) (by omega))
          · rw [tst, decide_eq_true (by omega)]
          · unfold f_bases_by_L2
            exact bs (atI_iN (by omega) hu) rfl
  have l := hp (k + 1) (by omega) (by omega)
  refine bs rfl (bs (go (gv P (k + 1)) _ _ (by omega) (by omega)) ?_)
  refine bs (appO_ok (by unfold basL; rw [len_iN, List.length_map, List.length_range]; omega)) ?_
  congr 1
  unfold basL
  rw [List.range_succ, List.map_append]
  unfold iN
  rw [List.map_append]
  show _ = _ ++ [((bsF (gv P) (gv hs) (k + 1) : Nat) : Int)]
  unfold bsF
  rw [ht]
theorem bas_gv {v : Nat} (h1 : 1 ≤ v) (h2 : v ≤ P.length) : gv (basL (gv P) (gv hs) P.length) v = bsF (gv P) (gv hs) v := by
  unfold basL
  rw [gv_rg h1 h2, Nat.sub_add_cancel h1]
theorem q_open_at {v : Nat} (h1 : 1 ≤ v) (h2 : v ≤ P.length) : f_open_at (iN P) hs (v : Int) = some (iN (opL (gv P) (gv hs) P.length v)) := by
  unfold f_open_at
  refine bs (q_bases_by hp few hl pos) (bs (a := ()) ?_ (bs rfl ?_))
  · unfold f_need_version
    refine bs (q_up_to _ _) (iF ?_ rfl)
    rw [len_iN, decide_eq_true (by omega : (1 : Int) ≤ (v : Int)), decide_eq_true (by omega : (v : Int) ≤ (P.length : Int))]
    rfl
  rw [len_iN]
  refine bs (rngO_v (by omega) (by omega)) ?_
  obtain ⟨q, hq⟩ : ∃ q : Nat → Bool, q = fun z => decide (v ≤ z) && op (gv P) (gv hs) v (gv hs z) z := ⟨_, rfl⟩
  obtain ⟨S, hS⟩ : ∃ S : Nat → List Int, S = fun k => iN ((List.range (v + k)).filter q) := ⟨_, rfl⟩
  have s0 : ([] : List Int) = S 0 := by
    rw [hS]
    have e : (List.range (v + 0)).filter q = [] := by
      rw [List.filter_eq_nil_iff]
      intro z hz
      have := List.mem_range.mp hz
      rw [hq]
      dsimp only
      rw [decide_eq_false (by omega)]
      simp
    show _ = iN ((List.range (v + 0)).filter q)
    rw [e]
    rfl
  have sn : S (P.length + 1 - v) = iN (opL (gv P) (gv hs) P.length v) := by
    rw [hS]
    unfold opL
    dsimp only
    rw [show v + (P.length + 1 - v) = P.length + 1 by omega, hq]
  rw [s0, ← sn]
  refine bs (forS_n (S := S) fun k hk => ?_) rfl
  have few' : (S k).length ≤ 2000 := by
    rw [hS]
    dsimp only
    rw [len_iN]
    have := len_fr (v + k) q
    omega
  have stp : S (k + 1) = if q (v + k) = true then S k ++ [((v + k : Nat) : Int)] else S k := by
    rw [hS]
    dsimp only
    rw [← Nat.add_assoc, List.range_succ, List.filter_append]
    by_cases z : q (v + k) = true
    · rw [if_pos z, List.filter_cons_of_pos z]
      unfold iN
      rw [List.map_append]
      rfl
    · rw [if_neg z, List.filter_cons_of_neg z, List.filter_nil, List.append_nil]
  have qe : q (v + k) = (decide (bsF (gv P) (gv hs) (v + k) < v) && anF (gv P) v (v + k)) := by
    rw [hq]
    dsimp only
    rw [decide_eq_true (by omega : v ≤ v + k), Bool.true_and, op_bs hp h1 (by omega) (by omega)]
  unfold f_open_at_L1
  refine bs (a := ((bsF (gv P) (gv hs) (v + k) : Nat) : Int)) ?_ (bs (a := q (v + k)) ?_ ?_)
  · rw [atI_iN (by omega) (by unfold basL; rw [List.length_map, List.length_range]; omega), bas_gv hp few hl pos (by omega) (by omega)]
  · rw [qe]
    have e : decide (bsF (gv P) (gv hs) (v + k) < v) = decide (((bsF (gv P) (gv hs) (v + k) : Nat) : Int) < (v : Int)) := decide_eq_decide.mpr (by omega)
    rw [e]
    exact andE fun _ => bs (q_an hp few h1 (by omega)) rfl
  · by_cases z : q (v + k) = true
    · rw [if_pos z] at stp
      exact iT z (bs (appO_ok (by omega)) (by rw [stp]))
    · rw [if_neg z] at stp
      exact iF (Bool.eq_false_iff.mpr z) (by rw [stp])
theorem q_open_row {v : Nat} (h1 : 1 ≤ v) (h2 : v ≤ P.length) : f_open_row (iN P) hs (v : Int) = some (openRow (gv P) (gv hs) P.length v) := by
  unfold f_open_row
  refine bs (q_open_at hp few hl pos h1 h2) ?_
  have ll : (opL (gv P) (gv hs) P.length v).length ≤ P.length + 1 := len_fr _ _
  have zz : lcC (fun _ => some true) (fun x2 => (atI hs (x2 - 1)).bind fun t3 => some t3) (iN (opL (gv P) (gv hs) P.length v)) = some ((opL (gv P) (gv hs) P.length v).map (gv hs)) := by
    unfold iN
    rw [l_rg (opL (gv P) (gv hs) P.length v), List.map_map, List.map_map]
    refine lcC_rg (by omega) fun k hk => ?_
    have m := mem_opL.mp (gv_mem (l := opL (gv P) (gv hs) P.length v) (v := k + 1) (by omega) (by omega))
    exact bs (atI_gv (v := gv (opL (gv P) (gv hs) P.length v) (k + 1)) (by omega) (by omega)) rfl
  refine bs zz (bs rfl rfl)
end
section
variable {P B : List Nat} (hp : Par (gv P) P.length) (few : P.length ≤ 1000) (hB : Bas (gv P) (gv B) P.length) (lB : B.length = P.length)
include few hB lB
include hp
theorem q_is_bases : f_is_bases (iN P) (iN B) = some true := by
  unfold f_is_bases
  refine bs (andT1 (bs q_many (b := some true) ?_)) (iF rfl ?_)
  · rw [len_iN, decide_eq_true (by omega)]
  have en : enumL (iN B) = (List.range P.length).map fun (k : Nat) => ((k : Int), ((gv B (k + 1) : Nat) : Int)) := by
    rw [enum_rg, len_iN, lB]
    refine List.map_congr_left fun k hk => ?_
    have := List.mem_range.mp hk
    rw [gv_iN (by omega) (by omega)]
  rw [en]
  refine thenR (fun k hk => ?_) rfl
  unfold f_is_bases_L1
  have l := hB.lt (k + 1) (by omega) (by omega)
  have a := hB.an (k + 1) (by omega) (by omega)
  refine bs (q_is_number _) (bs (a := true) ?_ (iF rfl rfl))
  refine andTT (decide_eq_true (by show (0 : Int) ≤ ((gv B (k + 1) : Nat) : Int); omega)) (bs (a := true) (andTT (decide_eq_true (by show ((gv B (k + 1) : Nat) : Int) ≤ (k : Int); omega)) (bs (a := true) ?_ rfl)) rfl)
  show f_is_elder (iN P) ((gv B (k + 1) : Nat) : Int) ((k : Int) + 1) = some true
  rw [show (k : Int) + 1 = ((k + 1 : Nat) : Int) by omega, q_is_elder hp few (by omega) (by omega), decide_eq_true l, a]
  rfl
theorem q_ask_bases : f_ask_bases (iN P) (iN B) = some () := by
  unfold f_ask_bases
  exact bs (q_is_bases hp few hB lB) (iF rfl rfl)
theorem q_holders {v : Nat} (h1 : 1 ≤ v) (hv : v ≤ P.length) : f_holders_of (iN P) (iN B) (v : Int) = some (iN ((List.range (P.length + 1)).filter fun z => decide (gv B z < v) && anF (gv P) v z)) := by
  unfold f_holders_of
  refine bs (q_ask_bases hp few hB lB) (bs (q_ask_version h1 hv) (bs (q_branch hp few hv) (bs (lcC_iN (p' := fun z => decide (gv B z < v)) ?_ fun a ha => ?_) ?_)))
  · have := len_fr (P.length + 1) (anF (gv P) v)
    omega
  · have m := mem_fr.mp ha
    have := an_le hp (by omega) m.2
    refine bs (atI_iN (by omega) (by omega)) ?_
    congr 1
    exact decide_eq_decide.mpr (by omega)
  · rw [List.filter_filter]
theorem q_reads_by : f_reads_by (iN P) (iN B) = some ((List.range (P.length + 1)).map fun v => ((chn (gv B) v).length : Int)) := by
  unfold f_reads_by
  refine bs (q_ask_bases hp few hB lB) (bs rfl ?_)
  have en : iN B = (List.range P.length).map fun (k : Nat) => ((gv B (k + 1) : Nat) : Int) := by
    rw [l_rg (iN B), len_iN, lB]
    refine List.map_congr_left fun k hk => ?_
    have := List.mem_range.mp hk
    rw [gv_iN (by omega) (by omega)]
  rw [en]
  refine bs (forS_n (S := fun k => (List.range (k + 1)).map fun v => ((chn (gv B) v).length : Int)) fun k hk => ?_) rfl
  unfold f_reads_by_L1
  have l := hB.lt (k + 1) (by omega) (by omega)
  refine bs (atI_rg (by omega)) (bs (appO_ok (by rw [List.length_map, List.length_range]; omega)) ?_)
  congr 1
  rw [List.range_succ (n := k + 1), List.map_append, List.map_singleton, chn_eq hB.lt (v := k + 1) (by omega) (by omega), List.length_cons]
  rfl
end
theorem q_records_of {P : List Nat} (hp : Par (gv P) P.length) (few : P.length ≤ 60) {hs : List Int} (hl : hs.length = P.length) (pos : ∀ x ∈ hs, 1 ≤ x) {B : List Nat} (eB : B = basL (gv P) (gv hs) P.length) (hB : Bas (gv P) (gv B) P.length) {v : Nat} (hv : v ≤ P.length) : f_records_of (iN P) hs (v : Int) = some (iN (chn (gv B) v)) := by
  have lB : B.length = P.length := by rw [eB]; unfold basL; rw [List.length_map, List.length_range]
  have go : ∀ (u N : Nat) (acc : List Int), u ≤ P.length → u < N → acc.length + u ≤ 2000 →
      whS (fun s : List Int × Int => f_records_of_L1c (iN B) s.1 s.2) (fun s : List Int × Int => f_records_of_L1 (iN B) s.1 s.2) N (acc, (u : Int)) = some (acc ++ iN (chn (gv B) u), (0 : Int)) := by
    intro u
    induction u using Nat.strongRecOn with
    | ind u ih =>
      intro N acc hu hN ha
      obtain ⟨N, rfl⟩ : ∃ m, N = m + 1 := ⟨N - 1, by omega⟩
      by_cases z : u = 0
      · subst z
        rw [whF (by show some (!decide (((0 : Nat) : Int) = 0)) = _; rfl)]
        show some (acc, (0 : Int)) = some (acc ++ [], (0 : Int))
        rw [List.append_nil]
      · have l := hB.lt u (by omega) hu
        refine whT (s' := (acc ++ [(u : Int)], ((gv B u : Nat) : Int))) (by show some (!decide ((u : Int) = 0)) = _; rw [decide_eq_false (by omega)]; rfl) (bs (appO_ok (l := acc) (by omega)) (bs (atI_iN (by omega) (by omega)) rfl)) ?_
        rw [ih (gv B u) l N _ (by omega) (by omega) (by rw [List.length_append, List.length_singleton]; omega), chn_eq hB.lt (by omega) hu, List.append_assoc]
        rfl
  unfold f_records_of
  refine bs (q_bases_by hp (by omega) hl pos) ?_
  rw [← eB]
  refine bs (q_is_number _) (iF ?_ (bs rfl (bs rfl (bs (go v _ [] hv (by omega) (by show 0 + v ≤ 2000; omega)) ?_))))
  · rw [len_iN, decide_eq_true (by omega : (0 : Int) ≤ (v : Int)), decide_eq_false (by omega)]
    rfl
  · rfl
end K12
namespace K12
open PySem PySem.Spec PyProof.Rows L2 DL
def Pm : Nat → PyData → Prop
  | _ + 1, .int _ => True
  | _ + 1, .bool _ => True
  | _ + 1, .none => True
  | _ + 1, .str s => bD (p_eq (.str s) (.str s)) = some true
  | N + 1, .tuple l => l.length ≤ 1000000 ∧ ∀ x ∈ l, Pm N x
  | _, _ => False
theorem same_intD {N : Nat} (a b : Int) : f_w_same_R (N + 1) (.int a) (.int b) = some (decide (a = b)) := by
  show f_w_same_B (f_w_same_R N) _ _ = _
  unfold f_w_same_B
  have e : bD (p_eq (.int a) (.int b)) = some (decide (a = b)) := bD_eq (f := PyData.int) (by decide) a b
  exact bs (a := false) rfl (iF rfl (bs (a := false) rfl (iF rfl (bs (a := false) rfl (iF rfl (bs (a := true) rfl (iT rfl (bs (a := true) rfl (bs (a := decide (a = b)) (andT1 (bs (a := false) rfl (bs (a := decide (a = b)) (andT1 (bs e rfl)) rfl))) rfl)))))))))
theorem same_same : ∀ (N : Nat) (d : PyData), Pm N d → f_w_same_R N d d = some true
  | 0, _, h => h.elim
  | N + 1, .int i, _ => by
    rw [same_intD, decide_eq_true rfl]
  | N + 1, .bool b, _ => by
    show f_w_same_B (f_w_same_R N) _ _ = _
    unfold f_w_same_B
    have e : bD (p_eq (.bool b) (.bool b)) = some true := by
      rw [bD_eq (f := PyData.bool) (by decide), decide_eq_true rfl]
    exact bs (a := false) rfl (iF rfl (bs (a := false) rfl (iF rfl (bs (a := true) rfl (iT rfl (bs (a := true) rfl (bs (a := true) (andT1 (bs e rfl)) rfl)))))))
  | N + 1, .none, _ => by
    show f_w_same_B (f_w_same_R N) _ _ = _
    unfold f_w_same_B
    exact bs (a := false) rfl (iF rfl (bs (a := true) rfl (iT rfl (bs (a := true) rfl rfl))))
  | N + 1, .str s, e => by
    show f_w_same_B (f_w_same_R N) _ _ = _
    unfold f_w_same_B
    exact bs (a := false) rfl (iF rfl (bs (a := false) rfl (iF rfl (bs (a := false) rfl (iF rfl (bs (a := false) rfl (iF rfl (bs (a := true) rfl (bs (a := true) (andT1 (bs e rfl)) rfl)))))))))
  | N + 1, .tuple l, h => by
    obtain ⟨h1, h2⟩ := h
    show f_w_same_B (f_w_same_R N) _ _ = _
    unfold f_w_same_B
    refine bs (a := true) rfl (iT rfl (bs (a := true) rfl (bs (a := false) (orF1 (bs (len_tup l) (bs (len_tup l) (by rw [decide_eq_true rfl]; rfl)))) (iF rfl (bs (len_tup l) (bs (rng1O_n h1) (thenR (fun k hk => ?_) rfl)))))))
    unfold f_w_same_L1
    exact bs (ix_tup hk) (bs (ix_tup hk) (bs (same_same N _ (h2 _ (List.getElem_mem hk))) (iF rfl rfl)))
  | _ + 1, .list _, h => h.elim
  | _ + 1, .dict _, h => h.elim
theorem forG_q {X ρ : Type} {body : X → Unit → Option (Lp Unit ρ)} {q : X → Bool} {r : ρ} : ∀ (l : List X), (∀ x ∈ l, body x () = some (if q x = true then .nx () else .rt r)) → forG body l () = some (if l.all q = true then .nx () else .rt r)
  | [], _ => rfl
  | a :: l, h => by
    have h1 := h a List.mem_cons_self
    unfold forG
    rw [h1, List.all_cons]
    by_cases z : q a = true
    · rw [if_pos z, z, Bool.true_and]
      exact forG_q l fun x m => h x (List.mem_cons_of_mem _ m)
    · have z2 := Bool.eq_false_iff.mpr z
      rw [if_neg z, z2, Bool.false_and]
      rfl
theorem same_d {d : PyData} (h : Pm 8 d) : f_w_same d d = some true := same_same 8 d h
theorem pm_row {N : Nat} {l : List Int} (h : l.length ≤ 1000000) : Pm (N + 2) (tp PyData.int l) := ⟨by rw [List.length_map]; exact h, fun x hx => by
  obtain ⟨i, _, rfl⟩ := List.mem_map.mp hx
  exact True.intro⟩
theorem same_row {l m : List Int} (h : l = m) (hl : l.length ≤ 1000000) : f_w_same (tp PyData.int l) (tp PyData.int m) = some true := by
  subst h
  exact same_d (pm_row (N := 6) hl)
theorem same_bool {a b : Bool} (h : a = b) : f_w_same (.bool a) (.bool b) = some true := by
  subst h
  exact same_d True.intro
theorem same_int {a b : Int} (h : a = b) : f_w_same (.int a) (.int b) = some true := by
  subst h
  exact same_d True.intro
theorem same_rowD {l m : List Int} (h : l.length = m.length) (hl : m.length ≤ 1000000) : f_w_same (tp PyData.int l) (tp PyData.int m) = some (decide (l = m)) := by
  show f_w_same_B (f_w_same_R 7) (tp PyData.int l) (tp PyData.int m) = _
  unfold f_w_same_B
  have ll : (l.map PyData.int).length = l.length := List.length_map _
  have lm : (m.map PyData.int).length = m.length := List.length_map _
  refine bs (a := true) rfl (iT rfl (bs (a := true) rfl (bs (a := false) (orF1 (bs (len_tup (l.map PyData.int)) (bs (len_tup (m.map PyData.int)) (by rw [ll, lm, h, decide_eq_true rfl]; rfl)))) (iF rfl (bs (len_tup (m.map PyData.int)) ?_)))))
  rw [lm]
  refine bs (rng1O_n hl) ?_
  have run := forG_q (body := fun x_1 (s_ : Unit) => f_w_same_L1 (f_w_same_R 7) (tp PyData.int l) (tp PyData.int m) x_1) (q := fun x => decide (l[x.toNat]? = m[x.toNat]?)) (r := false) ((List.range m.length).map fun (k : Nat) => (k : Int)) fun x hx => by
    obtain ⟨k, hk, rfl⟩ := List.mem_map.mp hx
    have hk := List.mem_range.mp hk
    have hk1 : k < l.length := by omega
    unfold f_w_same_L1
    refine bs (ix_tup (l := l.map PyData.int) (by rw [ll]; exact hk1)) (bs (ix_tup (l := m.map PyData.int) (by rw [lm]; exact hk)) ?_)
    rw [List.getElem_map, List.getElem_map]
    refine bs (same_intD (N := 6) _ _) ?_
    rw [show ((k : Int)).toNat = k from rfl, List.getElem?_eq_getElem hk1, List.getElem?_eq_getElem hk]
    by_cases z : l[k] = m[k]
    · rw [z, decide_eq_true rfl, decide_eq_true rfl]
      rfl
    · rw [decide_eq_false z, decide_eq_false fun y => z (Option.some.inj y)]
      rfl
  rw [run]
  by_cases z : l = m
  · subst z
    rw [decide_eq_true rfl, if_pos]
    · rfl
    · rw [List.all_eq_true]
      intro x _
      exact decide_eq_true rfl
  · rw [decide_eq_false z, if_neg]
    · rfl
    · intro y
      refine z (List.ext_getElem? fun i => ?_)
      by_cases hi : i < m.length
      · have := List.all_eq_true.mp y (i : Int) (List.mem_map.mpr ⟨i, List.mem_range.mpr hi, rfl⟩)
        exact of_decide_eq_true this
      · rw [List.getElem?_eq_none (by omega), List.getElem?_eq_none (by omega)]
theorem q_draw {ns : List Int} {a n : Nat} (hn : n ≤ 1000) : ∃ r : List Int, f_w_draw ns (a : Int) (n : Int) = some r ∧ r.length = n ∧ ∀ x ∈ r, 0 ≤ x ∧ x < 9967 := by
  unfold f_w_draw
  by_cases z : ns.length = 0
  · refine iTX (decide_eq_true (by omega)) (bsX (rng1O_n (by omega)) (bsX (lcC_rg (g' := fun _ => (0 : Int)) (by omega) fun _ _ => rfl) ⟨_, rfl, by rw [List.length_map, List.length_range], fun x hx => ?_⟩))
    obtain ⟨k, _, rfl⟩ := List.mem_map.mp hx
    omega
  · refine iFX (decide_eq_false (by omega)) (bsX (modO_ok (by omega)) ?_)
    rw [show (a : Int) % (ns.length : Int) = ((a % ns.length : Nat) : Int) from (Int.natCast_emod _ _).symm]
    refine bsX (atI_at (Nat.mod_lt _ (by omega))) (bsX rfl ?_)
    obtain ⟨cell, hc⟩ : ∃ c, c = gv ns (a % ns.length + 1) := ⟨_, rfl⟩
    rw [← hc]
    refine bsX (andE (q := decide ((10 : Int) ^ 18 ≤ (if cell < 0 then -cell else cell))) fun _ => rfl) ?_
    by_cases y : (decide ((a : Int) < (ns.length : Int)) && decide ((10 : Int) ^ 18 ≤ (if cell < 0 then -cell else cell))) = true
    · refine iTX y (bsX (rng1O_n (by omega)) ?_)
      obtain ⟨s, e1, e2, e3⟩ := forS_J (n := n) (f := fun (k : Nat) => (k : Int)) (fun k (s : Int × List Int) => s.2.length = k ∧ ∀ x ∈ s.2, 0 ≤ x ∧ x < 9967) (body := fun x_1 (s_ : Int × (List Int)) => f_w_draw_L1 (n : Int) x_1 s_.1 s_.2) (s := (cell, [])) ⟨rfl, fun x hx => (by cases hx)⟩ fun k hk s hs => by
        refine ⟨(s.1 / 9967, s.2 ++ [s.1 % 9967]), ?_, by rw [List.length_append, hs.1]; rfl, fun x hx => ?_⟩
        · unfold f_w_draw_L1
          exact bs (appO_ok (by have := hs.1; omega)) (bs rfl rfl)
        · rcases List.mem_append.mp hx with m | m
          · exact hs.2 x m
          · rw [List.mem_singleton.mp m]
            omega
      exact bsX e1 ⟨_, rfl, e2, e3⟩
    · refine iFX (Bool.eq_false_iff.mpr y) (bsX rfl (bsX (rng1O_n (by omega)) ?_))
      obtain ⟨s, e1, e2, e3⟩ := forS_J (n := n) (f := fun (k : Nat) => (k : Int)) (fun k (s : List Int × Int) => s.1.length = k ∧ ∀ x ∈ s.1, 0 ≤ x ∧ x < 9967) (body := fun x_2 (s_ : (List Int) × Int) => f_w_draw_L2 (n : Int) x_2 s_.1 s_.2) (s := ([], (((((cell * (40692 : Int)) + ((a : Int) * (3791 : Int))) + ((ns.length : Int) * (911 : Int))) + (17 : Int)) % (2147483399 : Int)))) ⟨rfl, fun x hx => (by cases hx)⟩ fun k hk s hs => by
        refine ⟨(s.1 ++ [((((s.2 * (40014 : Int)) + (5501 : Int)) % (2147483563 : Int)) / (11 : Int)) % (9967 : Int)], (((s.2 * (40014 : Int)) + (5501 : Int)) % (2147483563 : Int))), ?_, by rw [List.length_append, hs.1]; rfl, fun x hx => ?_⟩
        · unfold f_w_draw_L2
          exact bs rfl (bs (appO_ok (by have := hs.1; omega)) rfl)
        · rcases List.mem_append.mp hx with m | m
          · exact hs.2 x m
          · rw [List.mem_singleton.mp m]
            omega
      exact bsX e1 ⟨_, rfl, e2, e3⟩
theorem gv_app {α : Type} [Inhabited α] {l m : List α} {v : Nat} (h1 : 1 ≤ v) (h2 : v ≤ l.length) : gv (l ++ m) v = gv l v := by
  have z := gv_get (l := l ++ m) (k := v - 1) (by rw [List.length_append]; omega)
  rw [List.getElem?_append_left (by omega), Nat.sub_add_cancel h1] at z
  have y := gv_get (l := l) (k := v - 1) (by omega)
  rw [Nat.sub_add_cancel h1] at y
  rw [y] at z
  exact (Option.some.inj z).symm
theorem gv_end {α : Type} [Inhabited α] {l : List α} {a : α} {n : Nat} (h : l.length = n) : gv (l ++ [a]) (n + 1) = a := by
  subst h
  exact gv_last' l a
theorem iN_app {l : List Nat} {a : Nat} : iN (l ++ [a]) = iN l ++ [(a : Int)] := by
  unfold iN
  rw [List.map_append]
  rfl
theorem pick_row {r : List Int} (h : ∀ x ∈ r, 0 ≤ x ∧ x < 9967) {k : Nat} (hk : k < r.length) : ∃ x : Int, atI r (k : Int) = some x ∧ 0 ≤ x ∧ x < 9967 := ⟨_, atI_at hk, h _ (gv_mem (by omega) (by omega))⟩
theorem q_tree {r : List Int} (h : ∀ x ∈ r, 0 ≤ x ∧ x < 9967) {n : Nat} (hr : n + 1 ≤ r.length) (hn : n ≤ 1000) : ∃ P : List Nat, f_w_tree r (n : Int) = some (iN P) ∧ P.length = n ∧ Par (gv P) n := by
  obtain ⟨m0, h0, m1, m2⟩ := pick_row h (k := 0) (by omega)
  obtain ⟨M, hM⟩ : ∃ M, M = m0 % 4 := ⟨_, rfl⟩
  have lp := forS_J (n := n) (f := fun (k : Nat) => (k : Int)) (fun k s => ∃ P : List Nat, s = iN P ∧ P.length = k ∧ ∀ v, 1 ≤ v → v ≤ k → gv P v < v) (body := fun x_1 (parents_ : List Int) => f_w_tree_L1 r (n : Int) M x_1 parents_) (s := []) ⟨[], rfl, rfl, fun v _ _ => by omega⟩ fun k hk s hs => by
    obtain ⟨P, rfl, lP, pP⟩ := hs
    have fin : ∀ w : Int, 0 ≤ w → w ≤ k → ∃ s', (appO (iN P) w).bind (fun parents => some parents) = some s' ∧ ∃ P' : List Nat, s' = iN P' ∧ P'.length = k + 1 ∧ ∀ v, 1 ≤ v → v ≤ k + 1 → gv P' v < v := fun w w1 w2 => by
      obtain ⟨u, rfl⟩ : ∃ u : Nat, w = (u : Int) := ⟨w.toNat, by omega⟩
      refine ⟨iN (P ++ [u]), bs (appO_ok (by rw [len_iN]; omega)) (by rw [iN_app]), P ++ [u], rfl, by rw [List.length_append, lP]; rfl, fun v h1 h2 => ?_⟩
      by_cases z : v ≤ k
      · rw [gv_app h1 (by omega)]
        exact pP v h1 z
      · have e : v = k + 1 := by omega
        subst e
        rw [gv_end lP]
        omega
    obtain ⟨x, hx, x1, x2⟩ := pick_row h (k := k + 1) (by omega)
    unfold f_w_tree_L1
    have hx' : atI r ((1 : Int) + (k : Int)) = some x := by rw [← hx]; congr 1; omega
    have md : ∀ (y m : Int), 0 < m → m ≤ (k : Int) + 1 → 0 ≤ y % m ∧ y % m ≤ k := fun y m h1 h2 => ⟨Int.emod_nonneg _ (by omega), by have := Int.emod_lt_of_pos y h1; omega⟩
    refine bsX hx' ?_
    by_cases c0 : M = 0
    · refine iTX (decide_eq_true c0) (bsX (modO_ok (by omega)) ?_)
      have := md x ((k : Int) + 1) (by omega) (by omega)
      exact fin _ this.1 this.2
    · refine iFX (decide_eq_false c0) ?_
      by_cases c1 : M = 1
      · refine iTX (decide_eq_true c1) (bsX (modO_ok (by omega)) ?_)
        have := md x (min (2 : Int) ((k : Int) + 1)) (by omega) (by omega)
        exact fin _ (by omega) (by omega)
      · refine iFX (decide_eq_false c1) ?_
        by_cases c2 : (decide (M = (2 : Int)) && decide ((0 : Int) < (x % (8 : Int)))) = true
        · exact iTX c2 (fin _ (by omega) (by omega))
        · refine iFX (Bool.eq_false_iff.mpr c2) ?_
          by_cases c3 : M = 2
          · refine iTX (decide_eq_true c3) (bsX (modO_ok (by omega)) ?_)
            have := md (x / 8) ((k : Int) + 1) (by omega) (by omega)
            exact fin _ this.1 this.2
          · refine iFX (decide_eq_false c3) (bsX (modO_ok (by omega)) ?_)
            have := md x (min (3 : Int) ((k : Int) + 1)) (by omega) (by omega)
            exact fin _ (by omega) (by omega)
  obtain ⟨s, e1, P, rfl, lP, pP⟩ := lp
  refine ⟨P, ?_, lP, fun v h1 h2 => pP v h1 h2⟩
  unfold f_w_tree
  exact bs h0 (bs rfl (bs rfl (bs (rng1O_n (by omega)) (bs (by rw [← hM]; exact e1) rfl))))
theorem q_heights {r : List Int} (h : ∀ x ∈ r, 0 ≤ x ∧ x < 9967) {n : Nat} (hr : n + 1 ≤ r.length) (hn : n ≤ 1000) : ∃ hs : List Int, f_w_heights r (n : Int) = some hs ∧ hs.length = n ∧ ∀ x ∈ hs, 1 ≤ x ∧ x < 10 ^ 30 := by
  obtain ⟨m0, h0, m1, m2⟩ := pick_row h (k := 0) (by omega)
  obtain ⟨M, hM⟩ : ∃ M, M = m0 % 8 := ⟨_, rfl⟩
  have lp := forS_J (n := n) (f := fun (k : Nat) => (k : Int)) (fun k (s : List Int) => s.length = k ∧ ∀ x ∈ s, 1 ≤ x ∧ x < 10 ^ 30) (body := fun x_1 (heights_ : List Int) => f_w_heights_L1 r (n : Int) M x_1 heights_) (s := []) ⟨rfl, fun x hx => (by cases hx)⟩ fun k hk s hs => by
    have fin : ∀ w : Int, 1 ≤ w → w < 10 ^ 30 → ∃ s', (appO s w).bind (fun heights => some heights) = some s' ∧ s'.length = k + 1 ∧ ∀ x ∈ s', 1 ≤ x ∧ x < 10 ^ 30 := fun w w1 w2 => by
      refine ⟨s ++ [w], bs (appO_ok (by have := hs.1; omega)) rfl, by rw [List.length_append, hs.1]; rfl, fun x hx => ?_⟩
      rcases List.mem_append.mp hx with m | m
      · exact hs.2 x m
      · rw [List.mem_singleton.mp m]
        exact ⟨w1, w2⟩
    obtain ⟨x, hx, x1, x2⟩ := pick_row h (k := k + 1) (by omega)
    unfold f_w_heights_L1
    have hx' : atI r ((1 : Int) + (k : Int)) = some x := by rw [← hx]; congr 1; omega
    refine bsX hx' ?_
    by_cases c0 : M < 3
    · exact iTX (decide_eq_true c0) (fin _ (by omega) (by omega))
    · refine iFX (decide_eq_false c0) ?_
      by_cases c1 : M < 5
      · exact iTX (decide_eq_true c1) (fin _ (by omega) (by omega))
      · refine iFX (decide_eq_false c1) ?_
        by_cases c2 : M = 5
        · exact iTX (decide_eq_true c2) (fin _ (by omega) (by omega))
        · refine iFX (decide_eq_false c2) ?_
          by_cases c3 : (decide (M = (6 : Int)) && decide ((0 : Int) < (x % (6 : Int)))) = true
          · exact iTX c3 (fin _ (by omega) (by omega))
          · refine iFX (Bool.eq_false_iff.mpr c3) ?_
            by_cases c4 : M = 6
            · exact iTX (decide_eq_true c4) (fin _ (by omega) (by omega))
            · refine iFX (decide_eq_false c4) (bsX (a := (10 : Int) ^ 28) rfl (bsX (a := (10 : Int) ^ 28 * (1 + x % 5)) ?_ (fin _ ?_ ?_)))
              · have e : mulC ((10 : Int) ^ 28) (1 + x % 5) = true := decide_eq_true (.inr (by omega))
                exact if_pos (by rw [e]; rfl)
              · omega
              · omega
  obtain ⟨s, e1, e2, e3⟩ := lp
  refine ⟨s, ?_, e2, e3⟩
  unfold f_w_heights
  exact bs h0 (bs rfl (bs rfl (bs (rng1O_n (by omega)) (bs (by rw [← hM]; exact e1) rfl))))
end K12
namespace K12
open PySem PySem.Spec PyProof.Rows L2 DL
section
variable {P : List Nat} (hp : Par (gv P) P.length) (few : P.length ≤ 60) {hs : List Int} (hl : hs.length = P.length)
include hp few hl
theorem e_base {v : Nat} (h1 : 1 ≤ v) (h2 : v ≤ P.length) : f_w_base (iN P) hs (v : Int) = some ((bsF (gv P) (gv hs) v : Nat) : Int) := by
  have go : ∀ (u N : Nat), u ≤ P.length → u < N → whS (fun (up_ : Int) => f_w_base_L1c (iN P) hs (v : Int) up_) (fun (up_ : Int) => f_w_base_L1 (iN P) hs (v : Int) up_) N (u : Int) = some ((upF (gv P) (gv hs) (gv hs v) u : Nat) : Int) := by
    intro u
    induction u using Nat.strongRecOn with
    | ind u ih =>
      intro N hu hN
      obtain ⟨N, rfl⟩ : ∃ m, N = m + 1 := ⟨N - 1, by omega⟩
      by_cases z : u = 0
      · subst z
        exact whF rfl
      · have l := hp u (by omega) hu
        have tst : f_w_base_L1c (iN P) hs (v : Int) (u : Int) = some (decide (gv hs u ≤ gv hs v)) := by
          unfold f_w_base_L1c
          refine bs (andE (q := decide (gv hs u ≤ gv hs v)) fun _ => bs (atI_gv (by omega) (by omega)) (bs (atI_gv (by omega) (by omega)) rfl)) ?_
          rw [decide_eq_true (by omega : (0 : Int) < (u : Int))]
          rfl
        rw [upF_eq hp (by omega) hu]
        by_cases y : gv hs v < gv hs u
        · rw [if_pos y]
          refine whF ?_
          rw [tst, decide_eq_false (by omega)]
        · rw [if_neg y]
          refine whT (s' := ((gv P u : Nat) : Int)) ?_ ?_ (ih _ l N (by omega) (by omega))
          · rw [tst, decide_eq_true (by omega)]
          · unfold f_w_base_L1
            exact bs (atI_iN (by omega) hu) rfl
  have l := hp v h1 h2
  unfold f_w_base
  exact bs (atI_iN h1 h2) (bs (go _ _ (by omega) (by omega)) rfl)
theorem e_basL : lcC (fun _ => some true) (fun x3 => (f_w_base (iN P) hs x3).bind fun t4 => some t4) ((List.range P.length).map fun k => ((k + 1 : Nat) : Int)) = some (iN (basL (gv P) (gv hs) P.length)) := by
  refine (lcC_rg (n := P.length) (f := fun k => ((k + 1 : Nat) : Int)) (g := fun x3 => (f_w_base (iN P) hs x3).bind fun t4 => some t4) (g' := fun k => ((bsF (gv P) (gv hs) (k + 1) : Nat) : Int)) (by omega) fun k hk => bs (e_base hp few hl (v := k + 1) (by omega) (by omega)) rfl).trans ?_
  unfold basL iN
  rw [List.map_map]
  rfl
theorem e_open {v : Nat} (h1 : 1 ≤ v) (h2 : v ≤ P.length) : f_w_open (iN P) hs (v : Int) = some (iN (opL (gv P) (gv hs) P.length v)) := by
  have go : ∀ (F : List Int) (z : Nat), 1 ≤ z → z ≤ P.length → ∀ (u N : Nat), u ≤ P.length → u < N → ∃ (w : Nat) (c : Bool), whS (fun (s_ : Int × Bool) => f_w_open_L2c (iN P) hs (v : Int) F (z : Int) s_.1 s_.2) (fun (s_ : Int × Bool) => f_w_open_L2 (iN P) hs (v : Int) F (z : Int) s_.1 s_.2) N ((u : Int), true) = some ((w : Int), c) ∧ (c && decide ((w : Int) = (v : Int))) = op (gv P) (gv hs) v (gv hs z) u := by
    intro F z z1 z2 u
    induction u using Nat.strongRecOn with
    | ind u ih =>
      intro N hu hN
      obtain ⟨N, rfl⟩ : ∃ m, N = m + 1 := ⟨N - 1, by omega⟩
      by_cases y : v < u
      · have l := hp u (by omega) hu
        have tst : f_w_open_L2c (iN P) hs (v : Int) F (z : Int) (u : Int) true = some true := by
          unfold f_w_open_L2c
          rw [decide_eq_true (by omega : (v : Int) < (u : Int))]
          rfl
        rw [op_eq hp (by omega) hu]
        have ne : (u == v) = false := by
          rw [Bool.eq_false_iff]
          intro q
          have := eq_of_beq q
          omega
        rw [ne, decide_eq_true y, Bool.false_or, Bool.true_and]
        have body : f_w_open_L2 (iN P) hs (v : Int) F (z : Int) (u : Int) true = some (((gv P u : Nat) : Int), !(decide ((v : Int) ≤ ((gv P u : Nat) : Int)) && decide (gv hs z < gv hs (gv P u)))) := by
          unfold f_w_open_L2
          refine bs (atI_iN (by omega) hu) (bs (andE (q := decide (gv hs z < gv hs (gv P u))) fun q => ?_) ?_)
          · have q := of_decide_eq_true q
            exact bs (atI_gv (by omega) (by omega)) (bs (atI_gv (by omega) (by omega)) rfl)
          · by_cases q : (decide ((v : Int) ≤ ((gv P u : Nat) : Int)) && decide (gv hs z < gv hs (gv P u))) = true
            · rw [q]
              rfl
            · rw [Bool.eq_false_iff.mpr q]
              rfl
        by_cases x : v ≤ gv P u
        · by_cases t : gv hs z < gv hs (gv P u)
          · obtain ⟨N, rfl⟩ : ∃ m, N = m + 1 := ⟨N - 1, by omega⟩
            refine ⟨gv P u, false, whT tst body ?_, ?_⟩
            · rw [decide_eq_true (by omega : (v : Int) ≤ ((gv P u : Nat) : Int)), decide_eq_true t]
              refine whF ?_
              show f_w_open_L2c (iN P) hs (v : Int) F (z : Int) ((gv P u : Nat) : Int) false = _
              unfold f_w_open_L2c
              rw [Bool.and_false]
            · rw [decide_eq_false (by omega : ¬ gv hs (gv P u) ≤ gv hs z)]
              rfl
          · obtain ⟨w, c, e1, e2⟩ := ih (gv P u) l N (by omega) (by omega)
            refine ⟨w, c, whT tst body ?_, ?_⟩
            · rw [decide_eq_false t, Bool.and_false]
              exact e1
            · rw [e2, decide_eq_true (by omega : gv hs (gv P u) ≤ gv hs z), Bool.true_and]
        · obtain ⟨w, c, e1, e2⟩ := ih (gv P u) l N (by omega) (by omega)
          refine ⟨w, c, whT tst body ?_, ?_⟩
          · rw [decide_eq_false (by omega : ¬ (v : Int) ≤ ((gv P u : Nat) : Int)), Bool.false_and]
            exact e1
          · have f : op (gv P) (gv hs) v (gv hs z) (gv P u) = false := by
              rw [Bool.eq_false_iff]
              intro q
              have := op_ge hp (gv P u) (by omega) q
              omega
            rw [e2, f, Bool.and_false]
      · refine ⟨u, true, whF ?_, ?_⟩
        · show f_w_open_L2c (iN P) hs (v : Int) F (z : Int) (u : Int) true = _
          unfold f_w_open_L2c
          rw [decide_eq_false (by omega : ¬ (v : Int) < (u : Int))]
          rfl
        · rw [Bool.true_and, Bool.eq_iff_iff, decide_eq_true_eq]
          constructor
          · intro q
            have q : u = v := by omega
            rw [q]
            exact op_self hp h1 h2
          · intro q
            have := op_ge hp u hu q
            omega
  unfold f_w_open
  rw [len_iN]
  refine bs rfl (bs (rngO_v (by omega) (by omega)) ?_)
  obtain ⟨q, hq⟩ : ∃ q : Nat → Bool, q = fun z => decide (v ≤ z) && op (gv P) (gv hs) v (gv hs z) z := ⟨_, rfl⟩
  obtain ⟨S, hS⟩ : ∃ S : Nat → List Int, S = fun k => iN ((List.range (v + k)).filter q) := ⟨_, rfl⟩
  have s0 : ([] : List Int) = S 0 := by
    rw [hS]
    have e : (List.range (v + 0)).filter q = [] := by
      rw [List.filter_eq_nil_iff]
      intro z hz
      have := List.mem_range.mp hz
      rw [hq]
      dsimp only
      rw [decide_eq_false (by omega)]
      simp
    show _ = iN ((List.range (v + 0)).filter q)
    rw [e]
    rfl
  have sn : S (P.length + 1 - v) = iN (opL (gv P) (gv hs) P.length v) := by
    rw [hS]
    unfold opL
    dsimp only
    rw [show v + (P.length + 1 - v) = P.length + 1 by omega, hq]
  rw [s0, ← sn]
  refine bs (forS_n (S := S) fun k hk => ?_) rfl
  have few' : (S k).length ≤ 2000 := by
    rw [hS]
    dsimp only
    rw [len_iN]
    have := len_fr (v + k) q
    omega
  have stp : S (k + 1) = if q (v + k) = true then S k ++ [((v + k : Nat) : Int)] else S k := by
    rw [hS]
    dsimp only
    rw [← Nat.add_assoc, List.range_succ, List.filter_append]
    by_cases z : q (v + k) = true
    · rw [if_pos z, List.filter_cons_of_pos z]
      unfold iN
      rw [List.map_append]
      rfl
    · rw [if_neg z, List.filter_cons_of_neg z, List.filter_nil, List.append_nil]
  have qe : q (v + k) = op (gv P) (gv hs) v (gv hs (v + k)) (v + k) := by
    rw [hq]
    dsimp only
    rw [decide_eq_true (by omega : v ≤ v + k), Bool.true_and]
  obtain ⟨w, c, e1, e2⟩ := go (S k) (v + k) (by omega) (by omega) (v + k) 300 (by omega) (by omega)
  unfold f_w_open_L1
  refine bs rfl (bs rfl (bs e1 ?_))
  dsimp only
  rw [e2, ← qe]
  by_cases z : q (v + k) = true
  · rw [if_pos z] at stp
    exact iT z (bs (appO_ok (by omega)) (by rw [stp]))
  · rw [if_neg z] at stp
    exact iF (Bool.eq_false_iff.mpr z) (by rw [stp])
end
theorem e_some {n : Nat} (hn : n ≤ 1000) {x : Int} (hx : 0 ≤ x) : ∃ l : List Int, f_w_some (n : Int) x = some l ∧ ∀ a ∈ l, ∃ v : Nat, a = (v : Int) ∧ 1 ≤ v ∧ v ≤ n := by
  unfold f_w_some
  by_cases c : (n : Int) < 10
  · refine iTX (decide_eq_true c) (bsX (rgLO_1 (by omega)) ⟨_, rfl, fun a ha => ?_⟩)
    obtain ⟨k, hk, rfl⟩ := List.mem_map.mp ha
    have := List.mem_range.mp hk
    exact ⟨k + 1, rfl, by omega, by omega⟩
  · have md : ∀ y : Int, 0 ≤ y % (n : Int) ∧ y % (n : Int) < n := fun y => ⟨Int.emod_nonneg _ (by omega), Int.emod_lt_of_pos y (by omega)⟩
    refine iFX (decide_eq_false c) (bsX (modO_ok (by omega)) (bsX (modO_ok (by omega)) (bsX (modO_ok (by omega)) ⟨_, rfl, fun a ha => ?_⟩)))
    have a1 := md x
    have a2 := md (x / 3)
    have a3 := md (x / 7)
    have : 1 ≤ a ∧ a ≤ n := by
      simp only [List.mem_cons, List.not_mem_nil, or_false] at ha
      rcases ha with e | e | e | e | e <;> subst e <;> omega
    exact ⟨a.toNat, by omega, by omega, by omega⟩
section
variable {P : List Nat} (hp : Par (gv P) P.length) (few : P.length ≤ 60) {hs : List Int} (hl : hs.length = P.length) (pos : ∀ x ∈ hs, 1 ≤ x)
include hp few hl pos
theorem setting : ∃ B : List Nat, B = basL (gv P) (gv hs) P.length ∧ B.length = P.length ∧ Bas (gv P) (gv B) P.length ∧ (∀ v, 1 ≤ v → v ≤ P.length → gv B v = bsF (gv P) (gv hs) v) := by
  have lt : ∀ v, 1 ≤ v → v ≤ P.length → gv (basL (gv P) (gv hs) P.length) v = bsF (gv P) (gv hs) v := fun v h1 h2 => bas_gv hp (by omega) hl pos h1 h2
  have b := bas_by (h := gv hs) hp
  refine ⟨_, rfl, by unfold basL; rw [List.length_map, List.length_range], ⟨fun v h1 h2 => ?_, fun v h1 h2 => ?_⟩, lt⟩
  · rw [lt v h1 h2]
    exact b.lt v h1 h2
  · rw [lt v h1 h2]
    exact b.an v h1 h2
theorem e_looks {x : Int} (hx : 0 ≤ x) : f_w_looks (iN P) hs x = some true := by
  obtain ⟨B, eB, lB, hB, gB⟩ := setting hp few hl pos
  obtain ⟨vs, ev, hv⟩ := e_some (n := P.length) (by omega) hx
  unfold f_w_looks
  rw [len_iN]
  refine bs rfl (bs (rngO_1 (by omega)) (bs (e_basL hp few hl) (bs (q_is_heights (by omega) hl pos) (bs (same_bool rfl) (bs (a := false) (orF1 (bs (q_bases_by hp (by omega) hl pos) (bs (same_row rfl ?_) rfl))) (iF rfl (bs (q_records_of hp few hl pos eB hB (v := 0) (by omega)) (bs (same_row rfl (by show 0 ≤ _; omega)) (iF rfl (bs ev (thenA (fun a ha => ?_) rfl)))))))))))
  · rw [len_iN, ← eB]
    omega
  obtain ⟨v, rfl, h1, h2⟩ := hv a ha
  rw [← eB]
  have ln : ∀ l : List Nat, l.length ≤ 1000 → (iN l).length ≤ 1000000 := fun l h => by
    rw [len_iN]
    omega
  have go : ∀ (u N : Nat) (acc : List Int), u ≤ P.length → u < N → acc.length + u ≤ 2000 →
      whS (fun s : List Int × Int => f_w_looks_L2c (iN P) hs x (P.length : Int) (iN B) (v : Int) s.1 s.2) (fun s : List Int × Int => f_w_looks_L2 (iN P) hs x (P.length : Int) (iN B) (v : Int) s.1 s.2) N (acc, (u : Int)) = some (acc ++ iN (chn (gv B) u), (0 : Int)) := by
    intro u
    induction u using Nat.strongRecOn with
    | ind u ih =>
      intro N acc hu hN ha
      obtain ⟨N, rfl⟩ : ∃ m, N = m + 1 := ⟨N - 1, by omega⟩
      by_cases z : u = 0
      · subst z
        rw [whF (by show some (decide ((0 : Int) < ((0 : Nat) : Int))) = _; rfl)]
        show some (acc, (0 : Int)) = some (acc ++ [], (0 : Int))
        rw [List.append_nil]
      · have l := hB.lt u (by omega) hu
        refine whT (s' := (acc ++ [(u : Int)], ((gv B u : Nat) : Int))) (by show some (decide ((0 : Int) < (u : Int))) = _; rw [decide_eq_true (by omega)]) (bs (appO_ok (l := acc) (by omega)) (bs (atI_iN (by omega) (by omega)) rfl)) ?_
        rw [ih (gv B u) l N _ (by omega) (by omega) (by rw [List.length_append, List.length_singleton]; omega), chn_eq hB.lt (by omega) hu, List.append_assoc]
        rfl
  have lo : (opL (gv P) (gv hs) P.length v).length ≤ P.length + 1 := len_fr _ _
  have lc : (chn (gv B) v).length ≤ 1000 := by
    have : ∀ u, u ≤ P.length → (chn (gv B) u).length ≤ u := by
      intro u
      induction u using Nat.strongRecOn with
      | ind u ih =>
        intro hu
        by_cases z : u = 0
        · subst z
          exact Nat.le_refl 0
        · have l := hB.lt u (by omega) hu
          rw [chn_eq hB.lt (by omega) hu, List.length_cons]
          have := ih _ l (by omega)
          omega
    have := this v h2
    omega
  have row : lcC (fun _ => some true) (fun x2 => (atI hs (x2 - 1)).bind fun t3 => some t3) (iN (opL (gv P) (gv hs) P.length v)) = some ((opL (gv P) (gv hs) P.length v).map (gv hs)) := by
    unfold iN
    rw [l_rg (opL (gv P) (gv hs) P.length v), List.map_map, List.map_map]
    refine lcC_rg (by omega) fun k hk => ?_
    have m := mem_opL.mp (gv_mem (l := opL (gv P) (gv hs) P.length v) (v := k + 1) (by omega) (by omega))
    exact bs (atI_gv (v := gv (opL (gv P) (gv hs) P.length v) (k + 1)) (by omega) (by omega)) rfl
  have recs := q_records_of hp few hl pos eB hB h2
  have opn := q_open_at hp (by omega) hl pos h1 h2
  have oprow := q_open_row hp (by omega) hl pos h1 h2
  have lr : (openRow (gv P) (gv hs) P.length v).length ≤ 1000000 := by
    unfold DL.openRow
    rw [downI_len, List.length_map]
    omega
  have hold : f_holders_of (iN P) (iN B) (v : Int) = some (iN (opL (gv P) (gv hs) P.length v)) := by
    rw [q_holders hp (by omega) hB lB h1 h2, opL_bs hp h1]
    congr 2
    refine List.filter_congr fun z hz => ?_
    have hz := List.mem_range.mp hz
    by_cases y : z = 0
    · subst y
      rw [an_low hp (by omega) (by omega)]
      simp
    · rw [gB z (by omega) (by omega)]
  unfold f_w_looks_L1
  refine bs rfl (bs rfl (bs (go v _ [] h2 (by omega) (by show 0 + v ≤ 2000; omega)) (bs (e_open hp few hl h1 h2) (bs row (bs rfl (bs recs (bs (same_row rfl (ln _ lc)) (iF rfl (bs opn (bs (same_row rfl (ln _ (by omega))) (iF rfl (bs oprow (bs (same_row rfl lr) (iF rfl (bs oprow (bs (same_row rfl lr) (iF rfl (bs recs (bs (same_row rfl (ln _ lc)) (iF rfl (bs opn (bs (same_row rfl (ln _ (by omega))) (iF rfl (bs (q_bases_by hp (by omega) hl pos) ?_))))))))))))))))))))))))
  rw [← eB]
  exact bs hold (bs (same_row rfl (ln _ (by omega))) (iF rfl rfl))
end
end K12
namespace K12
open PySem PySem.Spec PyProof.Rows L2 DL
section
variable {p b : Nat → Nat} {n : Nat} (hp : Par p n) (hb : Bas p b n)
include hp
theorem up_past {h : Nat → Int} {t : Int} {w : Nat} (w1 : 1 ≤ w) : ∀ u, u ≤ n → anF p w u = true → upF p h t u < w → h w ≤ t := by
  intro u
  induction u using Nat.strongRecOn with
  | ind u ih =>
    intro hu a l
    have le := an_le hp hu a
    have k := hp u (by omega) hu
    rw [upF_eq hp (by omega) hu] at l
    by_cases y : t < h u
    · rw [if_pos y] at l
      omega
    · rw [if_neg y] at l
      by_cases e : w = u
      · subst e
        omega
      · exact ih _ k (by omega) (by rw [← an_up hp (by omega) hu]; exact a) l
/-- z whose base is passed by the base of an elder -/
def BadB (p b : Nat → Nat) (z : Nat) : Prop := ∃ w, 1 ≤ w ∧ anF p w (p z) = true ∧ b z < w ∧ b w < b z
include hb
theorem back_iff {h : Nat → Int} {C : Int} (hh : ∀ v, 1 ≤ v → v ≤ n → h v = C - ((chn b v).length : Int)) : (∀ z, 1 ≤ z → z ≤ n → ¬ BadB p b z) ↔ ∀ z, 1 ≤ z → z ≤ n → bsF p h z = b z := by
  have r1 : ∀ v, 1 ≤ v → v ≤ n → (chn b v).length = (chn b (b v)).length + 1 := fun v h1 h2 => by
    rw [chn_eq hb.lt h1 h2, List.length_cons]
  constructor
  · intro nb z z1 z2
    have lz := hp z z1 z2
    have az := hb.an z z1 z2
    have bz := hb.lt z z1 z2
    have A : ∀ u, anF p u (p z) = true → u ≤ p z → b z < u → (chn b z).length ≤ (chn b u).length := by
      intro u
      induction u using Nat.strongRecOn with
      | ind u ih =>
        intro a hu y
        have bu := hb.lt u (by omega) (by omega)
        have nn : ¬ b u < b z := fun q => nb z z1 z2 ⟨u, by omega, a, y, q⟩
        have e1 := r1 u (by omega) (by omega)
        have e2 := r1 z z1 z2
        by_cases e : b u = b z
        · rw [e] at e1
          omega
        · have := ih (b u) bu (an_trans hp (hb.an u (by omega) (by omega)) _ (by omega) a) (by omega) (by omega)
          omega
    have G : ∀ u, u ≤ p z → anF p u (p z) = true → b z ≤ u → upF p h (h z) u = b z := by
      intro u
      induction u using Nat.strongRecOn with
      | ind u ih =>
        intro hu a y
        by_cases e : u = b z
        · subst e
          by_cases z0 : b z = 0
          · rw [z0]
            rfl
          · rw [upF_eq hp (by omega) (by omega), if_pos]
            have e1 := r1 z z1 z2
            rw [hh z z1 z2, hh (b z) (by omega) (by omega)]
            omega
        · have k := hp u (by omega) (by omega)
          have e1 := A u a hu (by omega)
          rw [upF_eq hp (by omega) (by omega), if_neg (by rw [hh z z1 z2, hh u (by omega) (by omega)]; omega)]
          have a2 : anF p u z = true := by rw [an_up hp (by omega) z2]; exact a
          have a3 := an_line hp (x := b z) (y := u) y z z2 az a2
          rw [an_up hp (by omega) (by omega)] at a3
          have a4 : anF p (p u) u = true := by rw [an_up hp k (by omega)]; exact an_self hp (by omega)
          exact ih _ k (by omega) (an_trans hp a4 _ (by omega) a) (an_le hp (by omega) a3)
    rw [an_up hp bz z2] at az
    exact G (p z) (Nat.le_refl _) (an_self hp (by omega)) (an_le hp (by omega) az)
  · intro bk z z1 z2 ⟨w, w1, a, q1, q2⟩
    have lz := hp z z1 z2
    have wz := an_le hp (by omega) a
    have az := hb.an z z1 z2
    have s1 := up_past hp (h := h) (t := h z) w1 (p z) (by omega) a (by have := bk z z1 z2; unfold bsF at this; omega)
    have aw : anF p w z = true := by rw [an_up hp (by omega) z2]; exact a
    have a3 := an_line hp (x := b z) (y := w) (by omega) z z2 az aw
    rw [an_up hp q1 (by omega)] at a3
    have lw := hp w w1 (by omega)
    have s2 := up_past hp (h := h) (t := h w) (w := b z) (by omega) (p w) (by omega) a3 (by have := bk w w1 (by omega); unfold bsF at this; omega)
    have e1 := r1 z z1 z2
    rw [hh z z1 z2] at s1
    rw [hh (b z) (by omega) (by omega)] at s2
    omega
end
section
variable {P B : List Nat} (hp : Par (gv P) P.length) (few : P.length ≤ 60) (hB : Bas (gv P) (gv B) P.length) (lB : B.length = P.length)
include hp few hB lB
open Classical in
theorem e_nested : f_w_nested (iN P) (iN B) = some (decide (∀ z, 1 ≤ z → z ≤ P.length → ¬ BadB (gv P) (gv B) z)) := by
  have go : ∀ (z : Nat), 1 ≤ z → z ≤ P.length → ∀ (u N : Nat), u ≤ P.length → u < N → whG (fun (at__ : Int) => f_w_nested_L2c (iN P) (iN B) (z : Int) at__) (fun (at__ : Int) => f_w_nested_L2 (iN P) (iN B) (z : Int) at__) N (u : Int) = some (if (∃ w, 1 ≤ w ∧ anF (gv P) w u = true ∧ gv B z < w ∧ gv B w < gv B z) then .rt false else .nx (0 : Int)) := by
    intro z z1 z2 u
    induction u using Nat.strongRecOn with
    | ind u ih =>
      intro N hu hN
      obtain ⟨N, rfl⟩ : ∃ m, N = m + 1 := ⟨N - 1, by omega⟩
      by_cases u0 : u = 0
      · subst u0
        rw [if_neg]
        · rfl
        · intro ⟨w, w1, a, _⟩
          have := an_le hp (by omega) a
          omega
      · have l := hp u (by omega) hu
        unfold whG
        refine bs (a := true) (by show some (decide ((0 : Int) < (u : Int))) = _; rw [decide_eq_true (by omega)]) ?_
        rw [if_pos rfl]
        by_cases y : gv B z < u ∧ gv B u < gv B z
        · refine bs (a := .rt false) ?_ ?_
          · unfold f_w_nested_L2
            refine bs (atI_iN z1 (by omega)) (bs (a := true) ?_ (if_pos rfl))
            refine andTT (decide_eq_true (by omega)) (bs (atI_iN z1 (by omega)) (bs (atI_iN (by omega) (by omega)) ?_))
            rw [decide_eq_true (by omega)]
          · rw [if_pos]
            exact ⟨u, by omega, an_self hp hu, y.1, y.2⟩
        · refine bs (a := .nx ((gv P u : Nat) : Int)) ?_ ?_
          · unfold f_w_nested_L2
            refine bs (atI_iN z1 (by omega)) (bs (andE (q := decide (((gv B u : Nat) : Int) < ((gv B z : Nat) : Int))) fun _ => bs (atI_iN z1 (by omega)) (bs (atI_iN (by omega) (by omega)) rfl)) ?_)
            refine iF ?_ (bs (atI_iN (by omega) hu) rfl)
            rw [Bool.eq_false_iff]
            intro q
            obtain ⟨q1, q2⟩ := Bool.and_eq_true_iff.mp q
            have q1 := of_decide_eq_true q1
            have q2 := of_decide_eq_true q2
            exact y ⟨by omega, by omega⟩
          · show whG _ _ N ((gv P u : Nat) : Int) = _
            rw [ih _ l N (by omega) (by omega)]
            by_cases c : ∃ w, 1 ≤ w ∧ anF (gv P) w (gv P u) = true ∧ gv B z < w ∧ gv B w < gv B z
            · rw [if_pos c, if_pos]
              obtain ⟨w, w1, a, q⟩ := c
              have := an_le hp (by omega) a
              exact ⟨w, w1, by rw [an_up hp (by omega) hu]; exact a, q⟩
            · rw [if_neg c, if_neg]
              intro ⟨w, w1, a, q⟩
              have := an_le hp hu a
              by_cases e : w = u
              · subst e
                exact (y q).elim
              · exact c ⟨w, w1, by rw [← an_up hp (by omega) hu]; exact a, q⟩
  unfold f_w_nested
  rw [len_iN]
  refine bs (rngO_1 (by omega)) ?_
  have run := forG_q (body := fun x_1 (s_ : Unit) => f_w_nested_L1 (iN P) (iN B) x_1) (q := fun x => decide (¬ BadB (gv P) (gv B) x.toNat)) (r := false) ((List.range P.length).map fun k => ((k + 1 : Nat) : Int)) fun x hx => by
    obtain ⟨k, hk, rfl⟩ := List.mem_map.mp hx
    have hk := List.mem_range.mp hk
    have l := hp (k + 1) (by omega) (by omega)
    unfold f_w_nested_L1
    refine bs (atI_iN (by omega) (by omega)) ?_
    rw [go (k + 1) (by omega) (by omega) (gv P (k + 1)) _ (by omega) (by omega)]
    show _ = some (if decide (¬ BadB (gv P) (gv B) (k + 1)) = true then _ else _)
    by_cases y : BadB (gv P) (gv B) (k + 1)
    · rw [if_pos (show ∃ w, 1 ≤ w ∧ anF (gv P) w (gv P (k + 1)) = true ∧ gv B (k + 1) < w ∧ gv B w < gv B (k + 1) from y), if_neg (by rw [decide_eq_false (fun q => q y)]; exact Bool.false_ne_true)]
      rfl
    · rw [if_neg (show ¬ ∃ w, 1 ≤ w ∧ anF (gv P) w (gv P (k + 1)) = true ∧ gv B (k + 1) < w ∧ gv B w < gv B (k + 1) from y), if_pos (decide_eq_true y)]
      rfl
  rw [run]
  by_cases y : ∀ z, 1 ≤ z → z ≤ P.length → ¬ BadB (gv P) (gv B) z
  · rw [decide_eq_true y, if_pos]
    · rfl
    · rw [List.all_eq_true]
      intro x hx
      obtain ⟨k, hk, rfl⟩ := List.mem_map.mp hx
      have hk := List.mem_range.mp hk
      exact decide_eq_true (y (k + 1) (by omega) (by omega))
  · rw [decide_eq_false y, if_neg]
    · rfl
    · intro q
      refine y fun z z1 z2 => ?_
      have := List.all_eq_true.mp q ((z - 1 + 1 : Nat) : Int) (List.mem_map.mpr ⟨z - 1, List.mem_range.mpr (by omega), rfl⟩)
      rw [Nat.sub_add_cancel z1] at this
      exact of_decide_eq_true this
theorem e_turned : f_w_turned (iN P) (iN B) = some true := by
  obtain ⟨r, hr⟩ : ∃ r : Nat → Int, r = fun v => ((chn (gv B) v).length : Int) := ⟨_, rfl⟩
  obtain ⟨R, hR⟩ : ∃ R : List Int, R = (List.range (P.length + 1)).map r := ⟨_, rfl⟩
  have ne : R ≠ [] := by
    intro q
    have := congrArg List.length q
    rw [hR, List.length_map, List.length_range] at this
    cases this
  obtain ⟨M, hM⟩ : ∃ M, M = maxI R := ⟨_, rfl⟩
  have ge : ∀ v, v ≤ P.length → r v ≤ M := fun v hv => by
    rw [hM]
    exact maxI_ge (by rw [hR]; exact List.mem_map.mpr ⟨v, List.mem_range.mpr (by omega), rfl⟩)
  obtain ⟨due, hd⟩ : ∃ due : List Int, due = (List.range P.length).map fun k => M + 1 - r (k + 1) := ⟨_, rfl⟩
  have ld : due.length = P.length := by rw [hd, List.length_map, List.length_range]
  have pos : ∀ x ∈ due, 1 ≤ x := fun x hx => by
    rw [hd] at hx
    obtain ⟨k, hk, rfl⟩ := List.mem_map.mp hx
    have hk := List.mem_range.mp hk
    have := ge (k + 1) (by omega)
    omega
  have dv : ∀ v, 1 ≤ v → v ≤ P.length → gv due v = (M + 1) - r v := fun v h1 h2 => by
    rw [hd, gv_rg h1 h2, Nat.sub_add_cancel h1]
  have mx := maxO1_ok ne
  rw [← hM] at mx
  have rd : f_reads_by (iN P) (iN B) = some R := by
    rw [q_reads_by hp (by omega) hB lB, hR, hr]
  have told : f_heights_of (iN P) (iN B) = some due := by
    unfold f_heights_of
    refine bs (q_is_bases hp (by omega) hB lB) (iF rfl (bs rd (bs mx (bs ?_ rfl))))
    have e : cutD R (some 1) none = (List.range P.length).map fun k => r (k + 1) := by
      rw [cut_1 (by rw [hR, List.length_map, List.length_range]; omega), hR, List.range_succ_eq_map, List.map_cons, List.drop_one, List.tail_cons, List.map_map]
      rfl
    rw [e, hd]
    exact lcC_rg (by omega) fun k hk => rfl
  have lp : forS (fun x_1 (reads_ : List Int) => f_w_turned_L1 (iN P) (iN B) x_1 reads_) ((List.range P.length).map fun k => ((k + 1 : Nat) : Int)) [(0 : Int)] = some R := by
    have run := forS_n (n := P.length) (f := fun k => ((k + 1 : Nat) : Int)) (S := fun k => (List.range (k + 1)).map r) (body := fun x_1 (reads_ : List Int) => f_w_turned_L1 (iN P) (iN B) x_1 reads_) fun k hk => by
      have l := hB.lt (k + 1) (by omega) (by omega)
      unfold f_w_turned_L1
      refine bs (atI_iN (by omega) (by omega)) (bs (atI_rg (by omega)) (bs (appO_ok (by rw [List.length_map, List.length_range]; omega)) ?_))
      congr 1
      rw [List.range_succ (n := k + 1), List.map_append, List.map_singleton]
      congr 2
      rw [hr]
      dsimp only
      rw [chn_eq hB.lt (v := k + 1) (by omega) (by omega), List.length_cons]
      omega
    have e0 : [(0 : Int)] = (List.range (0 + 1)).map r := by
      rw [hr]
      rfl
    rw [e0, hR]
    exact run
  have due_ok : lcC (fun x15 => some true) (fun x15 => (maxO1 R).bind fun t16 => (atI R x15).bind fun t17 => some ((t16 + (1 : Int)) - t17)) ((List.range P.length).map fun k => ((k + 1 : Nat) : Int)) = some due := by
    rw [hd]
    refine lcC_rg (by omega) fun k hk => bs mx (bs (a := r (k + 1)) ?_ rfl)
    rw [hR]
    exact atI_rg (by omega)
  have ln : ∀ l : List Nat, l.length = P.length → (iN l).length ≤ 1000000 := fun l h => by
    rw [len_iN]
    omega
  have lb : (basL (gv P) (gv due) P.length).length = P.length := by
    unfold basL
    rw [List.length_map, List.length_range]
  unfold f_w_turned
  rw [len_iN]
  refine bs rfl (bs (rngO_1 (by omega)) (bs lp (bs (rngO_1 (by omega)) (bs due_ok (bs told (bs (same_row rfl (by omega)) (bs (a := false) (orF1 (bs told (bs (same_row rfl (by omega)) rfl))) (iF rfl (bs (q_bases_by hp (by omega) ld pos) (bs (rngO_1 (by omega)) (bs (e_basL hp few ld) (bs (same_row rfl (ln _ lb)) (bs (a := true) (andT1 ?_) rfl)))))))))))))
  refine bs (same_rowD (by rw [len_iN, len_iN, lb, lB]) (ln _ lB)) (bs (e_nested hp few hB lB) ?_)
  refine congrArg some (decide_eq_true ?_)
  have key := back_iff hp hB (h := gv due) (C := M + 1) fun v h1 h2 => by
    rw [dv v h1 h2, hr]
  rw [decide_eq_decide, key]
  constructor
  · intro q z z1 z2
    have q2 : gv (iN (basL (gv P) (gv due) P.length)) z = gv (iN B) z := by rw [q]
    rw [gv_iN z1 (by omega), gv_iN z1 (by omega)] at q2
    have := bas_gv hp (by omega) ld pos z1 z2
    omega
  · intro q
    congr 1
    rw [l_rg B, lB]
    unfold basL
    exact List.map_congr_left fun k hk => q (k + 1) (by omega) (by have := List.mem_range.mp hk; omega)
end
end K12
namespace K12
open PySem PySem.Spec PyProof.Rows L2 DL
def wordsOf (hs : List Int) : List Str := ("heights" : Str) :: hs.map numT
def lineOf (ws : List Str) : Str := Txt.join (" " : Str) ws
theorem n_tl (n : Nat) : TL.tl (numT (n : Int)) = TL.numL n := TL.tl_num n
theorem dig_ok : ∀ c, c < 10 → Unicode.isDigit (48 + c) = true := by decide +kernel
theorem n_digit (n : Nat) : Txt.isdigit (numT (n : Int)) = true := by
  show (decide ((numT (n : Int)).length > 0) && (numT (n : Int)).cps.all Unicode.isDigit) = true
  rw [Bool.and_eq_true]
  refine ⟨decide_eq_true ?_, ?_⟩
  · rw [TL.len_tl, n_tl]
    exact List.length_pos_iff.mpr (TL.numL_ne n)
  · rw [← Array.all_toList, List.all_eq_true]
    intro c hc
    have hc : c ∈ TL.tl (numT (n : Int)) := hc
    rw [n_tl] at hc
    have := TL.numL_digits n c hc
    obtain ⟨d, rfl⟩ : ∃ d, c = 48 + d := ⟨c - 48, by omega⟩
    exact dig_ok d (by omega)
theorem head_num : ∀ n, 1 ≤ n → ∃ c r, TL.numL n = c :: r ∧ 49 ≤ c ∧ c ≤ 57 := by
  intro n
  induction n using Nat.strongRecOn with
  | ind n ih =>
    intro h1
    by_cases h : n < 10
    · exact ⟨48 + n, [], TL.numL_lt h, by omega, by omega⟩
    · obtain ⟨c, r, e, q⟩ := ih (n / 10) (by omega) (by omega)
      exact ⟨c, r ++ [48 + n % 10], by rw [TL.numL_step (by omega), e]; rfl, q⟩
theorem ne_zero_sign (c : Nat) (h1 : 49 ≤ c) (h2 : c ≤ 57) : bD (p_eq (.str ⟨#[c]⟩) (.str ("0" : Str))) = some false := by
  have h : c = 49 ∨ c = 50 ∨ c = 51 ∨ c = 52 ∨ c = 53 ∨ c = 54 ∨ c = 55 ∨ c = 56 ∨ c = 57 := by omega
  rcases h with rfl | rfl | rfl | rfl | rfl | rfl | rfl | rfl | rfl
  all_goals kernel_rfl
theorem n_len {n : Nat} (h2 : n < 10 ^ 30) : (numT (n : Int)).length ≤ 30 := by
  rw [TL.len_tl, n_tl]
  exact TL.numL_len (by decide) h2
theorem n_read {n : Nat} (h1 : 1 ≤ n) (h2 : n < 10 ^ 30) : f_number_in (numT (n : Int)) = some (n : Int) := by
  have ln := n_len h2
  obtain ⟨c, r, e, c1, c2⟩ := head_num n h1
  unfold f_number_in
  rw [n_digit]
  refine bs (a := false) (orF1 (bs (a := ⟨#[c]⟩) ?_ (bs (ne_zero_sign c c1 c2) rfl))) (iF rfl (bs ?_ rfl))
  · unfold ixSO
    rw [if_pos (show okLen (numT (n : Int)).length = true from decide_eq_true (by omega))]
    show (L2.atI (TL.tl (numT (n : Int))) 0).map _ = _
    rw [n_tl, e]
    show (atI (c :: r) ((0 : Nat) : Int)).map _ = _
    rw [atI_nn]
    rfl
  · unfold intSO
    rw [if_pos (by omega)]
    exact TL.int_num (by have := TL.numL_len (n := n) (k := 30) (by decide) h2; omega)
structure Wd (w : Str) : Prop where
  free : 32 ∉ TL.tl w
  len : w.length ≤ 30
theorem joinL_len : ∀ ps : List (List Nat), (∀ p ∈ ps, p.length ≤ 30) → (TL.joinL [32] ps).length ≤ 31 * ps.length
  | [], _ => Nat.le_refl 0
  | [p], h => by
    have := h p List.mem_cons_self
    show p.length ≤ 31 * 1
    omega
  | p :: q :: r, h => by
    have a := h p List.mem_cons_self
    have b := joinL_len (q :: r) fun x m => h x (List.mem_cons_of_mem _ m)
    show (p ++ ([32] ++ TL.joinL [32] (q :: r))).length ≤ 31 * ((q :: r).length + 1)
    rw [List.length_append, List.length_append, List.length_singleton]
    omega
theorem tl_sp : TL.tl (" " : Str) = [32] := by kernel_rfl
theorem line_len {ws : List Str} (h : ∀ w ∈ ws, Wd w) : (lineOf ws).length ≤ 31 * ws.length := by
  unfold lineOf
  rw [TL.join_eq, TL.len_tl, TL.tl_join, tl_sp]
  have := joinL_len (ws.map TL.tl) fun p hp => by
    obtain ⟨w, hw, rfl⟩ := List.mem_map.mp hp
    have := (h w hw).len
    rw [TL.len_tl] at this
    exact this
  rw [List.length_map] at this
  exact this
theorem line_split {ws : List Str} (h : ∀ w ∈ ws, Wd w) (ne : ws ≠ []) (few : ws.length ≤ 1000) : spltO (lineOf ws) (" " : Str) = some ws := by
  have ll := line_len h
  have e : Txt.split (lineOf ws) (" " : Str) = ws := TL.split_join (s := 32) (S := []) tl_sp (by decide +kernel) ne fun p hp => (h p hp).free
  unfold spltO
  rw [if_pos, e]
  unfold splOk
  rw [Bool.and_eq_true]
  exact ⟨by decide +kernel, decide_eq_true (by omega)⟩
theorem sum_len {ws : List Str} (h : ∀ w ∈ ws, Wd w) : (ws.map (·.length)).sum ≤ 30 * ws.length := by
  induction ws with
  | nil => exact Nat.le_refl 0
  | cons w ws ih =>
    have a := (h w List.mem_cons_self).len
    have b := ih fun x m => h x (List.mem_cons_of_mem _ m)
    rw [List.map_cons, List.sum_cons, List.length_cons]
    omega
theorem line_join {ws : List Str} (h : ∀ w ∈ ws, Wd w) (few : ws.length ≤ 1000) : joinSO (" " : Str) ws = some (lineOf ws) := by
  have a := sum_len h
  have l1 : (" " : Str).length = 1 := by kernel_rfl
  unfold joinSO
  rw [if_pos (show joinOk (" " : Str) ws = true from decide_eq_true (by rw [l1]; omega))]
  rfl
theorem wd_num {h : Int} (h1 : 1 ≤ h) (h2 : h < 10 ^ 30) : Wd (numT h) := by
  obtain ⟨n, rfl⟩ : ∃ n : Nat, h = (n : Int) := ⟨h.toNat, by omega⟩
  exact ⟨by rw [n_tl]; exact TL.numL_free (.inl (by decide)), n_len (by omega)⟩
theorem wd_heights : Wd ("heights" : Str) := ⟨by decide +kernel, by decide +kernel⟩
theorem name_ok : bD (p_ne (PyData.str ("heights" : Str)) (PyData.str ("heights" : Str))) = some false := by kernel_rfl
section
variable {P : List Nat} (few : P.length ≤ 60) {hs : List Int} (hl : hs.length = P.length) (pos : ∀ x ∈ hs, 1 ≤ x ∧ x < 10 ^ 30)
include few hl pos
theorem wd_words : ∀ w ∈ wordsOf hs, Wd w := fun w hw => by
  rcases List.mem_cons.mp hw with e | e
  · rw [e]
    exact wd_heights
  · obtain ⟨x, hx, rfl⟩ := List.mem_map.mp e
    exact wd_num (pos x hx).1 (pos x hx).2
theorem len_words : (wordsOf hs).length = P.length + 1 := by
  unfold wordsOf
  rw [List.length_cons, List.length_map, hl]
theorem str_num {x : Int} (hx : x ∈ hs) : strNO x = some (numT x) := by
  have p := pos x hx
  obtain ⟨n, rfl⟩ : ∃ n : Nat, x = (n : Int) := ⟨x.toNat, by omega⟩
  have l : n.log2 ≤ 100 := log_le (by omega)
  unfold strNO
  rw [if_pos (by rw [Int.natAbs_natCast]; omega)]
theorem strs_ok : lcC (fun x1 => some true) (fun x1 => (strNO x1).bind fun t2 => some t2) hs = some (hs.map numT) := lcC_map (by omega) fun a ha => bs (str_num few hl pos ha) rfl
theorem cat_ok : catO [("heights" : Str)] (hs.map numT) = some (wordsOf hs) := (catO_ok (by rw [List.length_map]; show 1 + _ ≤ _; omega)).trans rfl
theorem q_line : f_heights_line (iN P) hs = some (lineOf (wordsOf hs)) := by
  unfold f_heights_line
  have lw := len_words few hl pos
  exact bs (q_is_heights (by omega) hl fun x hx => (pos x hx).1) (iF rfl (bs (strs_ok few hl pos) (bs (cat_ok few hl pos) (bs (line_join (wd_words few hl pos) (by omega)) rfl))))
theorem q_read : f_read_heights (iN P) (lineOf (wordsOf hs)) = some hs := by
  have lw := len_words few hl pos
  unfold f_read_heights
  have ws : f_words_of (lineOf (wordsOf hs)) ("heights" : Str) = some (wordsOf hs) := by
    unfold f_words_of
    exact iF rfl (bs (line_split (wd_words few hl pos) (by unfold wordsOf; exact List.cons_ne_nil _ _) (by omega)) (bs (a := ("heights" : Str)) (atI_at (k := 0) (by omega)) (bs name_ok (iF rfl rfl))))
  have cut : cutD (wordsOf hs) (some 1) none = hs.map numT := by
    rw [cut_1 (by omega)]
    rfl
  have en : enumL (hs.map numT) = (List.range P.length).map fun (k : Nat) => ((k : Int), numT (gv hs (k + 1))) := by
    rw [enum_rg, List.length_map, hl]
    refine List.map_congr_left fun k hk => ?_
    have hk := List.mem_range.mp hk
    congr 1
    have z := gv_get (l := hs.map numT) (k := k) (by rw [List.length_map]; omega)
    rw [List.getElem?_map, gv_get (by omega)] at z
    exact (Option.some.inj z).symm
  have run := forS_n (n := P.length) (f := fun (k : Nat) => ((k : Int), numT (gv hs (k + 1)))) (S := fun k => (List.range k).map fun j => gv hs (j + 1)) (body := fun x_1 (heights_ : List Int) => f_read_heights_L1 (iN P) (wordsOf hs) x_1 heights_) fun k hk => by
    have p := pos _ (gv_mem (l := hs) (v := k + 1) (by omega) (by omega))
    obtain ⟨m, hm⟩ : ∃ m : Nat, gv hs (k + 1) = (m : Int) := ⟨(gv hs (k + 1)).toNat, by omega⟩
    unfold f_read_heights_L1
    dsimp only
    rw [hm]
    refine bs (n_read (by omega) (by omega)) (iF ?_ (bs (appO_ok (by rw [List.length_map, List.length_range]; omega)) ?_))
    · rw [len_iN, decide_eq_false (by omega), decide_eq_false (by omega)]
      rfl
    · rw [List.range_succ, List.map_append, List.map_singleton, hm]
  have full : (List.range P.length).map (fun j => gv hs (j + 1)) = hs := by
    have z := l_rg hs
    rw [hl] at z
    exact z.symm
  refine bs ws (bs rfl ?_)
  rw [cut, en]
  refine bs run ?_
  rw [full, len_iN]
  exact iF (decide_eq_false (by omega)) rfl
end
end K12
namespace K12
open PySem PySem.Spec PyProof.Rows L2 DL
section
variable {P : List Nat} (hp : Par (gv P) P.length) (few : P.length ≤ 60) {hs : List Int} (hl : hs.length = P.length) (pos : ∀ x ∈ hs, 1 ≤ x)
include hp few hl pos
theorem q_bases {r : List Int} (h : ∀ x ∈ r, 0 ≤ x ∧ x < 9967) (hr : P.length + 1 ≤ r.length) : ∃ B : List Nat, f_w_bases r (iN P) hs = some (iN B) ∧ B.length = P.length ∧ Bas (gv P) (gv B) P.length := by
  obtain ⟨m0, h0, m1, m2⟩ := pick_row h (k := 0) (by omega)
  by_cases c : m0 % 3 = 1
  · obtain ⟨B, eB, lB, hB, gB⟩ := setting hp few hl pos
    refine ⟨B, ?_, lB, hB⟩
    unfold f_w_bases
    rw [len_iN]
    exact bs h0 (iT (decide_eq_true c) (bs (rngO_1 (by omega)) (bs (e_basL hp few hl) (by rw [eB]))))
  · have lp := forS_J (n := P.length) (f := fun k => ((k + 1 : Nat) : Int)) (fun k s => ∃ B : List Nat, s = iN B ∧ B.length = k ∧ ∀ v, 1 ≤ v → v ≤ k → gv B v < v ∧ anF (gv P) (gv B v) v = true) (body := fun x_1 (bases_ : List Int) => f_w_bases_L1 r (iN P) x_1 bases_) (s := []) ⟨[], rfl, rfl, fun v _ _ => by omega⟩ fun k hk s hs => by
      obtain ⟨B, rfl, lB, pB⟩ := hs
      obtain ⟨x, hx, x1, x2⟩ := pick_row h (k := k + 1) (by omega)
      have l := hp (k + 1) (by omega) (by omega)
      obtain ⟨m, hm⟩ : ∃ m : Nat, x % 4 = (m : Int) := ⟨(x % 4).toNat, by omega⟩
      obtain ⟨t, e1, u, rfl, u1, u2⟩ := forS_J (n := m) (f := fun (j : Nat) => (j : Int)) (fun _ (t : Int) => ∃ u : Nat, t = (u : Int) ∧ u < k + 1 ∧ anF (gv P) u (k + 1) = true) (body := fun x_2 (up_ : Int) => f_w_bases_L2 r (iN P) (iN B) ((k + 1 : Nat) : Int) x_2 up_) (s := ((gv P (k + 1) : Nat) : Int)) ⟨_, rfl, l, by rw [an_up hp l (by omega)]; exact an_self hp (by omega)⟩ fun j hj t ht => by
        obtain ⟨u, rfl, u1, u2⟩ := ht
        unfold f_w_bases_L2
        by_cases z : u = 0
        · subst z
          exact iFX rfl ⟨_, rfl, 0, rfl, u1, u2⟩
        · have lu := hp u (by omega) (by omega)
          refine iTX (decide_eq_true (by omega)) (bsX (atI_iN (by omega) (by omega)) ⟨_, rfl, gv P u, rfl, by omega, ?_⟩)
          have a : anF (gv P) (gv P u) u = true := by rw [an_up hp lu (by omega)]; exact an_self hp (by omega)
          exact an_trans hp a _ (by omega) u2
      refine ⟨iN (B ++ [u]), ?_, B ++ [u], rfl, by rw [List.length_append, lB]; rfl, fun v h1 h2 => ?_⟩
      · unfold f_w_bases_L1
        refine bs (atI_iN (by omega) (by omega)) (bs hx ?_)
        rw [hm]
        exact bs (rng1O_n (by omega)) (bs e1 (bs (appO_ok (by rw [len_iN]; omega)) (by rw [iN_app])))
      · by_cases z : v ≤ k
        · rw [gv_app h1 (by omega)]
          exact pB v h1 z
        · have e : v = k + 1 := by omega
          subst e
          rw [gv_end lB]
          exact ⟨u1, u2⟩
    obtain ⟨s, e1, B, rfl, lB, pB⟩ := lp
    refine ⟨B, ?_, lB, ⟨fun v h1 h2 => (pB v h1 h2).1, fun v h1 h2 => (pB v h1 h2).2⟩⟩
    unfold f_w_bases
    rw [len_iN]
    exact bs h0 (iF (decide_eq_false c) (bs rfl (bs (rngO_1 (by omega)) (bs e1 rfl))))
end
end K12
namespace K12
open PySem PySem.Spec PyProof.Rows L2 DL
theorem gate_nx {c : Ft} {f : Fs} {e : Ev} (h : c e = some (false, e)) : s_if c f s_nx e = some (.nx e) := (s_ifF h).trans rfl
theorem gate_no {c : Ft} {g : Fs} {e e1 : Ev} (h : c e = some (true, e1)) : s_if c s_no g e = none := (s_ifT h).trans rfl
theorem xgate_nx {c : Ft} {f : Fsx} {e : Ev} (h : c e = some (false, e)) : x_ifS c f (xS s_nx) e = some (.inl (.nx e)) := (x_ifSF h).trans rfl
theorem xgate_up {c : Ft} {f g : Fsx} {e e1 : Ev} {y : Xc × Ev} (h : c e = some (true, e1)) (k : f e1 = some (.inr y)) : x_ifS c f g e = some (.inr y) := (x_ifST h).trans k
section
variable {γ : PyData → Ev → Option Ev} {S : List Nat} {fb : Fs} {gb : Fsx} {d : PyData} {ds : List PyData} {e e2 e3 : Ev}
theorem forGo_nx (h1 : okS S e = true) (h2 : γ d e = some e2) (h3 : fb e2 = some (.nx e3)) : forGo γ S fb (d :: ds) e = forGo γ S fb ds e3 := by
  rw [forGo, if_pos h1, h2]
  dsimp only
  rw [h3]
theorem forGo_no (h1 : okS S e = true) (h2 : γ d e = some e2) (h3 : fb e2 = none) : forGo γ S fb (d :: ds) e = none := by
  rw [forGo, if_pos h1, h2]
  dsimp only
  rw [h3]
theorem forGoX_nx (h1 : okS S e = true) (h2 : γ d e = some e2) (h3 : gb e2 = some (.inl (.nx e3))) : forGoX γ S gb (d :: ds) e = forGoX γ S gb ds e3 := by
  rw [forGoX, if_pos h1, h2]
  dsimp only
  rw [h3]
theorem forGoX_up {y : Xc × Ev} (h1 : okS S e = true) (h2 : γ d e = some e2) (h3 : gb e2 = some (.inr y)) : forGoX γ S gb (d :: ds) e = some (.inr y) := by
  rw [forGoX, if_pos h1, h2]
  dsimp only
  rw [h3]
end
def it (k : Int) : Xc := ⟨"InvalidText", [("field", .int k), ("line", .int 0)]⟩
section
variable {x : Str} {ws : List Str} {w : Str}
theorem fw_ok (h1 : spltO x (" " : Str) = some ws) (h2 : atI ws 0 = some w) (h3 : bD (p_ne (PyData.str w) (PyData.str ("heights" : Str))) = some false) : F__words_of [.str x, .str "heights"] = some (.im ((ls PyData.str) ws)) := by
  refine k__words_of ?_
  unfold f_words_of
  exact iF rfl (bs h1 (bs h2 (bs h3 (iF rfl rfl))))
theorem fw_no (h1 : spltO x (" " : Str) = some ws) (h2 : atI ws 0 = some w) (h3 : bD (p_ne (PyData.str w) (PyData.str ("heights" : Str))) = some true) : F__words_of [.str x, .str "heights"] = none ∧ FX__words_of [.str x, .str "heights"] = some (.inr (it 0)) := by
  have a : t_not (t_of (x_isi .str (x_var 0))) [im (.str x), im (.str "heights"), none] = some (!true, [im (.str x), im (.str "heights"), none]) := tnot (bang (isX (vI rfl) rfl rfl))
  have b : s_setF 2 (x_splt (x_var 0) (x_c (.str " "))) [im (.str x), im (.str "heights"), none] = some (.nx [im (.str x), im (.str "heights"), im ((ls PyData.str) ws)]) := nx_of (t_setL (f := PyData.str) (v := ws) (w := ws) rfl (spltX (vI rfl) cI h1) rfl rfl)
  have c : t_of (x_bin p_ne (x_ix (x_var 2) (x_c (.int 0))) (x_var 1)) [im (.str x), im (.str "heights"), im ((ls PyData.str) ws)] = some (true, [im (.str x), im (.str "heights"), im ((ls PyData.str) ws)]) := bang (binX (binX (vI rfl) cI rfl rfl (o_ixL (f := PyData.str) (l := ws) h2)) (vI rfl) rfl rfl (bD_ok h3))
  have no : F__words_of [.str x, .str "heights"] = none := runF_no (n := 2) (nl := 1) (g := g__words_of) ((sseq_nx (gate_nx a)).trans ((sseq_nx b).trans (sseq_no (gate_no c))))
  exact ⟨no, orRx_no no (runX_inr (n := 2) (nl := 1) (g := gx__words_of) rfl ((xseq_nx (xgate_nx a)).trans ((xseq_nx (xS_of b)).trans (xseq_inr (xgate_up c rfl)))))⟩
end
def rdT : Ft := (t_or (t_of (x_bin q_ge (x_var 4) (x_cb c_len (a_cons (x_var 0) a_nil)))) (t_of (x_bin q_lt (x_var 6) (x_c (.int 1)))))
def rdB : Fs := (s_seq (s_setF 6 (x_call F__number_in [] (a_cons (x_var 5) a_nil)))
  (s_seq (s_if rdT s_no s_nx) (s_seq (s_drop (x_app 3 (x_var 6))) s_nx)))
def rdX : Fsx := (x_seq (xS (s_setF 6 (x_call F__number_in [] (a_cons (x_var 5) a_nil))))
  (x_seq (x_ifS rdT
  (x_raise "InvalidText" ["line", "field"] (a_cons (x_c (.int 0)) (a_cons (x_bin p_add (x_var 4) (x_c (.int 1))) a_nil)))
  (xS s_nx))
  (x_seq (xS (s_drop (x_app 3 (x_var 6))))
  (xS s_nx))))
section
variable {t : List Int} {x : Str} {ws : List Str}
def rdE (t : List Int) (x : Str) (ws : List Str) (acc : List Int) (a b c : Option PyData) : Ev := [im ((tp PyData.int) t), im (PyData.str x), im ((ls PyData.str) ws), ac (acc.map PyData.int), imo a, imo b, imo c]
theorem rd_set {acc : List Int} {k v : Int} {w : Str} {o : Option PyData} (h : f_number_in w = some v) : s_setF 6 (x_call F__number_in [] (a_cons (x_var 5) a_nil)) (rdE t x ws acc (some (.int k)) (some (.str w)) o) = some (.nx (rdE t x ws acc (some (.int k)) (some (.str w)) (some (.int v)))) :=
  nx_of (t_set (f := PyData.int) (v := v) (w := v) rfl (callI (aI (vI rfl) a0) rfl (k__number_in h)) rfl rfl)
theorem rd_test {acc : List Int} {k v : Int} {w : Str} : rdT (rdE t x ws acc (some (.int k)) (some (.str w)) (some (.int v))) = some (decide ((t.length : Int) ≤ k) || decide (v < 1), rdE t x ws acc (some (.int k)) (some (.str w)) (some (.int v))) :=
  torXt (bang (binX (vI rfl) (cbX (dX (vI rfl) d0 rfl) (o_lenT (f := PyData.int) (l := t))) rfl rfl e_qge)) (bang (binX (vI rfl) cI rfl rfl e_qlt))
theorem rd_app {acc : List Int} {k v : Int} {w : Str} (hl : acc.length + 1 ≤ 16777216) : s_drop (x_app 3 (x_var 6)) (rdE t x ws acc (some (.int k)) (some (.str w)) (some (.int v))) = some (.nx (rdE t x ws (acc ++ [v]) (some (.int k)) (some (.str w)) (some (.int v)))) :=
  nx_of (t_app (f := PyData.int) (l := acc) (a := v) (appO_ok hl) ⟨_, (vI rfl), rfl⟩ rfl rfl rfl)
theorem rd_nx {acc : List Int} {k v : Int} {w : Str} {o : Option PyData} (hl : acc.length + 1 ≤ 16777216) (h : f_number_in w = some v) (h1 : k < (t.length : Int)) (h2 : 1 ≤ v) :
    rdB (rdE t x ws acc (some (.int k)) (some (.str w)) o) = some (.nx (rdE t x ws (acc ++ [v]) (some (.int k)) (some (.str w)) (some (.int v)))) ∧
    rdX (rdE t x ws acc (some (.int k)) (some (.str w)) o) = some (.inl (.nx (rdE t x ws (acc ++ [v]) (some (.int k)) (some (.str w)) (some (.int v))))) := by
  have tt : rdT (rdE t x ws acc (some (.int k)) (some (.str w)) (some (.int v))) = some (false, rdE t x ws acc (some (.int k)) (some (.str w)) (some (.int v))) := by
    rw [rd_test, decide_eq_false (by omega), decide_eq_false (by omega)]
    rfl
  exact ⟨(sseq_nx (rd_set h)).trans ((sseq_nx (gate_nx tt)).trans ((sseq_nx (rd_app hl)).trans rfl)), (xseq_nx (xS_of (rd_set h))).trans ((xseq_nx (xgate_nx tt)).trans ((xseq_nx (xS_of (rd_app hl))).trans rfl))⟩
theorem rd_no {acc : List Int} {k v : Int} {w : Str} {o : Option PyData} (h : f_number_in w = some v) (h1 : (t.length : Int) ≤ k ∨ v < 1) :
    rdB (rdE t x ws acc (some (.int k)) (some (.str w)) o) = none ∧ ∃ e, rdX (rdE t x ws acc (some (.int k)) (some (.str w)) o) = some (.inr (it (k + 1), e)) := by
  have tt : rdT (rdE t x ws acc (some (.int k)) (some (.str w)) (some (.int v))) = some (true, rdE t x ws acc (some (.int k)) (some (.str w)) (some (.int v))) := by
    rw [rd_test]
    congr 2
    rw [Bool.or_eq_true, decide_eq_true_eq, decide_eq_true_eq]
    exact h1
  exact ⟨(sseq_nx (rd_set h)).trans (sseq_no (gate_no tt)), _, (xseq_nx (xS_of (rd_set h))).trans (xseq_inr (xgate_up tt rfl))⟩
end
section
variable {t : List Int} {x : Str} {ws : List Str}
/-- words that are read, from place k on -/
def goodW (t : List Int) : Nat → List Str → List Int → Prop
  | _, [], [] => True
  | k, w :: r, v :: vs => f_number_in w = some v ∧ (k : Int) < (t.length : Int) ∧ 1 ≤ v ∧ goodW t (k + 1) r vs
  | _, _, _ => False
def encW (k : Nat) : List Str → List PyData
  | [] => []
  | w :: r => p2 PyData.int PyData.str ((k : Int), w) :: encW (k + 1) r
theorem rd_pre : ∀ (pre : List Str) (vs : List Int) (k : Nat) (acc : List Int) (a b c : Option PyData) (post : List PyData), goodW t k pre vs → acc.length + pre.length ≤ 2000 → ∃ a' b' c',
    forGo (g_tup [4, 5]) [4, 5] rdB (encW k pre ++ post) (rdE t x ws acc a b c) = forGo (g_tup [4, 5]) [4, 5] rdB post (rdE t x ws (acc ++ vs) a' b' c') ∧
    forGoX (g_tup [4, 5]) [4, 5] rdX (encW k pre ++ post) (rdE t x ws acc a b c) = forGoX (g_tup [4, 5]) [4, 5] rdX post (rdE t x ws (acc ++ vs) a' b' c')
  | [], [], k, acc, a, b, c, post, _, _ => ⟨a, b, c, by rw [List.append_nil]; exact ⟨rfl, rfl⟩⟩
  | w :: r, v :: vs, k, acc, a, b, c, post, h, hl => by
    obtain ⟨h1, h2, h3, h4⟩ := h
    rw [List.length_cons] at hl
    obtain ⟨n1, n2⟩ := rd_nx (t := t) (x := x) (ws := ws) (acc := acc) (k := (k : Int)) (w := w) (o := c) (by omega) h1 h2 h3
    obtain ⟨a', b', c', e1, e2⟩ := rd_pre r vs (k + 1) (acc ++ [v]) (some (.int k)) (some (.str w)) (some (.int v)) post h4 (by rw [List.length_append, List.length_singleton]; omega)
    refine ⟨a', b', c', ?_, ?_⟩
    · show forGo _ _ _ (p2 PyData.int PyData.str ((k : Int), w) :: (encW (k + 1) r ++ post)) _ = _
      rw [forGo_nx rfl rfl n1, e1, List.append_assoc]
      rfl
    · show forGoX _ _ _ (p2 PyData.int PyData.str ((k : Int), w) :: (encW (k + 1) r ++ post)) _ = _
      rw [forGoX_nx rfl rfl n2, e2, List.append_assoc]
      rfl
  | [], _ :: _, _, _, _, _, _, _, h, _ => h.elim
  | _ :: _, [], _, _, _, _, _, _, h, _ => h.elim
theorem enc_app : ∀ (l m : List Str) (k : Nat), encW k (l ++ m) = encW k l ++ encW (k + l.length) m
  | [], m, k => rfl
  | w :: r, m, k => by
    show p2 PyData.int PyData.str ((k : Int), w) :: encW (k + 1) (r ++ m) = _ :: (encW (k + 1) r ++ _)
    rw [enc_app r m (k + 1), List.length_cons, show k + 1 + r.length = k + (r.length + 1) by omega]
end
section
variable {t : List Int} {x : Str} {ws : List Str}
theorem enc_L (l : List Str) : (enumL l).map (p2 PyData.int PyData.str) = encW 0 l := by
  have go : ∀ (l : List Str) (k : Nat), ((List.range l.length).zipWith (fun (i : Nat) a => (((k + i : Nat) : Int), a)) l).map (p2 PyData.int PyData.str) = encW k l := by
    intro l
    induction l with
    | nil => intro k; rfl
    | cons w r ih =>
      intro k
      rw [List.length_cons, List.range_succ_eq_map, List.zipWith_cons_cons, List.map_cons, List.zipWith_map_left]
      show _ :: _ = p2 PyData.int PyData.str ((k : Int), w) :: encW (k + 1) r
      rw [← ih (k + 1)]
      congr 2
      congr 1
      funext i a
      congr 1
      show ((k + (i + 1) : Nat) : Int) = ((k + 1 + i : Nat) : Int)
      omega
  have z := go l 0
  rw [← z]
  unfold enumL
  congr 2
  funext i a
  rw [Nat.zero_add]
theorem rd_items {acc : List Int} : i_enum (x_sl (x_var 2) (o_at (x_c (.int 1))) o_no) (rdE t x ws acc none none none) = some (encW 0 (cutD ws (some 1) none), rdE t x ws acc none none none) := by
  rw [← enc_L]
  exact enumI (f := PyData.str) (l := (cutD ws (some (1 : Int)) none)) (seqAX (f := PyData.str) (l := (cutD ws (some (1 : Int)) none)) (cutLX (f := PyData.str) (l := ws) (vI rfl) (oA cI) oN rfl))
theorem rd_heads (h : F__words_of [.str x, .str "heights"] = some (.im ((ls PyData.str) ws))) :
    s_setF 2 (x_call F__words_of [] (a_cons (x_var 1) (a_cons (x_c (.str "heights")) a_nil))) [im ((tp PyData.int) t), im (.str x), none, none, none, none, none] = some (.nx [im ((tp PyData.int) t), im (.str x), im ((ls PyData.str) ws), none, none, none, none]) ∧
    x_set 2 (x_callX FX__words_of [] (a_cons (x_var 1) (a_cons (x_c (.str "heights")) a_nil))) [im ((tp PyData.int) t), im (.str x), none, none, none, none, none] = some (.inl (.nx [im ((tp PyData.int) t), im (.str x), im ((ls PyData.str) ws), none, none, none, none])) := by
  have arg : argsI (a_cons (x_var 1) (a_cons (x_c (.str "heights")) a_nil)) [im ((tp PyData.int) t), im (.str x), none, none, none, none, none] = some ([.str x, .str "heights"], [im ((tp PyData.int) t), im (.str x), none, none, none, none, none]) := rfl
  refine ⟨nx_of (t_set (f := (ls PyData.str)) (v := ws) (w := ws) rfl (callI (aI (vI rfl) (aI cI a0)) rfl h) rfl rfl), xset_inl (callX_inl arg (orRx_of h)) rfl⟩
theorem rd_list : s_set 3 (x_lst a_nil) [im ((tp PyData.int) t), im (.str x), im ((ls PyData.str) ws), none, none, none, none] = some (.nx (rdE t x ws [] none none none)) :=
  nx_of (t_setA (f := PyData.int) (v := []) (w := []) rfl (lstX a0 (Nat.le_of_ble_eq_true rfl)) rfl rfl)
/-- a word that is no number, or one too many -/
theorem rd_odd {pre post : List Str} {w : Str} {vs : List Int} {v : Int} (h : F__words_of [.str x, .str "heights"] = some (.im ((ls PyData.str) ws))) (cut : cutD ws (some 1) none = pre ++ w :: post) (g : goodW t 0 pre vs) (few : pre.length ≤ 1000)
    (hw : f_number_in w = some v) (hb : (t.length : Int) ≤ (pre.length : Int) ∨ v < 1) : FX_read_heights [(tp PyData.int) t, .str x] = some (.inr (it ((pre.length : Int) + 1))) := by
  obtain ⟨a, b, c, e1, e2⟩ := rd_pre (x := x) (ws := ws) pre vs 0 [] none none none (encW pre.length (w :: post)) g (by show 0 + _ ≤ _; omega)
  have en : encW 0 (pre ++ w :: post) = encW 0 pre ++ encW pre.length (w :: post) := by rw [enc_app, Nat.zero_add]
  obtain ⟨n1, e, n2⟩ := rd_no (t := t) (x := x) (ws := ws) (acc := [] ++ vs) (k := (pre.length : Int)) (o := c) hw hb
  have l1 : forGo (g_tup [4, 5]) [4, 5] rdB (encW 0 (pre ++ w :: post)) (rdE t x ws [] none none none) = none := by
    rw [en, e1]
    exact forGo_no rfl rfl n1
  have l2 : forGoX (g_tup [4, 5]) [4, 5] rdX (encW 0 (pre ++ w :: post)) (rdE t x ws [] none none none) = some (.inr (it ((pre.length : Int) + 1), e)) := by
    rw [en, e2]
    exact forGoX_up rfl rfl n2
  rw [← cut] at l1 l2
  obtain ⟨s1, s2⟩ := rd_heads (t := t) h
  have no : F_read_heights [(tp PyData.int) t, .str x] = none := runF_no (n := 2) (nl := 5) (g := g_read_heights) ((sseq_nx s1).trans ((sseq_nx rd_list).trans (sseq_no ((s_for_of (fb := rdB) rd_items).trans l1))))
  exact orRx_no no (runX_inr (n := 2) (nl := 5) (g := gx_read_heights) rfl ((xseq_nx s2).trans ((xseq_nx (xS_of rd_list)).trans (xseq_inr ((x_for_of (fb := rdX) rd_items).trans l2)))))
/-- too few words -/
theorem rd_few {pre : List Str} {vs : List Int} (h : F__words_of [.str x, .str "heights"] = some (.im ((ls PyData.str) ws))) (cut : cutD ws (some 1) none = pre) (g : goodW t 0 pre vs) (few : pre.length ≤ 1000)
    (hv : vs.length < t.length) : FX_read_heights [(tp PyData.int) t, .str x] = some (.inr (it (ws.length : Int))) := by
  obtain ⟨a, b, c, e1, e2⟩ := rd_pre (x := x) (ws := ws) pre vs 0 [] none none none [] g (by show 0 + _ ≤ _; omega)
  rw [List.append_nil] at e1 e2
  have l1 : forGo (g_tup [4, 5]) [4, 5] rdB (encW 0 pre) (rdE t x ws [] none none none) = some (.nx (rdE t x ws ([] ++ vs) a b c)) := e1
  have l2 : forGoX (g_tup [4, 5]) [4, 5] rdX (encW 0 pre) (rdE t x ws [] none none none) = some (.inl (.nx (rdE t x ws ([] ++ vs) a b c))) := e2
  rw [← cut] at l1 l2
  obtain ⟨s1, s2⟩ := rd_heads (t := t) h
  have tt : t_of (x_bin q_lt (x_cb c_len (a_cons (x_var 3) a_nil)) (x_cb c_len (a_cons (x_var 0) a_nil))) (rdE t x ws ([] ++ vs) a b c) = some (decide ((([] ++ vs).length : Int) < (t.length : Int)), rdE t x ws ([] ++ vs) a b c) :=
    bang (binX (cbX (dX (vB rfl) d0 rfl) (o_lenL (f := PyData.int) (l := ([] ++ vs)))) (cbX (dX (vI rfl) d0 rfl) (o_lenT (f := PyData.int) (l := t))) rfl rfl e_qlt)
  rw [List.nil_append, decide_eq_true (by omega : (vs.length : Int) < (t.length : Int))] at tt
  rw [List.nil_append] at l1 l2
  have no : F_read_heights [(tp PyData.int) t, .str x] = none := runF_no (n := 2) (nl := 5) (g := g_read_heights) ((sseq_nx s1).trans ((sseq_nx rd_list).trans ((sseq_nx ((s_for_of (fb := rdB) rd_items).trans l1)).trans (sseq_no (gate_no tt)))))
  have ln : x_raise "InvalidText" ["line", "field"] (a_cons (x_c (.int 0)) (a_cons (x_cb c_len (a_cons (x_var 2) a_nil)) a_nil)) (rdE t x ws vs a b c) = some (.inr (it (ws.length : Int), rdE t x ws vs a b c)) := by
    have e : argsI (a_cons (x_c (.int 0)) (a_cons (x_cb c_len (a_cons (x_var 2) a_nil)) a_nil)) (rdE t x ws vs a b c) = some ([.int 0, .int (ws.length : Int)], rdE t x ws vs a b c) := aI cI (aI (cbX (dX (vI rfl) d0 rfl) (o_lenL (f := PyData.str) (l := ws))) a0)
    unfold x_raise
    rw [e]
    rfl
  exact orRx_no no (runX_inr (n := 2) (nl := 5) (g := gx_read_heights) rfl ((xseq_nx s2).trans ((xseq_nx (xS_of rd_list)).trans ((xseq_nx ((x_for_of (fb := rdX) rd_items).trans l2)).trans (xseq_inr (xgate_up tt ln))))))
/-- another first word -/
theorem rd_first (h : F__words_of [.str x, .str "heights"] = none ∧ FX__words_of [.str x, .str "heights"] = some (.inr (it 0))) : FX_read_heights [(tp PyData.int) t, .str x] = some (.inr (it 0)) := by
  obtain ⟨h1, h2⟩ := h
  have arg : argsI (a_cons (x_var 1) (a_cons (x_c (.str "heights")) a_nil)) (env0 [(tp PyData.int) t, .str x] 5) = some ([.str x, .str "heights"], env0 [(tp PyData.int) t, .str x] 5) := rfl
  have no : F_read_heights [(tp PyData.int) t, .str x] = none := runF_no (n := 2) (nl := 5) (g := g_read_heights) (sseq_no (setF_no (call_no arg h1)))
  exact orRx_no no (runX_inr (n := 2) (nl := 5) (g := gx_read_heights) rfl (xseq_inr (xset_inr (callX_inr arg h2))))
end
end K12
namespace K12
open PySem PySem.Spec PyProof.Rows L2 DL
def Cp (w : Str) : Prop := ∀ c ∈ TL.tl w, c < 0x110000
theorem cp_ok {w : Str} (h : Cp w) : PyData.strOk w = true := by
  unfold PyData.strOk
  rw [Array.all_eq_true']
  exact fun c m => decide_eq_true (h c (Array.mem_toList_iff.mpr m))
theorem cp_num {n : Nat} : Cp (numT (n : Int)) := fun c hc => by
  rw [n_tl] at hc
  have := TL.numL_digits n c hc
  omega
theorem join_mem {c : Nat} : ∀ ps : List (List Nat), c ∈ TL.joinL [32] ps → c = 32 ∨ ∃ p ∈ ps, c ∈ p
  | [], h => by cases h
  | [p], h => .inr ⟨p, List.mem_singleton.mpr rfl, h⟩
  | p :: q :: r, h => by
    have h : c ∈ p ++ ([32] ++ TL.joinL [32] (q :: r)) := h
    rcases List.mem_append.mp h with h | h
    · exact .inr ⟨p, List.mem_cons_self, h⟩
    · rcases List.mem_append.mp h with h | h
      · exact .inl (List.mem_singleton.mp h)
      · rcases join_mem (q :: r) h with e | ⟨x, hx, e⟩
        · exact .inl e
        · exact .inr ⟨x, List.mem_cons_of_mem _ hx, e⟩
theorem cp_line {ws : List Str} (h : ∀ w ∈ ws, Cp w) : Cp (lineOf ws) := fun c hc => by
  unfold lineOf at hc
  rw [TL.join_eq, TL.tl_join, tl_sp] at hc
  rcases join_mem _ hc with e | ⟨p, hp, e⟩
  · omega
  · obtain ⟨w, hw, rfl⟩ := List.mem_map.mp hp
    exact h w hw c e
theorem eq_self_str {z : Str} (h : PyData.strOk z = true) : bD (p_eq (.str z) (.str z)) = some true := by
  have sh : SeqAt.shaped (.str z) = true := by
    unfold SeqAt.shaped
    rw [PyData.canLay0, h, PyData.depth]
    rfl
  unfold p_eq
  rw [sh, PyData.eqv]
  simp [bD]
theorem same_two {z : Str} (h : Cp z) : f_w_same ((p2 PyData.str PyData.str) (z, z)) ((p2 PyData.str PyData.str) (z, z)) = some true :=
  same_d ⟨by show 2 ≤ _; omega, fun x hx => by
    have e : x = .str z := by
      rcases List.mem_cons.mp hx with e | hx
      · exact e
      · exact List.mem_singleton.mp hx
    rw [e]
    exact eq_self_str (cp_ok h)⟩
theorem same_ok {a b : PyData} (h : f_w_same a b = some true) : F__law_same [a, b] = some (.im (.bool true)) := k__law_same h
def fldG : Str → Addr → Addr → Fs := fun k a dd =>
  (s_seq (s_if (t_and (t_of (x_isE (tabF xtab "TextError") k a dd 2)) (t_and (t_of (x_isE (tabF xtab "MarkError") k a dd 2)) (t_of (x_call F__law_same [] (a_cons (x_fld xok k a dd 2 "line") (a_cons (x_c (.int 0)) a_nil))))))
  (s_ret (x_fld xok k a dd 2 "field"))
  s_nx)
  (s_seq (s_ret (x_c (.str "family")))
  s_nx))
theorem field_it {d : PyData} {x : Str} {j : Int} (h : FX_read_heights [d, .str x] = some (.inr (it j))) : f_w_field d x = some (.int j) := by
  refine chI_eq (fun _ _ h => h) ?_
  have b : x_drop (x_callX FX_read_heights [] (a_cons (x_var 0) (a_cons (x_var 1) a_nil))) [im d, im (.str x), none] = some (.inr (it j, [im d, im (.str x), none])) := xdrop_inr (callX_inr (e1 := [im d, im (.str x), none]) (ds := [d, .str x]) rfl h)
  have t := x_try_yes (sub := tabF xtab "InvalidText") (i := 2) (g := fldG) b (by rfl) rfl (fl := .rt (.im (.int j)) [im d, im (.str x), none]) (fun a dd fs => ⟨.rt (.im (.int j)) [im d, im (.str x), some (.ob (.xc a dd fs [("field", .int j), ("line", .int 0)]))], ?_, rfl⟩)
  · exact runF_rt (n := 2) (nl := 1) (g := g__law_field) (e := [im d, im (.str x), none]) rfl (sseq_rt (noX_of t))
  · obtain ⟨E, hE⟩ : ∃ E : Ev, E = [im d, im (.str x), some (.ob (.xc a dd fs [("field", .int j), ("line", .int 0)]))] := ⟨_, rfl⟩
    have f1 : x_fld xok "InvalidText" a dd 2 "line" E = some (.im (.int 0), E) := by
      subst hE
      unfold x_fld
      rw [if_pos (by rfl)]
      show (if a = a ∧ dd = dd then _ else _) = _
      rw [if_pos ⟨rfl, rfl⟩]
      rfl
    have f2 : x_fld xok "InvalidText" a dd 2 "field" E = some (.im (.int j), E) := by
      subst hE
      unfold x_fld
      rw [if_pos (by rfl)]
      show (if a = a ∧ dd = dd then _ else _) = _
      rw [if_pos ⟨rfl, rfl⟩]
      rfl
    have f3 : x_isE (tabF xtab "TextError") "InvalidText" a dd 2 E = some (.im (.bool true), E) := by
      subst hE
      unfold x_isE
      show (if a = a ∧ dd = dd then _ else _) = _
      rw [if_pos ⟨rfl, rfl⟩]
      rfl
    have f4 : x_isE (tabF xtab "MarkError") "InvalidText" a dd 2 E = some (.im (.bool true), E) := by
      subst hE
      unfold x_isE
      show (if a = a ∧ dd = dd then _ else _) = _
      rw [if_pos ⟨rfl, rfl⟩]
      rfl
    show fldG "InvalidText" a dd [im d, im (.str x), some (.ob (.xc a dd fs [("field", .int j), ("line", .int 0)]))] = _
    rw [← hE]
    have c : t_and (t_of (x_isE (tabF xtab "TextError") "InvalidText" a dd 2)) (t_and (t_of (x_isE (tabF xtab "MarkError") "InvalidText" a dd 2)) (t_of (x_call F__law_same [] (a_cons (x_fld xok "InvalidText" a dd 2 "line") (a_cons (x_c (.int 0)) a_nil))))) E = some (true, E) :=
      tandT (bang f3) (tandT (bang f4) (bang (callI (dds := []) (aI f1 (aI cI a0)) rfl (same_ok (same_int rfl)))))
    exact sseq_rt ((s_ifT c).trans (ret f2))
def odds : List Str := ["0", "-1", "01", "x", "", "+2", "2.", "1_0", "2\n", "True", "00"]
def heads : List Str := ["height", "", "Heights", "heights:", "bounds", "heights\n"]
instance : DecidablePred Wd := fun w => decidable_of_iff (32 ∉ TL.tl w ∧ w.length ≤ 30) ⟨fun h => ⟨h.1, h.2⟩, fun h => ⟨h.free, h.len⟩⟩
theorem odd_wd : ∀ w ∈ odds, Wd w := by decide +kernel
theorem head_wd : ∀ w ∈ heads, Wd w := by decide +kernel
theorem odd_num : ∀ w ∈ odds, f_number_in w = some 0 := fun w hw => by
  unfold odds at hw
  repeat (rcases List.mem_cons.mp hw with e | hw; (rw [e]; kernel_rfl))
  cases hw
theorem head_ne : ∀ w ∈ heads, bD (p_ne (PyData.str w) (PyData.str ("heights" : Str))) = some true := fun w hw => by
  unfold heads at hw
  repeat (rcases List.mem_cons.mp hw with e | hw; (rw [e]; kernel_rfl))
  cases hw
theorem good_map {t : List Int} : ∀ (l : List Int) (k : Nat), k + l.length ≤ t.length → (∀ x ∈ l, 1 ≤ x ∧ x < 10 ^ 30) → goodW t k (l.map numT) l
  | [], _, _, _ => True.intro
  | x :: l, k, h, p => by
    rw [List.length_cons] at h
    have px := p x List.mem_cons_self
    obtain ⟨n, rfl⟩ : ∃ n : Nat, x = (n : Int) := ⟨x.toNat, by omega⟩
    exact ⟨n_read (by omega) (by omega), by omega, px.1, good_map l (k + 1) (by omega) fun y m => p y (List.mem_cons_of_mem _ m)⟩
section
variable {P : List Nat} (few : P.length ≤ 60) {hs : List Int} (hl : hs.length = P.length) (pos : ∀ x ∈ hs, 1 ≤ x ∧ x < 10 ^ 30)
include few hl pos
/-- a first word that is another one -/
theorem fld_head {w : Str} {r : List Str} (hw : Wd w) (ne : bD (p_ne (PyData.str w) (PyData.str ("heights" : Str))) = some true) (hr : ∀ y ∈ r, Wd y) (lr : r.length ≤ 100) : f_w_field (tp PyData.int (iN P)) (lineOf (w :: r)) = some (.int 0) := by
  have al : ∀ y ∈ w :: r, Wd y := fun y hy => by
    rcases List.mem_cons.mp hy with e | e
    · rw [e]; exact hw
    · exact hr y e
  exact field_it (rd_first (fw_no (line_split al (List.cons_ne_nil _ _) (by rw [List.length_cons]; omega)) (atI_at (k := 0) (by rw [List.length_cons]; omega)) ne))
theorem heads_ok {r : List Str} (hr : ∀ y ∈ r, Wd y) (lr : r.length ≤ 500) : F__words_of [.str (lineOf (("heights" : Str) :: r)), .str "heights"] = some (.im ((ls PyData.str) (("heights" : Str) :: r))) := by
  have al : ∀ y ∈ ("heights" : Str) :: r, Wd y := fun y hy => by
    rcases List.mem_cons.mp hy with e | e
    · rw [e]; exact wd_heights
    · exact hr y e
  exact fw_ok (line_split al (List.cons_ne_nil _ _) (by rw [List.length_cons]; omega)) (atI_at (k := 0) (by rw [List.length_cons]; omega)) name_ok
theorem wd_nums : ∀ y ∈ hs.map numT, Wd y := fun y hy => by
  obtain ⟨x, hx, rfl⟩ := List.mem_map.mp hy
  exact wd_num (pos x hx).1 (pos x hx).2
/-- a word behind k heights -/
theorem fld_word {k : Nat} {w : Str} {v : Int} {r : List Str} (hk : k ≤ P.length) (hw : Wd w) (nw : f_number_in w = some v) (hb : P.length ≤ k ∨ v < 1) (hr : ∀ y ∈ r, Wd y) (lr : r.length ≤ 80) :
    f_w_field (tp PyData.int (iN P)) (lineOf (("heights" : Str) :: ((hs.take k).map numT ++ w :: r))) = some (.int ((k + 1 : Nat) : Int)) := by
  have lk : ((hs.take k).map numT).length = k := by rw [List.length_map, List.length_take]; omega
  have wn := wd_nums few hl pos
  have al : ∀ y ∈ (hs.take k).map numT ++ w :: r, Wd y := fun y hy => by
    rcases List.mem_append.mp hy with e | e
    · rw [List.map_take] at e
      exact wn y (List.mem_of_mem_take e)
    · rcases List.mem_cons.mp e with e | e
      · rw [e]; exact hw
      · exact hr y e
  have ll : ((hs.take k).map numT ++ w :: r).length ≤ 150 := by rw [List.length_append, lk, List.length_cons]; omega
  have h1 := heads_ok few hl pos al (by
    rw [List.length_append, lk, List.length_cons]
    omega)
  have g := good_map (t := iN P) (hs.take k) 0 (by rw [List.length_take, len_iN]; omega) fun x m => pos x (List.mem_of_mem_take m)
  have z := rd_odd (t := iN P) (pre := (hs.take k).map numT) (post := r) (w := w) (vs := hs.take k) (v := v) h1 (by rw [cut_1 (by rw [List.length_cons]; omega)]; rfl) g (by rw [lk]; omega) nw (by rw [lk, len_iN]; omega)
  rw [lk] at z
  exact field_it z
/-- k heights and no more -/
theorem fld_few {k : Nat} (hk : k < P.length) : f_w_field (tp PyData.int (iN P)) (lineOf (("heights" : Str) :: (hs.take k).map numT)) = some (.int ((k + 1 : Nat) : Int)) := by
  have lk : ((hs.take k).map numT).length = k := by rw [List.length_map, List.length_take]; omega
  have wn := wd_nums few hl pos
  have al : ∀ y ∈ (hs.take k).map numT, Wd y := fun y e => by
    rw [List.map_take] at e
    exact wn y (List.mem_of_mem_take e)
  have h1 := heads_ok few hl pos al (by rw [lk]; omega)
  have g := good_map (t := iN P) (hs.take k) 0 (by rw [List.length_take, len_iN]; omega) fun x m => pos x (List.mem_of_mem_take m)
  have z := rd_few (t := iN P) (pre := (hs.take k).map numT) (vs := hs.take k) h1 (by rw [cut_1 (by rw [List.length_cons]; omega)]; rfl) g (by rw [lk]; omega) (by rw [List.length_take, len_iN]; omega)
  rw [List.length_cons, lk] at z
  exact field_it z
theorem line_more : adSO (lineOf (wordsOf hs)) (" 1" : Str) = some (lineOf (wordsOf hs ++ [("1" : Str)])) := by
  have ww := wd_words few hl pos
  have lw := len_words few hl pos
  have ll := line_len ww
  unfold adSO
  have l2 : (" 1" : Str).length = 2 := by kernel_rfl
  rw [if_pos (show okLen _ = true from decide_eq_true (by rw [l2]; omega))]
  congr 1
  refine TL.ext_tl ?_
  rw [TL.tl_append]
  unfold lineOf
  rw [TL.join_eq, TL.join_eq, TL.tl_join, TL.tl_join, tl_sp, List.map_append]
  have t1 : TL.tl (" 1" : Str) = [32, 49] := by kernel_rfl
  have t2 : [("1" : Str)].map TL.tl = [[49]] := by kernel_rfl
  rw [t1, t2]
  have go : ∀ l : List (List Nat), l ≠ [] → TL.joinL [32] l ++ [32, 49] = TL.joinL [32] (l ++ [[49]]) := by
    intro l
    induction l with
    | nil => intro h; exact absurd rfl h
    | cons a l ih =>
      intro _
      cases l with
      | nil => rfl
      | cons b l =>
        show (a ++ ([32] ++ TL.joinL [32] (b :: l))) ++ [32, 49] = a ++ ([32] ++ TL.joinL [32] ((b :: l) ++ [[49]]))
        rw [← ih (List.cons_ne_nil _ _), List.append_assoc, List.append_assoc]
  exact go _ (by unfold wordsOf; exact List.cons_ne_nil _ _)
end
theorem cut_any {α : Type} {l : List α} {v : Nat} : cutD l (some (v : Int)) none = l.drop v := by
  by_cases h : v ≤ l.length
  · exact cut_from h
  · unfold DL.cutD
    rw [HT.sIx_nat, HT.sIx_none, show min v l.length = l.length by omega, List.drop_of_length_le (Nat.le_refl _), List.drop_of_length_le (by omega), List.take_nil]
section
variable {P : List Nat} (few : P.length ≤ 60) {hs : List Int} (hl : hs.length = P.length) (pos : ∀ x ∈ hs, 1 ≤ x ∧ x < 10 ^ 30)
include few hl pos
theorem e_join {r : List Int} (h : ∀ x ∈ r, 0 ≤ x ∧ x < 9967) (hr : 4 ≤ r.length) {w : Str} {p : Nat} (hp : p ≤ P.length + 1) (hw : Wd w)
    (hf : f_w_field (tp PyData.int (iN P)) (lineOf ((wordsOf hs).take p ++ [w] ++ (wordsOf hs).drop (p + 1))) = some (.int (p : Int))) : f_w_lines_J1 (iN P) r (wordsOf hs) (lineOf (wordsOf hs)) (p : Int) w = some true := by
  have ww := wd_words few hl pos
  have lw := len_words few hl pos
  obtain ⟨m2, h2, m2a, m2b⟩ := pick_row h (k := 2) (by omega)
  obtain ⟨s, hs2⟩ : ∃ s : Nat, m2 % ((wordsOf hs).length : Int) = (s : Int) := ⟨(m2 % ((wordsOf hs).length : Int)).toNat, by have := Int.emod_nonneg m2 (b := ((wordsOf hs).length : Int)) (by omega); omega⟩
  have sl : s < P.length + 1 := by
    have := Int.emod_lt_of_pos m2 (b := ((wordsOf hs).length : Int)) (by omega)
    omega
  have lt : ((wordsOf hs).take p).length ≤ P.length + 1 := by rw [List.length_take]; omega
  have ld : ((wordsOf hs).drop (p + 1)).length ≤ P.length + 1 := by rw [List.length_drop]; omega
  have wsp : ∀ y ∈ (wordsOf hs).take p ++ [w] ++ (wordsOf hs).drop (p + 1), Wd y := fun y hy => by
    rcases List.mem_append.mp hy with e | e
    · rcases List.mem_append.mp e with e | e
      · exact ww y (List.mem_of_mem_take e)
      · rw [List.mem_singleton.mp e]; exact hw
    · exact ww y (List.mem_of_mem_drop e)
  have c1 : cutD (wordsOf hs) none (some (p : Int)) = (wordsOf hs).take p := cut_to (by omega)
  have c2 : cutD (wordsOf hs) (some ((p : Int) + 1)) none = (wordsOf hs).drop (p + 1) := cut_any (v := p + 1)
  have c3 : cutD (wordsOf hs) none (some (s : Int)) = (wordsOf hs).take s := cut_to (by omega)
  have m1 : f_w_field (tp PyData.int (iN P)) (lineOf (wordsOf hs ++ [("1" : Str)])) = some (.int ((P.length + 1 : Nat) : Int)) := by
    have z := fld_word few hl pos (k := P.length) (w := "1") (v := 1) (r := []) (Nat.le_refl _) (by decide +kernel) (by kernel_rfl) (.inl (Nat.le_refl _)) (fun y hy => by cases hy) (by show 0 ≤ _; omega)
    rw [List.take_of_length_le (by omega)] at z
    exact z
  have sh : f_w_field (tp PyData.int (iN P)) (lineOf ((wordsOf hs).take s)) = some (.int (s : Int)) := by
    cases s with
    | zero => exact field_it (rd_first (fw_no (x := lineOf []) (ws := [("" : Str)]) (w := ("" : Str)) (by kernel_rfl) (by kernel_rfl) (by kernel_rfl)))
    | succ k =>
      have z := fld_few few hl pos (k := k) (by omega)
      rw [List.map_take] at z
      exact z
  unfold f_w_lines_J1
  rw [c1, c2]
  refine bs (catO_ok (by rw [List.length_singleton]; omega)) (bs (catO_ok (by rw [List.length_append, List.length_singleton]; omega)) (bs (line_join wsp (by rw [List.length_append, List.length_append, List.length_singleton]; omega)) (bs hf (bs (same_int rfl) (iF rfl (bs (line_more few hl pos) (bs m1 (bs (same_int (by rw [lw])) (iF rfl (bs h2 (bs (a := (s : Int)) ?_ (bs (a := lineOf ((wordsOf hs).take s)) (by rw [c3]; exact line_join (fun y hy => ww y (List.mem_of_mem_take hy)) (by rw [List.length_take]; omega)) (bs sh (bs (same_int rfl) rfl))))))))))))))
  rw [← hs2]
  exact modO_ok (by omega)
theorem e_lines {r : List Int} (h : ∀ x ∈ r, 0 ≤ x ∧ x < 9967) (hr : 4 ≤ r.length) : f_w_lines (iN P) hs r = some true := by
  have ww := wd_words few hl pos
  have lw := len_words few hl pos
  obtain ⟨m0, h0, m0a, m0b⟩ := pick_row h (k := 0) (by omega)
  obtain ⟨m1, h1, m1a, m1b⟩ := pick_row h (k := 1) (by omega)
  obtain ⟨p, hp⟩ : ∃ p : Nat, m1 % (((wordsOf hs).length : Int) + 1) = (p : Int) := ⟨(m1 % (((wordsOf hs).length : Int) + 1)).toNat, by have := Int.emod_nonneg m1 (b := (((wordsOf hs).length : Int) + 1)) (by omega); omega⟩
  have pl : p ≤ P.length + 1 := by
    have := Int.emod_lt_of_pos m1 (b := (((wordsOf hs).length : Int) + 1)) (by omega)
    omega
  obtain ⟨i, hi⟩ : ∃ i : Nat, m0 % 11 = (i : Int) := ⟨(m0 % 11).toNat, by omega⟩
  obtain ⟨j, hj⟩ : ∃ j : Nat, m0 % 6 = (j : Int) := ⟨(m0 % 6).toNat, by omega⟩
  have ho : atI odds (m0 % 11) = some (gv odds (i + 1)) := by rw [hi]; exact atI_at (by show i < 11; omega)
  have hh : atI heads (m0 % 6) = some (gv heads (j + 1)) := by rw [hj]; exact atI_at (by show j < 6; omega)
  have mo : gv odds (i + 1) ∈ odds := gv_mem (by omega) (by show i + 1 ≤ 11; omega)
  have mh : gv heads (j + 1) ∈ heads := gv_mem (by omega) (by show j + 1 ≤ 6; omega)
  have cp : Cp (lineOf (wordsOf hs)) := cp_line fun w hw => by
    rcases List.mem_cons.mp hw with e | e
    · rw [e]
      show ∀ c ∈ TL.tl ("heights" : Str), c < 0x110000
      decide +kernel
    · obtain ⟨x, hx, rfl⟩ := List.mem_map.mp e
      have px := pos x hx
      obtain ⟨n, rfl⟩ : ∃ n : Nat, x = (n : Int) := ⟨x.toNat, by omega⟩
      exact cp_num
  have ql := q_line few hl pos
  have qr := q_read few hl pos
  have qh := q_is_heights (by omega : P.length ≤ 1000) hl fun x hx => (pos x hx).1
  have md : modO m1 (((wordsOf hs).length : Int) + 1) = some (p : Int) := by
    rw [← hp]
    exact modO_ok (by omega)
  unfold f_w_lines
  refine bs (strs_ok few hl pos) (bs (cat_ok few hl pos) (bs (line_join ww (by omega)) (bs ql (bs ql (bs (same_two cp) (iF rfl (bs qh (bs (same_bool rfl) (iF rfl (bs qr (bs (same_row rfl (by omega)) (iF rfl (bs qr (bs (same_row rfl (by omega)) (iF rfl (bs h0 (bs ho (bs h1 (bs md ?_)))))))))))))))))))
  cases p with
  | zero =>
    refine iT rfl (bs h0 (bs hh ?_))
    have z := fld_head few hl pos (head_wd _ mh) (head_ne _ mh) (r := hs.map numT) (wd_nums few hl pos) (by rw [List.length_map]; omega)
    exact e_join few hl pos h hr (p := 0) (by omega) (head_wd _ mh) z
  | succ k =>
    refine iF (decide_eq_false (by omega)) ?_
    have z := fld_word few hl pos (k := k) (w := gv odds (i + 1)) (v := 0) (r := (hs.map numT).drop (k + 1)) (by omega) (odd_wd _ mo) (odd_num _ mo) (.inr (by omega)) (fun y hy => wd_nums few hl pos y (List.mem_of_mem_drop hy)) (by rw [List.length_drop, List.length_map]; omega)
    refine e_join few hl pos h hr (p := k + 1) pl (odd_wd _ mo) ?_
    rw [List.map_take] at z
    have e : (wordsOf hs).take (k + 1) ++ [gv odds (i + 1)] ++ (wordsOf hs).drop (k + 1 + 1) = ("heights" : Str) :: ((hs.map numT).take k ++ gv odds (i + 1) :: (hs.map numT).drop (k + 1)) := by
      unfold wordsOf
      rw [List.take_succ_cons, List.drop_succ_cons, List.append_assoc]
      rfl
    rw [e]
    exact z
end
end K12
namespace K12
open PySem PySem.Spec PyProof.Rows L2 DL
def Bent (good : List Int) (o : Nat → PyData) (d : PyData) : Prop :=
  d = ls PyData.int good ∨ (d = .none ∨ d = .int 7 ∨ d = .str "1" ∨ d = .bool true) ∨ (∃ l : List Int, d = tp PyData.int l ∧ l.length ≠ good.length) ∨
    ∃ p, p < good.length ∧ d = .tuple ((good.take p).map PyData.int ++ o p :: (good.drop (p + 1)).map PyData.int)
theorem q_bent {r : List Int} (h : ∀ x ∈ r, 0 ≤ x ∧ x < 9967) (hr : 2 ≤ r.length) {good : List Int} (lg : good.length ≤ 100) {odd : PyData} {b : Bool} (ho : bD (p_is odd (nn ())) = some b) :
    ∃ d, f_w_bent r good odd = some d ∧ Bent good (fun p => if b = true then .int ((p : Int) + 1) else odd) d := by
  obtain ⟨m0, h0, m0a, m0b⟩ := pick_row h (k := 0) (by omega)
  obtain ⟨m1, h1, m1a, m1b⟩ := pick_row h (k := 1) (by omega)
  unfold f_w_bent
  refine bsX h0 (bsX rfl ?_)
  by_cases c0 : m0 % 6 = 0
  · exact iTX (decide_eq_true c0) ⟨_, rfl, .inl rfl⟩
  refine iFX (decide_eq_false c0) ?_
  by_cases c1 : m0 % 6 = 1
  · refine iTX (decide_eq_true c1) (bsX (andE (q := decide (gv good 1 = (0 : Int))) fun q => bs (atI_at (k := 0) (by have := of_decide_eq_true q; omega)) rfl) (bsX (catO_ok (by rw [List.length_singleton]; omega)) ⟨_, rfl, .inr (.inr (.inl ⟨_, rfl, ?_⟩))⟩))
    rw [List.length_append, List.length_singleton]
    omega
  refine iFX (decide_eq_false c1) ?_
  by_cases c2 : m0 % 6 = 2
  · refine iTX (decide_eq_true c2) (bsX h1 ?_)
    have hm : m1 % 4 = 0 ∨ m1 % 4 = 1 ∨ m1 % 4 = 2 ∨ m1 % 4 = 3 := by omega
    rcases hm with e | e | e | e <;> rw [e]
    · exact ⟨_, rfl, .inr (.inl (.inl rfl))⟩
    · exact ⟨_, rfl, .inr (.inl (.inr (.inl rfl)))⟩
    · exact ⟨_, rfl, .inr (.inl (.inr (.inr (.inl rfl))))⟩
    · exact ⟨_, rfl, .inr (.inl (.inr (.inr (.inr rfl))))⟩
  refine iFX (decide_eq_false c2) ?_
  by_cases c3 : (decide (m0 % 6 = (3 : Int)) && decide ((0 : Int) < (good.length : Int))) = true
  · have c4 := of_decide_eq_true (Bool.and_eq_true_iff.mp c3).2
    refine iTX c3 ⟨_, rfl, .inr (.inr (.inl ⟨_, rfl, ?_⟩))⟩
    rw [cut_1 (by omega), List.length_drop]
    omega
  refine iFX (Bool.eq_false_iff.mpr c3) ?_
  by_cases c4 : good.length = 0
  · refine iTX (decide_eq_true (by omega)) ⟨_, rfl, .inr (.inr (.inl ⟨[1], rfl, ?_⟩))⟩
    show 1 ≠ _
    omega
  refine iFX (decide_eq_false (by omega)) (bsX h1 (bsX (modO_ok (by omega)) (bsX ho ?_)))
  obtain ⟨p, hp⟩ : ∃ p : Nat, m1 % (good.length : Int) = (p : Int) := ⟨(m1 % (good.length : Int)).toNat, by have := Int.emod_nonneg m1 (b := (good.length : Int)) (by omega); omega⟩
  have pl : p < good.length := by
    have := Int.emod_lt_of_pos m1 (b := (good.length : Int)) (by omega)
    omega
  have lt : (good.take p).length ≤ good.length := by rw [List.length_take]; omega
  have ld : (good.drop (p + 1)).length ≤ good.length := by rw [List.length_drop]; omega
  rw [hp]
  have e1 : cutD good none (some (p : Int)) = good.take p := cut_to (by omega)
  have e2 : cutD good (some ((p : Int) + 1)) none = good.drop (p + 1) := cut_any (v := p + 1)
  rw [e1, e2]
  cases b with
  | true =>
    refine iTX rfl (bsX (catO_ok (by rw [List.length_singleton]; omega)) (bsX (catO_ok (by rw [List.length_append, List.length_singleton]; omega)) ⟨_, rfl, .inr (.inr (.inr ⟨p, pl, ?_⟩))⟩))
    show PyData.tuple ((good.take p ++ [(p : Int) + 1] ++ good.drop (p + 1)).map PyData.int) = _
    rw [List.map_append, List.map_append, List.append_assoc]
    rfl
  | false =>
    refine iFX rfl (bsX (catO_ok (by rw [List.length_map, List.length_singleton]; omega)) (bsX (catO_ok (by rw [List.length_append, List.length_map, List.length_map, List.length_singleton]; omega)) ⟨_, rfl, .inr (.inr (.inr ⟨p, pl, ?_⟩))⟩))
    show PyData.tuple (((good.take p).map PyData.int ++ [odd] ++ (good.drop (p + 1)).map PyData.int).map idD) = _
    rw [show (idD : PyData → PyData) = id from rfl, List.map_id, List.append_assoc]
    rfl
theorem heights_bad {P : List Nat} {hs : List Int} (few : P.length ≤ 100) (hl : hs.length = P.length) {o : Nat → PyData} {d : PyData} (hd : Bent hs o d) (ho : ∀ p, f_is_natural (o p) = some false) : f_is_heights (iN P) d = some false := by
  unfold f_is_heights
  rcases hd with rfl | hd | ⟨l, rfl, hl2⟩ | ⟨p, pl, rfl⟩
  · exact bs (a := false) rfl (bs (a := true) rfl (iT rfl rfl))
  · rcases hd with rfl | rfl | rfl | rfl
    all_goals exact bs (a := false) rfl (bs (a := true) rfl (iT rfl rfl))
  · refine bs (a := true) rfl (bs (a := true) (orF1 (bs (len_tup _) ?_)) (iT rfl rfl))
    rw [List.length_map, len_iN, decide_eq_false (by omega)]
    rfl
  · obtain ⟨g, hg⟩ : ∃ g : PyData → Bool, g = fun x => (f_is_natural x).getD false := ⟨_, rfl⟩
    have ll : ((hs.take p).map PyData.int ++ o p :: (hs.drop (p + 1)).map PyData.int).length = hs.length := by
      rw [List.length_append, List.length_cons, List.length_map, List.length_map, List.length_take, List.length_drop]
      omega
    refine bs (a := true) rfl (bs (a := false) (orF1 (bs (len_tup _) ?_)) (iF rfl (bs (a := (hs.take p).map PyData.int ++ o p :: (hs.drop (p + 1)).map PyData.int) rfl (bs (lcC_map (g' := g) (by rw [ll]; omega) fun a ha => ?_) ?_))))
    · rw [ll, len_iN, hl, decide_eq_true rfl]
      rfl
    · have key : ∃ b, f_is_natural a = some b := by
        rcases List.mem_append.mp ha with m | m
        · obtain ⟨i, _, rfl⟩ := List.mem_map.mp m
          exact ⟨_, q_is_natural i⟩
        · rcases List.mem_cons.mp m with m | m
          · rw [m]
            exact ⟨_, ho p⟩
          · obtain ⟨i, _, rfl⟩ := List.mem_map.mp m
            exact ⟨_, q_is_natural i⟩
      obtain ⟨b, hb⟩ := key
      rw [hg]
      exact bs hb (by dsimp only; rw [hb]; rfl)
    · congr 1
      rw [Bool.eq_false_iff]
      intro q
      have := List.all_eq_true.mp q (g (o p)) (List.mem_map.mpr ⟨o p, List.mem_append.mpr (.inr List.mem_cons_self), rfl⟩)
      rw [hg] at this
      dsimp only at this
      rw [ho p] at this
      cases this
def encT : Nat → List PyData → List PyData
  | _, [] => []
  | k, d :: ds => .tuple [.int (k : Int), d] :: encT (k + 1) ds
theorem enT_at : ∀ (ds : List PyData) (k i : Nat), (encT k ds)[i]? = (ds[i]?).map fun d => .tuple [.int ((k + i : Nat) : Int), d]
  | [], _, _ => rfl
  | d :: ds, k, 0 => rfl
  | d :: ds, k, i + 1 => by
    show (encT (k + 1) ds)[i]? = (ds[i]?).map _
    rw [enT_at ds (k + 1) i]
    congr 1
    funext x
    rw [show k + 1 + i = k + (i + 1) by omega]
theorem en_T (ds : List PyData) : enumD ds = encT 0 ds := by
  have len : ∀ (ds : List PyData) (k : Nat), (encT k ds).length = ds.length := by
    intro ds
    induction ds with
    | nil => intro k; rfl
    | cons d ds ih => intro k; show (encT (k + 1) ds).length + 1 = _; rw [ih]; rfl
  refine List.ext_getElem? fun i => ?_
  rw [enT_at]
  cases e : (enumD ds)[i]? with
  | none =>
    have := List.getElem?_eq_none_iff.mp e
    rw [enumD_len] at this
    rw [List.getElem?_eq_none this]
    rfl
  | some x =>
    obtain ⟨y, h1, h2⟩ := enumD_at e
    rw [h1, h2, Nat.zero_add]
    rfl
def ibT : Ft := t_not (t_and (t_of (x_call F_is_number [] (a_cons (x_var 3) a_nil))) (t_and (t_of (x_bin q_le (x_var 3) (x_var 2))) (t_of (x_call F_is_elder [] (a_cons (x_var 0) (a_cons (x_var 3) (a_cons (x_bin p_add (x_var 2) (x_c (.int 1))) a_nil)))))))
def ibB : Fs := (s_if ibT (s_ret (x_c (.bool false))) s_nx)
theorem forGo_ret {γ : PyData → Ev → Option Ev} {S : List Nat} {fb : Fs} {d : PyData} {ds : List PyData} {e e2 e3 : Ev} {r : Rs} (h1 : okS S e = true) (h2 : γ d e = some e2) (h3 : fb e2 = some (.rt r e3)) : forGo γ S fb (d :: ds) e = some (.rt r e3) := by
  rw [forGo, if_pos h1, h2]
  dsimp only
  rw [h3]
section
variable {P B : List Nat} (hp : Par (gv P) P.length) (few : P.length ≤ 60) (hB : Bas (gv P) (gv B) P.length) (lB : B.length = P.length)
include hp few hB lB
theorem ib_nx {D : PyData} {k : Nat} (hk : k < P.length) : ibB [im (tp PyData.int (iN P)), im D, im (.int (k : Int)), im (.int ((gv B (k + 1) : Nat) : Int))] = some (.nx [im (tp PyData.int (iN P)), im D, im (.int (k : Int)), im (.int ((gv B (k + 1) : Nat) : Int))]) := by
  have l := hB.lt (k + 1) (by omega) (by omega)
  have a := hB.an (k + 1) (by omega) (by omega)
  have n1 : F_is_number [.int ((gv B (k + 1) : Nat) : Int)] = some (.im (.bool true)) := k_is_number (by rw [q_is_number, decide_eq_true (by omega)])
  have n2 : F_is_elder [tp PyData.int (iN P), .int ((gv B (k + 1) : Nat) : Int), .int ((k : Int) + 1)] = some (.im (.bool true)) := k_is_elder (by
    rw [show (k : Int) + 1 = ((k + 1 : Nat) : Int) by omega, q_is_elder hp (by omega) (by omega) (by omega), decide_eq_true l, a]
    rfl)
  have n3 : q_le (.int ((gv B (k + 1) : Nat) : Int)) (.int (k : Int)) = some (.im (.bool true)) := by rw [e_qle, decide_eq_true (by omega)]
  refine gate_nx (tnot (b := true) (tandT (bang (callI (dds := []) (aI (vI rfl) a0) rfl n1)) (tandT (bang (binI (vI rfl) (vI rfl) n3)) (bang (callI (dds := []) (aI (vI rfl) (aI (vI rfl) (aI (binI (vI rfl) cI e_add) a0))) rfl n2)))))
omit hp few hB lB in
theorem ib_rt {T D o : PyData} {k : Nat} (ho : F_is_number [o] = some (.im (.bool false)) ∨ o = .int ((k : Int) + 1)) : ibB [im T, im D, im (.int (k : Int)), im o] = some (.rt (.im (.bool false)) [im T, im D, im (.int (k : Int)), im o]) := by
  rcases ho with ho | rfl
  · exact (s_ifT (tnot (b := false) (tandF (bang (callI (dds := []) (aI (vI rfl) a0) rfl ho))))).trans rfl
  · have n1 : F_is_number [.int ((k : Int) + 1)] = some (.im (.bool true)) := k_is_number (by rw [q_is_number, decide_eq_true (by omega)])
    have n3 : q_le (.int ((k : Int) + 1)) (.int (k : Int)) = some (.im (.bool false)) := by rw [e_qle, decide_eq_false (by omega)]
    exact (s_ifT (tnot (b := false) (tandT (bang (callI (dds := []) (aI (vI rfl) a0) rfl n1)) (tandF (bang (binI (vI rfl) (vI rfl) n3)))))).trans rfl
theorem ib_go {D o : PyData} {post : List PyData} (p : Nat) (pl : p < P.length) (ho : F_is_number [o] = some (.im (.bool false)) ∨ o = .int ((p : Int) + 1)) : ∀ (j : Nat) (k : Nat) (a b : Option PyData), k + j = p →
    ∃ e, forGo (g_tup [2, 3]) [2, 3] ibB (encT k (((List.range j).map fun i => PyData.int ((gv B (k + i + 1) : Nat) : Int)) ++ o :: post)) [im (tp PyData.int (iN P)), im D, imo a, imo b] = some (.rt (.im (.bool false)) e)
  | 0, k, a, b, h => by
    have h : k = p := h
    subst h
    exact ⟨_, forGo_ret rfl rfl (ib_rt ho)⟩
  | j + 1, k, a, b, h => by
    obtain ⟨e, q⟩ := ib_go p pl ho j (k + 1) (some (.int (k : Int))) (some (.int ((gv B (k + 1) : Nat) : Int))) (by omega)
    refine ⟨e, ?_⟩
    rw [List.range_succ_eq_map, List.map_cons, List.map_map]
    show forGo _ _ _ (.tuple [.int (k : Int), .int ((gv B (k + 1) : Nat) : Int)] :: encT (k + 1) _) _ = _
    rw [forGo_nx rfl rfl (ib_nx hp few hB lB (D := D) (k := k) (by omega))]
    have e2 : ((fun i => PyData.int ((gv B (k + i + 1) : Nat) : Int)) ∘ Nat.succ) = fun i => PyData.int ((gv B (k + 1 + i + 1) : Nat) : Int) := by
      funext i
      show PyData.int ((gv B (k + (i + 1) + 1) : Nat) : Int) = _
      rw [show k + (i + 1) + 1 = k + 1 + i + 1 by omega]
    rw [e2]
    exact q
theorem bases_bad {o : Nat → PyData} {d : PyData} (hd : Bent (iN B) o d) (ho : ∀ p, F_is_number [o p] = some (.im (.bool false)) ∨ o p = .int ((p : Int) + 1)) : F_is_bases [tp PyData.int (iN P), d] = some (.im (.bool false)) := by
  have out : ∀ d : PyData, isD .tuple d = some false → (t_of (x_isi .tuple (x_var 1)) [im (tp PyData.int (iN P)), im d, none, none] = some (false, [im (tp PyData.int (iN P)), im d, none, none])) → F_is_bases [tp PyData.int (iN P), d] = some (.im (.bool false)) := fun d _ hd =>
    runF_rt (n := 2) (nl := 2) (g := g_is_bases) (e := [im (tp PyData.int (iN P)), im d, none, none]) rfl (sseq_rt ((s_ifT (tnot (b := false) (tandF hd))).trans rfl))
  rcases hd with rfl | hd | ⟨l, rfl, hl2⟩ | ⟨p, pl, rfl⟩
  · exact out _ rfl rfl
  · rcases hd with rfl | rfl | rfl | rfl
    all_goals exact out _ rfl rfl
  · refine k_is_bases ?_
    unfold f_is_bases
    refine bs (andT1 (bs q_many (b := some false) ?_)) (iT rfl rfl)
    rw [len_iN] at hl2
    rw [decide_eq_false (by omega)]
  · rw [len_iN] at pl
    have e1 : ((iN B).take p).map PyData.int = (List.range p).map fun i => PyData.int ((gv B (0 + i + 1) : Nat) : Int) := by
      rw [l_rg (iN B), len_iN, ← List.map_take, List.map_map, List.take_range, show min p B.length = p by omega]
      refine List.map_congr_left fun k hk => ?_
      have := List.mem_range.mp hk
      show PyData.int (gv (iN B) (k + 1)) = _
      rw [gv_iN (by omega) (by omega), Nat.zero_add]
    obtain ⟨D, hD⟩ : ∃ D, D = PyData.tuple (((iN B).take p).map PyData.int ++ o p :: ((iN B).drop (p + 1)).map PyData.int) := ⟨_, rfl⟩
    obtain ⟨e, q⟩ := ib_go hp few hB lB (D := D) (o := o p) (post := ((iN B).drop (p + 1)).map PyData.int) p (by omega) (ho p) p 0 none none (by omega)
    rw [← e1, ← en_T] at q
    have items : i_enum (x_var 1) [im (tp PyData.int (iN P)), im D, none, none] = some (enumD (((iN B).take p).map PyData.int ++ o p :: ((iN B).drop (p + 1)).map PyData.int), [im (tp PyData.int (iN P)), im D, none, none]) := by
      unfold i_enum
      rw [iseqT (ds := ((iN B).take p).map PyData.int ++ o p :: ((iN B).drop (p + 1)).map PyData.int) (by rw [← hD]; exact vI rfl)]
    have gate : t_not (t_and (t_of (x_isi .tuple (x_var 1))) (t_of (x_bin p_eq (x_cb c_len (a_cons (x_var 1) a_nil)) (x_call F_many_of [] (a_cons (x_var 0) a_nil))))) [im (tp PyData.int (iN P)), im D, none, none] = some (!true, [im (tp PyData.int (iN P)), im D, none, none]) := by
      have ll : (((iN B).take p).map PyData.int ++ o p :: ((iN B).drop (p + 1)).map PyData.int).length = P.length := by
        rw [List.length_append, List.length_cons, List.length_map, List.length_map, List.length_take, List.length_drop, len_iN]
        omega
      have c1 : x_cb c_len (a_cons (x_var 1) a_nil) [im (tp PyData.int (iN P)), im D, none, none] = some (.im (.int (P.length : Int)), [im (tp PyData.int (iN P)), im D, none, none]) := by
        rw [hD, ← ll]
        rfl
      have c2 : F_many_of [tp PyData.int (iN P)] = some (.im (.int (P.length : Int))) := k_many_of q_many
      refine tnot (tandT (by rw [hD]; rfl) (bang (binI c1 (callI (dds := []) (aI (vI rfl) a0) rfl c2) ?_)))
      rw [e_eq, decide_eq_true rfl]
    rw [← hD]
    exact runF_rt (n := 2) (nl := 2) (g := g_is_bases) (e := e) rfl ((sseq_nx (gate_nx gate)).trans (sseq_rt ((s_for_of (fb := ibB) items).trans q)))
end
end K12
namespace K12
open PySem PySem.Spec PyProof.Rows L2 DL
def askB : Fsx := (x_ifS (t_of (x_bin p_eq (x_var 0) (x_c (.int 0))))
  (x_drop (x_callX FX_bases_by [] (a_cons (x_var 1) (a_cons (x_var 2) a_nil))))
  (x_ifS (t_of (x_bin p_eq (x_var 0) (x_c (.int 1))))
  (x_drop (x_callX FX_heights_of [] (a_cons (x_var 1) (a_cons (x_var 2) a_nil))))
  (x_ifS (t_of (x_bin p_eq (x_var 0) (x_c (.int 2))))
  (x_drop (x_callX FX_records_of [] (a_cons (x_var 1) (a_cons (x_var 2) (a_cons (x_var 3) a_nil)))))
  (x_ifS (t_of (x_bin p_eq (x_var 0) (x_c (.int 3))))
  (x_drop (x_callX FX_open_at [] (a_cons (x_var 1) (a_cons (x_var 2) (a_cons (x_var 3) a_nil)))))
  (x_ifS (t_of (x_bin p_eq (x_var 0) (x_c (.int 4))))
  (x_drop (x_callX FX_open_row [] (a_cons (x_var 1) (a_cons (x_var 2) (a_cons (x_var 3) a_nil)))))
  (x_ifS (t_of (x_bin p_eq (x_var 0) (x_c (.int 5))))
  (x_drop (x_callX FX_heights_line [] (a_cons (x_var 1) (a_cons (x_var 2) a_nil))))
  (x_drop (x_callX FX_read_heights [] (a_cons (x_var 1) (a_cons (x_var 2) a_nil))))))))))
def askG : Str → Addr → Addr → Fs := fun k a dd =>
  (s_seq (s_if (t_and (t_of (x_isE (tabF xtab "BookError") k a dd 4)) (t_and (t_not (t_of (x_isE (tabF xtab "Faulty") k a dd 4))) (t_of (x_call F__law_same [] (a_cons (x_fld xok k a dd 4 "at") (a_cons (x_neg (x_c (.int 1))) a_nil))))))
  (s_ret (x_fld xok k a dd 4 "word"))
  s_nx)
  (s_seq (s_ret (x_c (.str "family")))
  s_nx))
section
variable {t d v : PyData} {w : Int} {z : Str}
def askE (w : Int) (t d v : PyData) : Ev := [im (.int w), im t, im d, im v, none]
theorem ask_no (h : askB (askE w t d v) = some (.inr (nu z, askE w t d v))) : f_w_ask w t d v = some (.str z) := by
  refine chI_eq (fun _ _ h => h) ?_
  have t1 := x_try_yes (sub := tabF xtab "NotUsable") (i := 4) (g := askG) h (by rfl) rfl (fl := .rt (.im (.str z)) (askE w t d v)) (fun a dd fs => ⟨.rt (.im (.str z)) [im (.int w), im t, im d, im v, some (.ob (.xc a dd fs [("at", .int (-1)), ("word", .str z)]))], ?_, rfl⟩)
  · exact runF_rt (n := 4) (nl := 1) (g := g__law_ask) (e := askE w t d v) rfl (sseq_rt (noX_of t1))
  · obtain ⟨E, hE⟩ : ∃ E : Ev, E = [im (.int w), im t, im d, im v, some (.ob (.xc a dd fs [("at", .int (-1)), ("word", .str z)]))] := ⟨_, rfl⟩
    have f1 : x_fld xok "NotUsable" a dd 4 "at" E = some (.im (.int (-1)), E) := by
      subst hE
      unfold x_fld
      rw [if_pos (by rfl)]
      show (if a = a ∧ dd = dd then _ else _) = _
      rw [if_pos ⟨rfl, rfl⟩]
      rfl
    have f2 : x_fld xok "NotUsable" a dd 4 "word" E = some (.im (.str z), E) := by
      subst hE
      unfold x_fld
      rw [if_pos (by rfl)]
      show (if a = a ∧ dd = dd then _ else _) = _
      rw [if_pos ⟨rfl, rfl⟩]
      rfl
    have f3 : x_isE (tabF xtab "BookError") "NotUsable" a dd 4 E = some (.im (.bool true), E) := by
      subst hE
      unfold x_isE
      show (if a = a ∧ dd = dd then _ else _) = _
      rw [if_pos ⟨rfl, rfl⟩]
      rfl
    have f4 : x_isE (tabF xtab "Faulty") "NotUsable" a dd 4 E = some (.im (.bool false), E) := by
      subst hE
      unfold x_isE
      show (if a = a ∧ dd = dd then _ else _) = _
      rw [if_pos ⟨rfl, rfl⟩]
      rfl
    have ng : x_neg (x_c (.int 1)) E = some (.im (.int (-1)), E) := rfl
    show askG "NotUsable" a dd [im (.int w), im t, im d, im v, some (.ob (.xc a dd fs [("at", .int (-1)), ("word", .str z)]))] = _
    rw [← hE]
    have c : t_and (t_of (x_isE (tabF xtab "BookError") "NotUsable" a dd 4)) (t_and (t_not (t_of (x_isE (tabF xtab "Faulty") "NotUsable" a dd 4))) (t_of (x_call F__law_same [] (a_cons (x_fld xok "NotUsable" a dd 4 "at") (a_cons (x_neg (x_c (.int 1))) a_nil))))) E = some (true, E) :=
      tandT (bang f3) (tandT (tnot (b := false) (bang f4)) (bang (callI (dds := []) (aI f1 (aI ng a0)) rfl (same_ok (same_int rfl)))))
    exact sseq_rt ((s_ifT c).trans (ret f2))
theorem ask_ok (h : askB (askE w t d v) = some (.inl (.nx (askE w t d v)))) : f_w_ask w t d v = some .none :=
  chI_eq (fun _ _ h => h) (runF_rt (n := 4) (nl := 1) (g := g__law_ask) (e := askE w t d v) rfl ((sseq_nx (noX_of (x_try_no h))).trans (sseq_rt rfl)))
theorem n_t {k : Int} (h : w = k) : t_of (x_bin p_eq (x_var 0) (x_c (.int k))) (askE w t d v) = some (true, askE w t d v) := by
  have z := bang (binI (f := x_var 0) (g := x_c (.int k)) (e := askE w t d v) (vI rfl) cI (e_eq (i := w) (j := k)))
  rw [decide_eq_true h] at z
  exact z
theorem n_f {k : Int} (h : w ≠ k) : t_of (x_bin p_eq (x_var 0) (x_c (.int k))) (askE w t d v) = some (false, askE w t d v) := by
  have z := bang (binI (f := x_var 0) (g := x_c (.int k)) (e := askE w t d v) (vI rfl) cI (e_eq (i := w) (j := k)))
  rw [decide_eq_false h] at z
  exact z
theorem arg2 : argsI (a_cons (x_var 1) (a_cons (x_var 2) a_nil)) (askE w t d v) = some ([t, d], askE w t d v) := rfl
theorem arg3 : argsI (a_cons (x_var 1) (a_cons (x_var 2) (a_cons (x_var 3) a_nil))) (askE w t d v) = some ([t, d, v], askE w t d v) := rfl
theorem ask0 (h : FX_bases_by [t, d] = some (.inr (nu z))) : f_w_ask 0 t d v = some (.str z) := ask_no ((x_ifST (n_t rfl)).trans (xdrop_inr (callX_inr arg2 h)))
theorem ask1 (h : FX_heights_of [t, d] = some (.inr (nu z))) : f_w_ask 1 t d v = some (.str z) := ask_no ((x_ifSF (n_f (by decide))).trans ((x_ifST (n_t rfl)).trans (xdrop_inr (callX_inr arg2 h))))
theorem ask1k {y : PyData} (h : FX_heights_of [t, d] = some (.inl (.im y))) : f_w_ask 1 t d v = some .none := ask_ok ((x_ifSF (n_f (by decide))).trans ((x_ifST (n_t rfl)).trans (xdrop_inl (callX_inl arg2 h))))
theorem ask2 (h : FX_records_of [t, d, v] = some (.inr (nu z))) : f_w_ask 2 t d v = some (.str z) := ask_no ((x_ifSF (n_f (by decide))).trans ((x_ifSF (n_f (by decide))).trans ((x_ifST (n_t rfl)).trans (xdrop_inr (callX_inr arg3 h)))))
theorem ask3 (h : FX_open_at [t, d, v] = some (.inr (nu z))) : f_w_ask 3 t d v = some (.str z) := ask_no ((x_ifSF (n_f (by decide))).trans ((x_ifSF (n_f (by decide))).trans ((x_ifSF (n_f (by decide))).trans ((x_ifST (n_t rfl)).trans (xdrop_inr (callX_inr arg3 h))))))
theorem ask4 (h : FX_open_row [t, d, v] = some (.inr (nu z))) : f_w_ask 4 t d v = some (.str z) := ask_no ((x_ifSF (n_f (by decide))).trans ((x_ifSF (n_f (by decide))).trans ((x_ifSF (n_f (by decide))).trans ((x_ifSF (n_f (by decide))).trans ((x_ifST (n_t rfl)).trans (xdrop_inr (callX_inr arg3 h)))))))
theorem ask5 (h : FX_heights_line [t, d] = some (.inr (nu z))) : f_w_ask 5 t d v = some (.str z) := ask_no ((x_ifSF (n_f (by decide))).trans ((x_ifSF (n_f (by decide))).trans ((x_ifSF (n_f (by decide))).trans ((x_ifSF (n_f (by decide))).trans ((x_ifSF (n_f (by decide))).trans ((x_ifST (n_t rfl)).trans (xdrop_inr (callX_inr arg2 h))))))))
theorem ask5k {y : PyData} (h : FX_heights_line [t, d] = some (.inl (.im y))) : f_w_ask 5 t d v = some .none := ask_ok ((x_ifSF (n_f (by decide))).trans ((x_ifSF (n_f (by decide))).trans ((x_ifSF (n_f (by decide))).trans ((x_ifSF (n_f (by decide))).trans ((x_ifSF (n_f (by decide))).trans ((x_ifST (n_t rfl)).trans (xdrop_inl (callX_inl arg2 h))))))))
theorem ask6 (h : FX_read_heights [t, d] = some (.inr (nu z))) : f_w_ask 6 t d v = some (.str z) := ask_no ((x_ifSF (n_f (by decide))).trans ((x_ifSF (n_f (by decide))).trans ((x_ifSF (n_f (by decide))).trans ((x_ifSF (n_f (by decide))).trans ((x_ifSF (n_f (by decide))).trans ((x_ifSF (n_f (by decide))).trans (xdrop_inr (callX_inr arg2 h))))))))
end
section
variable {e : Ev} {i : Nat} {f : Fe} {g1 : Fex} {fx : Fex} {fr : Fax} {fa : Fa} {fi : Fi} {γ : PyData → Ev → Option Ev} {tst : Ft} {vs : List Nat} {y : Xc × Ev}
theorem lc_no (h : fi e = none) : x_lc fi γ tst f vs e = none := by
  unfold x_lc
  rw [h]
theorem seq_no (h : f e = none) : i_seq f e = none := by
  unfold i_seq
  rw [h]
theorem args_no (h : f e = none) : argsI (a_cons f fa) e = none := by
  unfold argsI a_cons
  rw [h]
theorem call_na {φ : List PyData → Option Rs} {dds : List PyData} (h : argsI fa e = none) : x_call φ dds fa e = none := by
  rw [r_x_call, h]
theorem upE_inr (h : fx e = some (.inr y)) : x_upE fx g1 e = some (.inr y) := by
  unfold x_upE
  rw [h]
theorem ax_inr (h : fx e = some (.inr y)) : ax_cons fx fr e = some (.inr y) := by
  unfold ax_cons
  rw [h]
theorem upX_inr (h : fr e = some (.inr y)) : x_upX fr g1 e = some (.inr y) := by
  unfold x_upX
  rw [h]
end
section
variable {t d v : PyData}
theorem hgt_t {e : Ev} {b : Bool} (h0 : e[0]? = some (some (.im t))) (h1 : e[1]? = some (some (.im d))) (h : F_is_heights [t, d] = some (.im (.bool b))) : t_not (t_of (x_call F_is_heights [] (a_cons (x_var 0) (a_cons (x_var 1) a_nil)))) e = some (!b, e) :=
  tnot (bang (callI (dds := []) (aI (vI h0) (aI (vI h1) a0)) rfl h))
theorem bas_t {e : Ev} {b : Bool} (h0 : e[0]? = some (some (.im t))) (h1 : e[1]? = some (some (.im d))) (h : F_is_bases [t, d] = some (.im (.bool b))) : t_not (t_of (x_call F_is_bases [] (a_cons (x_var 0) (a_cons (x_var 1) a_nil)))) e = some (!b, e) :=
  tnot (bang (callI (dds := []) (aI (vI h0) (aI (vI h1) a0)) rfl h))
theorem bb_no (h : F_is_heights [t, d] = some (.im (.bool false))) : F_bases_by [t, d] = none ∧ FX_bases_by [t, d] = some (.inr (nu "heights")) := by
  have no : F_bases_by [t, d] = none := runF_no (n := 2) (nl := 4) (g := g_bases_by) (sseq_no (gate_no (hgt_t rfl rfl h)))
  exact ⟨no, orRx_no no (runX_inr (n := 2) (nl := 4) (g := gx_bases_by) rfl (xseq_inr (xgate_up (hgt_t rfl rfl h) rfl)))⟩
theorem hl_no (h : F_is_heights [t, d] = some (.im (.bool false))) : FX_heights_line [t, d] = some (.inr (nu "heights")) := by
  have no : F_heights_line [t, d] = none := runF_no (n := 2) (nl := 1) (g := g_heights_line) (sseq_no (gate_no (hgt_t rfl rfl h)))
  exact orRx_no no (runX_inr (n := 2) (nl := 1) (g := gx_heights_line) rfl (xseq_inr (xgate_up (hgt_t rfl rfl h) rfl)))
theorem ho_no (h : F_is_bases [t, d] = some (.im (.bool false))) : FX_heights_of [t, d] = some (.inr (nu "bases")) := by
  have no : F_heights_of [t, d] = none := runF_no (n := 2) (nl := 3) (g := g_heights_of) (sseq_no (gate_no (bas_t rfl rfl h)))
  exact orRx_no no (runX_inr (n := 2) (nl := 3) (g := gx_heights_of) rfl (xseq_inr (xgate_up (bas_t rfl rfl h) rfl)))
theorem rc_no {x : Xc} (h : F_bases_by [t, d] = none ∧ FX_bases_by [t, d] = some (.inr x)) : FX_records_of [t, d, v] = some (.inr x) := by
  obtain ⟨h1, h2⟩ := h
  have arg : argsI (a_cons (x_var 0) (a_cons (x_var 1) a_nil)) (env0 [t, d, v] 3) = some ([t, d], env0 [t, d, v] 3) := rfl
  have no : F_records_of [t, d, v] = none := runF_no (n := 3) (nl := 3) (g := g_records_of) (sseq_no (setF_no (call_no arg h1)))
  exact orRx_no no (runX_inr (n := 3) (nl := 3) (g := gx_records_of) rfl (xseq_inr (xset_inr (callX_inr arg h2))))
theorem oa_no {x : Xc} (h : F_bases_by [t, d] = none ∧ FX_bases_by [t, d] = some (.inr x)) : F_open_at [t, d, v] = none ∧ FX_open_at [t, d, v] = some (.inr x) := by
  obtain ⟨h1, h2⟩ := h
  have arg : argsI (a_cons (x_var 0) (a_cons (x_var 1) a_nil)) (env0 [t, d, v] 3) = some ([t, d], env0 [t, d, v] 3) := rfl
  have no : F_open_at [t, d, v] = none := runF_no (n := 3) (nl := 3) (g := g_open_at) (sseq_no (setF_no (call_no arg h1)))
  exact ⟨no, orRx_no no (runX_inr (n := 3) (nl := 3) (g := gx_open_at) rfl (xseq_inr (xset_inr (callX_inr arg h2))))⟩
theorem or_no {x : Xc} (h : F_open_at [t, d, v] = none ∧ FX_open_at [t, d, v] = some (.inr x)) : FX_open_row [t, d, v] = some (.inr x) := by
  obtain ⟨h1, h2⟩ := h
  have arg : argsI (a_cons (x_var 0) (a_cons (x_var 1) (a_cons (x_var 2) a_nil))) (env0 [t, d, v] 1) = some ([t, d, v], env0 [t, d, v] 1) := rfl
  have no : F_open_row [t, d, v] = none := runF_no (n := 3) (nl := 1) (g := g_open_row) (ret_no (call_na (args_no (lc_no (seq_no (call_no arg h1))))))
  exact orRx_no no (runX_inr (n := 3) (nl := 1) (g := gx_open_row) rfl (xret_inr (upX_inr (ax_inr (upE_inr (callX_inr arg h2))))))
theorem rt_no (h : t_of (x_isi .str (x_var 0)) [im d, im (.str "heights"), none] = some (false, [im d, im (.str "heights"), none])) : FX_read_heights [t, d] = some (.inr (nu "text")) := by
  have n1 : F__words_of [d, .str "heights"] = none := runF_no (n := 2) (nl := 1) (g := g__words_of) (sseq_no (gate_no (tnot h)))
  have n2 : FX__words_of [d, .str "heights"] = some (.inr (nu "text")) := orRx_no n1 (runX_inr (n := 2) (nl := 1) (g := gx__words_of) rfl (xseq_inr (xgate_up (tnot h) rfl)))
  have arg : argsI (a_cons (x_var 1) (a_cons (x_c (.str "heights")) a_nil)) (env0 [t, d] 5) = some ([d, .str "heights"], env0 [t, d] 5) := rfl
  have no : F_read_heights [t, d] = none := runF_no (n := 2) (nl := 5) (g := g_read_heights) (sseq_no (setF_no (call_no arg n1)))
  exact orRx_no no (runX_inr (n := 2) (nl := 5) (g := gx_read_heights) rfl (xseq_inr (xset_inr (callX_inr arg n2))))
end
def BadV (n : Nat) (v : PyData) : Prop := (∃ i : Int, v = .int i ∧ (n : Int) < i) ∨ (F_is_number [v] = some (.im (.bool false)) ∧ F_is_natural [v] = some (.im (.bool false)))
section
variable {P : List Nat} {v B d : PyData} (hd : F_bases_by [tp PyData.int (iN P), d] = some (.im B))
theorem up_bad (h : BadV P.length v ∨ F_is_natural [v] = some (.im (.bool false))) : F_up_to [v, .int (P.length : Int)] = some (.im (.bool false)) := by
  have nn : ∀ w : PyData, F_is_natural [w] = some (.im (.bool false)) → F_up_to [w, .int (P.length : Int)] = some (.im (.bool false)) := fun w hw =>
    runF_rt (n := 2) (nl := 0) (g := g_up_to) (e := [im w, im (.int (P.length : Int))]) rfl (ret (andF (callI (dds := []) (aI (vI rfl) a0) rfl hw)))
  rcases h with (⟨i, rfl, hi⟩ | ⟨_, h⟩) | h
  · refine k_up_to ?_
    rw [q_up_to, decide_eq_true (by omega), decide_eq_false (by omega)]
    rfl
  · exact nn _ h
  · exact nn _ h
theorem nv_no (h : BadV P.length v ∨ F_is_natural [v] = some (.im (.bool false))) : F_need_version [tp PyData.int (iN P), v] = none ∧ FX_need_version [tp PyData.int (iN P), v] = some (.inr (nu "version")) := by
  have u := up_bad h
  have ln : x_cb c_len (a_cons (x_var 0) a_nil) [im (tp PyData.int (iN P)), im v] = some (.im (.int (P.length : Int)), [im (tp PyData.int (iN P)), im v]) := by
    have z := cbX (dX (vI (i := 0) (e := [im (tp PyData.int (iN P)), im v]) rfl) d0 rfl) (o_lenT (f := PyData.int) (l := iN P))
    rw [len_iN] at z
    exact z
  have g : t_not (t_of (x_call F_up_to [] (a_cons (x_var 1) (a_cons (x_cb c_len (a_cons (x_var 0) a_nil)) a_nil)))) [im (tp PyData.int (iN P)), im v] = some (!false, [im (tp PyData.int (iN P)), im v]) := tnot (bang (callI (dds := []) (aI (vI rfl) (aI ln a0)) rfl u))
  have no : F_need_version [tp PyData.int (iN P), v] = none := runF_no (n := 2) (nl := 0) (g := g_need_version) (gate_no g)
  exact ⟨no, orRx_no no (runX_inr (n := 2) (nl := 0) (g := gx_need_version) rfl (xgate_up g rfl))⟩
include hd
theorem oa_ver (h : BadV P.length v ∨ F_is_natural [v] = some (.im (.bool false))) : F_open_at [tp PyData.int (iN P), d, v] = none ∧ FX_open_at [tp PyData.int (iN P), d, v] = some (.inr (nu "version")) := by
  obtain ⟨n1, n2⟩ := nv_no h
  obtain ⟨T, hT⟩ : ∃ T, T = tp PyData.int (iN P) := ⟨_, rfl⟩
  rw [← hT] at hd n1 n2 ⊢
  have arg : argsI (a_cons (x_var 0) (a_cons (x_var 1) a_nil)) (env0 [T, d, v] 3) = some ([T, d], env0 [T, d, v] 3) := rfl
  have arg2 : argsI (a_cons (x_var 0) (a_cons (x_var 2) a_nil)) [im T, im d, im v, im B, none, none] = some ([T, v], [im T, im d, im v, im B, none, none]) := rfl
  have s1 : s_setF 3 (x_call F_bases_by [] (a_cons (x_var 0) (a_cons (x_var 1) a_nil))) (env0 [T, d, v] 3) = some (.nx [im T, im d, im v, im B, none, none]) := setF (callI (dds := []) arg rfl hd) rfl rfl
  have s2 : x_set 3 (x_callX FX_bases_by [] (a_cons (x_var 0) (a_cons (x_var 1) a_nil))) (env0 [T, d, v] 3) = some (.inl (.nx [im T, im d, im v, im B, none, none])) := xset_inl (callX_inl arg (orRx_of hd)) rfl
  have no : F_open_at [T, d, v] = none := runF_no (n := 3) (nl := 3) (g := g_open_at) ((sseq_nx s1).trans (sseq_no (drop_no (call_no arg2 n1))))
  exact ⟨no, orRx_no no (runX_inr (n := 3) (nl := 3) (g := gx_open_at) rfl ((xseq_nx s2).trans (xseq_inr (xdrop_inr (callX_inr arg2 n2)))))⟩
theorem rc_ver (h : BadV P.length v) : FX_records_of [tp PyData.int (iN P), d, v] = some (.inr (nu "version")) := by
  obtain ⟨T, hT⟩ : ∃ T, T = tp PyData.int (iN P) := ⟨_, rfl⟩
  have gt : t_or (t_not (t_of (x_call F_is_number [] (a_cons (x_var 2) a_nil)))) (t_of (x_bin q_gt (x_var 2) (x_cb c_len (a_cons (x_var 0) a_nil)))) [im T, im d, im v, im B, none, none] = some (true, [im T, im d, im v, im B, none, none]) := by
    rcases h with ⟨i, rfl, hi⟩ | ⟨h, _⟩
    · have n1 : F_is_number [.int i] = some (.im (.bool true)) := k_is_number (by rw [q_is_number, decide_eq_true (by omega)])
      refine torF (tnot (b := true) (bang (callI (dds := []) (aI (vI rfl) a0) rfl n1))) (bang (binI (b := .int (P.length : Int)) (vI rfl) ?_ ?_))
      · have z := cbX (dX (vI (i := 0) (e := [im (tp PyData.int (iN P)), im d, im (.int i), im B, none, none]) rfl) d0 rfl) (o_lenT (f := PyData.int) (l := iN P))
        rw [len_iN] at z
        rw [hT]
        exact z
      · rw [e_qgt, decide_eq_true hi]
    · exact torT (tnot (b := false) (bang (callI (dds := []) (aI (vI rfl) a0) rfl h)))
  rw [← hT] at hd ⊢
  have arg : argsI (a_cons (x_var 0) (a_cons (x_var 1) a_nil)) (env0 [T, d, v] 3) = some ([T, d], env0 [T, d, v] 3) := rfl
  have s1 : s_setF 3 (x_call F_bases_by [] (a_cons (x_var 0) (a_cons (x_var 1) a_nil))) (env0 [T, d, v] 3) = some (.nx [im T, im d, im v, im B, none, none]) := setF (callI (dds := []) arg rfl hd) rfl rfl
  have s2 : x_set 3 (x_callX FX_bases_by [] (a_cons (x_var 0) (a_cons (x_var 1) a_nil))) (env0 [T, d, v] 3) = some (.inl (.nx [im T, im d, im v, im B, none, none])) := xset_inl (callX_inl arg (orRx_of hd)) rfl
  have no : F_records_of [T, d, v] = none := runF_no (n := 3) (nl := 3) (g := g_records_of) ((sseq_nx s1).trans (sseq_no (gate_no gt)))
  exact orRx_no no (runX_inr (n := 3) (nl := 3) (g := gx_records_of) rfl ((xseq_nx s2).trans (xseq_inr (xgate_up gt rfl))))
end
def oddH : List PyData := [PyData.int (0 : Int), PyData.int (-1 : Int), PyData.bool true, PyData.str ("1" : Str), PyData.bool false, (p1 PyData.int) (1 : Int), PyData.int (-(10 : Int) ^ 20)]
def oddV (n : Int) : List PyData := [PyData.int (-1 : Int), PyData.int (n + (1 : Int)), PyData.bool true, PyData.str ("1" : Str), (p1 PyData.int) (1 : Int), PyData.bool false, PyData.int ((10 : Int) ^ 20)]
def oddB : List PyData := [PyData.int (-1 : Int), PyData.bool true, nn (), PyData.str ("0" : Str), PyData.bool false, nn ()]
def oddT : List PyData := [nn (), PyData.int (5 : Int), (p1 PyData.str) ("heights" : Str), PyData.bool true]
theorem oddH_ok : ∀ w ∈ oddH, f_is_natural w = some false ∧ bD (p_is w (nn ())) = some false := fun w hw => by
  unfold oddH at hw
  repeat (rcases List.mem_cons.mp hw with e | hw; (rw [e]; exact ⟨by kernel_rfl, by kernel_rfl⟩))
  cases hw
theorem num_int (i : Int) (h : i < 0) : F_is_number [.int i] = some (.im (.bool false)) ∧ F_is_natural [.int i] = some (.im (.bool false)) :=
  ⟨k_is_number (by rw [q_is_number, decide_eq_false (by omega)]), k_is_natural (by rw [q_is_natural, decide_eq_false (by omega)])⟩
theorem oddV_ok {n : Nat} (hn : n ≤ 60) : ∀ w ∈ oddV n, BadV n w := fun w hw => by
  unfold oddV at hw
  rcases List.mem_cons.mp hw with e | hw
  · rw [e]; exact .inr (num_int _ (by omega))
  rcases List.mem_cons.mp hw with e | hw
  · rw [e]; exact .inl ⟨_, rfl, by omega⟩
  rcases List.mem_cons.mp hw with e | hw
  · rw [e]; exact .inr ⟨rfl, rfl⟩
  rcases List.mem_cons.mp hw with e | hw
  · rw [e]; exact .inr ⟨rfl, rfl⟩
  rcases List.mem_cons.mp hw with e | hw
  · rw [e]; exact .inr ⟨rfl, rfl⟩
  rcases List.mem_cons.mp hw with e | hw
  · rw [e]; exact .inr ⟨rfl, rfl⟩
  rw [List.mem_singleton.mp hw]
  exact .inl ⟨_, rfl, by omega⟩
theorem oddB_ok : ∀ w ∈ oddB, ∃ b, bD (p_is w (nn ())) = some b ∧ ∀ p : Nat, F_is_number [if b = true then .int ((p : Int) + 1) else w] = some (.im (.bool false)) ∨ (if b = true then PyData.int ((p : Int) + 1) else w) = .int ((p : Int) + 1) := fun w hw => by
  unfold oddB at hw
  rcases List.mem_cons.mp hw with e | hw
  · rw [e]; exact ⟨false, by kernel_rfl, fun p => .inl (num_int _ (by omega)).1⟩
  rcases List.mem_cons.mp hw with e | hw
  · rw [e]; exact ⟨false, by kernel_rfl, fun p => .inl rfl⟩
  rcases List.mem_cons.mp hw with e | hw
  · rw [e]; exact ⟨true, by kernel_rfl, fun p => .inr rfl⟩
  rcases List.mem_cons.mp hw with e | hw
  · rw [e]; exact ⟨false, by kernel_rfl, fun p => .inl rfl⟩
  rcases List.mem_cons.mp hw with e | hw
  · rw [e]; exact ⟨false, by kernel_rfl, fun p => .inl rfl⟩
  rw [List.mem_singleton.mp hw]
  exact ⟨true, by kernel_rfl, fun p => .inr rfl⟩
theorem oddT_ok {t : PyData} : ∀ w ∈ oddT, FX_read_heights [t, w] = some (.inr (nu "text")) := fun w hw => by
  unfold oddT at hw
  repeat (rcases List.mem_cons.mp hw with e | hw; (rw [e]; exact rt_no rfl))
  cases hw
theorem same_none : f_w_same .none (nn ()) = some true := same_d (d := .none) True.intro
theorem same_w1 : f_w_same (.str "heights") (.str "heights") = some true := same_d (d := .str "heights") (by show bD _ = _; kernel_rfl)
theorem same_w2 : f_w_same (.str "version") (.str "version") = some true := same_d (d := .str "version") (by show bD _ = _; kernel_rfl)
theorem same_w3 : f_w_same (.str "bases") (.str "bases") = some true := same_d (d := .str "bases") (by show bD _ = _; kernel_rfl)
theorem same_w4 : f_w_same (.str "text") (.str "text") = some true := same_d (d := .str "text") (by show bD _ = _; kernel_rfl)
instance : Inhabited PyData := ⟨.none⟩
theorem pick_odd {l : List PyData} {m : Int} {n : Nat} (hl : l.length = n) (h1 : 0 ≤ m % n) (h2 : m % n < n) : ∃ w ∈ l, atI l (m % n) = some w := by
  obtain ⟨i, hi⟩ : ∃ i : Nat, m % n = (i : Int) := ⟨(m % n).toNat, by omega⟩
  refine ⟨gv l (i + 1), gv_mem (by omega) (by omega), ?_⟩
  rw [hi]
  exact atI_at (by omega)
section
variable {P B : List Nat} (hp : Par (gv P) P.length) (few : P.length ≤ 60) (hB : Bas (gv P) (gv B) P.length) (lB : B.length = P.length)
include hp few hB lB
theorem q_heights_of : ∃ R, f_heights_of (iN P) (iN B) = some R ∧ True := by
  unfold f_heights_of
  refine bsX (q_is_bases hp (by omega) hB lB) (iFX rfl (bsX (q_reads_by hp (by omega) hB lB) (bsX (maxO1_ok ?_) (bsX (lcC_map (g' := fun x => maxI ((List.range (P.length + 1)).map fun v => ((chn (gv B) v).length : Int)) + 1 - x) ?_ fun a ha => rfl) ⟨_, rfl, True.intro⟩))))
  · intro q
    have := congrArg List.length q
    rw [List.length_map, List.length_range] at this
    cases this
  · rw [cut_1 (by rw [List.length_map, List.length_range]; omega), List.length_drop, List.length_map, List.length_range]
    omega
end
section
variable {P B : List Nat} (hp : Par (gv P) P.length) (few : P.length ≤ 60) (hB : Bas (gv P) (gv B) P.length) (lB : B.length = P.length) {hs : List Int} (hl : hs.length = P.length) (pos : ∀ x ∈ hs, 1 ≤ x ∧ x < 10 ^ 30)
include hp few hB lB hl pos
theorem e_refused {r : List Int} (h : ∀ x ∈ r, 0 ≤ x ∧ x < 9967) (hr : 8 ≤ r.length) : f_w_refused (iN P) hs (iN B) r = some true := by
  obtain ⟨m2, h2, m2a, m2b⟩ := pick_row h (k := 2) (by omega)
  obtain ⟨m3, h3, m3a, m3b⟩ := pick_row h (k := 3) (by omega)
  obtain ⟨m4, h4, m4a, m4b⟩ := pick_row h (k := 4) (by omega)
  obtain ⟨m5, h5, m5a, m5b⟩ := pick_row h (k := 5) (by omega)
  obtain ⟨o1, i1, a1⟩ := pick_odd (l := oddH) (m := m2) (n := 7) rfl (by omega) (by omega)
  obtain ⟨o2, i2, a2⟩ := pick_odd (l := oddV P.length) (m := m3) (n := 7) rfl (by omega) (by omega)
  obtain ⟨o3, i3, a3⟩ := pick_odd (l := oddB) (m := m5) (n := 6) rfl (by omega) (by omega)
  obtain ⟨o4, i4, a4⟩ := pick_odd (l := oddT) (m := m4) (n := 4) rfl (by omega) (by omega)
  obtain ⟨n1, n2⟩ := oddH_ok o1 i1
  have bv := oddV_ok few o2 i2
  obtain ⟨b3, p3, q3⟩ := oddB_ok o3 i3
  obtain ⟨d1, e1, B1⟩ := q_bent h (by omega) (good := hs) (by omega) n2
  have cutr : cutD r (some 3) none = r.drop 3 := cut_from (v := 3) (by omega)
  have hdr : ∀ x ∈ r.drop 3, 0 ≤ x ∧ x < 9967 := fun x hx => h x (List.mem_of_mem_drop hx)
  obtain ⟨d2, e2, B2⟩ := q_bent hdr (by rw [List.length_drop]; omega) (good := iN B) (by rw [len_iN]; omega) p3
  have hb := heights_bad (by omega) hl B1 fun p => n1
  have Hb : F_is_heights [tp PyData.int (iN P), d1] = some (.im (.bool false)) := k_is_heights hb
  have Bb := bases_bad hp few hB lB B2 q3
  have bby := bb_no Hb
  have good : F_bases_by [tp PyData.int (iN P), tp PyData.int hs] = some (.im (tp PyData.int (iN (basL (gv P) (gv hs) P.length)))) := k_bases_by (q_bases_by hp (by omega) hl fun x hx => (pos x hx).1)
  have z0 : F_is_natural [.int 0] = some (.im (.bool false)) := k_is_natural rfl
  obtain ⟨hof, eof, _⟩ := q_heights_of hp few hB lB
  have lin := q_line few hl pos
  unfold f_w_refused
  rw [len_iN, cutr]
  refine bs (a := (10 : Int) ^ 20) rfl (bs h2 (bs a1 (bs e1 (bs (a := (10 : Int) ^ 20) rfl (bs h3 (bs a2 (bs hb (bs (same_bool rfl) (iF rfl (thenA (fun x hx => ?_) (thenA (fun x hx => ?_) (bs (ask3 (oa_ver good (.inr z0)).2) (bs same_w2 (iF rfl (bs (ask4 (or_no (oa_ver good (.inr z0)))) (bs same_w2 (iF rfl (bs h5 (bs a3 (bs e2 (bs (ask1 (ho_no Bb)) (bs same_w3 (iF rfl (bs (ask1k (orRx_of (k_heights_of eof))) (bs same_none (bs (a := false) (orF1 (bs (ask5k (orRx_of (k_heights_line lin))) (bs same_none rfl))) (iF rfl (bs h4 (bs a4 (bs (ask6 (oddT_ok o4 i4)) (bs same_w4 rfl)))))))))))))))))))))))))))))))
  · unfold f_w_refused_L1
    rcases List.mem_cons.mp hx with e | hx
    · rw [e]; exact bs (ask0 bby.2) (bs same_w1 (iF rfl rfl))
    rcases List.mem_cons.mp hx with e | hx
    · rw [e]; exact bs (ask2 (rc_no bby)) (bs same_w1 (iF rfl rfl))
    rcases List.mem_cons.mp hx with e | hx
    · rw [e]; exact bs (ask3 (oa_no bby).2) (bs same_w1 (iF rfl rfl))
    rcases List.mem_cons.mp hx with e | hx
    · rw [e]; exact bs (ask4 (or_no (oa_no bby))) (bs same_w1 (iF rfl rfl))
    rw [List.mem_singleton.mp hx]
    exact bs (ask5 (hl_no Hb)) (bs same_w1 (iF rfl rfl))
  · unfold f_w_refused_L2
    rcases List.mem_cons.mp hx with e | hx
    · rw [e]; exact bs (ask2 (rc_ver good bv)) (bs same_w2 (iF rfl rfl))
    rcases List.mem_cons.mp hx with e | hx
    · rw [e]; exact bs (ask3 (oa_ver good (.inl bv)).2) (bs same_w2 (iF rfl rfl))
    rw [List.mem_singleton.mp hx]
    exact bs (ask4 (or_no (oa_ver good (.inl bv)))) (bs same_w2 (iF rfl rfl))
end
end K12
namespace K12
open PySem PySem.Spec PyProof.Rows L2 DL
def manies : List Int := [(3 : Int), (4 : Int), (5 : Int), (6 : Int), (7 : Int), (0 : Int), (1 : Int), (2 : Int), (9 : Int), (5 : Int), (6 : Int), (4 : Int), (8 : Int), (24 : Int), (7 : Int), (40 : Int)]
theorem many_ok (m : Int) : ∃ n : Nat, n ≤ 40 ∧ atI manies (m % 16) = some (n : Int) := by
  obtain ⟨i, hi⟩ : ∃ i : Nat, m % 16 = (i : Int) := ⟨(m % 16).toNat, by omega⟩
  have l : i < 16 := by omega
  have a : ∀ x ∈ manies, 0 ≤ x ∧ x ≤ 40 := by decide
  have g := a _ (gv_mem (l := manies) (v := i + 1) (by omega) (by show i + 1 ≤ 16; omega))
  refine ⟨(gv manies (i + 1)).toNat, by omega, ?_⟩
  rw [hi, Int.toNat_of_nonneg g.1]
  exact atI_at (by show i < 16; omega)
theorem v_law (ns : List Int) : f_law ns = some true := by
  obtain ⟨r0, e0, l0, p0⟩ := q_draw (ns := ns) (a := 0) (n := 4) (by omega)
  obtain ⟨r1, e1, l1, p1⟩ := q_draw (ns := ns) (a := 1) (n := 41) (by omega)
  obtain ⟨r2, e2, l2, p2⟩ := q_draw (ns := ns) (a := 2) (n := 41) (by omega)
  obtain ⟨r3, e3, l3, p3⟩ := q_draw (ns := ns) (a := 3) (n := 41) (by omega)
  obtain ⟨r4, e4, l4, p4⟩ := q_draw (ns := ns) (a := 4) (n := 4) (by omega)
  obtain ⟨r5, e5, l5, p5⟩ := q_draw (ns := ns) (a := 5) (n := 8) (by omega)
  obtain ⟨m0, h0, m0a, m0b⟩ := pick_row p0 (k := 0) (by omega)
  obtain ⟨m1, h1, m1a, m1b⟩ := pick_row p0 (k := 1) (by omega)
  obtain ⟨n, hn, em⟩ := many_ok m0
  obtain ⟨P, eP, lP, hP⟩ := q_tree p1 (n := n) (by omega) (by omega)
  obtain ⟨hs, eh, lh, ph⟩ := q_heights p2 (n := n) (by omega) (by omega)
  subst lP
  obtain ⟨B, eB, lB, hB⟩ := q_bases hP (by omega) lh (fun x hx => (ph x hx).1) p3 (by omega)
  unfold f_law
  exact bs e0 (bs h0 (bs em (bs e1 (bs eP (bs e2 (bs eh (bs e3 (bs eB (bs h1 (bs (e_looks hP (by omega) lh (fun x hx => (ph x hx).1) m1a) (bs (a := false) (orF1 (bs (e_turned hP (by omega) hB lB) rfl)) (iF rfl (bs e4 (bs (e_lines (by omega) lh ph p4 (by omega)) (iF rfl (bs e5 (bs (e_refused hP (by omega) hB lB lh ph p5 (by omega)) rfl)))))))))))))))))
theorem law_true (ns : List Int) (_ : ns.length ≤ 63) : F_law [.list (ns.map PyData.int)] = some (.im (.bool true)) := k_law (v_law ns)
end K12
namespace K12
open PySem PySem.Spec PyProof.Rows L2 DL
def level : Nat := 12
def spLaw (K : PySem.W.Frag) : Sp := fun vs H Q _ => ∃ (a : Addr) (ns : List Int), vs = [.ref a] ∧ SqL K H a (ns.map V.int) ∧ ns.length ≤ 63 ∧ ∀ H', Q (.bl true) H'
theorem law_imp {P : Program} {w : World} {K : PySem.W.Frag} {mg : Str → Option Value} {base : Heap} {f : Addr} {fd : FuncData} (h : FnOk P w K mg base CX0 12 f fd ["_law_script"] (spD K 1 F_law)) : FnOk P w K mg base CX0 level f fd ["_law_script"] (spLaw K) := by
  refine h.imp fun vs H Q E z => ?_
  obtain ⟨a, ns, rfl, hs, hl, q⟩ := z
  refine ⟨H, [.list (ns.map PyData.int)], _, Same.refl H, .cons (.lst hs (dpAll_ints ns)) .nil, rfl, law_true ns hl, fun v G' H' _ _ _ _ d => ?_⟩
  cases d
  exact q H'
theorem facts {P : Program} {w : World} {K : PySem.W.Frag} {h : Heap} {mg : Str → Option Value} {f : Addr} (X : K.In h) (G : h.Ns mainGlobals mg) (hfa : mg ("law" : Str) = some (.ref f)) (cx : SaysX fa fn ex K) :
    ∃ fd : FuncData, (∀ (s : Shared) (v : Value), BindsTo s fd ⟨[v], []⟩ [("_law_script", v)]) ∧ ∀ base : Heap, K.In base → base.Ns mainGlobals mg → FnOk P w K mg base CX0 level f fd ["_law_script"] (spLaw K) := by
  have c := cx.d
  have cxx := (He.ba cx.x).1
  have cxm := (He.ba cx.x).2
  have XI := exB_xi X G cxx
  have B : Bi mg := ⟨He.free_ok X G (c.fact 45 (f := .free "abs") rfl), He.free_ok X G (c.fact 46 (f := .free "all") rfl), He.free_ok X G (c.fact 47 (f := .free "bool") rfl), He.free_ok X G (c.fact 48 (f := .free "enumerate") rfl), He.free_ok X G (c.fact 49 (f := .free "int") rfl), He.free_ok X G (c.fact 50 (f := .free "isinstance") rfl), He.free_ok X G (c.fact 51 (f := .free "len") rfl), He.free_ok X G (c.fact 52 (f := .free "list") rfl), He.free_ok X G (c.fact 53 (f := .free "max") rfl), He.free_ok X G (c.fact 54 (f := .free "min") rfl), He.free_ok X G (c.fact 55 (f := .free "range") rfl), He.free_ok X G (c.fact 56 (f := .free "sorted") rfl), He.free_ok X G (c.fact 57 (f := .free "str") rfl), He.free_ok X G (c.fact 58 (f := .free "tuple") rfl), He.free_ok X G (c.fact 59 (f := .free "zip") rfl)⟩
  obtain ⟨fd_is_integer, F_is_integer_⟩ := c.def_ 0 (d := d_is_integer) rfl
  obtain ⟨fd_many_of, F_many_of_⟩ := c.def_ 4 (d := d_many_of) rfl
  obtain ⟨fd__upward, F__upward_⟩ := c.def_ 5 (d := d__upward) rfl
  obtain ⟨fd_at_or_below, F_at_or_below_⟩ := c.def_ 10 (d := d_at_or_below) rfl
  obtain ⟨fd_falling, F_falling_⟩ := c.def_ 11 (d := d_falling) rfl
  obtain ⟨fd__number_in, F__number_in_⟩ := c.def_ 23 (d := d__number_in) rfl
  obtain ⟨fd__law_draw, F__law_draw_⟩ := c.def_ 27 (d := d__law_draw) rfl
  obtain ⟨fd__law_tree, F__law_tree_⟩ := c.def_ 29 (d := d__law_tree) rfl
  obtain ⟨fd__law_heights, F__law_heights_⟩ := c.def_ 30 (d := d__law_heights) rfl
  obtain ⟨fd__law_base, F__law_base_⟩ := c.def_ 32 (d := d__law_base) rfl
  obtain ⟨fd__law_open, F__law_open_⟩ := c.def_ 33 (d := d__law_open) rfl
  obtain ⟨fd__law_some, F__law_some_⟩ := c.def_ 34 (d := d__law_some) rfl
  obtain ⟨fd__law_nested, F__law_nested_⟩ := c.def_ 36 (d := d__law_nested) rfl
  obtain ⟨fd__law_bent, F__law_bent_⟩ := c.def_ 40 (d := d__law_bent) rfl
  obtain ⟨fd_is_number, F_is_number_⟩ := c.def_ 1 (d := d_is_number) rfl
  obtain ⟨fd_is_natural, F_is_natural_⟩ := c.def_ 2 (d := d_is_natural) rfl
  obtain ⟨fd__law_bases, F__law_bases_⟩ := c.def_ 31 (d := d__law_bases) rfl
  obtain ⟨fd_check_version, F_check_version_⟩ := c.def_ 3 (d := d_check_version) rfl
  obtain ⟨fd_up_to, F_up_to_⟩ := c.def_ 8 (d := d_up_to) rfl
  obtain ⟨fd_ask_version, F_ask_version_⟩ := c.def_ 13 (d := d_ask_version) rfl
  obtain ⟨fd_is_heights, F_is_heights_⟩ := c.def_ 17 (d := d_is_heights) rfl
  obtain ⟨fd__words_of, F__words_of_⟩ := c.def_ 24 (d := d__words_of) rfl
  obtain ⟨fd_is_elder, F_is_elder_⟩ := c.def_ 6 (d := d_is_elder) rfl
  obtain ⟨fd_need_version, F_need_version_⟩ := c.def_ 9 (d := d_need_version) rfl
  obtain ⟨fd_branch_of, F_branch_of_⟩ := c.def_ 14 (d := d_branch_of) rfl
  obtain ⟨fd_bases_by, F_bases_by_⟩ := c.def_ 18 (d := d_bases_by) rfl
  obtain ⟨fd_heights_line, F_heights_line_⟩ := c.def_ 25 (d := d_heights_line) rfl
  obtain ⟨fd_read_heights, F_read_heights_⟩ := c.def_ 26 (d := d_read_heights) rfl
  obtain ⟨fd_is_bases, F_is_bases_⟩ := c.def_ 7 (d := d_is_bases) rfl
  obtain ⟨fd_records_of, F_records_of_⟩ := c.def_ 20 (d := d_records_of) rfl
  obtain ⟨fd_open_at, F_open_at_⟩ := c.def_ 21 (d := d_open_at) rfl
  obtain ⟨fd_ask_bases, F_ask_bases_⟩ := c.def_ 12 (d := d_ask_bases) rfl
  obtain ⟨fd_open_row, F_open_row_⟩ := c.def_ 22 (d := d_open_row) rfl
  obtain ⟨fd_reads_by, F_reads_by_⟩ := c.def_ 15 (d := d_reads_by) rfl
  obtain ⟨fd_holders_of, F_holders_of_⟩ := c.def_ 16 (d := d_holders_of) rfl
  obtain ⟨fd_heights_of, F_heights_of_⟩ := c.def_ 19 (d := d_heights_of) rfl
  obtain ⟨fd__law_same, F__law_same_⟩ := c.def_ 28 (d := d__law_same) rfl
  obtain ⟨fd__law_looks, F__law_looks_⟩ := c.def_ 35 (d := d__law_looks) rfl
  obtain ⟨fd__law_turned, F__law_turned_⟩ := c.def_ 37 (d := d__law_turned) rfl
  obtain ⟨fd__law_field, F__law_field_⟩ := c.def_ 38 (d := d__law_field) rfl
  obtain ⟨fd__law_ask, F__law_ask_⟩ := c.def_ 41 (d := d__law_ask) rfl
  obtain ⟨fd__law_lines, F__law_lines_⟩ := c.def_ 39 (d := d__law_lines) rfl
  obtain ⟨fd__law_refused, F__law_refused_⟩ := c.def_ 42 (d := d__law_refused) rfl
  obtain ⟨fd_law, F_law_⟩ := c.def_ 43 (d := d_law) rfl
  obtain ⟨fd_i_NotUsable, F_i_NotUsable⟩ := c.def_ 44 (d := d_i_NotUsable) rfl
  obtain ⟨fd_i_Faulty, F_i_Faulty⟩ := c.def_ 45 (d := d_i_Faulty) rfl
  obtain ⟨fd_i_InvalidText, F_i_InvalidText⟩ := c.def_ 46 (d := d_i_InvalidText) rfl
  have e := hfa.symm.trans (He.glo_ok X G (c.fact 43 (f := .glo "law") rfl))
  cases e
  have b := FunD.bindsA (ps := ["_law_script"]) F_law_ fun _ _ _ _ _ _ us hl => match us, hl with | [_], _ => rfl
  refine ⟨fd_law, fun s v => b s [v] rfl, fun base _ _ => ?_⟩
  have XT_NotUsable : ExT P w K mg base "NotUsable" ["word", "at"] := exB_ini X G cxx (x := "NotUsable") (by decide +kernel) (fun C hC xc hf => init2 F_i_NotUsable sc_i_NotUsable rfl xc.ox (hf "word" (by decide +kernel)) (hf "at" (by decide +kernel)) fun cdv A outer s H E => (pss_cons (ps_ost (pe_var (i := 0) rfl (Or.inl rfl) (by decide) (by decide)) (pe_var (i := 1) rfl (Or.inl rfl) (by decide) (by decide))) (pss_cons (ps_ost (pe_var (i := 0) rfl (Or.inl rfl) (by decide) (by decide)) (pe_var (i := 2) rfl (Or.inl rfl) (by decide) (by decide))) pss_nil))) (F_i_NotUsable.bindsN fun _ _ _ _ _ _ us hl => match us, hl with | [_, _, _], _ => rfl)
  have XT_InvalidText : ExT P w K mg base "InvalidText" ["line", "field"] := exB_ini X G cxx (x := "InvalidText") (by decide +kernel) (fun C hC xc hf => init2 F_i_InvalidText sc_i_InvalidText rfl xc.ox (hf "line" (by decide +kernel)) (hf "field" (by decide +kernel)) fun cdv A outer s H E => (pss_cons (ps_ost (pe_var (i := 0) rfl (Or.inl rfl) (by decide) (by decide)) (pe_var (i := 1) rfl (Or.inl rfl) (by decide) (by decide))) (pss_cons (ps_ost (pe_var (i := 0) rfl (Or.inl rfl) (by decide) (by decide)) (pe_var (i := 2) rfl (Or.inl rfl) (by decide) (by decide))) pss_nil))) (F_i_InvalidText.bindsN fun _ _ _ _ _ _ us hl => match us, hl with | [_, _, _], _ => rfl)
  have k_is_integer := ok_is_integer (P := P) (w := w) (mg := mg) (base := base) B F_is_integer_
  have c_is_integer := kfN F_is_integer_ k_is_integer (He.glo_ok X G (c.fact 0 (f := .glo "is_integer") rfl)) fun _ _ _ _ _ _ us hl => match us, hl with | [_], _ => rfl
  have k_many_of := ok_many_of (P := P) (w := w) (mg := mg) (base := base) B F_many_of_
  have c_many_of := kfN F_many_of_ k_many_of (He.glo_ok X G (c.fact 4 (f := .glo "many_of") rfl)) fun _ _ _ _ _ _ us hl => match us, hl with | [_], _ => rfl
  have k__upward := ok__upward (P := P) (w := w) (mg := mg) (base := base) F__upward_
  have c__upward := kfN F__upward_ k__upward (He.glo_ok X G (c.fact 5 (f := .glo "_upward") rfl)) fun _ _ _ _ _ _ us hl => match us, hl with | [_, _], _ => rfl
  have k_at_or_below := ok_at_or_below (P := P) (w := w) (mg := mg) (base := base) F_at_or_below_
  have c_at_or_below := kfN F_at_or_below_ k_at_or_below (He.glo_ok X G (c.fact 10 (f := .glo "at_or_below") rfl)) fun _ _ _ _ _ _ us hl => match us, hl with | [_, _, _], _ => rfl
  have k_falling := ok_falling (P := P) (w := w) (mg := mg) (base := base) B F_falling_
  have c_falling := kfN F_falling_ k_falling (He.glo_ok X G (c.fact 11 (f := .glo "falling") rfl)) fun _ _ _ _ _ _ us hl => match us, hl with | [_], _ => rfl
  have k__number_in := ok__number_in (P := P) (w := w) (mg := mg) (base := base) B F__number_in_
  have c__number_in := kfN F__number_in_ k__number_in (He.glo_ok X G (c.fact 23 (f := .glo "_number_in") rfl)) fun _ _ _ _ _ _ us hl => match us, hl with | [_], _ => rfl
  have k__law_draw := ok__law_draw (P := P) (w := w) (mg := mg) (base := base) B F__law_draw_
  have c__law_draw := kfN F__law_draw_ k__law_draw (He.glo_ok X G (c.fact 27 (f := .glo "_law_draw") rfl)) fun _ _ _ _ _ _ us hl => match us, hl with | [_, _, _], _ => rfl
  have k__law_tree := ok__law_tree (P := P) (w := w) (mg := mg) (base := base) B F__law_tree_
  have c__law_tree := kfN F__law_tree_ k__law_tree (He.glo_ok X G (c.fact 29 (f := .glo "_law_tree") rfl)) fun _ _ _ _ _ _ us hl => match us, hl with | [_, _], _ => rfl
  have k__law_heights := ok__law_heights (P := P) (w := w) (mg := mg) (base := base) B F__law_heights_
  have c__law_heights := kfN F__law_heights_ k__law_heights (He.glo_ok X G (c.fact 30 (f := .glo "_law_heights") rfl)) fun _ _ _ _ _ _ us hl => match us, hl with | [_, _], _ => rfl
  have k__law_base := ok__law_base (P := P) (w := w) (mg := mg) (base := base) F__law_base_
  have c__law_base := kfN F__law_base_ k__law_base (He.glo_ok X G (c.fact 32 (f := .glo "_law_base") rfl)) fun _ _ _ _ _ _ us hl => match us, hl with | [_, _, _], _ => rfl
  have k__law_open := ok__law_open (P := P) (w := w) (mg := mg) (base := base) B F__law_open_
  have c__law_open := kfN F__law_open_ k__law_open (He.glo_ok X G (c.fact 33 (f := .glo "_law_open") rfl)) fun _ _ _ _ _ _ us hl => match us, hl with | [_, _, _], _ => rfl
  have k__law_some := ok__law_some (P := P) (w := w) (mg := mg) (base := base) B F__law_some_
  have c__law_some := kfN F__law_some_ k__law_some (He.glo_ok X G (c.fact 34 (f := .glo "_law_some") rfl)) fun _ _ _ _ _ _ us hl => match us, hl with | [_, _], _ => rfl
  have k__law_nested := ok__law_nested (P := P) (w := w) (mg := mg) (base := base) B F__law_nested_
  have c__law_nested := kfN F__law_nested_ k__law_nested (He.glo_ok X G (c.fact 36 (f := .glo "_law_nested") rfl)) fun _ _ _ _ _ _ us hl => match us, hl with | [_, _], _ => rfl
  have k__law_bent := ok__law_bent (P := P) (w := w) (mg := mg) (base := base) B F__law_bent_
  have c__law_bent := kfN F__law_bent_ k__law_bent (He.glo_ok X G (c.fact 40 (f := .glo "_law_bent") rfl)) fun _ _ _ _ _ _ us hl => match us, hl with | [_, _, _], _ => rfl
  have k_is_number := ok_is_number (P := P) (w := w) (mg := mg) (base := base) F_is_number_ c_is_integer
  have c_is_number := kfN F_is_number_ k_is_number (He.glo_ok X G (c.fact 1 (f := .glo "is_number") rfl)) fun _ _ _ _ _ _ us hl => match us, hl with | [_], _ => rfl
  have k_is_natural := ok_is_natural (P := P) (w := w) (mg := mg) (base := base) F_is_natural_ c_is_integer
  have c_is_natural := kfN F_is_natural_ k_is_natural (He.glo_ok X G (c.fact 2 (f := .glo "is_natural") rfl)) fun _ _ _ _ _ _ us hl => match us, hl with | [_], _ => rfl
  have k__law_bases := ok__law_bases (P := P) (w := w) (mg := mg) (base := base) B F__law_bases_ c__law_base
  have c__law_bases := kfN F__law_bases_ k__law_bases (He.glo_ok X G (c.fact 31 (f := .glo "_law_bases") rfl)) fun _ _ _ _ _ _ us hl => match us, hl with | [_, _, _], _ => rfl
  have ky_check_version := okx_check_version (P := P) (w := w) (mg := mg) (base := base) B XI XT_NotUsable F_check_version_ c_is_number
  have k_check_version := ok_check_version (P := P) (w := w) (mg := mg) (base := base) B F_check_version_ c_is_number
  have kx_check_version := fn_orX k_check_version ky_check_version
  have c_Xcheck_version_3 := kfX F_check_version_ kx_check_version (He.glo_ok X G (c.fact 3 (f := .glo "check_version") rfl)) (F_check_version_.binds1 3 0 (List.cons_ne_nil _ _) rfl fun _ _ _ _ _ _ _ us its h1 h2 => match us, its, h1, h2 with | [_, _, _], [_], _, _ => ⟨_, rfl, rfl⟩)
  have c_check_version_3 := kfD F_check_version_ k_check_version (He.glo_ok X G (c.fact 3 (f := .glo "check_version") rfl)) (F_check_version_.binds1 3 0 (List.cons_ne_nil _ _) rfl fun _ _ _ _ _ _ _ us its h1 h2 => match us, its, h1, h2 with | [_, _, _], [_], _, _ => ⟨_, rfl, rfl⟩)
  have k_up_to := ok_up_to (P := P) (w := w) (mg := mg) (base := base) F_up_to_ c_is_natural
  have c_up_to := kfN F_up_to_ k_up_to (He.glo_ok X G (c.fact 8 (f := .glo "up_to") rfl)) fun _ _ _ _ _ _ us hl => match us, hl with | [_, _], _ => rfl
  have k_ask_version := ok_ask_version (P := P) (w := w) (mg := mg) (base := base) F_ask_version_ c_is_number c_many_of
  have c_ask_version := kfN F_ask_version_ k_ask_version (He.glo_ok X G (c.fact 13 (f := .glo "ask_version") rfl)) fun _ _ _ _ _ _ us hl => match us, hl with | [_, _, _, _], _ => rfl
  have k_is_heights := ok_is_heights (P := P) (w := w) (mg := mg) (base := base) B F_is_heights_ c_is_natural
  have c_is_heights := kfN F_is_heights_ k_is_heights (He.glo_ok X G (c.fact 17 (f := .glo "is_heights") rfl)) fun _ _ _ _ _ _ us hl => match us, hl with | [_, _], _ => rfl
  have c_is_heights_kw0_1_0 : KfK P w K mg base 3 "is_heights" (spD K 2 F_is_heights) 0 ["thing", "history"] [1, 0] := ⟨_, fd_is_heights, _, k_is_heights, (He.glo_ok X G (c.fact 17 (f := .glo "is_heights") rfl)), F_is_heights_.kp, kbn_of F_is_heights_ 0 ["thing", "history"] [1, 0] fun _ _ _ _ _ _ us ws h1 h2 => match us, ws, h1, h2 with | [], [_, _], _, _ => rfl⟩
  have ky__words_of := okx__words_of (P := P) (w := w) (mg := mg) (base := base) B XI XT_InvalidText XT_NotUsable F__words_of_
  have k__words_of := ok__words_of (P := P) (w := w) (mg := mg) (base := base) B F__words_of_
  have kx__words_of := fn_orX k__words_of ky__words_of
  have c_X_words_of := kfXN F__words_of_ kx__words_of (He.glo_ok X G (c.fact 24 (f := .glo "_words_of") rfl)) fun _ _ _ _ _ _ us hl => match us, hl with | [_, _], _ => rfl
  have c__words_of := kfN F__words_of_ k__words_of (He.glo_ok X G (c.fact 24 (f := .glo "_words_of") rfl)) fun _ _ _ _ _ _ us hl => match us, hl with | [_, _], _ => rfl
  have ky_is_elder := okx_is_elder (P := P) (w := w) (mg := mg) (base := base) F_is_elder_ c_Xcheck_version_3 c__upward
  have k_is_elder := ok_is_elder (P := P) (w := w) (mg := mg) (base := base) F_is_elder_ c__upward c_check_version_3
  have kx_is_elder := fn_orX k_is_elder ky_is_elder
  have c_is_elder := kfN F_is_elder_ k_is_elder (He.glo_ok X G (c.fact 6 (f := .glo "is_elder") rfl)) fun _ _ _ _ _ _ us hl => match us, hl with | [_, _, _], _ => rfl
  have ky_need_version := okx_need_version (P := P) (w := w) (mg := mg) (base := base) B XI XT_NotUsable F_need_version_ c_up_to
  have k_need_version := ok_need_version (P := P) (w := w) (mg := mg) (base := base) B F_need_version_ c_up_to
  have kx_need_version := fn_orX k_need_version ky_need_version
  have c_Xneed_version := kfXN F_need_version_ kx_need_version (He.glo_ok X G (c.fact 9 (f := .glo "need_version") rfl)) fun _ _ _ _ _ _ us hl => match us, hl with | [_, _], _ => rfl
  have c_need_version := kfN F_need_version_ k_need_version (He.glo_ok X G (c.fact 9 (f := .glo "need_version") rfl)) fun _ _ _ _ _ _ us hl => match us, hl with | [_, _], _ => rfl
  have k_branch_of := ok_branch_of (P := P) (w := w) (mg := mg) (base := base) B F_branch_of_ c_check_version_3
  have c_branch_of := kfN F_branch_of_ k_branch_of (He.glo_ok X G (c.fact 14 (f := .glo "branch_of") rfl)) fun _ _ _ _ _ _ us hl => match us, hl with | [_, _], _ => rfl
  have ky_bases_by := okx_bases_by (P := P) (w := w) (mg := mg) (base := base) B XI XT_NotUsable F_bases_by_ c_is_heights
  have k_bases_by := ok_bases_by (P := P) (w := w) (mg := mg) (base := base) B F_bases_by_ c_is_heights
  have kx_bases_by := fn_orX k_bases_by ky_bases_by
  have c_Xbases_by := kfXN F_bases_by_ kx_bases_by (He.glo_ok X G (c.fact 18 (f := .glo "bases_by") rfl)) fun _ _ _ _ _ _ us hl => match us, hl with | [_, _], _ => rfl
  have c_bases_by := kfN F_bases_by_ k_bases_by (He.glo_ok X G (c.fact 18 (f := .glo "bases_by") rfl)) fun _ _ _ _ _ _ us hl => match us, hl with | [_, _], _ => rfl
  have c_bases_by_kw0_1_0 : KfK P w K mg base 4 "bases_by" (spD K 2 F_bases_by) 0 ["heights", "history"] [1, 0] := ⟨_, fd_bases_by, _, k_bases_by, (He.glo_ok X G (c.fact 18 (f := .glo "bases_by") rfl)), F_bases_by_.kp, kbn_of F_bases_by_ 0 ["heights", "history"] [1, 0] fun _ _ _ _ _ _ us ws h1 h2 => match us, ws, h1, h2 with | [], [_, _], _, _ => rfl⟩
  have ky_heights_line := okx_heights_line (P := P) (w := w) (mg := mg) (base := base) B XI XT_NotUsable F_heights_line_ c_is_heights
  have k_heights_line := ok_heights_line (P := P) (w := w) (mg := mg) (base := base) B F_heights_line_ c_is_heights
  have kx_heights_line := fn_orX k_heights_line ky_heights_line
  have c_Xheights_line := kfXN F_heights_line_ kx_heights_line (He.glo_ok X G (c.fact 25 (f := .glo "heights_line") rfl)) fun _ _ _ _ _ _ us hl => match us, hl with | [_, _], _ => rfl
  have c_heights_line := kfN F_heights_line_ k_heights_line (He.glo_ok X G (c.fact 25 (f := .glo "heights_line") rfl)) fun _ _ _ _ _ _ us hl => match us, hl with | [_, _], _ => rfl
  have c_heights_line_kw0_1_0 : KfK P w K mg base 4 "heights_line" (spD K 2 F_heights_line) 0 ["heights", "history"] [1, 0] := ⟨_, fd_heights_line, _, k_heights_line, (He.glo_ok X G (c.fact 25 (f := .glo "heights_line") rfl)), F_heights_line_.kp, kbn_of F_heights_line_ 0 ["heights", "history"] [1, 0] fun _ _ _ _ _ _ us ws h1 h2 => match us, ws, h1, h2 with | [], [_, _], _, _ => rfl⟩
  have ky_read_heights := okx_read_heights (P := P) (w := w) (mg := mg) (base := base) B XI XT_InvalidText F_read_heights_ c_X_words_of c__number_in
  have k_read_heights := ok_read_heights (P := P) (w := w) (mg := mg) (base := base) B F_read_heights_ c__number_in c__words_of
  have kx_read_heights := fn_orX k_read_heights ky_read_heights
  have c_Xread_heights := kfXN F_read_heights_ kx_read_heights (He.glo_ok X G (c.fact 26 (f := .glo "read_heights") rfl)) fun _ _ _ _ _ _ us hl => match us, hl with | [_, _], _ => rfl
  have c_read_heights := kfN F_read_heights_ k_read_heights (He.glo_ok X G (c.fact 26 (f := .glo "read_heights") rfl)) fun _ _ _ _ _ _ us hl => match us, hl with | [_, _], _ => rfl
  have c_read_heights_kw0_1_0 : KfK P w K mg base 4 "read_heights" (spD K 2 F_read_heights) 0 ["text", "history"] [1, 0] := ⟨_, fd_read_heights, _, k_read_heights, (He.glo_ok X G (c.fact 26 (f := .glo "read_heights") rfl)), F_read_heights_.kp, kbn_of F_read_heights_ 0 ["text", "history"] [1, 0] fun _ _ _ _ _ _ us ws h1 h2 => match us, ws, h1, h2 with | [], [_, _], _, _ => rfl⟩
  have ky_is_bases := okx_is_bases (P := P) (w := w) (mg := mg) (base := base) B F_is_bases_ c_is_elder c_is_number c_many_of
  have k_is_bases := ok_is_bases (P := P) (w := w) (mg := mg) (base := base) B F_is_bases_ c_is_elder c_is_number c_many_of
  have kx_is_bases := fn_orX k_is_bases ky_is_bases
  have c_is_bases := kfN F_is_bases_ k_is_bases (He.glo_ok X G (c.fact 7 (f := .glo "is_bases") rfl)) fun _ _ _ _ _ _ us hl => match us, hl with | [_, _], _ => rfl
  have ky_records_of := okx_records_of (P := P) (w := w) (mg := mg) (base := base) B XI XT_NotUsable F_records_of_ c_Xbases_by c_is_number
  have k_records_of := ok_records_of (P := P) (w := w) (mg := mg) (base := base) B F_records_of_ c_bases_by c_is_number
  have kx_records_of := fn_orX k_records_of ky_records_of
  have c_Xrecords_of := kfXN F_records_of_ kx_records_of (He.glo_ok X G (c.fact 20 (f := .glo "records_of") rfl)) fun _ _ _ _ _ _ us hl => match us, hl with | [_, _, _], _ => rfl
  have c_records_of := kfN F_records_of_ k_records_of (He.glo_ok X G (c.fact 20 (f := .glo "records_of") rfl)) fun _ _ _ _ _ _ us hl => match us, hl with | [_, _, _], _ => rfl
  have c_records_of_kw0_2_1_0 : KfK P w K mg base 5 "records_of" (spD K 3 F_records_of) 0 ["version", "heights", "history"] [2, 1, 0] := ⟨_, fd_records_of, _, k_records_of, (He.glo_ok X G (c.fact 20 (f := .glo "records_of") rfl)), F_records_of_.kp, kbn_of F_records_of_ 0 ["version", "heights", "history"] [2, 1, 0] fun _ _ _ _ _ _ us ws h1 h2 => match us, ws, h1, h2 with | [], [_, _, _], _, _ => rfl⟩
  have ky_open_at := okx_open_at (P := P) (w := w) (mg := mg) (base := base) B F_open_at_ c_Xbases_by c_Xneed_version c_at_or_below
  have k_open_at := ok_open_at (P := P) (w := w) (mg := mg) (base := base) B F_open_at_ c_at_or_below c_bases_by c_need_version
  have kx_open_at := fn_orX k_open_at ky_open_at
  have c_Xopen_at := kfXN F_open_at_ kx_open_at (He.glo_ok X G (c.fact 21 (f := .glo "open_at") rfl)) fun _ _ _ _ _ _ us hl => match us, hl with | [_, _, _], _ => rfl
  have c_open_at := kfN F_open_at_ k_open_at (He.glo_ok X G (c.fact 21 (f := .glo "open_at") rfl)) fun _ _ _ _ _ _ us hl => match us, hl with | [_, _, _], _ => rfl
  have c_open_at_kw0_2_1_0 : KfK P w K mg base 5 "open_at" (spD K 3 F_open_at) 0 ["version", "heights", "history"] [2, 1, 0] := ⟨_, fd_open_at, _, k_open_at, (He.glo_ok X G (c.fact 21 (f := .glo "open_at") rfl)), F_open_at_.kp, kbn_of F_open_at_ 0 ["version", "heights", "history"] [2, 1, 0] fun _ _ _ _ _ _ us ws h1 h2 => match us, ws, h1, h2 with | [], [_, _, _], _, _ => rfl⟩
  have ky_ask_bases := okx_ask_bases (P := P) (w := w) (mg := mg) (base := base) XI XT_NotUsable F_ask_bases_ c_is_bases
  have k_ask_bases := ok_ask_bases (P := P) (w := w) (mg := mg) (base := base) F_ask_bases_ c_is_bases
  have kx_ask_bases := fn_orX k_ask_bases ky_ask_bases
  have c_Xask_bases := kfXN F_ask_bases_ kx_ask_bases (He.glo_ok X G (c.fact 12 (f := .glo "ask_bases") rfl)) fun _ _ _ _ _ _ us hl => match us, hl with | [_, _], _ => rfl
  have c_ask_bases := kfN F_ask_bases_ k_ask_bases (He.glo_ok X G (c.fact 12 (f := .glo "ask_bases") rfl)) fun _ _ _ _ _ _ us hl => match us, hl with | [_, _], _ => rfl
  have ky_open_row := okx_open_row (P := P) (w := w) (mg := mg) (base := base) F_open_row_ c_Xopen_at c_falling
  have k_open_row := ok_open_row (P := P) (w := w) (mg := mg) (base := base) F_open_row_ c_falling c_open_at
  have kx_open_row := fn_orX k_open_row ky_open_row
  have c_Xopen_row := kfXN F_open_row_ kx_open_row (He.glo_ok X G (c.fact 22 (f := .glo "open_row") rfl)) fun _ _ _ _ _ _ us hl => match us, hl with | [_, _, _], _ => rfl
  have c_open_row := kfN F_open_row_ k_open_row (He.glo_ok X G (c.fact 22 (f := .glo "open_row") rfl)) fun _ _ _ _ _ _ us hl => match us, hl with | [_, _, _], _ => rfl
  have c_open_row_kw0_2_1_0 : KfK P w K mg base 6 "open_row" (spD K 3 F_open_row) 0 ["version", "heights", "history"] [2, 1, 0] := ⟨_, fd_open_row, _, k_open_row, (He.glo_ok X G (c.fact 22 (f := .glo "open_row") rfl)), F_open_row_.kp, kbn_of F_open_row_ 0 ["version", "heights", "history"] [2, 1, 0] fun _ _ _ _ _ _ us ws h1 h2 => match us, ws, h1, h2 with | [], [_, _, _], _, _ => rfl⟩
  have ky_reads_by := okx_reads_by (P := P) (w := w) (mg := mg) (base := base) B F_reads_by_ c_Xask_bases
  have k_reads_by := ok_reads_by (P := P) (w := w) (mg := mg) (base := base) B F_reads_by_ c_ask_bases
  have kx_reads_by := fn_orX k_reads_by ky_reads_by
  have c_Xreads_by := kfXN F_reads_by_ kx_reads_by (He.glo_ok X G (c.fact 15 (f := .glo "reads_by") rfl)) fun _ _ _ _ _ _ us hl => match us, hl with | [_, _], _ => rfl
  have c_reads_by := kfN F_reads_by_ k_reads_by (He.glo_ok X G (c.fact 15 (f := .glo "reads_by") rfl)) fun _ _ _ _ _ _ us hl => match us, hl with | [_, _], _ => rfl
  have k_holders_of := ok_holders_of (P := P) (w := w) (mg := mg) (base := base) B F_holders_of_ c_ask_bases c_ask_version c_branch_of
  have c_holders_of := kfN F_holders_of_ k_holders_of (He.glo_ok X G (c.fact 16 (f := .glo "holders_of") rfl)) fun _ _ _ _ _ _ us hl => match us, hl with | [_, _, _], _ => rfl
  have ky_heights_of := okx_heights_of (P := P) (w := w) (mg := mg) (base := base) B XI XT_NotUsable F_heights_of_ c_Xreads_by c_is_bases
  have k_heights_of := ok_heights_of (P := P) (w := w) (mg := mg) (base := base) B F_heights_of_ c_is_bases c_reads_by
  have kx_heights_of := fn_orX k_heights_of ky_heights_of
  have c_Xheights_of := kfXN F_heights_of_ kx_heights_of (He.glo_ok X G (c.fact 19 (f := .glo "heights_of") rfl)) fun _ _ _ _ _ _ us hl => match us, hl with | [_, _], _ => rfl
  have c_heights_of := kfN F_heights_of_ k_heights_of (He.glo_ok X G (c.fact 19 (f := .glo "heights_of") rfl)) fun _ _ _ _ _ _ us hl => match us, hl with | [_, _], _ => rfl
  have c_heights_of_kw0_1_0 : KfK P w K mg base 8 "heights_of" (spD K 2 F_heights_of) 0 ["bases", "history"] [1, 0] := ⟨_, fd_heights_of, _, k_heights_of, (He.glo_ok X G (c.fact 19 (f := .glo "heights_of") rfl)), F_heights_of_.kp, kbn_of F_heights_of_ 0 ["bases", "history"] [1, 0] fun _ _ _ _ _ _ us ws h1 h2 => match us, ws, h1, h2 with | [], [_, _], _, _ => rfl⟩
  have kh__law_same : L2H.FnH P w K mg base CX0 9 _ fd__law_same ["_law_one", "_law_other"] (spD K 2 F__law_same) := okh__law_same (P := P) (w := w) (mg := mg) (base := base) B F__law_same_ (fun ok => kfHN F__law_same_ ok (He.glo_ok X G (c.fact 28 (f := .glo "_law_same") rfl)) fun _ _ _ _ _ _ us hl => match us, hl with | [_, _], _ => rfl) 8
  have c_H_law_same := kfHN F__law_same_ kh__law_same (He.glo_ok X G (c.fact 28 (f := .glo "_law_same") rfl)) fun _ _ _ _ _ _ us hl => match us, hl with | [_, _], _ => rfl
  have k__law_same : FnOk P w K mg base CX0 9 _ fd__law_same ["_law_one", "_law_other"] (spD K 2 F__law_same) := ok__law_same (P := P) (w := w) (mg := mg) (base := base) B F__law_same_ (fun ok => kfN F__law_same_ ok (He.glo_ok X G (c.fact 28 (f := .glo "_law_same") rfl)) fun _ _ _ _ _ _ us hl => match us, hl with | [_, _], _ => rfl) 8
  have c__law_same := kfN F__law_same_ k__law_same (He.glo_ok X G (c.fact 28 (f := .glo "_law_same") rfl)) fun _ _ _ _ _ _ us hl => match us, hl with | [_, _], _ => rfl
  have k__law_looks := ok__law_looks (P := P) (w := w) (mg := mg) (base := base) B F__law_looks_ c__law_base c__law_open c__law_same c__law_some c_bases_by c_bases_by_kw0_1_0 c_holders_of c_is_heights c_open_at c_open_at_kw0_2_1_0 c_open_row c_open_row_kw0_2_1_0 c_records_of c_records_of_kw0_2_1_0
  have c__law_looks := kfN F__law_looks_ k__law_looks (He.glo_ok X G (c.fact 35 (f := .glo "_law_looks") rfl)) fun _ _ _ _ _ _ us hl => match us, hl with | [_, _, _], _ => rfl
  have k__law_turned := ok__law_turned (P := P) (w := w) (mg := mg) (base := base) B F__law_turned_ c__law_base c__law_nested c__law_same c_bases_by c_heights_of c_heights_of_kw0_1_0
  have c__law_turned := kfN F__law_turned_ k__law_turned (He.glo_ok X G (c.fact 37 (f := .glo "_law_turned") rfl)) fun _ _ _ _ _ _ us hl => match us, hl with | [_, _], _ => rfl
  have k__law_field := ok__law_field (P := P) (w := w) (mg := mg) (base := base) B XI F__law_field_ c_H_law_same c_Xread_heights
  have c__law_field := kfN F__law_field_ k__law_field (He.glo_ok X G (c.fact 38 (f := .glo "_law_field") rfl)) fun _ _ _ _ _ _ us hl => match us, hl with | [_, _], _ => rfl
  have k__law_ask := ok__law_ask (P := P) (w := w) (mg := mg) (base := base) B XI F__law_ask_ c_H_law_same c_Xbases_by c_Xheights_line c_Xheights_of c_Xopen_at c_Xopen_row c_Xread_heights c_Xrecords_of
  have c__law_ask := kfN F__law_ask_ k__law_ask (He.glo_ok X G (c.fact 41 (f := .glo "_law_ask") rfl)) fun _ _ _ _ _ _ us hl => match us, hl with | [_, _, _, _], _ => rfl
  have k__law_lines := ok__law_lines (P := P) (w := w) (mg := mg) (base := base) B F__law_lines_ c__law_field c__law_same c_heights_line c_heights_line_kw0_1_0 c_is_heights_kw0_1_0 c_read_heights c_read_heights_kw0_1_0
  have c__law_lines := kfN F__law_lines_ k__law_lines (He.glo_ok X G (c.fact 39 (f := .glo "_law_lines") rfl)) fun _ _ _ _ _ _ us hl => match us, hl with | [_, _, _], _ => rfl
  have k__law_refused := ok__law_refused (P := P) (w := w) (mg := mg) (base := base) B F__law_refused_ c__law_ask c__law_bent c__law_same c_is_heights
  have c__law_refused := kfN F__law_refused_ k__law_refused (He.glo_ok X G (c.fact 42 (f := .glo "_law_refused") rfl)) fun _ _ _ _ _ _ us hl => match us, hl with | [_, _, _, _], _ => rfl
  have k_law := ok_law (P := P) (w := w) (mg := mg) (base := base) B F_law_ c__law_bases c__law_draw c__law_heights c__law_lines c__law_looks c__law_refused c__law_tree c__law_turned
  exact law_imp k_law
end K12
open PySem PySem.W PySem.Calls PyProof.Rows
theorem PySem.Challenge.cw_sincemarks_k12_heights_records_open_holds : PySem.Challenge.rw_sincemarks_k12_heights_records_open.Holds := by
  w_on; o_law
  refine HandSHeadRun.head_any (r := OpenLaw.row PySem.Challenge.rw_sincemarks_k12_heights_records_open) (q := view (OpenLaw.row PySem.Challenge.rw_sincemarks_k12_heights_records_open).prog [61]) (H := K12.hk) (ob := K12.ob) (M := 6000) (loose := K12.names) (d := HandSHeadRun.topDef (OpenLaw.row PySem.Challenge.rw_sincemarks_k12_heights_records_open).prog 61) (kwd := []) K12.ob_eq
    (by kernel_rfl) (fun s => by kernel_rfl) K12.run (by kernel_rfl) (by kernel_rfl) (by kernel_rfl) (by rfl) (by first | assumption | decide +kernel) (by decide +kernel) ⟨rfl, rfl, rfl, rfl, rfl, by decide +kernel⟩ ?hw ?hc
  case hw => w_witness2
  case hc =>
    refine L2.walk_ofE (l := PySem.Challenge.rw_sincemarks_k12_heights_records_open) (n := 63) (k := K12.level) (x := "_law_script") (CX := L2.CX0) rfl (by decide) (by kernel_rfl) ⟨rfl, by decide, by decide⟩ ?F (fun _ _ _ _ z => z)
    intro w mg fa h Y G hmg0
    obtain ⟨K, KX, c⟩ := Y
    have hmg : mg ("law" : PySem.Str) = some (.ref fa) := by
      have e : (HandSHeadRun.topDef (OpenLaw.row PySem.Challenge.rw_sincemarks_k12_heights_records_open).prog 61).name = ("law" : PySem.Str) := by kernel_rfl
      rw [← e]
      exact hmg0
    obtain ⟨fd, hb, hF⟩ := K12.facts (P := (PySem.Challenge.rw_sincemarks_k12_heights_records_open).prog) (w := w) KX G hmg c
    exact ⟨K, fd, K12.spLaw K, KX, hb, fun H a ns hl _ hS => ⟨a, ns, rfl, hS, hl, fun _ => rfl⟩, hF⟩
