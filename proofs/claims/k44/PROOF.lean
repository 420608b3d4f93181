import PyProof.Rows.All
import Wide.All
import OpenK.AllK
import Wide.FinOn
import HandS.ForMost
import HandS.Defaults
import HandS.Conv
import HandS.Zip
import HandS.Rev
import HandS.Style
import HandS.IsInst
import HandS.SortKw
import HandS.SortInts
import HandS.SortOrd
import HandS.TupAny
import HandS.TupLe
import HandS.Wide
import HandS.Flow
import KE.DataMinMax
import KE.SortData
import HandS.TupSets
import KE.GoesEnum
import KE.DataEq
import HandS.Exc
import HandS.ExcOwn
import HandS.ExcInit
import HandS.ExcField
import HandS.ExcIs
import HandS.TryMany
import HandS.ExcCtx
import HandS.HotCalls
import KE.KExcIs
import HandS.Head0
import HandS.Head1
import HandS.Head2
import HandS.HeadEnd
import HandS.HeadHook1
import HandS.HeadHook2
import HandS.Gcd
import KE.KMathGC
import HandS.TupMul
import HandS.Dict
import HandS.Deep
import HandS.Comp
import KE.GoesEnumKw
import HandS.RevRange
import HandS.Head3
import HandS.IterNext
import HandS.OwnIter
import HandS.Property
import HandS.OwnEq
import HandS.Codes
import HandS.MakeKwOnly
import HandS.IterVal
import KE.KDictZip
import PySem.Challenge.RW_sincemarks_k44_whole_pourings_and_plans
set_option Elab.async false
set_option linter.all false
set_option maxRecDepth 100000
set_option maxHeartbeats 0
namespace DL
open PySem PySem.Spec PyProof.Rows L2
abbrev St := L2.St
/-- a thing that is only asked: a set of ints, a range -/
inductive Ok where
  | ints (is : List Int)
  | rng (lo hi : Int)
  | xc (a dd : Addr) (fs : List (Str × V)) (ds : List (Str × PyData))
def Ok.At : Ok → HO → Prop
  | .ints is, o => ∃ n, o = .set (fun j => decide (j ∈ is)) n
  | .rng lo hi, o => o = .rng lo hi
  | .xc _ _ _ _, _ => False
/-- an item of one's own thing: data, or one's own list -/
inductive Ot where
  | im (d : PyData)
  | ls (ds : List PyData)
/-- one's own thing: a list of such items, an instance -/
inductive Ow where
  | lst (ts : List Ot)
  | ins (c : Str) (fs : List (Str × Ot))
  | al (i k : Nat)
def Ow.isAl : Ow → Bool
  | .al _ _ => true
  | _ => false
def Ow.ts : Ow → List Ot
  | .lst ts => ts
  | .ins _ fs => fs.map (·.2)
  | .al _ _ => []
def Ow.vs : Ow → Option HO → List V
  | .lst _, some (.lst ws) => ws
  | .ins _ _, some (.ins _ _ fs) => fs.map (·.2)
  | _, _ => []
def owL : List V → List Ot → List Addr
  | .ref q :: vs, .ls _ :: ts => q :: owL vs ts
  | _ :: vs, _ :: ts => owL vs ts
  | _, _ => []
/-- where its lists lie -/
def owQ (o : Option HO) (t : Ow) : List Addr := owL (t.vs o) t.ts
/-- all of it -/
def owA (o : Option HO) (p : Addr) : Ow → List Addr
  | .al _ _ => []
  | t => p :: owQ o t
theorem owA_of {o : Option HO} {p : Addr} : ∀ {t : Ow}, t.isAl = false → owA o p t = p :: owQ o t
  | .lst _, _ => rfl
  | .ins _ _, _ => rfl
theorem owA_al {o : Option HO} {p a : Addr} : ∀ {t : Ow}, a ∈ owA o p t → t.isAl = false
  | .lst _, _ => rfl
  | .ins _ _, _ => rfl
inductive Sl where
  | im (d : PyData)
  | ac (ds : List PyData)
  | nl (dss : List (Bool × List PyData))
  | ob (k : Ok)
  | dk (kvs : List (Key × PyData))
  | me (c : Str) (fs : List (Str × PyData))
  | ow (t : Ow)
abbrev Ev := List (Option Sl)
inductive Rs where
  | im (d : PyData)
  | ac (ds : List PyData)
  | br (i : Nat)
def isAc : Option (Option Sl) → Bool
  | some (some (.ac _)) => true
  | _ => false
def isOw : Option (Option Sl) → Bool
  | some (some (.ow _)) => true
  | _ => false
def isAo (o : Option (Option Sl)) : Bool := isAc o || isOw o
theorem isAc_iff {o : Option (Option Sl)} : isAc o = true ↔ ∃ ds, o = some (some (.ac ds)) := by
  constructor
  · intro h
    match o, h with
    | some (some (.ac ds)), _ => exact ⟨ds, rfl⟩
  · rintro ⟨ds, rfl⟩
    rfl
/-- the name of the class at C -/
def clsNm (K : PySem.W.Frag) (C : Addr) : Option Str := match K.lookup C with
  | some ⟨_, _, .cls cd, _⟩ => some cd.name
  | _ => none
def kyD : Key → PyData
  | .inl i => .int i
  | .inr x => .str x
def insK (c : Str) (ns : List Str) (ds : List PyData) : List (PyData × PyData) := (.none, .str c) :: (ns.zip ds).map fun p => (.str p.1, p.2)
def dctK (ks : List Key) (ds : List PyData) : List (PyData × PyData) := (ks.zip ds).map fun p => (kyD p.1, p.2)
mutual
inductive Dp (K : PySem.W.Frag) (H : Hp) : V → PyData → Prop
  | non : Dp K H .non .none
  | bl (b : Bool) : Dp K H (.bl b) (.bool b)
  | int (i : Int) : Dp K H (.int i) (.int i)
  | str (x : Str) : Dp K H (.str x) (.str x)
  | lst {a : Addr} {xs : List V} {ds : List PyData} : SqL K H a xs → DpAll K H xs ds → Dp K H (.ref a) (.list ds)
  | tup {a : Addr} {xs : List V} {ds : List PyData} : SqT K H a xs → DpAll K H xs ds → Dp K H (.ref a) (.tuple ds)
  | ins {a C dx : Addr} {fs : List (Str × V)} {c : Str} {ds : List PyData} {kvs : List (PyData × PyData)} : H a = some (.ins C dx fs) → clsNm K C = some c → DpAll K H (fs.map (·.2)) ds → kvs = insK c (fs.map (·.1)) ds → Dp K H (.ref a) (.dict kvs)
  | dct {a : Addr} {ps : List (Key × V)} {ds : List PyData} {kvs : List (PyData × PyData)} : H a = some (.dK ps) → DpAll K H (ps.map (·.2)) ds → kvs = dctK (ps.map (·.1)) ds → Dp K H (.ref a) (.dict kvs)
inductive DpAll (K : PySem.W.Frag) (H : Hp) : List V → List PyData → Prop
  | nil : DpAll K H [] []
  | cons {v : V} {vs : List V} {d : PyData} {ds : List PyData} : Dp K H v d → DpAll K H vs ds → DpAll K H (v :: vs) (d :: ds)
end
mutual
def noDict : PyData → Bool
  | .list ds => noDicts ds
  | .tuple ds => noDicts ds
  | .dict _ => false
  | _ => true
def noDicts : List PyData → Bool
  | [] => true
  | d :: ds => noDict d && noDicts ds
end
mutual
theorem Dp.lib {K : PySem.W.Frag} {H : Hp} : ∀ {v : V} {d : PyData}, Dp K H v d → noDict d = true → L2.Dp K H v d
  | _, _, .non, _ => .non
  | _, _, .bl b, _ => .bl b
  | _, _, .int i, _ => .int i
  | _, _, .str x, _ => .str x
  | _, _, .lst h q, n => .lst h (DpAll.lib q n)
  | _, _, .tup h q, n => .tup h (DpAll.lib q n)
  | _, _, .ins _ _ _ _, n => by cases n
  | _, _, .dct _ _ _, n => by cases n
theorem DpAll.lib {K : PySem.W.Frag} {H : Hp} : ∀ {vs : List V} {ds : List PyData}, DpAll K H vs ds → noDicts ds = true → L2.DpAll K H vs ds
  | _, _, .nil, _ => .nil
  | _, _, .cons h q, n => by
    have n : (noDict _ && noDicts _) = true := n
    rw [Bool.and_eq_true] at n
    exact .cons (Dp.lib h n.1) (DpAll.lib q n.2)
end
mutual
theorem canNo : ∀ {d : PyData}, PyData.canLay0 d = true → noDict d = true
  | .none, _ => rfl
  | .bool _, _ => rfl
  | .int _, _ => rfl
  | .str _, _ => rfl
  | .list ds, h => by
    rw [PyData.canLay0] at h
    exact canNos h
  | .tuple ds, h => by
    rw [PyData.canLay0] at h
    exact canNos h
  | .dict _, h => by
    rw [PyData.canLay0] at h
    cases h
theorem canNos : ∀ {ds : List PyData}, PyData.canLayAll0 ds = true → noDicts ds = true
  | [], _ => rfl
  | d :: ds, h => by
    rw [PyData.canLayAll0, Bool.and_eq_true] at h
    show (noDict d && noDicts ds) = true
    rw [canNo h.1, canNos h.2]
    rfl
end
theorem noDicts_all : ∀ {ds : List PyData}, noDicts ds = true ↔ ∀ d ∈ ds, noDict d = true
  | [] => Iff.intro (fun _ d h => (by cases h)) (fun _ => rfl)
  | d :: ds => by
    show (noDict d && noDicts ds) = true ↔ _
    rw [Bool.and_eq_true, noDicts_all (ds := ds)]
    constructor
    · rintro ⟨h1, h2⟩ x hx
      rcases List.mem_cons.mp hx with z | z
      · rw [z]; exact h1
      · exact h2 x z
    · exact fun h => ⟨h d List.mem_cons_self, fun x hx => h x (List.mem_cons_of_mem _ hx)⟩
theorem noDict_ints (ns : List Int) : noDicts (ns.map PyData.int) = true := noDicts_all.mpr fun d h => by
  obtain ⟨_, _, rfl⟩ := List.mem_map.mp h
  rfl
section
variable {K : PySem.W.Frag} {E : Ef} {G G' G1 G2 H H' H1 G0 : Hp} {v : V} {vs ws : List V} {d : PyData} {ds : List PyData} {p a : Addr} {o : HO} {σ σ' : St} {e e' e1 : Ev} {m : Option Addr} {i : Nat} {r : Rs}
theorem seqT (s : Same G G') {xs : List V} (h : SqT K G a xs) : SqT K G' a xs := by
  rcases h with (h | ⟨q, h⟩) | h
  · exact .inl (.inl (s _ _ h))
  · exact .inl (.inr ⟨q, s _ _ h⟩)
  · exact .inr h
mutual
theorem dp_same (s : Same G G') : ∀ {v : V} {d : PyData}, Dp K G v d → Dp K G' v d
  | _, _, .non => .non
  | _, _, .bl b => .bl b
  | _, _, .int i => .int i
  | _, _, .str x => .str x
  | _, _, .lst h q => .lst (s.seq h) (dpAll_same s q)
  | _, _, .tup h q => .tup (seqT s h) (dpAll_same s q)
  | _, _, .ins h n q e => .ins (s _ _ h) n (dpAll_same s q) e
  | _, _, .dct h q e => .dct (s _ _ h) (dpAll_same s q) e
theorem dpAll_same (s : Same G G') : ∀ {vs : List V} {ds : List PyData}, DpAll K G vs ds → DpAll K G' vs ds
  | _, _, .nil => .nil
  | _, _, .cons h q => .cons (dp_same s h) (dpAll_same s q)
end
theorem dpAll_len : ∀ {vs : List V} {ds : List PyData}, DpAll K G vs ds → vs.length = ds.length
  | _, _, .nil => rfl
  | _, _, .cons _ q => congrArg (· + 1) (dpAll_len q)
theorem dpAll_get : ∀ {vs : List V} {ds : List PyData} {i : Nat} {d : PyData}, DpAll K G vs ds → ds[i]? = some d → ∃ v, vs[i]? = some v ∧ Dp K G v d
  | _, _, _, _, .nil, z => by simp at z
  | _, _, 0, _, .cons (v := v) h _, z => ⟨v, rfl, by
      have z2 := Option.some.inj z
      rw [← z2]
      exact h⟩
  | _, _, i + 1, _, .cons _ q, z => by
      obtain ⟨v, h1, h2⟩ := dpAll_get (i := i) q (by simpa using z)
      exact ⟨v, by simpa using h1, h2⟩
theorem dpAll_app : ∀ {vs ws : List V} {ds es : List PyData}, DpAll K G vs ds → DpAll K G ws es → DpAll K G (vs ++ ws) (ds ++ es)
  | _, _, _, _, .nil, q => q
  | _, _, _, _, .cons h t, q => .cons h (dpAll_app t q)
theorem dpAll_set : ∀ {vs : List V} {ds : List PyData} (i : Nat), DpAll K G vs ds → Dp K G v d → DpAll K G (vs.set i v) (ds.set i d)
  | _, _, _, .nil, _ => .nil
  | _, _, 0, .cons _ t, q => .cons q t
  | _, _, i + 1, .cons h t, q => .cons h (dpAll_set i t q)
theorem dpAll_take : ∀ {vs : List V} {ds : List PyData} (n : Nat), DpAll K G vs ds → DpAll K G (vs.take n) (ds.take n)
  | _, _, 0, _ => .nil
  | _, _, _ + 1, .nil => .nil
  | _, _, n + 1, .cons h t => .cons h (dpAll_take n t)
theorem dpAll_drop : ∀ {vs : List V} {ds : List PyData} (n : Nat), DpAll K G vs ds → DpAll K G (vs.drop n) (ds.drop n)
  | _, _, 0, t => t
  | _, _, _ + 1, .nil => .nil
  | _, _, n + 1, .cons _ t => dpAll_drop n t
theorem dpAll_rev : ∀ {vs : List V} {ds : List PyData}, DpAll K G vs ds → DpAll K G vs.reverse ds.reverse
  | _, _, .nil => .nil
  | _, _, .cons h t => by
    rw [List.reverse_cons, List.reverse_cons]
    exact dpAll_app (dpAll_rev t) (.cons h .nil)
theorem dpAll_rep (h : DpAll K G vs ds) : ∀ k : Nat, DpAll K G (List.replicate k vs).flatten (List.replicate k ds).flatten
  | 0 => .nil
  | k + 1 => by
    rw [List.replicate_succ, List.replicate_succ, List.flatten_cons, List.flatten_cons]
    exact dpAll_app h (dpAll_rep h k)
theorem dpAll_ints : ∀ (ns : List Int), DpAll K G (ns.map V.int) (ns.map PyData.int)
  | [] => .nil
  | n :: ns => .cons (.int n) (dpAll_ints ns)
/-- the items of one's own thing -/
inductive OtAll (K : PySem.W.Frag) (G H : Hp) : List V → List Ot → Prop
  | nil : OtAll K G H [] []
  | im {v : V} {vs : List V} {d : PyData} {ts : List Ot} : Dp K G v d → OtAll K G H vs ts → OtAll K G H (v :: vs) (.im d :: ts)
  | ls {q : Addr} {ws vs : List V} {ds : List PyData} {ts : List Ot} : H q = some (.lst ws) → DpAll K G ws ds → OtAll K G H vs ts → OtAll K G H (.ref q :: vs) (.ls ds :: ts)
def OwAt (K : PySem.W.Frag) (G H : Hp) (p : Addr) : Ow → Prop
  | .lst ts => ∃ ws, H p = some (.lst ws) ∧ OtAll K G H ws ts
  | .ins c fs => ∃ (C dx : Addr) (ws : List (Str × V)), H p = some (.ins C dx ws) ∧ clsNm K C = some c ∧ ws.map (·.1) = fs.map (·.1) ∧ OtAll K G H (ws.map (·.2)) (fs.map (·.2))
  | .al _ _ => True
/-- one's own lists -/
def Own0 (σ : St) (e : Ev) (a : Addr) : Prop := ∃ (i : Nat) (ds : List PyData), e[i]? = some (some (.ac ds)) ∧ σ[i]? = some (some (.ref a))
/-- one's own things -/
def OwnW (σ : St) (e : Ev) (H : Hp) (a : Addr) : Prop := ∃ (i : Nat) (t : Ow) (p : Addr), e[i]? = some (some (.ow t)) ∧ σ[i]? = some (some (.ref p)) ∧ a ∈ owA (H p) p t
def Own (σ : St) (e : Ev) (H : Hp) (a : Addr) : Prop := Own0 σ e a ∨ OwnW σ e H a
/-- what stood at the entry; the instance that is being made -/
structure Bs where
  f : Hp
  s : Option Addr
  w : List Addr
  i : Nat
instance : CoeFun Bs (fun _ => Hp) := ⟨Bs.f⟩
/-- what stood at the entry (b), and what is kept beside it since (h) -/
structure Ef where
  h : Hp
  b : Bs
  sub : ∀ a o, b a = some o → h a = some o
instance : CoeFun Ef (fun _ => Hp) := ⟨Ef.h⟩
def Ef.of (H : Hp) : Ef := ⟨H, ⟨H, none, [], 0⟩, fun _ _ z => z⟩
/-- an inner list: left as it is (true), or one's own -/
def NiF (K : PySem.W.Frag) (m : Option Addr) (E : Ef) (G0 G : Hp) (b : Bool) (ds : List PyData) (q : Addr) : Prop := match b with
  | true => Dp K G (.ref q) (.list ds)
  | false => E.b q = none ∧ G0 q = none ∧ m ≠ some q ∧ ∃ ws, E.h q = some (.lst ws) ∧ DpAll K G ws ds
/-- a list of one's own lists -/
def NlF (K : PySem.W.Frag) (m : Option Addr) (E : Ef) (G0 G : Hp) (o : Option (Option V)) (dss : List (Bool × List PyData)) : Prop :=
  ∃ (p : Addr) (qs : List Addr), o = some (some (.ref p)) ∧ E.h p = some (.lst (qs.map V.ref)) ∧ E.b p = none ∧ G0 p = none ∧ m ≠ some p ∧ qs.length = dss.length ∧ (p :: qs).Nodup ∧
    ∀ (j : Nat) (b : Bool) (ds : List PyData) (q : Addr), dss[j]? = some (b, ds) → qs[j]? = some q → NiF K m E G0 G b ds q
theorem NiF.mono {K : PySem.W.Frag} {m : Option Addr} {E : Ef} {G0 G G' : Hp} (s : Same G G') : ∀ {b : Bool} {ds : List PyData} {q : Addr}, NiF K m E G0 G b ds q → NiF K m E G0 G' b ds q
  | true, _, _, h => dp_same s h
  | false, _, _, ⟨h1, h2, h3, ws, h4, h5⟩ => ⟨h1, h2, h3, ws, h4, dpAll_same s h5⟩
theorem NlF.mono {K : PySem.W.Frag} {m : Option Addr} {E : Ef} {G0 G G' : Hp} {o : Option (Option V)} {dss : List (Bool × List PyData)} (s : Same G G') (h : NlF K m E G0 G o dss) : NlF K m E G0 G' o dss := by
  obtain ⟨p, qs, h1, h2, h3, h4, h5, h6, h7, h8⟩ := h
  exact ⟨p, qs, h1, h2, h3, h4, h5, h6, h7, fun j b ds q a1 a2 => (h8 j b ds q a1 a2).mono s⟩
/-- an exception that a clause holds: itself it lies outside, its dict is told -/
def ObF (K : PySem.W.Frag) (G : Hp) (o : Option (Option V)) : Ok → Prop
  | .xc a dd fs ds => o = some (some (.ref a)) ∧ G dd = some (.xd fs) ∧ fs.map (·.1) = ds.map (·.1) ∧ DpAll K G (fs.map (·.2)) (ds.map (·.2))
  | .ints is => ∃ (p : Addr) (u : HO), o = some (some (.ref p)) ∧ G p = some u ∧ (Ok.ints is).At u
  | .rng lo hi => ∃ (p : Addr) (u : HO), o = some (some (.ref p)) ∧ G p = some u ∧ (Ok.rng lo hi).At u
/-- a dict's items -/
def Dkv (K : PySem.W.Frag) (G : Hp) (ws : List (Key × V)) (kvs : List (Key × PyData)) : Prop := ws.map (·.1) = kvs.map (·.1) ∧ DpAll K G (ws.map (·.2)) (kvs.map (·.2))
/-- one's own dict -/
def DkF (K : PySem.W.Frag) (m : Option Addr) (E : Ef) (G0 G : Hp) (o : Option (Option V)) (kvs : List (Key × PyData)) : Prop :=
  ∃ (p : Addr) (ws : List (Key × V)), o = some (some (.ref p)) ∧ E.h p = some (.dK ws) ∧ E.b p = none ∧ G0 p = none ∧ m ≠ some p ∧ Dkv K G ws kvs
/-- an instance that is being made: its class, its fields so far -/
def MeF (K : PySem.W.Frag) (m : Option Addr) (E : Ef) (G0 G : Hp) (o : Option (Option V)) (c : Str) (fs : List (Str × PyData)) : Prop :=
  ∃ (p C dx : Addr) (ws : List (Str × V)), o = some (some (.ref p)) ∧ E.h p = some (.ins C dx ws) ∧ (E.b p = none ∧ E.b.s = some p) ∧ G0 p = none ∧ m ≠ some p ∧ clsNm K C = some c ∧ ws.map (·.1) = fs.map (·.1) ∧ DpAll K G (ws.map (·.2)) (fs.map (·.2))
def OtF (K : PySem.W.Frag) (m : Option Addr) (E : Ef) (G0 G : Hp) (o : Option (Option V)) : Sl → Prop
  | .nl dss => NlF K m E G0 G o dss
  | .dk kvs => DkF K m E G0 G o kvs
  | .me c fs => MeF K m E G0 G o c fs
  | .ob k => ObF K G o k
  | _ => True
/-- one's own things as they stand -/
structure Wl (K : PySem.W.Frag) (m : Option Addr) (E : Ef) (G : Hp) (e : Ev) (σ : St) (H : Hp) : Prop where
  at_ : ∀ (i : Nat) (t : Ow), e[i]? = some (some (.ow t)) → ∃ p : Addr, σ[i]? = some (some (.ref p)) ∧ OwAt K G H p t ∧ (owA (H p) p t).Nodup
  out : ∀ a, OwnW σ e H a → G a = none ∧ H a ≠ none ∧ ¬ Own0 σ e a ∧ (E a = none ∨ m = some a)
  one : ∀ (i j : Nat) (t u : Ow) (p q a : Addr), e[i]? = some (some (.ow t)) → e[j]? = some (some (.ow u)) → σ[i]? = some (some (.ref p)) → σ[j]? = some (some (.ref q)) → a ∈ owA (H p) p t → a ∈ owA (H q) q u → i = j
  al : ∀ (j i k : Nat) (q : Addr), e[j]? = some (some (.ow (.al i k))) → σ[j]? = some (some (.ref q)) → ∀ (t : Ow) (p : Addr), e[i]? = some (some (.ow t)) → t.isAl = false → σ[i]? = some (some (.ref p)) → (∃ ds, t.ts[k]? = some (.ls ds)) ∧ (t.vs (H p))[k]? = some (.ref q)
  pin : ∀ (s : Addr) (t : Ow) (p : Addr), E.b.s = some s → e[min E.b.i 3]? = some (some (.ow t)) → t.isAl = false → σ[min E.b.i 3]? = some (some (.ref p)) → p = s ∧ ∀ a ∈ E.b.w, a ∈ owA (H p) p t
theorem OtAll.keep {K : PySem.W.Frag} {G G' H H' : Hp} (s : Same G G') : ∀ {vs : List V} {ts : List Ot}, OtAll K G H vs ts → (∀ q ∈ owL vs ts, H' q = H q) → OtAll K G' H' vs ts
  | _, _, .nil, _ => .nil
  | _, _, .im (v := v) (vs := vs) (d := d) (ts := ts) h t, k => .im (dp_same s h) (OtAll.keep s t fun q hq => k q (by
      cases v <;> exact hq))
  | _, _, .ls h h2 t, k => .ls (by rw [k _ List.mem_cons_self]; exact h) (dpAll_same s h2) (OtAll.keep s t fun q hq => k q (List.mem_cons_of_mem _ hq))
theorem owQ_lst {ws : List V} {ts : List Ot} : owQ (some (.lst ws)) (.lst ts) = owL ws ts := rfl
theorem owQ_ins {C dx : Addr} {ws : List (Str × V)} {c : Str} {fs : List (Str × Ot)} : owQ (some (.ins C dx ws)) (.ins c fs) = owL (ws.map (·.2)) (fs.map (·.2)) := rfl
theorem OwAt.keep {K : PySem.W.Frag} {G G' H H' : Hp} (s : Same G G') {p : Addr} : ∀ {t : Ow}, OwAt K G H p t → (∀ q ∈ owA (H p) p t, H' q = H q) → OwAt K G' H' p t
  | .lst ts, ⟨ws, h1, h2⟩, k => ⟨ws, (k p List.mem_cons_self).trans h1, h2.keep s fun q hq => k q (List.mem_cons_of_mem _ (by rw [h1, owQ_lst]; exact hq))⟩
  | .ins c fs, ⟨C, dx, ws, h1, h2, h3, h4⟩, k => ⟨C, dx, ws, (k p List.mem_cons_self).trans h1, h2, h3, h4.keep s fun q hq => k q (List.mem_cons_of_mem _ (by rw [h1, owQ_ins]; exact hq))⟩
  | .al _ _, _, _ => True.intro
theorem Wl.keep {K : PySem.W.Frag} {m : Option Addr} {E : Ef} {G G' : Hp} {e e' : Ev} {σ σ' : St} {H H' : Hp} (w : Wl K m E G e σ H) (s : Same G G') (n : ∀ a, OwnW σ e H a → G a = none → G' a = none)
    (he : ∀ (i : Nat) (t : Ow), e'[i]? = some (some (.ow t)) → e[i]? = some (some (.ow t)) ∧ σ'[i]? = σ[i]?) (k0 : ∀ a, Own0 σ' e' a → OwnW σ e H a → False) (hh : ∀ a o, H a = some o → OwnW σ e H a → H' a = some o) :
    Wl K m E G' e' σ' H' ∧ ∀ a, OwnW σ' e' H' a → OwnW σ e H a := by
  have same : ∀ a, OwnW σ e H a → H' a = H a := fun a h => by
    cases q : H a with
    | none => exact absurd q (w.out a h).2.1
    | some o => exact hh a o q h
  have top : ∀ {i : Nat} {t : Ow} {p : Addr}, e[i]? = some (some (.ow t)) → σ[i]? = some (some (.ref p)) → t.isAl = false → H' p = H p := fun {i t p} h1 h2 h3 => same p ⟨i, t, p, h1, h2, by rw [owA_of h3]; exact List.mem_cons_self⟩
  have all : ∀ {i : Nat} {t : Ow} {p : Addr}, e[i]? = some (some (.ow t)) → σ[i]? = some (some (.ref p)) → owA (H' p) p t = owA (H p) p t := fun {i t p} h1 h2 => by
    cases q : t.isAl with
    | false => rw [top h1 h2 q]
    | true =>
      cases t with
      | al _ _ => rfl
      | lst _ => cases q
      | ins _ _ => cases q
  have back : ∀ a, OwnW σ' e' H' a → OwnW σ e H a := fun a ⟨i, t, p, h1, h2, h3⟩ => by
    obtain ⟨h4, h5⟩ := he i t h1
    rw [h5] at h2
    rw [all h4 h2] at h3
    exact ⟨i, t, p, h4, h2, h3⟩
  refine ⟨⟨fun i t h => ?_, fun a h => ?_, fun i j t u p q a h1 h2 h3 h4 h5 h6 => ?_, fun j i k q h1 h2 t p h3 h4 h5 => ?_, fun z t p h1 h2 h3 h4 => ?_⟩, back⟩
  · obtain ⟨h4, h5⟩ := he i t h
    obtain ⟨p, q1, q2, q3⟩ := w.at_ i t h4
    exact ⟨p, by rw [h5]; exact q1, q2.keep s fun q hq => same q ⟨i, t, p, h4, q1, hq⟩, by rw [all h4 q1]; exact q3⟩
  · obtain ⟨q1, q2, q3, q4⟩ := w.out a (back a h)
    exact ⟨n a (back a h) q1, by rw [same a (back a h)]; exact q2, fun z => k0 a z (back a h), q4⟩
  · obtain ⟨a1, a2⟩ := he i t h1
    obtain ⟨b1, b2⟩ := he j u h2
    rw [a2] at h3
    rw [b2] at h4
    rw [all a1 h3] at h5
    rw [all b1 h4] at h6
    exact w.one i j t u p q a a1 b1 h3 h4 h5 h6
  · obtain ⟨a1, a2⟩ := he j _ h1
    obtain ⟨b1, b2⟩ := he i t h3
    rw [a2] at h2
    rw [b2] at h5
    rw [top b1 h5 h4]
    exact w.al j i k q a1 h2 t p b1 h4 h5
  · obtain ⟨b1, b2⟩ := he _ t h2
    rw [b2] at h4
    rw [all b1 h4]
    exact w.pin z t p h1 b1 h3 h4
theorem Wl.non {K : PySem.W.Frag} {m : Option Addr} {E : Ef} {G : Hp} {e : Ev} {σ : St} {H : Hp} (h : ∀ (i : Nat) (t : Ow), e[i]? = some (some (.ow t)) → False) : Wl K m E G e σ H :=
  ⟨fun i t z => (h i t z).elim, fun _ ⟨i, t, _, z, _⟩ => (h i t z).elim, fun i _ t _ _ _ _ z => (h i t z).elim, fun j i k _ z => (h j _ z).elim, fun _ t _ _ z => (h _ t z).elim⟩
/-- the slots as they were -/
theorem Wl.keep0 {K : PySem.W.Frag} {m : Option Addr} {E : Ef} {G G' : Hp} {e : Ev} {σ : St} {H H' : Hp} (w : Wl K m E G e σ H) (s : Same G G') (n : ∀ a, OwnW σ e H a → G a = none → G' a = none) (hh : ∀ a o, H a = some o → OwnW σ e H a → H' a = some o) :
    Wl K m E G' e σ H' ∧ ∀ a, OwnW σ e H' a → OwnW σ e H a := w.keep s n (fun _ _ h => ⟨h, rfl⟩) (fun a h1 h2 => (w.out a h2).2.2.1 h1) hh
theorem OtF.mono {K : PySem.W.Frag} {m : Option Addr} {E : Ef} {G0 G G' : Hp} {o : Option (Option V)} (s : Same G G') : ∀ {x : Sl}, OtF K m E G0 G o x → OtF K m E G0 G' o x
  | .nl _, h => NlF.mono s h
  | .dk _, ⟨p, ws, h1, h2, h3, h4, h5, h6, h7⟩ => ⟨p, ws, h1, h2, h3, h4, h5, h6, dpAll_same s h7⟩
  | .me _ _, ⟨p, C, dx, ws, h1, h2, h3, h4, h5, h6, h7, h8⟩ => ⟨p, C, dx, ws, h1, h2, h3, h4, h5, h6, h7, dpAll_same s h8⟩
  | .ob (.ints _), ⟨p, u, h1, h2, h3⟩ => ⟨p, u, h1, s p u h2, h3⟩
  | .ob (.rng _ _), ⟨p, u, h1, h2, h3⟩ => ⟨p, u, h1, s p u h2, h3⟩
  | .ob (.xc _ _ _ _), ⟨h1, h2, h3, h4⟩ => ⟨h1, s _ _ h2, h3, dpAll_same s h4⟩
  | .im _, _ => True.intro
  | .ac _, _ => True.intro
  | .ow _, _ => True.intro
/-- the slots e are what σ holds: G what stays, H what stands, E what stood at the entry but the object at m -/
structure Rl (K : PySem.W.Frag) (m : Option Addr) (E : Ef) (G0 G : Hp) (e : Ev) (σ : St) (H : Hp) : Prop where
  gg : Same G0 G
  gh : Same G H
  eh : ∀ a o, E a = some o → m ≠ some a → H a = some o
  mh : ∀ a, m = some a → E a ≠ none ∧ H a ≠ none
  nw : ∀ a, G0 a = none → E a ≠ none → G a = none
  len : e.length = σ.length
  im : ∀ (i : Nat) (d : PyData), e[i]? = some (some (.im d)) → ∃ (v : V), σ[i]? = some (some v) ∧ Dp K G v d
  ac : ∀ (i : Nat) (ds : List PyData), e[i]? = some (some (.ac ds)) → ∃ (p : Addr) (ws : List V), σ[i]? = some (some (.ref p)) ∧ G p = none ∧ H p = some (.lst ws) ∧ DpAll K G ws ds ∧ (E p = none ∨ (m = some p ∧ i = 0))
  inj : ∀ (i j : Nat) (di dj : List PyData) (p : Addr), e[i]? = some (some (.ac di)) → e[j]? = some (some (.ac dj)) → σ[i]? = some (some (.ref p)) → σ[j]? = some (some (.ref p)) → i = j
  ot : ∀ (i : Nat) (s : Sl), e[i]? = some (some s) → OtF K m E G0 G σ[i]? s
  wl : Wl K m E G e σ H
theorem Rl.nl {K : PySem.W.Frag} {m : Option Addr} {E : Ef} {G0 G : Hp} {e : Ev} {σ : St} {H : Hp} (R : Rl K m E G0 G e σ H) (i : Nat) (dss : List (Bool × List PyData)) (h : e[i]? = some (some (.nl dss))) : NlF K m E G0 G σ[i]? dss := R.ot i (.nl dss) h
/-- from one moment of an expression to a later one -/
structure Stp (σ : St) (G H : Hp) (e : Ev) (G' H' : Hp) (e' : Ev) : Prop where
  gg : Same G G'
  nw : ∀ a, G a = none → H a ≠ none → G' a = none
  hh : ∀ a o, H a = some o → ¬ Own σ e H a → H' a = some o
  kd : ∀ i : Nat, isAc e'[i]? = isAc e[i]?
  th : ∀ a, H a ≠ none → H' a ≠ none
  ww : ∀ a, OwnW σ e' H' a → OwnW σ e H a ∨ H a = none
theorem own_kd (k : ∀ i : Nat, isAc e'[i]? = isAc e[i]?) : Own0 σ e' a ↔ Own0 σ e a := by
  constructor
  · rintro ⟨i, ds, h1, h2⟩
    have z : isAc e[i]? = true := by rw [← k i, h1]; rfl
    obtain ⟨ds', q⟩ := isAc_iff.mp z
    exact ⟨i, ds', q, h2⟩
  · rintro ⟨i, ds, h1, h2⟩
    have z : isAc e'[i]? = true := by rw [k i, h1]; rfl
    obtain ⟨ds', q⟩ := isAc_iff.mp z
    exact ⟨i, ds', q, h2⟩
/-- what is one's own later was so, or is new -/
theorem Stp.own (S : Stp σ G H e G' H' e') (h : Own σ e' H' a) : Own σ e H a ∨ H a = none := by
  rcases h with h | h
  · exact .inl (.inl ((own_kd S.kd).mp h))
  · rcases S.ww a h with h | h
    · exact .inl (.inr h)
    · exact .inr h
theorem Stp.not (S : Stp σ G H e G' H' e') (ha : H a ≠ none) (h : ¬ Own σ e H a) : ¬ Own σ e' H' a := fun z => by
  rcases S.own z with z | z
  · exact h z
  · exact ha z
theorem Stp.refl : Stp σ G H e G H e := ⟨Same.refl _, fun _ h _ => h, fun _ _ h _ => h, fun _ => rfl, fun _ h => h, fun _ h => .inl h⟩
theorem Stp.trans (a : Stp σ G H e G1 H1 e1) (b : Stp σ G1 H1 e1 G' H' e') : Stp σ G H e G' H' e' where
  gg := a.gg.trans b.gg
  nw := fun x h1 h2 => b.nw x (a.nw x h1 h2) (a.th x h2)
  hh := fun x o h1 h2 => b.hh x o (a.hh x o h1 h2) (a.not (by rw [h1]; simp) h2)
  kd := fun i => (b.kd i).trans (a.kd i)
  th := fun x h => b.th x (a.th x h)
  ww := fun x h => by
    rcases b.ww x h with h | h
    · exact a.ww x h
    · refine .inr ?_
      cases q : H x with
      | none => rfl
      | some o => exact absurd h (a.th x (by rw [q]; simp))
theorem Stp.gone (S : Stp σ G H e G' H' e') (h : H' a = none) : H a = none := by
  cases q : H a with
  | none => rfl
  | some o => exact absurd h (S.th a (by rw [q]; simp))
/-- a value as a result -/
def Vr (K : PySem.W.Frag) (E : Ef) (G H : Hp) (σ : St) (e : Ev) (v : V) : Rs → Prop
  | .im d => Dp K G v d
  | .ac ds => ∃ p ws, v = .ref p ∧ E p = none ∧ G p = none ∧ H p = some (.lst ws) ∧ DpAll K G ws ds ∧ ¬ Own σ e H p
  | .br i => σ[i]? = some (some v)
/-- a new list was not there ahead -/
def Nw (H : Hp) (v : V) : Rs → Prop
  | .ac _ => ∀ p, v = .ref p → H p = none
  | _ => True
theorem Vr.stp (S : Stp σ G H e G' H' e') : ∀ {r : Rs}, Vr K E G H σ e v r → Vr K E G' H' σ e' v r
  | .im d, h => dp_same S.gg h
  | .ac ds, h => by
    obtain ⟨p, ws, rfl, h1, h2, h3, h4, h5⟩ := h
    exact ⟨p, ws, rfl, h1, S.nw p h2 (by rw [h3]; simp), S.hh p _ h3 h5, dpAll_same S.gg h4, S.not (by rw [h3]; simp) h5⟩
  | .br i, h => h
/-- the frozen form -/
def frzR : Rs → Rs
  | .ac ds => .im (.list ds)
  | r => r
/-- a new list is left as it is for good -/
theorem Rl.freeze (R : Rl K m E G0 G' e' σ H') (S : Stp σ G H e G' H' e') (h : Vr K E G' H' σ e' v r) (n : Nw H v r) :
    ∃ G2, Rl K m E G0 G2 e' σ H' ∧ Stp σ G H e G2 H' e' ∧ Same G' G2 ∧ Vr K E G2 H' σ e' v (frzR r) := by
  cases r with
  | im d => exact ⟨G', R, S, Same.refl _, h⟩
  | br i => exact ⟨G', R, S, Same.refl _, h⟩
  | ac ds =>
    obtain ⟨p, ws, rfl, h1, h2, h3, h4, h5⟩ := h
    have s1 : Same G' (upd G' p (.lst ws)) := fun b o q => by
      rw [upd_ne (ne_of_none q h2)]
      exact q
    have hp : H p = none := n p rfl
    refine ⟨upd G' p (.lst ws), ⟨R.gg.trans s1, fun b o q => ?_, R.eh, R.mh, fun b b1 b2 => ?_, R.len, fun i d q => ?_, fun i ds' q => ?_, R.inj, fun i dss q => (R.ot i dss q).mono s1, (R.wl.keep0 s1 (fun b b1 b2 => by rw [upd_ne (fun z => h5 (.inr (by rw [← z]; exact b1)))]; exact b2) fun _ _ z _ => z).1⟩, ⟨S.gg.trans s1, fun b b1 b2 => ?_, S.hh, S.kd, S.th, S.ww⟩, s1, ?_⟩
    · by_cases z : b = p
      · subst z
        rw [upd_same] at q
        rw [h3]
        exact q
      · rw [upd_ne z] at q
        exact R.gh b o q
    · have z : b ≠ p := fun z => b2 (by rw [z]; exact h1)
      rw [upd_ne z]
      exact R.nw b b1 b2
    · obtain ⟨u, q1, q2⟩ := R.im i d q
      exact ⟨u, q1, dp_same s1 q2⟩
    · obtain ⟨p', ws', q1, q2, q3, q4, q5⟩ := R.ac i ds' q
      have z : p' ≠ p := fun z => h5 (.inl ⟨i, ds', q, by rw [← z]; exact q1⟩)
      exact ⟨p', ws', q1, by rw [upd_ne z]; exact q2, q3, dpAll_same s1 q4, q5⟩
    · have z : b ≠ p := fun z => b2 (by rw [z]; exact hp)
      rw [upd_ne z]
      exact S.nw b b1 b2
    · exact .lst (.inl (.inl upd_same)) (dpAll_same s1 h4)
/-- a list's own items may be in H, not in G -/
def Lv (K : PySem.W.Frag) (G H : Hp) (v : V) (d : PyData) : Prop := Dp K G v d ∨ ∃ p ws ds, v = .ref p ∧ d = .list ds ∧ H p = some (.lst ws) ∧ DpAll K G ws ds
/-- what a second name tells -/
def alL (e : Ev) (i k : Nat) : Option (List PyData) := match e[i]? with
  | some (some (.ow t)) => (match t.ts[k]? with
    | some (.ls ds) => some ds
    | _ => none)
  | _ => none
theorem owL_im {v : V} {vs : List V} {d : PyData} {ts : List Ot} : owL (v :: vs) (.im d :: ts) = owL vs ts := by cases v <;> rfl
theorem otAll_ls : ∀ {vs : List V} {ts : List Ot} {k : Nat} {ds : List PyData}, OtAll K G H vs ts → ts[k]? = some (.ls ds) → ∃ q ws, vs[k]? = some (.ref q) ∧ q ∈ owL vs ts ∧ H q = some (.lst ws) ∧ DpAll K G ws ds
  | _, _, _, _, .nil, z => by simp at z
  | _, _, 0, _, .im _ _, z => by cases z
  | _, _, 0, _, .ls h1 h2 _, z => by
    cases z
    exact ⟨_, _, rfl, List.mem_cons_self, h1, h2⟩
  | _, _, k + 1, _, .im _ t, z => by
    obtain ⟨q, ws, a1, a2, a3⟩ := otAll_ls (k := k) t (by simpa using z)
    exact ⟨q, ws, by simpa using a1, by rw [owL_im]; exact a2, a3⟩
  | _, _, k + 1, _, .ls _ _ t, z => by
    obtain ⟨q, ws, a1, a2, a3⟩ := otAll_ls (k := k) t (by simpa using z)
    exact ⟨q, ws, by simpa using a1, List.mem_cons_of_mem _ a2, a3⟩
/-- the items of one's own thing, whatever it is -/
theorem OwAt.items : ∀ {t : Ow}, t.isAl = false → OwAt K G H p t → OtAll K G H (t.vs (H p)) t.ts
  | .lst ts, _, ⟨ws, h1, h2⟩ => by
    rw [h1]
    exact h2
  | .ins c fs, _, ⟨C, dx, ws, h1, h2, h3, h4⟩ => by
    rw [h1]
    exact h4
/-- where the second name points -/
theorem Rl.alP {j k : Nat} (R : Rl K m E G0 G e σ H) (h : e[j]? = some (some (.ow (.al i k)))) (q : alL e i k = some ds) : ∃ a ws, σ[j]? = some (some (.ref a)) ∧ H a = some (.lst ws) ∧ DpAll K G ws ds := by
  unfold alL at q
  split at q
  · rename_i t h1
    split at q
    · rename_i ds' h2
      cases q
      have nt : t.isAl = false := by
        cases t with
        | al _ _ => simp [Ow.ts] at h2
        | lst _ => rfl
        | ins _ _ => rfl
      obtain ⟨a, a1, _⟩ := R.wl.at_ j _ h
      obtain ⟨p, b1, b2, _⟩ := R.wl.at_ i _ h1
      have c := (R.wl.al j i k a h a1 t p h1 nt b1).2
      obtain ⟨a', ws, d1, d2, d3, d4⟩ := otAll_ls (b2.items nt) h2
      rw [c] at d1
      cases d1
      exact ⟨a, ws, a1, d3, d4⟩
    · cases q
  · cases q
/-- what a frozen result holds -/
def lookR (e : Ev) : Rs → Option PyData
  | .im d => some d
  | .ac _ => none
  | .br i => match e[i]? with
    | some (some (.ac ds)) => some (.list ds)
    | some (some (.ow (.al j k))) => (alL e j k).map .list
    | _ => none
theorem Rl.look (R : Rl K m E G0 G e σ H) (h : Vr K E G H σ e v r) (q : lookR e r = some d) : Lv K G H v d := by
  cases r with
  | im d' =>
    cases q
    exact .inl h
  | ac ds => cases q
  | br i =>
    have h2 : σ[i]? = some (some v) := h
    simp only [lookR] at q
    split at q
    · rename_i ds h1
      cases q
      obtain ⟨p, ws, q1, q2, q3, q4, q5⟩ := R.ac i ds h1
      rw [h2] at q1
      cases q1
      exact .inr ⟨p, ws, ds, rfl, rfl, q3, q4⟩
    · rename_i j k h1
      obtain ⟨ds, h3, rfl⟩ := Option.map_eq_some_iff.mp q
      obtain ⟨a, ws, q1, q3, q4⟩ := R.alP h1 h3
      rw [h2] at q1
      cases q1
      exact .inr ⟨a, ws, ds, rfl, rfl, q3, q4⟩
    · cases q
theorem Lv.dp (s : Same G H) (h : Lv K G H v d) : Dp K H v d := by
  rcases h with h | ⟨p, ws, ds, rfl, rfl, h1, h2⟩
  · exact dp_same s h
  · exact .lst (.inl (.inl h1)) (dpAll_same s h2)
/-- as a list -/
theorem Lv.list (s : Same G H) (h : Lv K G H v (.list ds)) : ∃ p ws, v = .ref p ∧ SqL K H p ws ∧ DpAll K G ws ds := by
  rcases h with h | ⟨p, ws, ds', rfl, e, h1, h2⟩
  · cases h with
    | lst h q => exact ⟨_, _, rfl, s.seq h, q⟩
  · cases e
    exact ⟨p, ws, rfl, .inl (.inl h1), h2⟩
theorem Lv.tup (s : Same G H) (h : Lv K G H v (.tuple ds)) : ∃ p ws, v = .ref p ∧ SqT K H p ws ∧ DpAll K G ws ds := by
  rcases h with h | ⟨p, ws, ds', rfl, e, h1, h2⟩
  · cases h with
    | tup h q => exact ⟨_, _, rfl, seqT s h, q⟩
  · cases e
theorem Lv.int {i : Int} (h : Lv K G H v (.int i)) : v = .int i := by
  rcases h with h | ⟨p, ws, ds, rfl, e, _⟩
  · cases h
    rfl
  · cases e
theorem Lv.bool {b : Bool} (h : Lv K G H v (.bool b)) : v = .bl b := by
  rcases h with h | ⟨p, ws, ds, rfl, e, _⟩
  · cases h
    rfl
  · cases e
theorem Lv.none (h : Lv K G H v .none) : v = .non := by
  rcases h with h | ⟨p, ws, ds, rfl, e, _⟩
  · cases h
    rfl
  · cases e
theorem Lv.str {x : Str} (h : Lv K G H v (.str x)) : v = .str x := by
  rcases h with h | ⟨p, ws, ds, rfl, e, _⟩
  · cases h
    rfl
  · cases e
theorem Rl.fresh (R : Rl K m E G0 G e σ H) (h : H p = none) : G p = none ∧ E p = none ∧ ¬ Own σ e H p ∧ m ≠ some p := by
  refine ⟨R.gh.free h, ?_, ?_, ?_⟩
  · cases q : E p with
    | none => rfl
    | some o =>
      by_cases z : m = some p
      · exact absurd h (R.mh p z).2
      · rw [R.eh p o q z] at h
        cases h
  · rintro (⟨i, ds, h1, h2⟩ | w)
    · obtain ⟨p', ws, q1, _, q3, _⟩ := R.ac i ds h1
      rw [h2] at q1
      cases q1
      rw [h] at q3
      cases q3
    · exact (R.wl.out p w).2.1 h
  · intro z
    exact absurd h (R.mh p z).2
theorem same_new (h : H p = none) : Same H (upd H p o) := fun b u q => by
  rw [upd_ne (ne_of_none q h)]
  exact q
/-- a new tuple -/
theorem Rl.newT (R : Rl K m E G0 G e σ H) (h : H p = none) (q : DpAll K G ws ds) :
    Rl K m E G0 (upd G p (.tup ws)) e σ (upd H p (.tup ws)) ∧ Stp σ G H e (upd G p (.tup ws)) (upd H p (.tup ws)) e ∧ Dp K (upd G p (.tup ws)) (.ref p) (.tuple ds) := by
  obtain ⟨hG, hE, hO, hm⟩ := R.fresh h
  have s1 : Same G (upd G p (.tup ws)) := same_new hG
  have nb : ∀ {b : Addr}, H b ≠ none → b ≠ p := fun {b} z y => z (by rw [y]; exact h)
  have W := R.wl.keep0 (H' := upd H p (.tup ws)) s1 (fun b b1 b2 => by rw [upd_ne (nb (R.wl.out b b1).2.1)]; exact b2) (fun b u b1 _ => same_new h b u b1)
  refine ⟨⟨R.gg.trans s1, fun b u z => ?_, fun b u b1 b2 => ?_, fun b b1 => ⟨(R.mh b b1).1, ?_⟩, fun b b1 b2 => ?_, R.len, fun i d z => ?_, fun i ds' z => ?_, R.inj, fun i dss z => (R.ot i dss z).mono s1, W.1⟩, ⟨s1, fun b b1 b2 => ?_, fun b u b1 _ => same_new h b u b1, fun _ => rfl, fun b b1 => ?_, fun a z => .inl (W.2 a z)⟩, .tup (.inl (.inl upd_same)) (dpAll_same s1 q)⟩
  · by_cases y : b = p
    · subst y
      rw [upd_same] at z ⊢
      exact z
    · rw [upd_ne y] at z ⊢
      exact R.gh b u z
  · exact same_new h b u (R.eh b u b1 b2)
  · rw [upd_ne (nb (R.mh b b1).2)]
    exact (R.mh b b1).2
  · have y : b ≠ p := fun y => b2 (by rw [y]; exact hE)
    rw [upd_ne y]
    exact R.nw b b1 b2
  · obtain ⟨u, z1, z2⟩ := R.im i d z
    exact ⟨u, z1, dp_same s1 z2⟩
  · obtain ⟨p', ws', z1, z2, z3, z4, z5⟩ := R.ac i ds' z
    have y : p' ≠ p := nb (by rw [z3]; simp)
    exact ⟨p', ws', z1, by rw [upd_ne y]; exact z2, by rw [upd_ne y]; exact z3, dpAll_same s1 z4, z5⟩
  · rw [upd_ne (nb b2)]
    exact b1
  · rw [upd_ne (nb b1)]
    exact b1
/-- a new list -/
theorem Rl.newL (R : Rl K m E G0 G e σ H) (h : H p = none) (q : DpAll K G ws ds) :
    Rl K m E G0 G e σ (upd H p (.lst ws)) ∧ Stp σ G H e G (upd H p (.lst ws)) e ∧ Vr K E G (upd H p (.lst ws)) σ e (.ref p) (.ac ds) ∧ Nw H (.ref p) (.ac ds) := by
  obtain ⟨hG, hE, hO, hm⟩ := R.fresh h
  have nb : ∀ {b : Addr}, H b ≠ none → b ≠ p := fun {b} z y => z (by rw [y]; exact h)
  have W := R.wl.keep0 (H' := upd H p (.lst ws)) (Same.refl G) (fun _ _ z => z) (fun b u b1 _ => same_new h b u b1)
  refine ⟨⟨R.gg, R.gh.trans (same_new h), fun b u b1 b2 => same_new h b u (R.eh b u b1 b2), fun b b1 => ⟨(R.mh b b1).1, ?_⟩, R.nw, R.len, R.im, fun i ds' z => ?_, R.inj, R.ot, W.1⟩, ⟨Same.refl _, fun _ b1 _ => b1, fun b u b1 _ => same_new h b u b1, fun _ => rfl, fun b b1 => ?_, fun a z => .inl (W.2 a z)⟩, ⟨p, ws, rfl, hE, hG, upd_same, q, fun z => ?_⟩, fun p' z => ?_⟩
  · rw [upd_ne (nb (R.mh b b1).2)]
    exact (R.mh b b1).2
  · obtain ⟨p', ws', z1, z2, z3, z4, z5⟩ := R.ac i ds' z
    have y : p' ≠ p := nb (by rw [z3]; simp)
    exact ⟨p', ws', z1, z2, by rw [upd_ne y]; exact z3, z4, z5⟩
  · rw [upd_ne (nb b1)]
    exact b1
  · rcases z with z | z
    · exact hO (.inl z)
    · exact hO (.inr (W.2 p z))
  · cases z
    exact h
end
end DL
namespace DL
open PySem PySem.Spec PyProof.Rows L2
abbrev Fe := Ev → Option (Rs × Ev)
abbrev Ft := Ev → Option (Bool × Ev)
abbrev Fa := Ev → Option (List Rs × Ev)
inductive Fl where
  | nx (e : Ev)
  | bk (e : Ev)
  | ct (e : Ev)
  | rt (r : Rs) (e : Ev)
abbrev Fs := Ev → Option Fl
/-- what must follow a result -/
def Po (K : PySem.W.Frag) (m : Option Addr) (E : Ef) (G0 : Hp) (σ : St) (G H : Hp) (e : Ev) (r : Rs) (e' : Ev) (Q : VK) : Prop :=
  ∀ v G' H', Rl K m E G0 G' e' σ H' → Stp σ G H e G' H' e' → Vr K E G' H' σ e' v r → Nw H v r → Q v H'
structure ED (X : Cx) (x : Expr) (f : Fe) : Prop where
  ex : ∃ t : TE, PE X x t ∧ ∀ (m : Option Addr) (E : Ef) (G0 G : Hp) (e : Ev) (σ : St) (H : Hp) (r : Rs) (e' : Ev) (Q : VK),
    Rl X.K m E G0 G e σ H → f e = some (r, e') → Po X.K m E G0 σ G H e r e' Q → t σ H Q
structure TD (X : Cx) (x : Expr) (f : Ft) : Prop where
  ex : ∃ t : TT, PT X x t ∧ ∀ (m : Option Addr) (E : Ef) (G0 G : Hp) (e : Ev) (σ : St) (H : Hp) (b : Bool) (e' : Ev) (Q : Bool → Hp → Prop),
    Rl X.K m E G0 G e σ H → f e = some (b, e') → (∀ G' H', Rl X.K m E G0 G' e' σ H' → Stp σ G H e G' H' e' → Q b H') → t σ H Q
structure WD (X : Cx) (x : Expr) (f : Ft) : Prop where
  ex : ∃ t : TT, PW X x t ∧ ∀ (m : Option Addr) (E : Ef) (G0 G : Hp) (e : Ev) (σ : St) (H : Hp) (b : Bool) (e' : Ev) (Q : Bool → Hp → Prop),
    Rl X.K m E G0 G e σ H → f e = some (b, e') → (∀ G' H', Rl X.K m E G0 G' e' σ H' → Stp σ G H e G' H' e' → Q b H') → t σ H Q
def VrAll (K : PySem.W.Frag) (E : Ef) (G H : Hp) (σ : St) (e : Ev) : List V → List Rs → Prop
  | [], [] => True
  | v :: vs, r :: rs => Vr K E G H σ e v r ∧ VrAll K E G H σ e vs rs
  | _, _ => False
structure AD (X : Cx) (xs : List Expr) (f : Fa) : Prop where
  ex : ∃ t : TA, PA X xs t ∧ ∀ (m : Option Addr) (E : Ef) (G0 G : Hp) (e : Ev) (σ : St) (H : Hp) (rs : List Rs) (e' : Ev) (Q : List V → Hp → Prop),
    Rl X.K m E G0 G e σ H → f e = some (rs, e') → (∀ vs G' H', Rl X.K m E G0 G' e' σ H' → Stp σ G H e G' H' e' → VrAll X.K E G' H' σ e' vs rs → Q vs H') → t σ H Q
def lookAll (e : Ev) : List Rs → Option (List PyData)
  | [] => some []
  | r :: rs => match lookR e r with
    | some d => (match lookAll e rs with
      | some ds => some (d :: ds)
      | none => none)
    | none => none
def LvAll (K : PySem.W.Frag) (G H : Hp) : List V → List PyData → Prop
  | [], [] => True
  | v :: vs, d :: ds => Lv K G H v d ∧ LvAll K G H vs ds
  | _, _ => False
section
variable {K : PySem.W.Frag} {E : Ef} {G G' H H' G0 : Hp} {v : V} {d : PyData} {σ : St} {e e' e1 : Ev} {m : Option Addr} {r : Rs} {Q : VK}
theorem VrAll.stp (S : Stp σ G H e G' H' e') : ∀ {vs : List V} {rs : List Rs}, VrAll K E G H σ e vs rs → VrAll K E G' H' σ e' vs rs
  | [], [], _ => True.intro
  | _ :: _, _ :: _, h => ⟨h.1.stp S, VrAll.stp S h.2⟩
  | [], _ :: _, h => h.elim
  | _ :: _, [], h => h.elim
theorem Rl.lookAll (R : Rl K m E G0 G e σ H) : ∀ {vs : List V} {rs : List Rs} {ds : List PyData}, VrAll K E G H σ e vs rs → DL.lookAll e rs = some ds → LvAll K G H vs ds
  | [], [], ds, _, q => by
    cases q
    exact True.intro
  | v :: vs, r :: rs, ds, h, q => by
    simp only [DL.lookAll] at q
    cases h1 : lookR e r with
    | none =>
      rw [h1] at q
      cases q
    | some d =>
      rw [h1] at q
      cases h2 : DL.lookAll e rs with
      | none =>
        simp only [h2] at q
        cases q
      | some ds2 =>
        simp only [h2, Option.some.injEq] at q
        subst q
        exact ⟨R.look h.1 h1, R.lookAll h.2 h2⟩
  | [], _ :: _, _, h, _ => h.elim
  | _ :: _, [], _, h, _ => h.elim
theorem LvAll.len : ∀ {vs : List V} {ds : List PyData}, LvAll K G H vs ds → vs.length = ds.length
  | [], [], _ => rfl
  | _ :: _, _ :: _, h => congrArg (· + 1) (LvAll.len h.2)
  | [], _ :: _, h => h.elim
  | _ :: _, [], h => h.elim
theorem LvAll.dp (s : Same G H) : ∀ {vs : List V} {ds : List PyData}, LvAll K G H vs ds → DpAll K H vs ds
  | [], [], _ => .nil
  | _ :: _, _ :: _, h => .cons (h.1.dp s) (LvAll.dp s h.2)
  | [], _ :: _, h => h.elim
  | _ :: _, [], h => h.elim
/-- a result at the very moment -/
theorem Po.now (P : Po K m E G0 σ G H e r e Q) (R : Rl K m E G0 G e σ H) (h : Vr K E G H σ e v r) (n : Nw H v r) : Q v H := P v G H R Stp.refl h n
theorem Po.of (P : Po K m E G0 σ G H e r e' Q) (S : Stp σ G H e G' H' e1) : (∀ v, Nw H' v r → Nw H v r) → Po K m E G0 σ G' H' e1 r e' Q :=
  fun n v G2 H2 R2 S2 h2 n2 => P v G2 H2 R2 (S.trans S2) h2 (n v n2)
theorem nw_back (S : Stp σ G H e G' H' e1) : ∀ {r : Rs} (v : V), Nw H' v r → Nw H v r
  | .im _, _, _ => True.intro
  | .br _, _, _ => True.intro
  | .ac _, v, n => fun p z => by
    cases q : H p with
    | none => rfl
    | some o => exact absurd (n p z) (S.th p (by rw [q]; simp))
theorem Po.aft (P : Po K m E G0 σ G H e r e' Q) (S : Stp σ G H e G' H' e1) : Po K m E G0 σ G' H' e1 r e' Q := P.of S fun v n => nw_back S v n
end
def x_var (i : Nat) : Fe := fun e => match e[i]? with
  | some (some (.im d)) => some (.im d, e)
  | some (some (.ac _)) => some (.br i, e)
  | some (some (.ow _)) => some (.br i, e)
  | _ => none
def x_c (d : PyData) : Fe := fun e => some (.im d, e)
section
variable {X : Cx} {pos : Pos}
theorem ed_var (i : Nat) {x : Str} (hN : X.N[i]? = some x := by rfl) (hv : Vis X.env.scope x := by first | exact Or.inl rfl | exact Or.inr (Or.inl rfl) | exact Or.inr (Or.inr rfl)) (hd : (x == ("__debug__" : Str)) = false := by decide)
    (hcd : (x == ("__classdict__" : Str)) = false := by decide) : ED X (.Name x pos) (x_var i) := by
  refine ⟨_, pe_var hN hv hd hcd, fun m E G0 G e σ H r e' Q R q P => ?_⟩
  unfold x_var at q
  split at q
  · rename_i d h
    cases q
    obtain ⟨v, h1, h2⟩ := R.im i d h
    exact ⟨v, h1, P.now R h2 True.intro⟩
  · rename_i ds h
    cases q
    obtain ⟨p, ws, h1, _⟩ := R.ac i ds h
    exact ⟨.ref p, h1, P.now R (show _ = _ from h1) True.intro⟩
  · rename_i t h
    cases q
    obtain ⟨p, h1, _⟩ := R.wl.at_ i t h
    exact ⟨.ref p, h1, P.now R (show _ = _ from h1) True.intro⟩
  · cases q
theorem ed_int {i j} : ED X (.Constant (.int i) j pos) (x_c (.int i)) := ⟨_, pe_int, fun m E G0 G e σ H r e' Q R q P => by
  cases q
  exact P.now R (.int i) True.intro⟩
theorem ed_bl {b j} : ED X (.Constant (.bool b) j pos) (x_c (.bool b)) := ⟨_, pe_bl, fun m E G0 G e σ H r e' Q R q P => by
  cases q
  exact P.now R (.bl b) True.intro⟩
theorem ed_non {j} : ED X (.Constant .none j pos) (x_c .none) := ⟨_, pe_non, fun m E G0 G e σ H r e' Q R q P => by
  cases q
  exact P.now R .non True.intro⟩
theorem ed_str {x j} : ED X (.Constant (.str x) j pos) (x_c (.str x)) := ⟨_, pe_str, fun m E G0 G e σ H r e' Q R q P => by
  cases q
  exact P.now R (.str x) True.intro⟩
end
/-- both sides, left to right -/
def two (fa fb : Fe) : Ev → Option (Rs × Rs × Ev) := fun e => match fa e with
  | some (ra, e1) => (match fb e1 with
    | some (rb, e2) => some (frzR ra, frzR rb, e2)
    | none => none)
  | none => none
def look2 (p : Rs × Rs × Ev) : Option (PyData × PyData × Ev) := match lookR p.2.2 p.1, lookR p.2.2 p.2.1 with
  | some a, some b => some (a, b, p.2.2)
  | _, _ => none
def x_bin (φ : PyData → PyData → Option Rs) (fa fb : Fe) : Fe := fun e => match two fa fb e with
  | some p => (match look2 p with
    | some (a, b, e2) => (match φ a b with
      | some r => some (r, e2)
      | none => none)
    | none => none)
  | none => none
section
variable {X : Cx} {a b : Expr} {fa fb : Fe} {pos : Pos}
theorem two_ok (ha : ED X a fa) (hb : ED X b fb) : ∃ ta tb, PE X a ta ∧ PE X b tb ∧ ∀ (m : Option Addr) (E : Ef) (G0 G : Hp) (e : Ev) (σ : St) (H : Hp) (ra rb : Rs) (e' : Ev) (R : V → V → Hp → Prop),
    Rl X.K m E G0 G e σ H → two fa fb e = some (ra, rb, e') → (∀ u v G' H', Rl X.K m E G0 G' e' σ H' → Stp σ G H e G' H' e' → Vr X.K E G' H' σ e' u ra → Vr X.K E G' H' σ e' v rb → R u v H') →
    ta σ H fun x H1 => tb σ H1 fun y H2 => R x y H2 := by
  obtain ⟨ta, pa, ka⟩ := ha
  obtain ⟨tb, pb, kb⟩ := hb
  refine ⟨ta, tb, pa, pb, fun m E G0 G e σ H ra rb e' R Rl0 q k => ?_⟩
  unfold two at q
  cases h1 : fa e with
  | none => simp only [h1] at q; cases q
  | some p1 =>
    obtain ⟨r1, e1⟩ := p1
    simp only [h1] at q
    cases h2 : fb e1 with
    | none => simp only [h2] at q; cases q
    | some p2 =>
      obtain ⟨r2, e2⟩ := p2
      simp only [h2, Option.some.injEq, Prod.mk.injEq] at q
      obtain ⟨rfl, rfl, rfl⟩ := q
      refine ka m E G0 G e σ H r1 e1 _ Rl0 h1 fun u G1 H1 R1 S1 V1 N1 => ?_
      obtain ⟨G1', R1', S1', s1, V1'⟩ := R1.freeze S1 V1 N1
      refine kb m E G0 G1' e1 σ H1 r2 e2 _ R1' h2 fun v G2 H2 R2 S2 V2 N2 => ?_
      obtain ⟨G2', R2', S2', s2, V2'⟩ := R2.freeze S2 V2 N2
      exact k u v G2' H2 R2' (S1'.trans S2') (V1'.stp S2') V2'
end
/-- a two-place rule by values, over data -/
def VB (K : PySem.W.Frag) (r : R2) (φ : PyData → PyData → Option Rs) : Prop :=
  ∀ (m : Option Addr) (E : Ef) (G0 G : Hp) (e : Ev) (σ : St) (H : Hp) (x y : V) (dx dy : PyData) (rr : Rs) (Q : VK), Rl K m E G0 G e σ H → Lv K G H x dx → Lv K G H y dy → φ dx dy = some rr → Po K m E G0 σ G H e rr e Q → r x y H Q
def orF {α β γ : Type} (φ ψ : α → β → Option γ) : α → β → Option γ := fun a b => match φ a b with
  | some r => some r
  | none => ψ a b
theorem VB.or {K : PySem.W.Frag} {r r' : R2} {φ ψ : PyData → PyData → Option Rs} (h : VB K r φ) (h' : VB K r' ψ) : VB K (fun x y H Q => r x y H Q ∨ r' x y H Q) (orF φ ψ) := by
  intro m E G0 G e σ H x y dx dy rr Q R lx ly q P
  unfold orF at q
  cases h1 : φ dx dy with
  | some r1 =>
    simp only [h1, Option.some.injEq] at q
    subst q
    exact .inl (h m E G0 G e σ H x y dx dy _ Q R lx ly h1 P)
  | none =>
    simp only [h1] at q
    exact .inr (h' m E G0 G e σ H x y dx dy _ Q R lx ly q P)
/-- its result is nothing new -/
theorem VB.pure {K : PySem.W.Frag} {r : R2} {φ : PyData → PyData → Option PyData}
    (h : ∀ (G H : Hp) (x y : V) (dx dy d : PyData) (Q : VK), Same G H → Lv K G H x dx → Lv K G H y dy → φ dx dy = some d → (∀ v, Dp K G v d → Q v H) → r x y H Q) : VB K r (fun a b => (φ a b).map Rs.im) := by
  intro m E G0 G e σ H x y dx dy rr Q R lx ly q P
  cases h1 : φ dx dy with
  | none => simp only [h1, Option.map_none] at q; cases q
  | some d =>
    simp only [h1, Option.map_some, Option.some.injEq] at q
    subst q
    exact h G H x y dx dy d Q R.gh lx ly h1 fun v z => P.now R z True.intro
section
variable {X : Cx} {a b : Expr} {fa fb : Fe} {pos : Pos} {op : Operator} {cop : CmpOp} {r : R2} {φ : PyData → PyData → Option Rs}
theorem bin_ok {ta tb : TE} (hv : VB X.K r φ) (k2 : ∀ (m : Option Addr) (E : Ef) (G0 G : Hp) (e : Ev) (σ : St) (H : Hp) (ra rb : Rs) (e' : Ev) (R : V → V → Hp → Prop),
    Rl X.K m E G0 G e σ H → two fa fb e = some (ra, rb, e') → (∀ u v G' H', Rl X.K m E G0 G' e' σ H' → Stp σ G H e G' H' e' → Vr X.K E G' H' σ e' u ra → Vr X.K E G' H' σ e' v rb → R u v H') → ta σ H fun x H1 => tb σ H1 fun y H2 => R x y H2)
    (m : Option Addr) (E : Ef) (G0 G : Hp) (e : Ev) (σ : St) (H : Hp) (rr : Rs) (e' : Ev) (Q : VK) (R : Rl X.K m E G0 G e σ H) (q : x_bin φ fa fb e = some (rr, e')) (P : Po X.K m E G0 σ G H e rr e' Q) : tOp r ta tb σ H Q := by
  unfold x_bin at q
  cases h1 : two fa fb e with
  | none => simp only [h1] at q; cases q
  | some p =>
    obtain ⟨ra, rb, e2⟩ := p
    simp only [h1] at q
    cases h2 : look2 (ra, rb, e2) with
    | none => simp only [h2] at q; cases q
    | some z =>
      obtain ⟨da, db, e3⟩ := z
      simp only [h2] at q
      cases h3 : φ da db with
      | none => simp only [h3] at q; cases q
      | some r3 =>
        simp only [h3, Option.some.injEq, Prod.mk.injEq] at q
        obtain ⟨rfl, rfl⟩ := q
        unfold look2 at h2
        dsimp only at h2
        cases h4 : lookR e2 ra with
        | none => simp only [h4] at h2; cases h2
        | some d1 =>
          cases h5 : lookR e2 rb with
          | none => simp only [h4, h5] at h2; cases h2
          | some d2 =>
            simp only [h4, h5, Option.some.injEq, Prod.mk.injEq] at h2
            obtain ⟨rfl, rfl, rfl⟩ := h2
            exact k2 m E G0 G e σ H ra rb e2 _ R h1 fun u v G' H' R' S' V1 V2 => hv m E G0 G' e2 σ H' u v _ _ _ Q R' (R'.look V1 h4) (R'.look V2 h5) h3 (P.aft S')
theorem ed_op (hv : VB X.K r φ) (ho : OpR X (binaryOp op) r) (ha : ED X a fa) (hb : ED X b fb) : ED X (.BinOp a op b pos) (x_bin φ fa fb) := by
  obtain ⟨ta, tb, pa, pb, k2⟩ := two_ok ha hb
  exact ⟨_, pe_op ho pa pb, bin_ok hv k2⟩
theorem ed_cmp (hv : VB X.K r φ) (ho : OpR X (compareOp cop) r) (hm : behindInMarks cop b = false) (ha : ED X a fa) (hb : ED X b fb) : ED X (.Compare a [cop] [b] pos) (x_bin φ fa fb) := by
  obtain ⟨ta, tb, pa, pb, k2⟩ := two_ok ha hb
  exact ⟨_, pe_cmpR ho pa pb hm, bin_ok hv k2⟩
end
/-- a result that is a bool, as a test -/
def t_of (f : Fe) : Ft := fun e => match f e with
  | some (.im (.bool b), e1) => some (b, e1)
  | _ => none
theorem t_of_ok {f : Fe} {e e' : Ev} {b : Bool} (q : t_of f e = some (b, e')) : f e = some (.im (.bool b), e') := by
  unfold t_of at q
  split at q
  · rename_i b1 e1 h
    cases q
    exact h
  · cases q
section
variable {X : Cx} {a b c : Expr} {fa fb fc : Fe} {pos : Pos} {cop cop' : CmpOp} {r r' : R2} {φ ψ : PyData → PyData → Option Rs}
theorem td_cmp (hv : VB X.K r φ) (ho : OpR X (compareOp cop) r) (hm : behindInMarks cop b = false) (ha : ED X a fa) (hb : ED X b fb) : TD X (.Compare a [cop] [b] pos) (t_of (x_bin φ fa fb)) := by
  obtain ⟨ta, tb, pa, pb, k2⟩ := two_ok ha hb
  refine ⟨_, pt_cmpR ho pa pb hm, fun m E G0 G e σ H k e' Q R q P => ?_⟩
  exact bin_ok hv k2 m E G0 G e σ H _ e' _ R (t_of_ok q) fun v G' H' R' S' V' _ => by
    cases V'
    exact ⟨k, rfl, P G' H' R' S'⟩
/-- an expression that gives a bool, as a test -/
theorem td_val {x : Expr} {f : Fe} (h : ED X x f) (he : ∀ whole, isTrue x X.env whole = (do let v ← whole; standAt x.pos; holding [v] (truthy v)) := by intro _; rfl) : TD X x (t_of f) := by
  obtain ⟨t, p, k⟩ := h
  refine ⟨_, pt_val p he, fun m E G0 G e σ H b e' Q R q P => ?_⟩
  exact k m E G0 G e σ H _ e' _ R (t_of_ok q) fun v G' H' R' S' V' _ => by
    cases V'
    exact ⟨b, rfl, P G' H' R' S'⟩
def t_not (f : Ft) : Ft := fun e => match f e with
  | some (b, e1) => some (!b, e1)
  | none => none
theorem td_not {f : Ft} (h : TD X a f) : TD X (.UnaryOp .Not a pos) (t_not f) := by
  obtain ⟨t, p, k⟩ := h
  refine ⟨_, pt_not p, fun m E G0 G e σ H b e' Q R q P => ?_⟩
  unfold t_not at q
  cases h1 : f e with
  | none => simp only [h1] at q; cases q
  | some z =>
    obtain ⟨b1, e1⟩ := z
    simp only [h1, Option.some.injEq, Prod.mk.injEq] at q
    obtain ⟨rfl, rfl⟩ := q
    exact k m E G0 G e σ H b1 e1 _ R h1 P
def t_and (f g : Ft) : Ft := fun e => match f e with
  | some (true, e1) => g e1
  | some (false, e1) => some (false, e1)
  | none => none
def t_or (f g : Ft) : Ft := fun e => match f e with
  | some (true, e1) => some (true, e1)
  | some (false, e1) => g e1
  | none => none
variable {f g : Ft} {rest : List Expr}
theorem wd_and1 (h : TD X a f) : WD X (.BoolOp .And [a] pos) f := by
  obtain ⟨t, p, k⟩ := h
  exact ⟨_, pw_and1 p, k⟩
theorem wd_or1 (h : TD X a f) : WD X (.BoolOp .Or [a] pos) f := by
  obtain ⟨t, p, k⟩ := h
  exact ⟨_, pw_or1 p, k⟩
theorem wd_and (h : TD X a f) (h2 : WD X (.BoolOp .And (b :: rest) pos) g) : WD X (.BoolOp .And (a :: b :: rest) pos) (t_and f g) := by
  obtain ⟨t, p, k⟩ := h
  obtain ⟨t2, p2, k2⟩ := h2
  refine ⟨_, pw_and p p2, fun m E G0 G e σ H c e' Q R q P => ?_⟩
  unfold t_and at q
  cases h1 : f e with
  | none => simp only [h1] at q; cases q
  | some z =>
    obtain ⟨b1, e1⟩ := z
    cases b1 with
    | true =>
      simp only [h1] at q
      refine k m E G0 G e σ H true e1 _ R h1 fun G' H' R' S' => ?_
      show if true = true then _ else _
      rw [if_pos rfl]
      exact k2 m E G0 G' e1 σ H' c e' Q R' q fun G2 H2 R2 S2 => P G2 H2 R2 (S'.trans S2)
    | false =>
      simp only [h1, Option.some.injEq, Prod.mk.injEq] at q
      obtain ⟨rfl, rfl⟩ := q
      refine k m E G0 G e σ H false e1 _ R h1 fun G' H' R' S' => ?_
      show if false = true then _ else _
      rw [if_neg Bool.false_ne_true]
      exact P G' H' R' S'
theorem wd_or (h : TD X a f) (h2 : WD X (.BoolOp .Or (b :: rest) pos) g) : WD X (.BoolOp .Or (a :: b :: rest) pos) (t_or f g) := by
  obtain ⟨t, p, k⟩ := h
  obtain ⟨t2, p2, k2⟩ := h2
  refine ⟨_, pw_or p p2, fun m E G0 G e σ H c e' Q R q P => ?_⟩
  unfold t_or at q
  cases h1 : f e with
  | none => simp only [h1] at q; cases q
  | some z =>
    obtain ⟨b1, e1⟩ := z
    cases b1 with
    | false =>
      simp only [h1] at q
      refine k m E G0 G e σ H false e1 _ R h1 fun G' H' R' S' => ?_
      show if false = true then _ else _
      rw [if_neg Bool.false_ne_true]
      exact k2 m E G0 G' e1 σ H' c e' Q R' q fun G2 H2 R2 S2 => P G2 H2 R2 (S'.trans S2)
    | true =>
      simp only [h1, Option.some.injEq, Prod.mk.injEq] at q
      obtain ⟨rfl, rfl⟩ := q
      refine k m E G0 G e σ H true e1 _ R h1 fun G' H' R' S' => ?_
      show if true = true then _ else _
      rw [if_pos rfl]
      exact P G' H' R' S'
theorem WD.td {x : Expr} (h : WD X x f) : TD X x f := by
  obtain ⟨t, p, k⟩ := h
  exact ⟨t, p.pt, k⟩
def x_and (f g : Fe) : Fe := fun e => match f e with
  | some (.im (.bool true), e1) => g e1
  | some (.im (.bool false), e1) => some (.im (.bool false), e1)
  | _ => none
def x_or (f g : Fe) : Fe := fun e => match f e with
  | some (.im (.bool true), e1) => some (.im (.bool true), e1)
  | some (.im (.bool false), e1) => g e1
  | _ => none
def x_not (f : Fe) : Fe := fun e => match f e with
  | some (.im (.bool b), e1) => some (.im (.bool !b), e1)
  | _ => none
theorem ed_one {op : BoolOp} {f : Fe} (h : ED X a f) : ED X (.BoolOp op [a] pos) f := by
  obtain ⟨t, p, k⟩ := h
  exact ⟨t, pe_one p, k⟩
theorem ed_and (h : ED X a fa) (h2 : ED X (.BoolOp .And (b :: rest) pos) fb) : ED X (.BoolOp .And (a :: b :: rest) pos) (x_and fa fb) := by
  obtain ⟨t, p, k⟩ := h
  obtain ⟨t2, p2, k2⟩ := h2
  refine ⟨_, pe_and p p2, fun m E G0 G e σ H r e' Q R q P => ?_⟩
  unfold x_and at q
  split at q
  · rename_i e1 h1
    refine k m E G0 G e σ H _ e1 _ R h1 fun v G' H' R' S' V' _ => ?_
    cases V'
    refine ⟨true, rfl, ?_⟩
    rw [if_pos rfl]
    exact k2 m E G0 G' e1 σ H' r e' Q R' q (P.aft S')
  · rename_i e1 h1
    cases q
    refine k m E G0 G e σ H _ _ _ R h1 fun v G' H' R' S' V' _ => ?_
    cases V'
    refine ⟨false, rfl, ?_⟩
    rw [if_neg Bool.false_ne_true]
    exact P _ G' H' R' S' (.bl false) True.intro
  · cases q
theorem ed_not (h : ED X a fa) : ED X (.UnaryOp .Not a pos) (x_not fa) := by
  obtain ⟨t, p, k⟩ := h
  refine ⟨_, pe_not p, fun m E G0 G e σ H r e' Q R q P => ?_⟩
  unfold x_not at q
  split at q
  · rename_i b e1 h1
    cases q
    refine k m E G0 G e σ H _ _ _ R h1 fun v G' H' R' S' V' _ => ?_
    cases V'
    exact ⟨b, rfl, P _ G' H' R' S' (.bl (!b)) True.intro⟩
  · cases q
end
end DL
namespace DL
open PySem PySem.Spec PyProof.Rows L2
def d_int2 (f : Int → Int → PyData) (c : Int → Int → Bool) : PyData → PyData → Option PyData
  | .int i, .int j => if c i j = true then some (f i j) else none
  | _, _ => none
section
variable {K : PySem.W.Frag} {G H : Hp} {v : V} {d : PyData} {ds : List PyData} {vs ws : List V}
theorem int2_ok {f : Int → Int → PyData} {c : Int → Int → Bool} {dx dy d : PyData} (h : d_int2 f c dx dy = some d) : ∃ i j, dx = .int i ∧ dy = .int j ∧ c i j = true ∧ d = f i j := by
  unfold d_int2 at h
  split at h
  · rename_i i j
    by_cases z : c i j = true
    · rw [if_pos z] at h
      cases h
      exact ⟨i, j, rfl, rfl, z, rfl⟩
    · rw [if_neg z] at h
      cases h
  · cases h
theorem vb_int {C : Int → Int → Prop} {g : Int → Int → Int} {c : Int → Int → Bool} (hc : ∀ i j, c i j = true → C i j) : VB K (rI C fun i j => .int (g i j)) (fun a b => (d_int2 (fun i j => .int (g i j)) c a b).map Rs.im) :=
  VB.pure fun G H x y dx dy d Q s lx ly h k => by
    obtain ⟨i, j, rfl, rfl, z, rfl⟩ := int2_ok h
    exact ⟨i, j, lx.int, ly.int, hc i j z, k _ (.int _)⟩
theorem vb_int0 {g : Int → Int → Int} : VB K (rI0 fun i j => .int (g i j)) (fun a b => (d_int2 (fun i j => .int (g i j)) (fun _ _ => true) a b).map Rs.im) :=
  VB.pure fun G H x y dx dy d Q s lx ly h k => by
    obtain ⟨i, j, rfl, rfl, z, rfl⟩ := int2_ok h
    exact ⟨i, j, lx.int, ly.int, k _ (.int _)⟩
theorem vb_cmp0 {g : Int → Int → Bool} : VB K (rI0 fun i j => .bl (g i j)) (fun a b => (d_int2 (fun i j => .bool (g i j)) (fun _ _ => true) a b).map Rs.im) :=
  VB.pure fun G H x y dx dy d Q s lx ly h k => by
    obtain ⟨i, j, rfl, rfl, z, rfl⟩ := int2_ok h
    exact ⟨i, j, lx.int, ly.int, k _ (.bl _)⟩
end
def p_sub : PyData → PyData → Option Rs := fun a b => (d_int2 (fun i j => .int (i - j)) (fun _ _ => true) a b).map Rs.im
def p_lt : PyData → PyData → Option Rs := fun a b => (d_int2 (fun i j => .bool (decide (i < j))) (fun _ _ => true) a b).map Rs.im
def p_le : PyData → PyData → Option Rs := fun a b => (d_int2 (fun i j => .bool (decide (i ≤ j))) (fun _ _ => true) a b).map Rs.im
def p_gt : PyData → PyData → Option Rs := fun a b => (d_int2 (fun i j => .bool (decide (j < i))) (fun _ _ => true) a b).map Rs.im
def p_ge : PyData → PyData → Option Rs := fun a b => (d_int2 (fun i j => .bool (decide (j ≤ i))) (fun _ _ => true) a b).map Rs.im
/-- within 64 bits on one side -/
def mulC (i j : Int) : Bool := decide ((-18446744073709551616 < i ∧ i < 18446744073709551616) ∨ (-18446744073709551616 < j ∧ j < 18446744073709551616))
def mulWC (i j : Int) : Bool := decide (i.natAbs.log2 + j.natAbs.log2 < 1000000)
def p_mul : PyData → PyData → Option Rs := orF (fun a b => (d_int2 (fun i j => .int (i * j)) mulC a b).map Rs.im) (fun a b => (d_int2 (fun i j => .int (i * j)) mulWC a b).map Rs.im)
def divC (_ j : Int) : Bool := decide (0 < j ∧ j.natAbs.log2 < 9000)
def p_div : PyData → PyData → Option Rs := fun a b => (d_int2 (fun i j => .int (i / j)) divC a b).map Rs.im
def p_mod : PyData → PyData → Option Rs := fun a b => (d_int2 (fun i j => .int (i % j)) (fun _ j => decide (0 < j)) a b).map Rs.im
def powC (i j : Int) : Bool := decide (0 ≤ j ∧ j ≤ 1000000 ∧ i.natAbs < 18446744073709551616)
def p_pow : PyData → PyData → Option Rs := fun a b => (d_int2 (fun i j => .int (i ^ j.toNat)) powC a b).map Rs.im
section
variable {X : Cx}
theorem vb_sub : VB X.K (rI0 fun i j => .int (i - j)) p_sub := vb_int0
theorem vb_lt : VB X.K (rI0 fun i j => .bl (decide (i < j))) p_lt := vb_cmp0
theorem vb_le : VB X.K (rI0 fun i j => .bl (decide (i ≤ j))) p_le := vb_cmp0
theorem vb_gt : VB X.K (rI0 fun i j => .bl (decide (j < i))) p_gt := vb_cmp0
theorem vb_ge : VB X.K (rI0 fun i j => .bl (decide (j ≤ i))) p_ge := vb_cmp0
theorem mulC_ok {i j : Int} (h : mulC i j = true) : CMul i j := by
  have h1 := of_decide_eq_true h
  unfold CMul
  have e : (2 : Int) ^ 64 = 18446744073709551616 := by decide
  rw [e]
  exact h1
theorem vb_mul : VB X.K (fun x y H Q => (rI CMul fun i j => .int (i * j)) x y H Q ∨ (rI CMulW fun i j => .int (i * j)) x y H Q) p_mul :=
  VB.or (vb_int fun i j z => mulC_ok z) (vb_int fun i j z => (of_decide_eq_true z : i.natAbs.log2 + j.natAbs.log2 < 1000000))
theorem op_mul2 : OpR X (binaryOp .Mult) (fun x y H Q => (rI CMul fun i j => .int (i * j)) x y H Q ∨ (rI CMulW fun i j => .int (i * j)) x y H Q) := OpR.or op_mul op_mulW
theorem vb_div : VB X.K (rI CDivW fun i j => .int (i / j)) p_div := vb_int fun i j z => by
  have h := of_decide_eq_true z
  exact h
theorem vb_mod : VB X.K (rI (fun _ j => 0 < j) fun i j => .int (i % j)) p_mod := vb_int fun i j z => of_decide_eq_true z
theorem vb_pow : VB X.K (rI CPow fun i j => .int (i ^ j.toNat)) p_pow := vb_int fun i j z => by
  have h := of_decide_eq_true z
  unfold CPow
  rw [show (2 : Nat) ^ 64 = 18446744073709551616 by decide]
  exact h
end
def okLen (n : Nat) : Bool := decide (n ≤ 16777216)
theorem okLen_ok {n : Nat} (h : okLen n = true) : n ≤ sizeLine := by
  have h1 := of_decide_eq_true h
  rw [sizeLine_eq]
  exact h1
def rCatS (K : PySem.W.Frag) : R2 := fun x y H Q => ∃ a b xs zs, x = .ref a ∧ y = .ref b ∧ SqL K H a xs ∧ SqL K H b zs ∧ xs.length + zs.length ≤ sizeLine ∧ ∀ p, H p = none → Q (.ref p) (upd H p (.lst (xs ++ zs)))
theorem op_catS {X : Cx} : OpR X (binaryOp .Add) (rCatS X.K) := by
  rintro pins s σ H _ _ v u Q I rx ry ⟨a, b, xs, zs, rfl, rfl, ha, hb, small, fin⟩
  cases rx
  cases ry
  obtain ⟨us, va, ⟨⟨c1, d1, t1, sl1⟩, n1, at1, o1, _, p1⟩, z1⟩ := I.list ha
  obtain ⟨ws, vb, ⟨⟨c2, d2, t2, sl2⟩, n2, at2, o2, _, p2⟩, z2⟩ := I.list hb
  dsimp only at o1 p1 o2 p2
  subst o1 p1 o2 p2
  have la := va.length
  have lb := vb.length
  have fits : (xs ++ zs).length ≤ sizeLine := by
    rw [List.length_append]
    exact small
  have sum := PyProof.Rows.list_addW a b us.toArray ws.toArray n1 n2 d1 d2 sl1 sl2 (by simp only [List.size_toArray]; omega)
  refine concat_meets (T := "list") ⟨_, at1, rfl⟩ ⟨_, at2, rfl⟩ noFill_list_add seq_list_add F.slot_list_add F.entry_list_add (F.args_list_add_2 _ _) sum ⟨at1, at2, ?_⟩
  have laid := I.lnew (t' := s.toks) (va.append vb) fits
  rw [← List.append_toArray] at laid
  exact ⟨.ref s.heap.objs.size, _, laid, rfl, fin _ I.fresh⟩
def q_cat : PyData → PyData → Option Rs
  | .list a, .list b => if okLen (a.length + b.length) = true then some (.ac (a ++ b)) else none
  | _, _ => none
def q_catT : PyData → PyData → Option Rs
  | .tuple a, .tuple b => if okLen (a.length + b.length) = true then some (.im (.tuple (a ++ b))) else none
  | _, _ => none
def p_add : PyData → PyData → Option Rs := orF (fun a b => (d_int2 (fun i j => .int (i + j)) (fun _ _ => true) a b).map Rs.im) (orF q_cat q_catT)
section
variable {X : Cx}
theorem vb_cat {K : PySem.W.Frag} : VB K (rCatS K) q_cat := by
  intro m E G0 G e σ H x y dx dy rr Q R lx ly q P
  unfold q_cat at q
  split at q
  · rename_i a b
    by_cases z : okLen (a.length + b.length) = true
    · rw [if_pos z] at q
      cases q
      obtain ⟨p1, w1, rfl, s1, k1⟩ := lx.list R.gh
      obtain ⟨p2, w2, rfl, s2, k2⟩ := ly.list R.gh
      have z1 := okLen_ok z
      refine ⟨p1, p2, w1, w2, rfl, rfl, s1, s2, by rw [dpAll_len k1, dpAll_len k2]; exact z1, fun p hp => ?_⟩
      obtain ⟨R', S', V', N'⟩ := R.newL hp (dpAll_app k1 k2)
      exact P _ _ _ R' S' V' N'
    · rw [if_neg z] at q
      cases q
  · cases q
theorem vb_catT {K : PySem.W.Frag} : VB K (rCatA K) q_catT := by
  intro m E G0 G e σ H x y dx dy rr Q R lx ly q P
  unfold q_catT at q
  split at q
  · rename_i a b
    by_cases z : okLen (a.length + b.length) = true
    · rw [if_pos z] at q
      cases q
      obtain ⟨p1, w1, e1, s1, k1⟩ := lx.tup R.gh
      obtain ⟨p2, w2, e2, s2, k2⟩ := ly.tup R.gh
      have z1 := okLen_ok z
      refine ⟨p1, p2, w1, w2, e1, e2, s1, s2, by rw [dpAll_len k1, dpAll_len k2]; exact z1, fun h => ?_, fun h1 h2 => ?_, fun _ _ p hp => ?_⟩
      · have ea : a = [] := by
          subst h
          cases k1
          rfl
        subst ea
        rcases ly with ly | ⟨_, _, _, _, z, _⟩
        · rw [← e2]
          exact P.now R ly True.intro
        · cases z
      · have eb : b = [] := by
          subst h2
          cases k2
          rfl
        subst eb
        rcases lx with lx | ⟨_, _, _, _, z, _⟩
        · rw [← e1, List.append_nil] at *
          exact P.now R lx True.intro
        · cases z
      · obtain ⟨R', S', D'⟩ := R.newT hp (dpAll_app k1 k2)
        exact P _ _ _ R' S' D' True.intro
    · rw [if_neg z] at q
      cases q
  · cases q
theorem vb_add : VB X.K (fun x y H Q => (rI0 fun i j => .int (i + j)) x y H Q ∨ (rCatS X.K x y H Q ∨ rCatA X.K x y H Q)) p_add := VB.or vb_int0 (VB.or vb_cat vb_catT)
theorem op_add3 : OpR X (binaryOp .Add) (fun x y H Q => (rI0 fun i j => .int (i + j)) x y H Q ∨ (rCatS X.K x y H Q ∨ rCatA X.K x y H Q)) := OpR.or op_add (OpR.or op_catS op_catA)
end
def p_eq : PyData → PyData → Option Rs := fun a b => if (SeqAt.shaped a && SeqAt.shaped b) = true then some (.im (.bool (PyData.eqv a b))) else none
def p_ne : PyData → PyData → Option Rs := fun a b => if (SeqAt.shaped a && SeqAt.shaped b) = true then some (.im (.bool (!PyData.eqv a b))) else none
def seqD : PyData → Option (List PyData)
  | .list ds => some ds
  | .tuple ds => some ds
  | _ => none
def p_isN (neg : Bool) : PyData → PyData → Option PyData
  | .none, .none => some (.bool (!neg))
  | .list _, .none => some (.bool neg)
  | .tuple _, .none => some (.bool neg)
  | .bool _, .none => some (.bool neg)
  | .int _, .none => some (.bool neg)
  | .str _, .none => some (.bool neg)
  | _, _ => none
def p_isB (neg : Bool) : PyData → PyData → Option PyData
  | .bool a, .bool b => some (.bool (if neg = true then !(decide (a = b)) else decide (a = b)))
  | _, _ => none
def p_is : PyData → PyData → Option Rs := orF (fun a b => (p_isN false a b).map Rs.im) (fun a b => (p_isB false a b).map Rs.im)
def p_isnot : PyData → PyData → Option Rs := orF (fun a b => (p_isN true a b).map Rs.im) (fun a b => (p_isB true a b).map Rs.im)
section
variable {X : Cx} {K : PySem.W.Frag}
theorem shp {a b : PyData} (h : (SeqAt.shaped a && SeqAt.shaped b) = true) : SeqAt.shaped a = true ∧ SeqAt.shaped b = true := Bool.and_eq_true_iff.mp h
theorem shp_no {d : PyData} (h : SeqAt.shaped d = true) : noDict d = true := by
  unfold SeqAt.shaped at h
  exact canNo (Bool.and_eq_true_iff.mp h).1
theorem vb_eq : VB K (rEqD K) p_eq := by
  intro m E G0 G e σ H x y dx dy rr Q R lx ly q P
  unfold p_eq at q
  by_cases z : (SeqAt.shaped dx && SeqAt.shaped dy) = true
  · rw [if_pos z] at q
    cases q
    exact ⟨dx, dy, (lx.dp R.gh).lib (shp_no (shp z).1), (ly.dp R.gh).lib (shp_no (shp z).2), (shp z).1, (shp z).2, P.now R (.bl _) True.intro⟩
  · rw [if_neg z] at q
    cases q
theorem vb_ne : VB K (rNeD K) p_ne := by
  intro m E G0 G e σ H x y dx dy rr Q R lx ly q P
  unfold p_ne at q
  by_cases z : (SeqAt.shaped dx && SeqAt.shaped dy) = true
  · rw [if_pos z] at q
    cases q
    exact ⟨dx, dy, (lx.dp R.gh).lib (shp_no (shp z).1), (ly.dp R.gh).lib (shp_no (shp z).2), (shp z).1, (shp z).2, P.now R (.bl _) True.intro⟩
  · rw [if_neg z] at q
    cases q
theorem lv_non {G H : Hp} {v : V} {d : PyData} (h : Lv K G H v d) : d = .none ∨ v ≠ .non := by
  rcases h with h | ⟨p, ws, ds, rfl, rfl, _⟩
  · cases h with
    | non => exact .inl rfl
    | _ => exact .inr fun z => by cases z
  · exact .inr fun z => by cases z
theorem isN_ok {neg : Bool} {a b d : PyData} {G H : Hp} {x y : V} (h : p_isN neg a b = some d) (lx : Lv K G H x a) (ly : Lv K G H y b) : y = .non ∧ d = .bool (if neg = true then !decide (x = .non) else decide (x = .non)) := by
  have hx := lv_non lx
  unfold p_isN at h
  split at h
  · have e := lx.none
    cases h
    subst e
    refine ⟨ly.none, ?_⟩
    cases neg <;> rfl
  all_goals first
    | (cases h
       refine ⟨ly.none, ?_⟩
       have z : x ≠ .non := by
         rcases hx with z | z
         · cases z
         · exact z
       rw [decide_eq_false z]
       cases neg <;> rfl)
    | (cases h; done)
theorem vb_is : VB K (fun x y H Q => (y = .non ∧ Q (.bl (decide (x = .non))) H) ∨ rIsB x y H Q) p_is :=
  VB.or (VB.pure fun G H x y dx dy d Q s lx ly h k => by
      obtain ⟨e1, rfl⟩ := isN_ok h lx ly
      exact ⟨e1, k _ (.bl _)⟩)
    (VB.pure fun G H x y dx dy d Q s lx ly h k => by
      unfold p_isB at h
      split at h
      · cases h
        exact ⟨_, _, lx.bool, ly.bool, k _ (.bl _)⟩
      · cases h)
theorem vb_isnot : VB K (fun x y H Q => (y = .non ∧ Q (.bl (!decide (x = .non))) H) ∨ rNotB x y H Q) p_isnot :=
  VB.or (VB.pure fun G H x y dx dy d Q s lx ly h k => by
      obtain ⟨e1, rfl⟩ := isN_ok h lx ly
      exact ⟨e1, k _ (.bl _)⟩)
    (VB.pure fun G H x y dx dy d Q s lx ly h k => by
      unfold p_isB at h
      split at h
      · cases h
        exact ⟨_, _, lx.bool, ly.bool, k _ (.bl _)⟩
      · cases h)
theorem op_is2 : OpR X (compareOp .Is) (fun x y H Q => (y = .non ∧ Q (.bl (decide (x = .non))) H) ∨ rIsB x y H Q) := OpR.or op_isN op_isBl
theorem op_isnot2 : OpR X (compareOp .IsNot) (fun x y H Q => (y = .non ∧ Q (.bl (!decide (x = .non))) H) ∨ rNotB x y H Q) := OpR.or op_notN op_notBl
end
end DL
namespace DL
open PySem PySem.Spec PyProof.Rows L2
def a_nil : Fa := fun e => some ([], e)
def a_cons (fa : Fe) (fr : Fa) : Fa := fun e => match fa e with
  | some (r, e1) => (match fr e1 with
    | some (rs, e2) => some (frzR r :: rs, e2)
    | none => none)
  | none => none
section
variable {X : Cx} {a : Expr} {es : List Expr} {fa : Fe} {fr : Fa} {pos : Pos}
theorem ad_nil : AD X [] a_nil := ⟨_, pa_nil, fun m E G0 G e σ H rs e' Q R q P => by
  cases q
  exact P [] G H R Stp.refl True.intro⟩
theorem ad_cons (ha : ED X a fa) (hr : AD X es fr) (hs : starEach (a :: es) X.env = (false, eval a X.env) :: starEach es X.env := by rfl) : AD X (a :: es) (a_cons fa fr) := by
  obtain ⟨t, p, k⟩ := ha
  obtain ⟨t2, p2, k2⟩ := hr
  refine ⟨_, pa_cons p p2 hs, fun m E G0 G e σ H rs e' Q R q P => ?_⟩
  unfold a_cons at q
  cases h1 : fa e with
  | none => simp only [h1] at q; cases q
  | some z =>
    obtain ⟨r, e1⟩ := z
    simp only [h1] at q
    cases h2 : fr e1 with
    | none => simp only [h2] at q; cases q
    | some z2 =>
      obtain ⟨rs2, e2⟩ := z2
      simp only [h2, Option.some.injEq, Prod.mk.injEq] at q
      obtain ⟨rfl, rfl⟩ := q
      refine k m E G0 G e σ H r e1 _ R h1 fun v G1 H1 R1 S1 V1 N1 => ?_
      obtain ⟨G1', R1', S1', s1, V1'⟩ := R1.freeze S1 V1 N1
      refine k2 m E G0 G1' e1 σ H1 rs2 e2 _ R1' h2 fun vs G2 H2 R2 S2 V2 => ?_
      exact P (v :: vs) G2 H2 R2 (S1'.trans S2) ⟨V1'.stp S2, V2⟩
end
/-- all arguments, as data -/
def argsD (fa : Fa) : Ev → Option (List PyData × Ev) := fun e => match fa e with
  | some (rs, e1) => (match lookAll e1 rs with
    | some ds => some (ds, e1)
    | none => none)
  | none => none
theorem argsD_ok {fa : Fa} {e e' : Ev} {ds : List PyData} (q : argsD fa e = some (ds, e')) : ∃ rs, fa e = some (rs, e') ∧ lookAll e' rs = some ds := by
  unfold argsD at q
  split at q
  · rename_i rs e1 h1
    split at q
    · rename_i ds2 h2
      cases q
      exact ⟨rs, h1, h2⟩
    · cases q
  · cases q
/-- every one of them is frozen data (no list of one's own) -/
def imR : Rs → Option PyData
  | .im d => some d
  | _ => none
def imAll : List Rs → Option (List PyData)
  | [] => some []
  | r :: rs => match imR r with
    | some d => (match imAll rs with
      | some ds => some (d :: ds)
      | none => none)
    | none => none
theorem vr_imAll {K : PySem.W.Frag} {E : Ef} {G H : Hp} {σ : St} {e : Ev} : ∀ {vs : List V} {rs : List Rs} {ds : List PyData}, VrAll K E G H σ e vs rs → imAll rs = some ds → DpAll K G vs ds
  | [], [], ds, _, q => by
    cases q
    exact .nil
  | v :: vs, r :: rs, ds, h, q => by
    simp only [imAll] at q
    cases r with
    | im d =>
      simp only [imR] at q
      cases h2 : imAll rs with
      | none => simp only [h2] at q; cases q
      | some ds2 =>
        simp only [h2, Option.some.injEq] at q
        subst q
        exact .cons h.1 (vr_imAll h.2 h2)
    | ac _ => simp only [imR] at q; cases q
    | br _ => simp only [imR] at q; cases q
  | [], _ :: _, _, h, _ => h.elim
  | _ :: _, [], _, h, _ => h.elim
def argsI (fa : Fa) : Ev → Option (List PyData × Ev) := fun e => match fa e with
  | some (rs, e1) => (match imAll rs with
    | some ds => some (ds, e1)
    | none => none)
  | none => none
theorem argsI_ok {fa : Fa} {e e' : Ev} {ds : List PyData} (q : argsI fa e = some (ds, e')) : ∃ rs, fa e = some (rs, e') ∧ imAll rs = some ds := by
  unfold argsI at q
  split at q
  · rename_i rs e1 h1
    split at q
    · rename_i ds2 h2
      cases q
      exact ⟨rs, h1, h2⟩
    · cases q
  · cases q
def x_tup (fa : Fa) : Fe := fun e => match argsI fa e with
  | some (ds, e1) => if okLen ds.length = true then some (.im (.tuple ds), e1) else none
  | none => none
def x_lst (fa : Fa) : Fe := fun e => match argsI fa e with
  | some (ds, e1) => if okLen ds.length = true then some (.ac ds, e1) else none
  | none => none
section
variable {X : Cx} {es : List Expr} {fa : Fa} {pos : Pos}
theorem ed_tup {n} (h : AD X es fa) : ED X (.Tuple es n pos) (x_tup fa) := by
  obtain ⟨t, p, k⟩ := h
  refine ⟨_, pe_tup p, fun m E G0 G e σ H r e' Q R q P => ?_⟩
  unfold x_tup at q
  cases h1 : argsI fa e with
  | none => simp only [h1] at q; cases q
  | some z =>
    obtain ⟨ds, e1⟩ := z
    simp only [h1] at q
    by_cases z : okLen ds.length = true
    · rw [if_pos z] at q
      simp only [Option.some.injEq, Prod.mk.injEq] at q
      obtain ⟨rfl, rfl⟩ := q
      obtain ⟨rs, q1, q2⟩ := argsI_ok h1
      refine k m E G0 G e σ H rs e1 _ R q1 fun vs G1 H1 R1 S1 V1 => ?_
      have dv := vr_imAll V1 q2
      refine ⟨by rw [dpAll_len dv]; exact okLen_ok z, fun p hp => ?_⟩
      obtain ⟨R', S', D'⟩ := R1.newT hp dv
      exact P _ _ _ R' (S1.trans S') D' True.intro
    · rw [if_neg z] at q
      cases q
theorem ed_lst (h : AD X es fa) : ED X (.List es pos) (x_lst fa) := by
  obtain ⟨t, p, k⟩ := h
  refine ⟨_, pe_lst p, fun m E G0 G e σ H r e' Q R q P => ?_⟩
  unfold x_lst at q
  cases h1 : argsI fa e with
  | none => simp only [h1] at q; cases q
  | some z =>
    obtain ⟨ds, e1⟩ := z
    simp only [h1] at q
    by_cases z : okLen ds.length = true
    · rw [if_pos z] at q
      simp only [Option.some.injEq, Prod.mk.injEq] at q
      obtain ⟨rfl, rfl⟩ := q
      obtain ⟨rs, q1, q2⟩ := argsI_ok h1
      refine k m E G0 G e σ H rs e1 _ R q1 fun vs G1 H1 R1 S1 V1 => ?_
      have dv := vr_imAll V1 q2
      refine ⟨by rw [dpAll_len dv]; exact okLen_ok z, fun p hp => ?_⟩
      obtain ⟨R', S', V', N'⟩ := R1.newL hp dv
      exact P _ _ _ R' (S1.trans S') V' (nw_back S1 _ N')
    · rw [if_neg z] at q
      cases q
end
def p_ix : PyData → PyData → Option Rs := fun a b => match seqD a, b with
  | some ds, .int i => (atI ds i).map Rs.im
  | _, _ => none
theorem dpAll_atI {K : PySem.W.Frag} {G : Hp} {vs : List V} {ds : List PyData} {i : Int} {d : PyData} (h : DpAll K G vs ds) (q : atI ds i = some d) : ∃ v, atI vs i = some v ∧ Dp K G v d := by
  have e : atI vs i = (ixN vs.length i).bind fun j => vs[j]? := rfl
  rw [e, dpAll_len h]
  have q : ((ixN ds.length i).bind fun j => ds[j]?) = some d := q
  cases z : ixN ds.length i with
  | none => rw [z] at q; cases q
  | some j =>
    rw [z] at q
    exact dpAll_get h q
def rIx2 (K : PySem.W.Frag) : R2 := fun x y H Q => rIxL K x y H Q ∨ rIxT K x y H Q
theorem vb_ix {K : PySem.W.Frag} : VB K (rIx2 K) p_ix := by
  intro m E G0 G e σ H x y dx dy rr Q R lx ly q P
  unfold p_ix at q
  split at q
  · rename_i ds i h
    cases z : atI ds i with
    | none => rw [z] at q; cases q
    | some d =>
      rw [z] at q
      cases q
      unfold seqD at h
      split at h
      · cases h
        obtain ⟨p, ws, ex, s1, k⟩ := lx.list R.gh
        obtain ⟨v, e1, e2⟩ := dpAll_atI k z
        exact .inl ⟨p, ws, i, v, ex, ly.int, s1, e1, P.now R e2 True.intro⟩
      · cases h
        obtain ⟨p, ws, ex, s1, k⟩ := lx.tup R.gh
        obtain ⟨v, e1, e2⟩ := dpAll_atI k z
        exact .inr ⟨p, ws, i, v, ex, ly.int, s1, e1, P.now R e2 True.intro⟩
      · cases h
  · cases q
abbrev x_ix (fa fb : Fe) : Fe := x_bin p_ix fa fb
section
variable {X : Cx} {a b : Expr} {fa fb : Fe} {pos : Pos}
theorem ed_ix (ha : ED X a fa) (hb : ED X b fb) (hs : PlainIx b := by intro _ _; rfl) : ED X (.Subscript a b pos) (x_ix fa fb) := by
  obtain ⟨ta, tb, pa, pb, k2⟩ := two_ok ha hb
  exact ⟨_, pe_ix (ix_list.or ix_tup) pa pb hs, bin_ok (r := rIx2 X.K) vb_ix k2⟩
end
abbrev Fo := Ev → Option (Option Int × Ev)
structure OD (X : Cx) (o : Option Expr) (f : Fo) : Prop where
  ex : ∃ t, PO X o t ∧ ∀ (m : Option Addr) (E : Ef) (G0 G : Hp) (e : Ev) (σ : St) (H : Hp) (i : Option Int) (e' : Ev) (Q : Option Int → Hp → Prop),
    Rl X.K m E G0 G e σ H → f e = some (i, e') → (∀ G' H', Rl X.K m E G0 G' e' σ H' → Stp σ G H e G' H' e' → Q i H') → t σ H Q
def o_no : Fo := fun e => some (none, e)
def o_at (f : Fe) : Fo := fun e => match f e with
  | some (.im (.int i), e1) => some (some i, e1)
  | _ => none
def cutD {α : Type} (ds : List α) (lo hi : Option Int) : List α := (ds.drop (HT.sIx ds.length 0 lo)).take (HT.sIx ds.length ds.length hi - HT.sIx ds.length 0 lo)
def sliced (lo hi : Option Int) : PyData → Option Rs
  | .list ds => some (.ac (cutD ds lo hi))
  | .tuple ds => some (.im (.tuple (cutD ds lo hi)))
  | _ => none
def x_sl (fa : Fe) (fl fh : Fo) : Fe := fun e => match fa e with
  | some (r, e1) => (match fl e1 with
    | some (lo, e2) => (match fh e2 with
      | some (hi, e3) => (match lookR e3 (frzR r) with
        | some d => (match sliced lo hi d with
          | some r2 => some (r2, e3)
          | none => none)
        | none => none)
      | none => none)
    | none => none)
  | none => none
theorem dpAll_cut {K : PySem.W.Frag} {G : Hp} {vs : List V} {ds : List PyData} {lo hi : Option Int} (h : DpAll K G vs ds) : DpAll K G (cutV vs lo hi) (cutD ds lo hi) := by
  unfold cutV cutD
  rw [dpAll_len h]
  exact dpAll_take _ (dpAll_drop _ h)
theorem cutD_all {α : Type} {ds : List α} {lo hi : Option Int} (h1 : HT.sIx ds.length 0 lo = 0) (h2 : HT.sIx ds.length ds.length hi = ds.length) : cutD ds lo hi = ds := by
  unfold cutD
  rw [h1, h2]
  exact List.take_length
section
variable {X : Cx} {a b : Expr} {fa fb : Fe} {fl fh : Fo} {lo hi : Option Expr} {pos p2 : Pos}
theorem od_no : OD X none o_no := ⟨_, po_none, fun m E G0 G e σ H i e' Q R q P => by
  cases q
  exact P G H R Stp.refl⟩
theorem od_at (h : ED X a fa) : OD X (some a) (o_at fa) := by
  obtain ⟨t, p, k⟩ := h
  refine ⟨_, po_some p, fun m E G0 G e σ H i e' Q R q P => ?_⟩
  unfold o_at at q
  split at q
  · rename_i j e1 h1
    simp only [Option.some.injEq, Prod.mk.injEq] at q
    obtain ⟨rfl, rfl⟩ := q
    refine k m E G0 G e σ H _ e1 _ R h1 fun v G1 H1 R1 S1 V1 _ => ?_
    cases V1
    exact ⟨j, rfl, P G1 H1 R1 S1⟩
  · cases q
theorem ed_sl (ha : ED X a fa) (hl : OD X lo fl) (hh : OD X hi fh) : ED X (.Subscript a (.Slice lo hi none p2) pos) (x_sl fa fl fh) := by
  obtain ⟨t, p, k⟩ := ha
  obtain ⟨t1, q1, k1⟩ := hl
  obtain ⟨t2, q2, k2⟩ := hh
  refine ⟨_, pe_slice (sl_list.or sl_tupA) p q1 q2, fun m E G0 G e σ H r e' Q R q P => ?_⟩
  unfold x_sl at q
  cases h1 : fa e with
  | none => simp only [h1] at q; cases q
  | some z =>
    obtain ⟨r0, e1⟩ := z
    simp only [h1] at q
    cases h2 : fl e1 with
    | none => simp only [h2] at q; cases q
    | some z =>
      obtain ⟨i, e2⟩ := z
      simp only [h2] at q
      cases h3 : fh e2 with
      | none => simp only [h3] at q; cases q
      | some z =>
        obtain ⟨j, e3⟩ := z
        simp only [h3] at q
        cases h4 : lookR e3 (frzR r0) with
        | none => simp only [h4] at q; cases q
        | some d =>
          simp only [h4] at q
          cases h5 : sliced i j d with
          | none => simp only [h5] at q; cases q
          | some r2 =>
            simp only [h5, Option.some.injEq, Prod.mk.injEq] at q
            obtain ⟨rfl, rfl⟩ := q
            refine k m E G0 G e σ H r0 e1 _ R h1 fun v G1 H1 R1 S1 V1 N1 => ?_
            obtain ⟨G1', R1', S1', s1, V1'⟩ := R1.freeze S1 V1 N1
            refine k1 m E G0 G1' e1 σ H1 i e2 _ R1' h2 fun G2 H2 R2 S2 => ?_
            refine k2 m E G0 G2 e2 σ H2 j e3 _ R2 h3 fun G3 H3 R3 S3 => ?_
            have L := R3.look ((V1'.stp S2).stp S3) h4
            have S := S1'.trans (S2.trans S3)
            unfold sliced at h5
            split at h5
            · cases h5
              obtain ⟨p', ws, ex, s2, dk⟩ := L.list R3.gh
              refine .inl ⟨p', ws, ex, s2, fun p hp => ?_⟩
              obtain ⟨R', S', V', N'⟩ := R3.newL hp (dpAll_cut dk)
              exact P _ _ _ R' (S.trans S') V' (nw_back S _ N')
            · cases h5
              rename_i ds
              obtain ⟨p', ws, ex, s2, dk⟩ := L.tup R3.gh
              refine .inr ⟨p', ws, ex, s2, fun hw => ?_, fun _ p hp => ?_⟩
              · rw [dpAll_len dk] at hw
                rw [cutD_all hw.1 hw.2] at P
                rcases L with L | ⟨_, _, _, _, z, _⟩
                · rw [← ex]
                  exact P _ _ _ R3 S L True.intro
                · cases z
              · obtain ⟨R', S', D'⟩ := R3.newT hp (dpAll_cut dk)
                exact P _ _ _ R' (S.trans S') D' True.intro
            · cases h5
/-- -n -/
def x_neg (fa : Fe) : Fe := fun e => match fa e with
  | some (.im (.int i), e1) => some (.im (.int (-i)), e1)
  | _ => none
theorem ed_neg (ha : ED X a fa) : ED X (.UnaryOp .USub a pos) (x_neg fa) := by
  obtain ⟨t, p, k⟩ := ha
  refine ⟨_, pe_un un_neg p, fun m E G0 G e σ H r e' Q R q P => ?_⟩
  unfold x_neg at q
  split at q
  · rename_i i e1 h1
    cases q
    refine k m E G0 G e σ H _ _ _ R h1 fun v G1 H1 R1 S1 V1 _ => ?_
    cases V1
    exact ⟨i, rfl, P _ _ _ R1 S1 (.int _) True.intro⟩
  · cases q
end
/-- an n-place rule by values, over data -/
def VC (K : PySem.W.Frag) (r : List V → Hp → VK → Prop) (φ : List PyData → Option Rs) : Prop :=
  ∀ (m : Option Addr) (E : Ef) (G0 G : Hp) (e : Ev) (σ : St) (H : Hp) (vs : List V) (ds : List PyData) (rr : Rs) (Q : VK), Rl K m E G0 G e σ H → LvAll K G H vs ds → φ ds = some rr → Po K m E G0 σ G H e rr e Q → r vs H Q
def orC {α γ : Type} (φ ψ : α → Option γ) : α → Option γ := fun a => match φ a with
  | some r => some r
  | none => ψ a
theorem VC.or {K : PySem.W.Frag} {r r' : List V → Hp → VK → Prop} {φ ψ : List PyData → Option Rs} (h : VC K r φ) (h' : VC K r' ψ) : VC K (fun vs H Q => r vs H Q ∨ r' vs H Q) (orC φ ψ) := by
  intro m E G0 G e σ H vs ds rr Q R l q P
  unfold orC at q
  cases h1 : φ ds with
  | some r1 =>
    simp only [h1, Option.some.injEq] at q
    subst q
    exact .inl (h m E G0 G e σ H vs ds _ Q R l h1 P)
  | none =>
    simp only [h1] at q
    exact .inr (h' m E G0 G e σ H vs ds rr Q R l q P)
def x_cb (φ : List PyData → Option Rs) (fa : Fa) : Fe := fun e => match argsD fa e with
  | some (ds, e1) => (match φ ds with
    | some r => some (r, e1)
    | none => none)
  | none => none
section
variable {X : Cx} {a : Expr} {es : List Expr} {fa : Fa} {pos p : Pos} {x : Str} {id T : String} {r : List V → Hp → VK → Prop} {φ : List PyData → Option Rs}
theorem cb_ok {t : TA} (hv : VC X.K r φ) (k : ∀ (m : Option Addr) (E : Ef) (G0 G : Hp) (e : Ev) (σ : St) (H : Hp) (rs : List Rs) (e' : Ev) (Q : List V → Hp → Prop),
    Rl X.K m E G0 G e σ H → fa e = some (rs, e') → (∀ vs G' H', Rl X.K m E G0 G' e' σ H' → Stp σ G H e G' H' e' → VrAll X.K E G' H' σ e' vs rs → Q vs H') → t σ H Q)
    (m : Option Addr) (E : Ef) (G0 G : Hp) (e : Ev) (σ : St) (H : Hp) (rr : Rs) (e' : Ev) (Q : VK) (R : Rl X.K m E G0 G e σ H) (q : x_cb φ fa e = some (rr, e')) (P : Po X.K m E G0 σ G H e rr e' Q) : tCB r t σ H Q := by
  unfold x_cb at q
  cases h1 : argsD fa e with
  | none => simp only [h1] at q; cases q
  | some z =>
    obtain ⟨ds, e1⟩ := z
    simp only [h1] at q
    cases h2 : φ ds with
    | none => simp only [h2] at q; cases q
    | some r2 =>
      simp only [h2, Option.some.injEq, Prod.mk.injEq] at q
      obtain ⟨rfl, rfl⟩ := q
      obtain ⟨rs, q1, q2⟩ := argsD_ok h1
      exact k m E G0 G e σ H rs e1 _ R q1 fun vs G1 H1 R1 S1 V1 => hv m E G0 G1 e1 σ H1 vs ds _ Q R1 (R1.lookAll V1 q2) h2 (P.aft S1)
theorem ed_cb (hv : VC X.K r φ) (hc : CallR X (.builtin id) r) (hm : X.mg x = none) (h : AD X (a :: es) fa) (hb : bootBuiltins x = some (.builtin id) := by decide +kernel) (hg : Gl X x := by rfl) (hn : x ≠ "__name__" := by decide) (hdb : (x == ("__debug__" : Str)) = false := by decide)
    (he : starEach (a :: es) X.env = (false, eval a X.env) :: starEach es X.env := by rfl) (hpl : (backTo pos (starEach es X.env)).any (·.1) = false := by rfl) : ED X (.Call (.Name x p) (a :: es) [] pos) (x_cb φ fa) := by
  obtain ⟨t, pa, k⟩ := h
  exact ⟨_, pe_callB hc hg hm hb pa hn hdb he hpl, cb_ok hv k⟩
theorem ed_ct (hv : VC X.K r φ) (hc : CallR X (.type T) r) (hm : X.mg x = none) (h : AD X (a :: es) fa) (hb : bootBuiltins x = some (.type T) := by decide +kernel) (hg : Gl X x := by rfl) (hn : x ≠ "__name__" := by decide) (hdb : (x == ("__debug__" : Str)) = false := by decide)
    (he : starEach (a :: es) X.env = (false, eval a X.env) :: starEach es X.env := by rfl) (hpl : (backTo pos (starEach es X.env)).any (·.1) = false := by rfl) : ED X (.Call (.Name x p) (a :: es) [] pos) (x_cb φ fa) := by
  obtain ⟨t, pa, k⟩ := h
  exact ⟨_, pe_callTy hc hg hm hb pa hn hdb he hpl, cb_ok hv k⟩
end
theorem lv1 {K : PySem.W.Frag} {G H : Hp} {vs : List V} {d : PyData} (h : LvAll K G H vs [d]) : ∃ v, vs = [v] ∧ Lv K G H v d := by
  match vs, h with
  | [v], h => exact ⟨v, rfl, h.1⟩
  | _ :: _ :: _, h => exact h.2.elim
theorem lv2 {K : PySem.W.Frag} {G H : Hp} {vs : List V} {c d : PyData} (h : LvAll K G H vs [c, d]) : ∃ u v, vs = [u, v] ∧ Lv K G H u c ∧ Lv K G H v d := by
  match vs, h with
  | [u, v], h => exact ⟨u, v, rfl, h.1, h.2.1⟩
  | _ :: _ :: _ :: _, h => exact h.2.2.elim
  | [_], h => exact h.2.elim
def c_len : List PyData → Option Rs
  | [.list ds] => some (.im (.int ds.length))
  | [.tuple ds] => some (.im (.int ds.length))
  | _ => none
def c_abs : List PyData → Option Rs
  | [.int i] => some (.im (.int (if i < 0 then -i else i)))
  | _ => none
def c_max2 : List PyData → Option Rs
  | [.int i, .int j] => some (.im (.int (if j > i then j else i)))
  | _ => none
def c_int : List PyData → Option Rs
  | [.int i] => some (.im (.int i))
  | [.bool k] => some (.im (.int (if k = true then 1 else 0)))
  | _ => none
def c_tuple : List PyData → Option Rs
  | [.list ds] => some (.im (.tuple ds))
  | [.tuple ds] => some (.im (.tuple ds))
  | _ => none
section
variable {K : PySem.W.Frag} {X : Cx}
theorem vc_len : VC K (fun xs H Q => ∃ p ys, xs = [.ref p] ∧ (SqL K H p ys ∨ SqT K H p ys) ∧ Q (.int ys.length) H) c_len := by
  intro m E G0 G e σ H vs ds rr Q R l q P
  unfold c_len at q
  split at q
  · cases q
    obtain ⟨v, rfl, lv⟩ := lv1 l
    obtain ⟨p, ws, rfl, s1, k⟩ := lv.list R.gh
    refine ⟨p, ws, rfl, .inl s1, ?_⟩
    rw [dpAll_len k]
    exact P.now R (.int _) True.intro
  · cases q
    obtain ⟨v, rfl, lv⟩ := lv1 l
    obtain ⟨p, ws, rfl, s1, k⟩ := lv.tup R.gh
    refine ⟨p, ws, rfl, .inr s1, ?_⟩
    rw [dpAll_len k]
    exact P.now R (.int _) True.intro
  · cases q
theorem vc_abs : VC K (fun xs H Q => ∃ i, xs = [.int i] ∧ Q (.int (if i < 0 then -i else i)) H) c_abs := by
  intro m E G0 G e σ H vs ds rr Q R l q P
  unfold c_abs at q
  split at q
  · cases q
    obtain ⟨v, rfl, lv⟩ := lv1 l
    exact ⟨_, by rw [lv.int], P.now R (.int _) True.intro⟩
  · cases q
theorem vc_max2 : VC K (fun xs H Q => ∃ i j, xs = [.int i, .int j] ∧ Q (.int (if j > i then j else i)) H) c_max2 := by
  intro m E G0 G e σ H vs ds rr Q R l q P
  unfold c_max2 at q
  split at q
  · cases q
    obtain ⟨u, v, rfl, l1, l2⟩ := lv2 l
    exact ⟨_, _, by rw [l1.int, l2.int], P.now R (.int _) True.intro⟩
  · cases q
theorem vc_int : VC K (fun xs H Q => (∃ i, xs = [.int i] ∧ Q (.int i) H) ∨ ∃ k, xs = [.bl k] ∧ Q (.int (if k then 1 else 0)) H) c_int := by
  intro m E G0 G e σ H vs ds rr Q R l q P
  unfold c_int at q
  split at q
  · cases q
    obtain ⟨v, rfl, lv⟩ := lv1 l
    exact .inl ⟨_, by rw [lv.int], P.now R (.int _) True.intro⟩
  · cases q
    obtain ⟨v, rfl, lv⟩ := lv1 l
    exact .inr ⟨_, by rw [lv.bool], P.now R (.int _) True.intro⟩
  · cases q
theorem vc_tuple : VC K (fun xs H Q => ∃ p ys, xs = [.ref p] ∧ ((SqL K H p ys ∧ ∀ l, H l = none → Q (.ref l) (upd H l (.tup ys))) ∨ (SqT K H p ys ∧ Q (.ref p) H))) c_tuple := by
  intro m E G0 G e σ H vs ds rr Q R l q P
  unfold c_tuple at q
  split at q
  · cases q
    obtain ⟨v, rfl, lv⟩ := lv1 l
    obtain ⟨p, ws, rfl, s1, k⟩ := lv.list R.gh
    refine ⟨p, ws, rfl, .inl ⟨s1, fun p2 hp => ?_⟩⟩
    obtain ⟨R', S', D'⟩ := R.newT hp k
    exact P _ _ _ R' S' D' True.intro
  · cases q
    obtain ⟨v, rfl, lv⟩ := lv1 l
    obtain ⟨p, ws, rfl, s1, k⟩ := lv.tup R.gh
    refine ⟨p, ws, rfl, .inr ⟨s1, ?_⟩⟩
    rcases lv with lv | ⟨_, _, _, _, z, _⟩
    · exact P.now R lv True.intro
    · cases z
  · cases q
end
end DL
namespace DL
open PySem PySem.Spec PyProof.Rows L2
inductive Ty where
  | int | bool | str | tuple | list
def Ty.nm : Ty → String
  | .int => "int"
  | .bool => "bool"
  | .str => "str"
  | .tuple => "tuple"
  | .list => "list"
def isD : Ty → PyData → Option Bool
  | _, .dict _ => none
  | .int, .int _ => some true
  | .int, .bool _ => some true
  | .bool, .bool _ => some true
  | .str, .str _ => some true
  | .tuple, .tuple _ => some true
  | .list, .list _ => some true
  | _, _ => some false
def tyN : PyData → String
  | .none => "NoneType"
  | .bool _ => "bool"
  | .int _ => "int"
  | .str _ => "str"
  | .list _ => "list"
  | .tuple _ => "tuple"
  | .dict _ => "dict"
theorem isD_ok {T : Ty} {d : PyData} {b : Bool} (h : isD T d = some b) : kitB (tyN d) T.nm = some b := by
  cases d <;> cases T <;> first
    | (cases h; done)
    | (cases h; simp only [tyN, Ty.nm]; decide +kernel)
theorem lv_ty {K : PySem.W.Frag} {G H : Hp} {v : V} {d : PyData} (s : Same G H) (h : Lv K G H v d) {T : Ty} {b : Bool} (hd : isD T d = some b) : TyX K H v (.type (tyN d)) := by
  have h := h.dp s
  cases h with
  | non => exact .base .non
  | bl b => exact .base (.bl b)
  | int i => exact .base (.int i)
  | str x => exact .base (.str x)
  | lst h1 _ =>
    rcases h1 with (h2 | ⟨o, h2⟩) | ⟨o, its, n, hk, hc, _⟩
    · exact .base (.lst h2)
    · exact .base (.frz h2)
    · exact .kList hk hc
  | tup h1 _ =>
    rcases h1 with (h2 | ⟨o, h2⟩) | ⟨o, its, n, hk, hc, _⟩
    · exact .base (.tup h2)
    · exact .fTuple h2
    · exact .kTuple hk hc
  | ins _ _ _ _ => cases T <;> cases hd
  | dct _ _ _ => cases T <;> cases hd
def x_isi (T : Ty) (f : Fe) : Fe := fun e => match f e with
  | some (r, e1) => (match lookR e1 (frzR r) with
    | some d => (match isD T d with
      | some b => some (.im (.bool b), e1)
      | none => none)
    | none => none)
  | none => none
section
variable {X : Cx} {a : Expr} {fa : Fe} {pos p p2 : Pos}
theorem ed_isi (T : Ty) (ha : ED X a fa) {y : Str} (hm : X.mg "isinstance" = none) (hmT : X.mg y = none) (hy : y = Str.ofString T.nm := by rfl) (hb : bootBuiltins y = some (.type T.nm) := by decide +kernel) (hg : Gl X "isinstance" := by rfl) (hgT : Gl X y := by rfl)
    (hny : y ≠ "__name__" := by decide) (hdy : (y == ("__debug__" : Str)) = false := by decide)
    (h1 : starEach [.Name y p2] X.env = (false, eval (.Name y p2) X.env) :: starEach [] X.env := by rfl)
    (he : starEach [a, .Name y p2] X.env = (false, eval a X.env) :: starEach [.Name y p2] X.env := by rfl) (hpl : (backTo pos (starEach [.Name y p2] X.env)).any (·.1) = false := by rfl) :
    ED X (.Call (.Name "isinstance" p) [a, .Name y p2] [] pos) (x_isi T fa) := by
  obtain ⟨t, pa, k⟩ := ha
  refine ⟨_, pe_callB call_isi hg hm (by decide +kernel) (pa_cons pa (pa_cons (pe_bltn (v := .ty T.nm) hgT hmT hb rfl hny hdy) pa_nil h1) he) (by decide) (by decide) he hpl, fun m E G0 G e σ H r e' Q R q P => ?_⟩
  unfold x_isi at q
  cases h1 : fa e with
  | none => simp only [h1] at q; cases q
  | some z =>
    obtain ⟨r0, e1⟩ := z
    simp only [h1] at q
    cases h4 : lookR e1 (frzR r0) with
    | none => simp only [h4] at q; cases q
    | some d =>
      simp only [h4] at q
      cases h5 : isD T d with
      | none => simp only [h5] at q; cases q
      | some b =>
        simp only [h5, Option.some.injEq, Prod.mk.injEq] at q
        obtain ⟨rfl, rfl⟩ := q
        refine k m E G0 G e σ H r0 e1 _ R h1 fun v G1 H1 R1 S1 V1 N1 => ?_
        obtain ⟨G1', R1', S1', s1, V1'⟩ := R1.freeze S1 V1 N1
        have L := R1'.look V1' h4
        exact ⟨v, .ty T.nm, .type (tyN d), .type T.nm, b, rfl, .ty _, lv_ty R1'.gh L h5, kit_ty (isD_ok h5), P _ _ _ R1' S1' (.bl _) True.intro⟩
end
def unI : List PyData → Option (List Int)
  | [] => some []
  | .int i :: ds => (unI ds).map (i :: ·)
  | _ :: _ => none
theorem unI_ok : ∀ {ds : List PyData} {ns : List Int}, unI ds = some ns → ds = ns.map PyData.int
  | [], ns, h => by
    cases h
    rfl
  | d :: ds, ns, h => by
    cases d with
    | int i =>
      simp only [unI] at h
      cases z : unI ds with
      | none => rw [z] at h; cases h
      | some ms =>
        rw [z] at h
        cases h
        rw [unI_ok z]
        rfl
    | _ => simp only [unI] at h; cases h
theorem dp_ints {K : PySem.W.Frag} {G : Hp} : ∀ {vs : List V} {ns : List Int}, DpAll K G vs (ns.map PyData.int) → vs = ns.map V.int
  | [], [], _ => rfl
  | [], _ :: _, h => by cases h
  | _ :: _, [], h => by cases h
  | v :: vs, n :: ns, h => by
    cases h with
    | cons h t =>
      cases h
      rw [dp_ints t]
      rfl
def c_intsL (g : List Int → Option Rs) : List PyData → Option Rs
  | [.list ds] => (match unI ds with
    | some ns => g ns
    | none => none)
  | _ => none
/-- sorted, ascending, falling, by insertion (what the kernel can reckon) -/
def insB {α : Type} (le : α → α → Bool) (x : α) : List α → List α
  | [] => [x]
  | y :: l => match le x y with
    | true => x :: y :: l
    | false => y :: insB le x l
def sortB {α : Type} (le : α → α → Bool) : List α → List α
  | [] => []
  | x :: l => insB le x (sortB le l)
theorem insB_perm {α : Type} (le : α → α → Bool) (x : α) : ∀ l : List α, (insB le x l).Perm (x :: l)
  | [] => List.Perm.refl _
  | y :: l => by
    unfold insB
    split
    · exact List.Perm.refl _
    · exact (List.Perm.cons _ (insB_perm le x l)).trans (List.Perm.swap ..)
theorem sortB_perm {α : Type} (le : α → α → Bool) : ∀ l : List α, (sortB le l).Perm l
  | [] => List.Perm.refl _
  | x :: l => (insB_perm le x _).trans (List.Perm.cons _ (sortB_perm le l))
theorem insB_pw {α : Type} {le : α → α → Bool} (tr : ∀ a b c, le a b = true → le b c = true → le a c = true) (to : ∀ a b, (le a b || le b a) = true) (x : α) : ∀ {l : List α}, l.Pairwise (fun a b => le a b = true) → (insB le x l).Pairwise (fun a b => le a b = true)
  | [], _ => List.pairwise_singleton _ _
  | y :: l, h => by
    obtain ⟨h1, h2⟩ := List.pairwise_cons.mp h
    unfold insB
    split
    · rename_i e
      refine List.pairwise_cons.mpr ⟨fun z hz => ?_, h⟩
      rcases List.mem_cons.mp hz with q | q
      · rw [q]; exact e
      · exact tr _ _ _ e (h1 z q)
    · rename_i e
      refine List.pairwise_cons.mpr ⟨fun z hz => ?_, insB_pw tr to x h2⟩
      rcases List.mem_cons.mp ((insB_perm le x l).mem_iff.mp hz) with q | q
      · rw [q]
        have := to x y
        rwa [e, Bool.false_or] at this
      · exact h1 z q
theorem sortB_pw {α : Type} {le : α → α → Bool} (tr : ∀ a b c, le a b = true → le b c = true → le a c = true) (to : ∀ a b, (le a b || le b a) = true) : ∀ l : List α, (sortB le l).Pairwise (fun a b => le a b = true)
  | [] => .nil
  | x :: l => insB_pw tr to x (sortB_pw tr to l)
def upI (ns : List Int) : List Int := sortB (fun a b => decide (a ≤ b)) ns
def downI (ns : List Int) : List Int := sortB (fun a b => decide (b ≤ a)) ns
theorem upI_uniq {ns ms : List Int} (h : ms.Perm ns) (k : ms.Pairwise (· ≤ ·)) : ms = upI ns := by
  have p1 : (upI ns).Perm ns := sortB_perm _ ns
  have s1 : (upI ns).Pairwise (fun a b => decide (a ≤ b) = true) := sortB_pw (fun a b c h1 h2 => by simp at *; omega) (fun a b => by simp; omega) ns
  refine List.Perm.eq_of_pairwise (le := (· ≤ ·)) (fun a b _ _ h1 h2 => by omega) k (s1.imp fun h => of_decide_eq_true h) (h.trans p1.symm)
def c_sortedI : List PyData → Option Rs := c_intsL fun ns => some (.ac ((upI ns).map PyData.int))
section
variable {K : PySem.W.Frag} {X : Cx}
theorem intsL_ok {g : List Int → Option Rs} {ds : List PyData} {r : Rs} (q : c_intsL g ds = some r) : ∃ ns, ds = [.list (ns.map PyData.int)] ∧ g ns = some r := by
  unfold c_intsL at q
  split at q
  · rename_i es
    cases z : unI es with
    | none => simp only [z] at q; cases q
    | some ns =>
      simp only [z] at q
      exact ⟨ns, by rw [unI_ok z], q⟩
  · cases q
theorem lv_ints {G H : Hp} {vs : List V} {ns : List Int} (s : Same G H) (l : LvAll K G H vs [.list (ns.map PyData.int)]) : ∃ p, vs = [.ref p] ∧ SqL K H p (ns.map V.int) := by
  obtain ⟨v, rfl, lv⟩ := lv1 l
  obtain ⟨p, ws, rfl, s1, k⟩ := lv.list s
  rw [dp_ints k] at s1
  exact ⟨p, rfl, s1⟩
theorem vc_sortedI : VC K (rSortedI K) c_sortedI := by
  intro m E G0 G e σ H vs ds rr Q R l q P
  obtain ⟨ns, rfl, q2⟩ := intsL_ok q
  clear q
  obtain ⟨p, rfl, s1⟩ := lv_ints R.gh l
  cases q2
  refine ⟨p, _, rfl, s1, fun ns' p2 h1 h2 hp => ?_⟩
  rw [upI_uniq h1 h2]
  obtain ⟨R', S', V', N'⟩ := R.newL hp (dpAll_ints (K := K) (G := G) (upI ns))
  exact P _ _ _ R' S' V' N'
end
end DL
namespace DL
open PySem PySem.Spec PyProof.Rows L2 RT RZ
def teOf (K : PySem.W.Frag) (f : Fe) : TE := fun σ H Q => ∃ m E G0 G e r e', Rl K m E G0 G e σ H ∧ f e = some (r, e') ∧ Po K m E G0 σ G H e r e' Q
def ttOf (K : PySem.W.Frag) (f : Ft) : TT := fun σ H Q => ∃ m E G0 G e b e', Rl K m E G0 G e σ H ∧ f e = some (b, e') ∧ ∀ G' H', Rl K m E G0 G' e' σ H' → Stp σ G H e G' H' e' → Q b H'
theorem ED.can {X : Cx} {x : Expr} {f : Fe} (h : ED X x f) : PE X x (teOf X.K f) := by
  obtain ⟨t, p, k⟩ := h
  refine ⟨fun pins s σ H Q I q => p.run pins s σ H Q I ?_⟩
  obtain ⟨m, E, G0, G, e, r, e', R, q, P⟩ := q
  exact k m E G0 G e σ H r e' Q R q P
theorem TD.can {X : Cx} {x : Expr} {f : Ft} (h : TD X x f) : PT X x (ttOf X.K f) := by
  obtain ⟨t, p, k⟩ := h
  refine ⟨fun pins s σ H Q I q => p.run pins s σ H Q I ?_⟩
  obtain ⟨m, E, G0, G, e, b, e', R, q, P⟩ := q
  exact k m E G0 G e σ H b e' Q R q P
section
variable {K : PySem.W.Frag} {m : Option Addr} {E : Ef} {G0 G H : Hp} {e : Ev} {σ : St} {v : V} {d : PyData}
theorem set_get {α : Type} {l : List α} {i j : Nat} {a : α} : (l.set i a)[j]? = if i = j ∧ j < l.length then some a else l[j]? := by
  rw [List.getElem?_set]
  by_cases h : i = j
  · subst h
    by_cases k : i < l.length
    · simp [k]
    · simp [k]
  · simp [h]
theorem ow_set {i j : Nat} {s : Option Sl} {t : Ow} (hs : ∀ t, s ≠ some (.ow t)) (h : (e.set i s)[j]? = some (some (.ow t))) : e[j]? = some (some (.ow t)) := by
  rw [set_get] at h
  by_cases z : i = j ∧ j < e.length
  · rw [if_pos z] at h
    exact absurd (Option.some.inj h) (hs t)
  · rw [if_neg z] at h
    exact h
theorem own0_set {i : Nat} {s : Option Sl} {a : Addr} (ha : ∀ ds, s = some (.ac ds) → ∃ d0, e[i]? = some (some (.ac d0))) (h : Own0 σ (e.set i s) a) : Own0 σ e a := by
  obtain ⟨j, ds, h1, h2⟩ := h
  rw [set_get] at h1
  by_cases z : i = j ∧ j < e.length
  · rw [if_pos z] at h1
    obtain ⟨d0, h3⟩ := ha ds (Option.some.inj h1)
    exact ⟨j, d0, by rw [← z.1]; exact h3, h2⟩
  · rw [if_neg z] at h1
    exact ⟨j, ds, h1, h2⟩
theorem Rl.notW (R : Rl K m E G0 G e σ H) {i : Nat} {ds : List PyData} {p : Addr} (h : e[i]? = some (some (.ac ds))) (hp : σ[i]? = some (some (.ref p))) : ¬ OwnW σ e H p := fun w => (R.wl.out p w).2.2.1 ⟨i, ds, h, hp⟩
/-- a slot turned, the names as they are -/
theorem Wl.put {G' H' : Hp} (R : Rl K m E G0 G e σ H) (i : Nat) {s : Option Sl} (hs : ∀ t, s ≠ some (.ow t)) (ha : ∀ ds, s = some (.ac ds) → ∃ d0, e[i]? = some (some (.ac d0))) (s1 : Same G G') (n : ∀ a, OwnW σ e H a → G a = none → G' a = none) (hh : ∀ a o, H a = some o → OwnW σ e H a → H' a = some o) :
    Wl K m E G' (e.set i s) σ H' ∧ ∀ a, OwnW σ (e.set i s) H' a → OwnW σ e H a :=
  R.wl.keep s1 n (fun _ _ h => ⟨ow_set hs h, rfl⟩) (fun a h w => (R.wl.out a w).2.2.1 (own0_set ha h)) hh
theorem Wl.set (R : Rl K m E G0 G e σ H) (i : Nat) {s : Option Sl} (hs : ∀ t, s ≠ some (.ow t)) (ha : ∀ ds p, s = some (.ac ds) → v = .ref p → OwnW σ e H p → False) : Wl K m E G (e.set i s) (σ.set i (some v)) H := by
  have hl := R.len
  refine (R.wl.keep (Same.refl G) (fun _ _ z => z) (fun j t h => ?_) (fun a h w => ?_) (fun _ _ z _ => z)).1
  · rw [set_get] at h ⊢
    by_cases z : i = j ∧ j < e.length
    · rw [if_pos z] at h
      exact absurd (Option.some.inj h) (hs t)
    · rw [if_neg z] at h
      rw [if_neg (by omega)]
      exact ⟨h, rfl⟩
  · obtain ⟨j, ds, h1, h2⟩ := h
    rw [set_get] at h1 h2
    by_cases z : i = j ∧ j < e.length
    · rw [if_pos z] at h1
      rw [if_pos ⟨z.1, by omega⟩] at h2
      exact ha ds a (Option.some.inj h1) (Option.some.inj (Option.some.inj h2)) w
    · rw [if_neg z] at h1
      rw [if_neg (by omega)] at h2
      exact (R.wl.out a w).2.2.1 ⟨j, ds, h1, h2⟩
theorem Rl.setI (R : Rl K m E G0 G e σ H) (i : Nat) (h : Dp K G v d) : Rl K m E G0 G (e.set i (some (.im d))) (σ.set i (some v)) H := by
  have hl := R.len
  refine ⟨R.gg, R.gh, R.eh, R.mh, R.nw, by rw [List.length_set, List.length_set]; exact hl, fun j d' q => ?_, fun j ds q => ?_, fun j k dj dk p q1 q2 q3 q4 => ?_, fun j dss q => ?_, Wl.set R i (fun _ z => by cases z) (fun _ _ z => by cases z)⟩
  · rw [set_get] at q ⊢
    by_cases z : i = j ∧ j < e.length
    · rw [if_pos z] at q
      cases q
      rw [if_pos ⟨z.1, by omega⟩]
      exact ⟨v, rfl, h⟩
    · rw [if_neg z] at q
      rw [if_neg (by omega)]
      exact R.im j d' q
  · rw [set_get] at q ⊢
    by_cases z : i = j ∧ j < e.length
    · rw [if_pos z] at q
      cases q
    · rw [if_neg z] at q
      rw [if_neg (by omega)]
      exact R.ac j ds q
  · rw [set_get] at q1 q2 q3 q4
    by_cases z1 : i = j ∧ j < e.length
    · rw [if_pos z1] at q1
      cases q1
    · by_cases z2 : i = k ∧ k < e.length
      · rw [if_pos z2] at q2
        cases q2
      · rw [if_neg z1] at q1
        rw [if_neg z2] at q2
        rw [if_neg (by omega)] at q3
        rw [if_neg (by omega)] at q4
        exact R.inj j k dj dk p q1 q2 q3 q4
  · rw [set_get] at q ⊢
    by_cases z : i = j ∧ j < e.length
    · rw [if_pos z] at q
      cases q
      exact True.intro
    · rw [if_neg z] at q
      rw [if_neg (by omega)]
      exact R.ot j dss q
theorem Rl.setA {ds : List PyData} (R : Rl K m E G0 G e σ H) (i : Nat) (h : Vr K E G H σ e v (.ac ds)) : Rl K m E G0 G (e.set i (some (.ac ds))) (σ.set i (some v)) H := by
  have hl := R.len
  obtain ⟨p0, ws0, rfl, h1, h2, h3, h4, h5⟩ := h
  refine ⟨R.gg, R.gh, R.eh, R.mh, R.nw, by rw [List.length_set, List.length_set]; exact hl, fun j d' q => ?_, fun j ds q => ?_, fun j k dj dk p q1 q2 q3 q4 => ?_, fun j dss q => ?_, Wl.set R i (fun _ z => by cases z) (fun _ p _ y w => by
    cases y
    exact h5 (.inr w))⟩
  · rw [set_get] at q ⊢
    by_cases z : i = j ∧ j < e.length
    · rw [if_pos z] at q
      cases q
    · rw [if_neg z] at q
      rw [if_neg (by omega)]
      exact R.im j d' q
  · rw [set_get] at q ⊢
    by_cases z : i = j ∧ j < e.length
    · rw [if_pos z] at q
      cases q
      rw [if_pos ⟨z.1, by omega⟩]
      exact ⟨p0, ws0, rfl, h2, h3, h4, .inl h1⟩
    · rw [if_neg z] at q
      rw [if_neg (by omega)]
      exact R.ac j ds q
  · rw [set_get] at q1 q2 q3 q4
    by_cases z1 : i = j ∧ j < e.length
    · rw [if_pos ⟨z1.1, by omega⟩] at q3
      cases q3
      by_cases z2 : i = k ∧ k < e.length
      · omega
      · rw [if_neg z2] at q2
        rw [if_neg (by omega)] at q4
        exact absurd (.inl ⟨k, dk, q2, q4⟩) h5
    · by_cases z2 : i = k ∧ k < e.length
      · rw [if_pos ⟨z2.1, by omega⟩] at q4
        cases q4
        rw [if_neg z1] at q1
        rw [if_neg (by omega)] at q3
        exact absurd (.inl ⟨j, dj, q1, q3⟩) h5
      · rw [if_neg z1] at q1
        rw [if_neg z2] at q2
        rw [if_neg (by omega)] at q3
        rw [if_neg (by omega)] at q4
        exact R.inj j k dj dk p q1 q2 q3 q4
  · rw [set_get] at q ⊢
    by_cases z : i = j ∧ j < e.length
    · rw [if_pos z] at q
      cases q
      exact True.intro
    · rw [if_neg z] at q
      rw [if_neg (by omega)]
      exact R.ot j dss q
/-- slots forgotten -/
theorem Rl.forget {e' : Ev} {σ' : St} (R : Rl K m E G0 G e σ H) (hl : e'.length = e.length) (hs : σ'.length = σ.length) (h : ∀ (i : Nat) (s : Sl), e'[i]? = some (some s) → e[i]? = some (some s) ∧ σ'[i]? = σ[i]?) : Rl K m E G0 G e' σ' H := by
  refine ⟨R.gg, R.gh, R.eh, R.mh, R.nw, by rw [hl, hs]; exact R.len, fun i d q => ?_, fun i ds q => ?_, fun i j di dj p q1 q2 q3 q4 => ?_, fun i dss q => ?_, (R.wl.keep (Same.refl G) (fun _ _ z => z) (fun i t q => h i _ q) (fun a ⟨i, ds, q1, q2⟩ w => (R.wl.out a w).2.2.1 ⟨i, ds, (h i _ q1).1, by rw [← (h i _ q1).2]; exact q2⟩) (fun _ _ z _ => z)).1⟩
  · obtain ⟨h1, h2⟩ := h i _ q
    rw [h2]
    exact R.im i d h1
  · obtain ⟨h1, h2⟩ := h i _ q
    rw [h2]
    exact R.ac i ds h1
  · obtain ⟨h1, h2⟩ := h i _ q1
    obtain ⟨h3, h4⟩ := h j _ q2
    rw [h2] at q3
    rw [h4] at q4
    exact R.inj i j di dj p h1 h3 q3 q4
  · obtain ⟨h1, h2⟩ := h i _ q
    rw [h2]
    exact R.ot i dss h1
end
structure GD (X : Cx) (tg : Expr) (S : List Nat) (γ : PyData → Ev → Option Ev) : Prop where
  ex : ∃ g, PG X tg g ∧ ∀ (m : Option Addr) (E : Ef) (G0 G : Hp) (e : Ev) (σ : St) (H : Hp) (v : V) (d : PyData) (e' : Ev) (Q : St → Hp → Prop),
    Rl X.K m E G0 G e σ H → Dp X.K G v d → γ d e = some e' → (∀ σ', Rl X.K m E G0 G e' σ' H → (∀ i : Nat, i ∉ S → σ'[i]? = σ[i]? ∧ e'[i]? = e[i]?) → σ'.length = σ.length → e'.length = e.length → (∀ i ∈ S, isAo e'[i]? = true → isAc e[i]? = true) → Q σ' H) → g v σ H Q
def tgOf (K : PySem.W.Frag) (S : List Nat) (γ : PyData → Ev → Option Ev) : TG := fun v σ H Q => ∃ m E G0 G e d e', Rl K m E G0 G e σ H ∧ Dp K G v d ∧ γ d e = some e' ∧
  ∀ σ', Rl K m E G0 G e' σ' H → (∀ i : Nat, i ∉ S → σ'[i]? = σ[i]? ∧ e'[i]? = e[i]?) → σ'.length = σ.length → e'.length = e.length → (∀ i ∈ S, isAo e'[i]? = true → isAc e[i]? = true) → Q σ' H
theorem GD.can {X : Cx} {tg : Expr} {S : List Nat} {γ : PyData → Ev → Option Ev} (h : GD X tg S γ) : PG X tg (tgOf X.K S γ) := by
  obtain ⟨g, p, k⟩ := h
  refine ⟨fun pins s σ H v u Q I r q => p.run pins s σ H v u Q I r ?_⟩
  obtain ⟨m, E, G0, G, e, d, e', R, D, q, P⟩ := q
  exact k m E G0 G e σ H v d e' Q R D q P
def g_name (i : Nat) : PyData → Ev → Option Ev := fun d e => some (e.set i (some (.im d)))
def setAll : List Nat → List PyData → Ev → Option Ev
  | [], [], e => some e
  | i :: is, d :: ds, e => setAll is ds (e.set i (some (.im d)))
  | _, _, _ => none
def g_tup (S : List Nat) : PyData → Ev → Option Ev := fun d e => match d with
  | .tuple ds => setAll S ds e
  | _ => none
theorem isAc_set {e : Ev} {i j : Nat} {d : PyData} (h : isAc (e.set i (some (.im d)))[j]? = true) : isAc e[j]? = true := by
  rw [set_get] at h
  by_cases z : i = j ∧ j < e.length
  · rw [if_pos z] at h
    cases h
  · rw [if_neg z] at h
    exact h
theorem isAo_self {e : Ev} {i : Nat} {d : PyData} (h : isAo (e.set i (some (.im d)))[i]? = true) : False := by
  rw [set_get] at h
  by_cases z : i = i ∧ i < e.length
  · rw [if_pos z] at h
    cases h
  · rw [if_neg z, List.getElem?_eq_none (by omega)] at h
    cases h
/-- names in order -/
structure GsD (X : Cx) (tgs : List Expr) (S : List Nat) : Prop where
  ex : ∃ g : TGs, PGs X tgs g ∧ ∀ (m : Option Addr) (E : Ef) (G0 G : Hp) (e : Ev) (σ : St) (H : Hp) (vs : List V) (ds : List PyData) (e' : Ev) (Q : St → Hp → Prop),
    Rl X.K m E G0 G e σ H → DpAll X.K G vs ds → setAll S ds e = some e' → (∀ σ', Rl X.K m E G0 G e' σ' H → (∀ i : Nat, i ∉ S → σ'[i]? = σ[i]? ∧ e'[i]? = e[i]?) → σ'.length = σ.length → e'.length = e.length → (∀ i ∈ S, isAo e'[i]? = true → isAc e[i]? = true) → Q σ' H) → g vs σ H Q
section
variable {X : Cx} {pos : Pos}
theorem gd_name {i : Nat} {x : Str} (hN : X.N.Nodup) (hi : X.N[i]? = some x) (hx : Loc X.env.scope x) (hf : X.fn x = true ∨ X.env.scope.names.lookup x = some .local := by first | exact .inl rfl | exact .inr rfl | assumption) : GD X (.Name x pos) [i] (g_name i) := by
  refine ⟨_, pg_name hN hi hx hf, fun m E G0 G e σ H v d e' Q R D q P => ?_⟩
  cases q
  refine P _ (R.setI i D) (fun j hj => ?_) (List.length_set ..) (List.length_set ..) fun j hj h => (isAo_self (by rw [List.mem_singleton.mp hj] at h; exact h)).elim
  have z : i ≠ j := fun z => hj (by rw [z]; exact List.mem_singleton.mpr rfl)
  exact ⟨List.getElem?_set_ne z, List.getElem?_set_ne z⟩
theorem gsd_nil : GsD X [] [] := by
  refine ⟨_, pgs_nil, fun m E G0 G e σ H vs ds e' Q R D q P => ?_⟩
  cases D with
  | nil =>
    cases q
    exact ⟨rfl, P σ R (fun _ _ => ⟨rfl, rfl⟩) rfl rfl fun _ h => by cases h⟩
  | cons _ _ => cases q
theorem gsd_cons {i : Nat} {x : Str} {tgs : List Expr} {S : List Nat} (hN : X.N.Nodup) (hi : X.N[i]? = some x) (hx : Loc X.env.scope x) (hr : GsD X tgs S) (hf : X.fn x = true ∨ X.env.scope.names.lookup x = some .local := by first | exact .inl rfl | exact .inr rfl | assumption)
    (hs : (assignEach (.Name x pos :: tgs) X.env).map (·.2) = assign (.Name x pos) X.env :: (assignEach tgs X.env).map (·.2) := by rfl) : GsD X (.Name x pos :: tgs) (i :: S) := by
  obtain ⟨g, p, k⟩ := hr
  refine ⟨_, pgs_cons (pg_name hN hi hx hf) p hs, fun m E G0 G e σ H vs ds e' Q R D q P => ?_⟩
  cases D with
  | nil => cases q
  | cons h t =>
    refine ⟨_, _, rfl, ?_⟩
    refine k m E G0 G _ _ H _ _ e' Q (R.setI i h) t q fun σ' R' a1 a2 a3 a4 => ?_
    refine P σ' R' (fun j hj => ?_) (a2.trans (List.length_set ..)) (a3.trans (List.length_set ..)) fun j hj h2 => ?_
    · have z : i ≠ j := fun z => hj (by rw [z]; exact List.mem_cons_self)
      obtain ⟨b1, b2⟩ := a1 j fun y => hj (List.mem_cons_of_mem _ y)
      exact ⟨b1.trans (List.getElem?_set_ne z), b2.trans (List.getElem?_set_ne z)⟩
    · by_cases y : j ∈ S
      · exact isAc_set (a4 j y h2)
      · have b2 := (a1 j y).2
        rw [b2] at h2
        have ej : j = i := by
          rcases List.mem_cons.mp hj with z | z
          · exact z
          · exact absurd z y
        subst ej
        exact (isAo_self h2).elim
theorem gd_tup {tgs : List Expr} {n : Nat} {S : List Nat} (hc : X.calm = true) (h : GsD X tgs S) (hn : (assignEach tgs X.env).length = S.length := by rfl) (hst : (assignEach tgs X.env).findIdx? (·.1) = none := by rfl) : GD X (.Tuple tgs n pos) S (g_tup S) := by
  obtain ⟨g, p, k⟩ := h
  refine ⟨_, pg_tup (n := S.length) hc p hn hst, fun m E G0 G e σ H v d e' Q R D q P => ?_⟩
  unfold g_tup at q
  split at q
  · rename_i ds
    cases D with
    | tup hT hA =>
      have hl : ∀ {S : List Nat} {ds : List PyData} {e e' : Ev}, setAll S ds e = some e' → S.length = ds.length := by
        intro S
        induction S with
        | nil =>
          intro ds e e' h
          cases ds with
          | nil => rfl
          | cons _ _ => cases h
        | cons i S ih =>
          intro ds e e' h
          cases ds with
          | nil => cases h
          | cons d ds => exact congrArg (· + 1) (ih h)
      exact ⟨_, _, rfl, seqT R.gh hT, by rw [dpAll_len hA, hl q], k m E G0 G e σ H _ _ e' Q R hA q P⟩
  · cases q
end
def Yd (K : PySem.W.Frag) (G H : Hp) (x : V) (H2 : Hp) (d : PyData) : Prop :=
  (H2 = H ∧ Dp K G x d) ∨ ∃ T ws es, x = .ref T ∧ H T = none ∧ H2 = upd H T (.tup ws) ∧ d = .tuple es ∧ DpAll K G ws es
def WalkD (K : PySem.W.Frag) (G0 : Hp) (J : It) (ds : List PyData) : Prop :=
  ∀ G H, Same G0 G → Same G H → (∀ i d, ds[i]? = some d → J.go i H ∧ ∀ x H2, J.yld i H x H2 → Yd K G H x H2 d) ∧ J.stop ds.length H
abbrev Fi := Ev → Option (List PyData × Ev)
structure ID (X : Cx) (tg it : Expr) (f : Fi) : Prop where
  ex : ∃ wi, PI X tg it wi ∧ ∀ (m : Option Addr) (E : Ef) (G0 G : Hp) (e : Ev) (σ : St) (H : Hp) (ds : List PyData) (e' : Ev) (Q : It → Hp → Prop),
    Rl X.K m E G0 G e σ H → f e = some (ds, e') → (∀ J G' H', Rl X.K m E G0 G' e' σ H' → Stp σ G H e G' H' e' → WalkD X.K G' J ds → Q J H') → wi σ H Q
theorem pi_or {X : Cx} {tg it : Expr} {w1 w2 : TI} (h1 : PI X tg it w1) (h2 : PI X tg it w2) : PI X tg it (fun σ H R => w1 σ H R ∨ w2 σ H R) :=
  ⟨fun pins s σ H R I h => h.elim (h1.run pins s σ H R I) (h2.run pins s σ H R I)⟩
section
variable {K : PySem.W.Frag} {G0 : Hp} {a b : Addr} {xs ys : List V} {ds es : List PyData}
theorem walk_list (h : SqL K G0 a xs) (q : DpAll K G0 xs ds) : WalkD K G0 (Itl K a) ds := by
  intro G H s1 s2
  have hq : SqL K H a xs := (s1.trans s2).seq h
  refine ⟨fun i d e => ?_, xs, hq, by rw [dpAll_len q]; exact Nat.le_refl _⟩
  obtain ⟨v, e1, e2⟩ := dpAll_get q e
  refine ⟨⟨xs, v, hq, e1⟩, fun x H2 y => .inl ⟨y.1, ?_⟩⟩
  have z := y.2 xs hq
  rw [e1] at z
  cases z
  exact dp_same s1 e2
theorem walk_tup (h : SqT K G0 a xs) (q : DpAll K G0 xs ds) : WalkD K G0 (Itt K a) ds := by
  intro G H s1 s2
  have hq : SqT K H a xs := seqT (s1.trans s2) h
  refine ⟨fun i d e => ?_, xs, hq, by rw [dpAll_len q]; exact Nat.le_refl _⟩
  obtain ⟨v, e1, e2⟩ := dpAll_get q e
  refine ⟨⟨xs, v, hq, e1⟩, fun x H2 y => .inl ⟨y.1, ?_⟩⟩
  have z := y.2 xs hq
  rw [e1] at z
  cases z
  exact dp_same s1 e2
def rngD (lo : Int) (n : Nat) (c : Int) : List PyData := (List.range n).map fun (i : Nat) => PyData.int (lo + (i : Int) * c)
theorem rng_at {lo : Int} {n : Nat} {c : Int} {i : Nat} {d : PyData} (e : (rngD lo n c)[i]? = some d) : i < n ∧ d = .int (lo + (i : Int) * c) := by
  unfold rngD at e
  rw [List.getElem?_map] at e
  cases z : (List.range n)[i]? with
  | none => rw [z] at e; cases e
  | some j =>
    rw [z] at e
    obtain ⟨h1, h2⟩ := List.getElem?_eq_some_iff.mp z
    rw [List.length_range] at h1
    rw [List.getElem_range] at h2
    subst h2
    cases e
    exact ⟨h1, rfl⟩
theorem walk_rng {lo : Int} {n : Nat} : WalkD K G0 (Itr lo n) (rngD lo n 1) := by
  intro G H s1 s2
  refine ⟨fun i d e => ?_, by unfold rngD; rw [List.length_map, List.length_range]; exact Nat.le_refl n⟩
  obtain ⟨h1, rfl⟩ := rng_at e
  refine ⟨h1, fun x H2 y => .inl ⟨y.1, ?_⟩⟩
  rw [y.2, Int.mul_one]
  exact .int _
end
/-- a list or a tuple that stays -/
def i_seq (f : Fe) : Fi := fun e => match f e with
  | some (r, e1) => (match frzR r with
    | .im (.list ds) => some (ds, e1)
    | .im (.tuple ds) => some (ds, e1)
    | _ => none)
  | none => none
theorem i_seq_ok {f : Fe} {e e' : Ev} {ds : List PyData} (q : i_seq f e = some (ds, e')) : ∃ r, f e = some (r, e') ∧ (frzR r = .im (.list ds) ∨ frzR r = .im (.tuple ds)) := by
  unfold i_seq at q
  split at q
  · rename_i r e1 h
    split at q
    · rename_i es h2
      cases q
      exact ⟨r, h, .inl h2⟩
    · rename_i es h2
      cases q
      exact ⟨r, h, .inr h2⟩
    · cases q
  · cases q
section
variable {X : Cx} {tg a b c : Expr} {fa fb fc : Fe} {pos p : Pos}
theorem id_seq (ha : ED X a fa) : ID X tg a (i_seq fa) := by
  obtain ⟨t, pa, k⟩ := ha
  refine ⟨_, pi_or (pi_list pa) (pi_tup pa), fun m E G0 G e σ H ds e' Q R q P => ?_⟩
  obtain ⟨r, q1, q2⟩ := i_seq_ok q
  rcases q2 with q2 | q2
  · refine .inl (k m E G0 G e σ H r e' _ R q1 fun v G1 H1 R1 S1 V1 N1 => ?_)
    obtain ⟨G1', R1', S1', s1, V1'⟩ := R1.freeze S1 V1 N1
    rw [q2] at V1'
    have V2 : Dp X.K G1' v (.list ds) := V1'
    cases V2 with
    | lst h z => exact ⟨_, rfl, ⟨_, R1'.gh.seq h⟩, P _ _ _ R1' S1' (walk_list h z)⟩
  · refine .inr (k m E G0 G e σ H r e' _ R q1 fun v G1 H1 R1 S1 V1 N1 => ?_)
    obtain ⟨G1', R1', S1', s1, V1'⟩ := R1.freeze S1 V1 N1
    rw [q2] at V1'
    have V2 : Dp X.K G1' v (.tuple ds) := V1'
    cases V2 with
    | tup h z => exact ⟨_, rfl, ⟨_, seqT R1'.gh h⟩, P _ _ _ R1' S1' (walk_tup h z)⟩
/-- range -/
def rgC (i : Int) : Bool := decide (-4611686018427387904 ≤ i ∧ i < 4611686018427387904)
theorem rgC_ok {i : Int} (h : rgC i = true) : -(2 ^ 62) ≤ i ∧ i < 2 ^ 62 := by
  have h := of_decide_eq_true h
  have e : (2 : Int) ^ 62 = 4611686018427387904 := by decide
  rw [e]
  exact h
def i_rng1 (fa : Fe) : Fi := fun e => match fa e with
  | some (.im (.int j), e1) => if rgC j = true then some (rngD 0 j.toNat 1, e1) else none
  | _ => none
def i_rng2 (fa fb : Fe) : Fi := fun e => match fa e with
  | some (.im (.int i), e1) => (match fb e1 with
    | some (.im (.int j), e2) => if (rgC i && rgC j) = true then some (rngD i (j - i).toNat 1, e2) else none
    | _ => none)
  | _ => none
theorem rng1_read {t : TE} (k : ∀ (m : Option Addr) (E : Ef) (G0 G : Hp) (e : Ev) (σ : St) (H : Hp) (r : Rs) (e' : Ev) (Q : VK), Rl X.K m E G0 G e σ H → fa e = some (r, e') → Po X.K m E G0 σ G H e r e' Q → t σ H Q)
    (m : Option Addr) (E : Ef) (G0 G : Hp) (e : Ev) (σ : St) (H : Hp) (ds : List PyData) (e' : Ev) (Q : It → Hp → Prop) (R : Rl X.K m E G0 G e σ H) (q : i_rng1 fa e = some (ds, e')) (P : ∀ J G' H', Rl X.K m E G0 G' e' σ H' → Stp σ G H e G' H' e' → WalkD X.K G' J ds → Q J H') : iRng1 (tCons t tNil) σ H Q := by
  unfold i_rng1 at q
  split at q
  · rename_i j e1 h1
    by_cases z : rgC j = true
    · rw [if_pos z] at q
      simp only [Option.some.injEq, Prod.mk.injEq] at q
      obtain ⟨rfl, rfl⟩ := q
      refine k m E G0 G e σ H _ e1 _ R h1 fun v G1 H1 R1 S1 V1 _ => ?_
      cases V1
      obtain ⟨z1, z2⟩ := rgC_ok z
      exact ⟨j, rfl, z1, z2, P _ _ _ R1 S1 walk_rng⟩
    · rw [if_neg z] at q
      cases q
  · cases q
theorem id_rng1 (ha : ED X a fa) (hm : X.mg "range" = none) (hg : Gl X "range" := by rfl) (hs : starEach [a] X.env = [(false, eval a X.env)] := by rfl) : ID X tg (.Call (.Name "range" p) [a] [] pos) (i_rng1 fa) := by
  obtain ⟨t, pa, k⟩ := ha
  exact ⟨_, pi_range1 hg hm (pa_cons pa pa_nil hs) hs, rng1_read k⟩
theorem id_rng2 (ha : ED X a fa) (hb : ED X b fb) (hm : X.mg "range" = none) (hg : Gl X "range" := by rfl) (hs : starEach [a, b] X.env = [(false, eval a X.env), (false, eval b X.env)] := by rfl) (hs2 : starEach [b] X.env = [(false, eval b X.env)] := by rfl) : ID X tg (.Call (.Name "range" p) [a, b] [] pos) (i_rng2 fa fb) := by
  obtain ⟨t, pa, k⟩ := ha
  obtain ⟨t2, pb, k2⟩ := hb
  refine ⟨_, pi_range2 hg hm (pa_cons pa (pa_cons pb pa_nil hs2) (by rw [hs, hs2])) hs hs2, fun m E G0 G e σ H ds e' Q R q P => ?_⟩
  unfold i_rng2 at q
  split at q
  · rename_i i e1 h1
    split at q
    · rename_i j e2 h2
      by_cases z : (rgC i && rgC j) = true
      · rw [if_pos z] at q
        simp only [Option.some.injEq, Prod.mk.injEq] at q
        obtain ⟨rfl, rfl⟩ := q
        refine k m E G0 G e σ H _ e1 _ R h1 fun v G1 H1 R1 S1 V1 _ => ?_
        refine k2 m E G0 G1 e1 σ H1 _ e2 _ R1 h2 fun v2 G2 H2 R2 S2 V2 _ => ?_
        cases V1
        cases V2
        obtain ⟨z1, z2⟩ := Bool.and_eq_true_iff.mp z
        have z1 := rgC_ok z1
        have z2 := rgC_ok z2
        exact ⟨i, j, rfl, ⟨z1.1, z1.2, z2.1, z2.2⟩, P _ _ _ R2 (S1.trans S2) walk_rng⟩
      · rw [if_neg z] at q
        cases q
    · cases q
  · cases q
end
end DL
namespace DL
open PySem PySem.Spec PyProof.Rows L2
def wipeE (e : Ev) : List Nat → Ev
  | [] => e
  | v :: vs => (wipeE e vs).set v none
def restE (e e' : Ev) : List Nat → Ev
  | [] => e'
  | v :: vs => (restE e e' vs).set v (match e[v]? with
    | some s => s
    | none => none)
def noAc (e : Ev) (vs : List Nat) : Bool := vs.all fun i => !isAo e[i]?
def lcGo (γ : PyData → Ev → Option Ev) (tst : Ft) (fe : Fe) (vs : List Nat) : List PyData → Ev → List PyData → Option (List PyData × Ev)
  | [], e, acc => some (acc, e)
  | d :: ds, e, acc => match γ d e with
    | some e1 => (match tst e1 with
      | some (true, e2) => (match fe e2 with
        | some (r, e3) => (match imR (frzR r) with
          | some y => if okLen (acc.length + 1) = true then lcGo γ tst fe vs ds (wipeE e3 vs) (acc ++ [y]) else none
          | none => none)
        | none => none)
      | some (false, e2) => lcGo γ tst fe vs ds (wipeE e2 vs) acc
      | none => none)
    | none => none
def x_lc (fi : Fi) (γ : PyData → Ev → Option Ev) (tst : Ft) (fe : Fe) (vs : List Nat) : Fe := fun e => match fi e with
  | some (ds, e1) => if noAc e1 vs = true then (match lcGo γ tst fe vs ds (wipeE e1 vs) [] with
    | some (acc, e2) => some (.ac acc, restE e1 e2 vs)
    | none => none) else none
  | none => none
section
variable {e e' : Ev} {vs : List Nat} {σ σ' : St} {i : Nat}
theorem wipeE_len : ∀ vs : List Nat, (wipeE e vs).length = e.length
  | [] => rfl
  | v :: vs => (List.length_set ..).trans (wipeE_len vs)
theorem wipeE_out : ∀ {vs : List Nat}, i ∉ vs → (wipeE e vs)[i]? = e[i]?
  | [], _ => rfl
  | v :: vs, h => by
    have h1 : v ≠ i := fun z => h (by rw [z]; exact List.mem_cons_self)
    unfold wipeE
    rw [List.getElem?_set_ne h1]
    exact wipeE_out fun z => h (List.mem_cons_of_mem _ z)
theorem wipeE_in : ∀ {vs : List Nat} {s : Sl}, (wipeE e vs)[i]? = some (some s) → i ∉ vs
  | [], _, _ => by simp
  | v :: vs, s, h => by
    unfold wipeE at h
    rw [set_get] at h
    by_cases z : v = i ∧ i < (wipeE e vs).length
    · rw [if_pos z] at h
      cases h
    · rw [if_neg z] at h
      have hl := (List.getElem?_eq_some_iff.mp h).1
      intro q
      rcases List.mem_cons.mp q with q | q
      · exact z ⟨q.symm, hl⟩
      · exact wipeE_in h q
theorem wipe_in : ∀ {vs : List Nat}, i ∈ vs → (wipe σ vs)[i]? = if i < σ.length then some none else none
  | [], h => by cases h
  | v :: vs, h => by
    unfold wipe
    rw [set_get, wipe_length]
    by_cases z : v = i ∧ i < σ.length
    · rw [if_pos z, if_pos z.2]
    · rw [if_neg z]
      by_cases y : i ∈ vs
      · exact wipe_in y
      · have e1 : i = v := by
          rcases List.mem_cons.mp h with q | q
          · exact q
          · exact absurd q y
        have hl : ¬ i < σ.length := fun q => z ⟨e1.symm, q⟩
        rw [if_neg hl, wipe_out y]
        exact List.getElem?_eq_none (by omega)
theorem wipe_same (h : ∀ i : Nat, i ∉ vs → σ'[i]? = σ[i]?) (hl : σ'.length = σ.length) : wipe σ' vs = wipe σ vs := by
  apply List.ext_getElem?
  intro i
  by_cases z : i ∈ vs
  · rw [wipe_in z, wipe_in z, hl]
  · rw [wipe_out z, wipe_out z]
    exact h i z
theorem wipe_wipe : wipe (wipe σ vs) vs = wipe σ vs := wipe_same (fun i z => wipe_out z) (wipe_length _ _)
theorem restE_len : ∀ vs : List Nat, (restE e e' vs).length = e'.length
  | [] => rfl
  | v :: vs => (List.length_set ..).trans (restE_len vs)
theorem restE_out : ∀ {vs : List Nat}, i ∉ vs → (restE e e' vs)[i]? = e'[i]?
  | [], _ => rfl
  | v :: vs, h => by
    have h1 : v ≠ i := fun z => h (by rw [z]; exact List.mem_cons_self)
    unfold restE
    rw [List.getElem?_set_ne h1]
    exact restE_out fun z => h (List.mem_cons_of_mem _ z)
theorem restE_in (hl : e'.length = e.length) : ∀ {vs : List Nat}, i ∈ vs → (restE e e' vs)[i]? = e[i]?
  | [], h => by cases h
  | v :: vs, h => by
    unfold restE
    rw [set_get, restE_len]
    by_cases z : v = i ∧ i < e'.length
    · rw [if_pos z]
      have h2 : i < e.length := by omega
      rw [z.1, List.getElem?_eq_getElem h2]
    · rw [if_neg z]
      by_cases y : i ∈ vs
      · exact restE_in hl y
      · have e1 : i = v := by
          rcases List.mem_cons.mp h with q | q
          · exact q
          · exact absurd q y
        have h2 : ¬ i < e'.length := fun q => z ⟨e1.symm, q⟩
        rw [restE_out y, List.getElem?_eq_none (by omega), List.getElem?_eq_none (by omega)]
theorem noAo_at (h : noAc e vs = true) (hi : i ∈ vs) : isAo e[i]? = false := by
  have q := List.all_eq_true.mp h i hi
  simpa using q
theorem noAc_at (h : noAc e vs = true) (hi : i ∈ vs) : isAc e[i]? = false := (Bool.or_eq_false_iff.mp (noAo_at h hi)).1
theorem noOw_at (h : noAc e vs = true) (hi : i ∈ vs) {t : Ow} (q : e[i]? = some (some (.ow t))) : False := by
  have z := (Bool.or_eq_false_iff.mp (noAo_at h hi)).2
  rw [q] at z
  cases z
end
section
variable {K : PySem.W.Frag} {m : Option Addr} {E : Ef} {G0 G H : Hp} {e : Ev} {σ : St} {vs : List Nat} {D : Addr} {ws : List V}
theorem Rl.wipe (R : Rl K m E G0 G e σ H) (vs : List Nat) : Rl K m E G0 G (wipeE e vs) (L2.wipe σ vs) H :=
  R.forget (wipeE_len _) (wipe_length _ _) fun i s h => by
    have z := wipeE_in h
    rw [wipeE_out z] at h
    exact ⟨h, wipe_out z⟩
theorem own_wipe0 {a : Addr} (h : Own (L2.wipe σ vs) (wipeE e vs) H a) : Own σ e H a := by
  rcases h with ⟨i, ds, h1, h2⟩ | ⟨i, t, p, h1, h2, h3⟩
  · have z := wipeE_in h1
    rw [wipeE_out z] at h1
    rw [wipe_out z] at h2
    exact .inl ⟨i, ds, h1, h2⟩
  · have z := wipeE_in h1
    rw [wipeE_out z] at h1
    rw [wipe_out z] at h2
    exact .inr ⟨i, t, p, h1, h2, h3⟩
theorem ownW_wipe0 {a : Addr} (h : OwnW (L2.wipe σ vs) (wipeE e vs) H a) : OwnW σ e H a := by
  obtain ⟨i, t, p, h1, h2, h3⟩ := h
  have z := wipeE_in h1
  rw [wipeE_out z] at h1
  rw [wipe_out z] at h2
  exact ⟨i, t, p, h1, h2, h3⟩
/-- a list that is nobody's is written -/
theorem ownW_upd {o : HO} {a : Addr} (hO : ¬ OwnW σ e H D) (h : OwnW σ e (upd H D o) a) : OwnW σ e H a := by
  obtain ⟨i, t, p, h1, h2, h3⟩ := h
  have z : p ≠ D := fun z => hO ⟨i, t, p, h1, h2, by rw [owA_of (owA_al h3), z]; exact List.mem_cons_self⟩
  rw [upd_ne z] at h3
  exact ⟨i, t, p, h1, h2, h3⟩
theorem own_upd {o : HO} {a : Addr} (hO : ¬ Own σ e H D) (h : Own σ e (upd H D o) a) : Own σ e H a := by
  rcases h with h | h
  · exact .inl h
  · exact .inr (ownW_upd (fun z => hO (.inr z)) h)
theorem Rl.updD (R : Rl K m E G0 G e σ H) (hG : G D = none) (hE : E D = none) (hO : ¬ Own σ e H D) : Rl K m E G0 G e σ (upd H D (.lst ws)) := by
  refine ⟨R.gg, fun b o q => ?_, fun b o q1 q2 => ?_, fun b q => ⟨(R.mh b q).1, ?_⟩, R.nw, R.len, R.im, fun i ds q => ?_, R.inj, R.ot, (R.wl.keep0 (Same.refl G) (fun _ _ z => z) fun b o q1 q2 => by
    rw [upd_ne (fun z => hO (.inr (by rw [← z]; exact q2)))]
    exact q1).1⟩
  · rw [upd_ne (ne_of_none q hG)]
    exact R.gh b o q
  · rw [upd_ne (ne_of_none q1 hE)]
    exact R.eh b o q1 q2
  · have z : b ≠ D := fun z => (R.mh b q).1 (by rw [z]; exact hE)
    rw [upd_ne z]
    exact (R.mh b q).2
  · obtain ⟨p, ws', h1, h2, h3, h4, h5⟩ := R.ac i ds q
    have z : p ≠ D := fun z => hO (.inl ⟨i, ds, q, by rw [← z]; exact h1⟩)
    exact ⟨p, ws', h1, h2, by rw [upd_ne z]; exact h3, h4, h5⟩
end
section
variable {X : Cx}
/-- the loop -/
theorem lc_ok {m : Option Addr} {E : Ef} {G0 G1 H1 : Hp} {e1 : Ev} {σ : St} {ds : List PyData} {J : It} {S vs : List Nat} {γ : PyData → Ev → Option Ev} {tst : Ft} {fe : Fe} {acc : List PyData} {eF : Ev} {K : PySem.W.Frag} {Q : VK} {D : Addr}
    (R1 : Rl K m E G0 G1 e1 σ H1) (WD : WalkD K G1 J ds) (hS : ∀ i ∈ S, i ∈ vs) (hn : noAc e1 vs = true) (q : lcGo γ tst fe vs ds (wipeE e1 vs) [] = some (acc, eF)) (hD : H1 D = none)
    (P : ∀ G H, Rl K m E G0 G (restE e1 eF vs) σ H → Stp σ G1 H1 e1 G H (restE e1 eF vs) → Vr K E G H σ (restE e1 eF vs) (.ref D) (.ac acc) → Q (.ref D) H) :
    ∃ W : Nat → Nat → Hp → Prop, (∃ mm, W 0 mm (upd H1 D (.lst []))) ∧ ∀ i mm H, W i mm H →
      (J.stop i H ∧ Q (.ref D) H) ∨ (J.go i H ∧ ∃ Nx : Hp → Prop, (∀ H', Nx H' → ∃ m', m' < mm ∧ W (i + 1) m' H') ∧ ∀ x H', J.yld i H x H' → tgOf K S γ x (L2.wipe σ vs) H' fun σ2 H2 => L2.wipe σ2 vs = L2.wipe σ vs ∧ ttOf K tst σ2 H2 fun b H3 =>
        if b = true then teOf K fe σ2 H3 fun y H4 => ∃ acc, H4 D = some (.lst acc) ∧ acc.length < sizeLine ∧ Nx (upd H4 D (.lst (acc ++ [y]))) else Nx H3) := by
  obtain ⟨gD, eD, oD, mD⟩ := R1.fresh hD
  let W : Nat → Nat → Hp → Prop := fun i mm H => ∃ G e ac ws, mm = ds.length - i ∧ i ≤ ds.length ∧ Rl K m E G0 G e (L2.wipe σ vs) H ∧ Stp (L2.wipe σ vs) G1 H1 (wipeE e1 vs) G H e ∧ G D = none ∧ ¬ Own (L2.wipe σ vs) e H D ∧ H D = some (.lst ws) ∧ DpAll K G ws ac ∧ lcGo γ tst fe vs (ds.drop i) e ac = some (acc, eF)
  refine ⟨W, ⟨ds.length, G1, wipeE e1 vs, [], [], by simp, Nat.zero_le _, ?_, ?_, gD, fun z => oD (own_upd oD (own_wipe0 z)), upd_same, .nil, by simpa using q⟩, ?_⟩
  · exact ((R1.wipe vs).newL hD .nil).1
  · exact ((R1.wipe vs).newL hD (ds := []) .nil).2.1
  rintro i mm H ⟨G, e, ac, ws, rfl, hi, R, S1, hG, noD, hH, dv, lc⟩
  obtain ⟨wk, stop⟩ := WD G H S1.gg R.gh
  by_cases hlt : i < ds.length
  · have hd : ds.drop i = ds[i] :: ds.drop (i + 1) := by rw [List.drop_eq_getElem_cons hlt]
    have hget : ds[i]? = some ds[i] := List.getElem?_eq_getElem hlt
    rw [hd] at lc
    generalize ds[i] = d at lc hget hd
    obtain ⟨go, yl⟩ := wk i d hget
    refine .inr ⟨go, W (i + 1) (ds.length - (i + 1)), fun H' h => ⟨_, by omega, h⟩, fun x H' y => ?_⟩
    -- what is yielded
    have hY : ∃ G', Rl K m E G0 G' e (L2.wipe σ vs) H' ∧ Stp (L2.wipe σ vs) G H e G' H' e ∧ Dp K G' x d := by
      rcases yl x H' y with ⟨rfl, h⟩ | ⟨T, us, es, rfl, nT, rfl, rfl, h⟩
      · exact ⟨G, R, Stp.refl, h⟩
      · obtain ⟨R', S', D'⟩ := R.newT nT h
        exact ⟨_, R', S', D'⟩
    obtain ⟨G', R', S', dx⟩ := hY
    have gD' : G' D = none := S'.nw D hG (by rw [hH]; simp)
    have hD' : H' D = some (.lst ws) := S'.hh D _ hH noD
    -- the turn's own steps
    simp only [lcGo] at lc
    cases h1 : γ d e with
    | none => simp only [h1] at lc; cases lc
    | some e2 =>
      simp only [h1] at lc
      refine ⟨m, E, G0, G', e, d, e2, R', dx, h1, fun σ' R2 out sl el ac1 => ?_⟩
      have wsame : L2.wipe σ' vs = L2.wipe σ vs := by
        have z := wipe_same (vs := vs) (σ' := σ') (σ := L2.wipe σ vs) (fun i hi => (out i fun z => hi (hS i z)).1) sl
        rw [wipe_wipe] at z
        exact z
      refine ⟨wsame, ?_⟩
      have vsE : ∀ i ∈ vs, isAc e[i]? = false := fun i hi => by
        rw [S1.kd i]
        cases z : (wipeE e1 vs)[i]? with
        | none => rfl
        | some s =>
          cases s with
          | none => rfl
          | some s => exact absurd hi (wipeE_in z)
      have ownW2 : ∀ {K : Hp} a, OwnW σ' e2 K a → OwnW (L2.wipe σ vs) e K a := fun a ⟨j, t, p, z1, z2, z3⟩ => by
        by_cases hj : j ∈ S
        · have q1 := ac1 j hj (by rw [z1]; rfl)
          rw [vsE j (hS j hj)] at q1
          cases q1
        · obtain ⟨o1, o2⟩ := out j hj
          exact ⟨j, t, p, by rw [← o2]; exact z1, by rw [← o1]; exact z2, z3⟩
      have own2 : ∀ {K : Hp} a, Own σ' e2 K a → Own (L2.wipe σ vs) e K a := fun a z => by
        rcases z with ⟨j, dj, z1, z2⟩ | z
        · by_cases hj : j ∈ S
          · have q1 := ac1 j hj (by rw [z1]; rfl)
            rw [vsE j (hS j hj)] at q1
            cases q1
          · obtain ⟨o1, o2⟩ := out j hj
            exact .inl ⟨j, dj, by rw [← o2]; exact z1, by rw [← o1]; exact z2⟩
        · exact .inr (ownW2 a z)
      have noD' : ¬ Own (L2.wipe σ vs) e H' D := S'.not (by rw [hH]; simp) noD
      have noD2 : ¬ Own σ' e2 H' D := fun z => noD' (own2 D z)
      -- closing a turn: from the state behind the element
      have fin : ∀ {G5 H4 : Hp} {e3 : Ev} {ws2 : List V} {ac2 : List PyData}, Rl K m E G0 G5 e3 σ' H4 → Stp σ' G' H' e2 G5 H4 e3 → DpAll K G5 ws2 ac2 → lcGo γ tst fe vs (ds.drop (i + 1)) (wipeE e3 vs) ac2 = some (acc, eF) →
          W (i + 1) (ds.length - (i + 1)) (upd H4 D (.lst ws2)) := by
        intro G5 H4 e3 ws2 ac2 R5 S5 d5 lc5
        have g5 : G5 D = none := S5.nw D gD' (by rw [hD']; simp)
        have o5 : ¬ Own σ' e3 H4 D := S5.not (by rw [hD']; simp) noD2
        have R6 := (R5.updD (ws := ws2) g5 eD o5).wipe vs
        rw [wsame] at R6
        refine ⟨G5, wipeE e3 vs, ac2, ws2, rfl, hlt, R6, ⟨S1.gg.trans (S'.gg.trans S5.gg), fun a h1 h2 => ?_, fun a o h1 h2 => ?_, fun j => ?_, fun a h1 => ?_, fun a z => ?_⟩, g5, fun z => o5 (own_upd o5 (own_wipe0 (by rw [← wsame] at z; exact z))), upd_same, d5, lc5⟩
        · exact S5.nw a (S'.nw a (S1.nw a h1 h2) (S1.th a h2)) (S'.th a (S1.th a h2))
        · have z : a ≠ D := ne_of_none h1 hD
          rw [upd_ne z]
          have h3 := S1.hh a o h1 h2
          have n1 : ¬ Own (L2.wipe σ vs) e H a := S1.not (by rw [h1]; simp) h2
          exact S5.hh a o (S'.hh a o h3 n1) fun y => S'.not (by rw [h3]; simp) n1 (own2 a y)
        · by_cases hj : j ∈ vs
          · have b1 : ∀ {e : Ev}, isAc (wipeE e vs)[j]? = false := fun {e} => by
              cases z : (wipeE e vs)[j]? with
              | none => rfl
              | some s =>
                cases s with
                | none => rfl
                | some s => exact absurd hj (wipeE_in z)
            rw [b1, b1]
          · rw [wipeE_out hj, S5.kd j, (out j fun z => hj (hS j z)).2]
            exact S1.kd j
        · by_cases z : a = D
          · rw [z, upd_same]
            simp
          · rw [upd_ne z]
            exact S5.th a (S'.th a (S1.th a h1))
        · rw [← wsame] at z
          rcases S5.ww a (ownW_upd (fun z => o5 (.inr z)) (ownW_wipe0 z)) with z | z
          · rcases S'.ww a (ownW2 a z) with z | z
            · exact S1.ww a z
            · exact .inr (S1.gone z)
          · exact .inr (S1.gone (S'.gone z))
      cases h2 : tst e2 with
      | none => simp only [h2] at lc; cases lc
      | some z =>
        obtain ⟨b, e3⟩ := z
        cases b with
        | false =>
          simp only [h2] at lc
          refine ⟨m, E, G0, G', e2, false, e3, R2, h2, fun G3 H3 R3 S3 => ?_⟩
          show (if false = true then _ else _)
          rw [if_neg Bool.false_ne_true]
          have w3 : H3 D = some (.lst ws) := S3.hh D _ hD' noD2
          have eu : upd H3 D (.lst ws) = H3 := by
            funext b
            by_cases z : b = D
            · rw [z, upd_same, w3]
            · rw [upd_ne z]
          have z := fin R3 S3 (dpAll_same (S'.gg.trans S3.gg) dv) lc
          rw [eu] at z
          exact z
        | true =>
          simp only [h2] at lc
          refine ⟨m, E, G0, G', e2, true, e3, R2, h2, fun G3 H3 R3 S3 => ?_⟩
          show (if true = true then _ else _)
          rw [if_pos rfl]
          cases h3 : fe e3 with
          | none => simp only [h3] at lc; cases lc
          | some z =>
            obtain ⟨r, e4⟩ := z
            simp only [h3] at lc
            refine ⟨m, E, G0, G3, e3, r, e4, R3, h3, fun v G4 H4 R4 S4 V4 N4 => ?_⟩
            obtain ⟨G5, R5, S5, s5, V5⟩ := R4.freeze (S3.trans S4) V4 (nw_back S3 v N4)
            cases h4 : imR (frzR r) with
            | none => simp only [h4] at lc; cases lc
            | some yd =>
              simp only [h4] at lc
              have er : frzR r = .im yd := by
                cases r with
                | im d =>
                  cases h4
                  rfl
                | ac ds =>
                  cases h4
                  rfl
                | br i => cases h4
              rw [er] at V5
              by_cases h5 : okLen (ac.length + 1) = true
              · rw [if_pos h5] at lc
                have w4 : H4 D = some (.lst ws) := S5.hh D _ hD' noD2
                have hl := okLen_ok h5
                refine ⟨ws, w4, by rw [dpAll_len dv]; omega, ?_⟩
                exact fin R5 S5 (dpAll_app (dpAll_same (S'.gg.trans S5.gg) dv) (.cons V5 .nil)) lc
              · rw [if_neg h5] at lc
                cases lc
  · have hi2 : i = ds.length := by omega
    subst hi2
    rw [List.drop_length] at lc
    simp only [lcGo, Option.some.injEq, Prod.mk.injEq] at lc
    obtain ⟨rfl, rfl⟩ := lc
    have hl : e.length = e1.length := by
      have z1 := R.len
      have z2 := R1.len
      rw [wipe_length] at z1
      omega
    have vsE : ∀ i ∈ vs, isAc e[i]? = false := fun i hi => by
      rw [S1.kd i]
      cases z : (wipeE e1 vs)[i]? with
      | none => rfl
      | some s =>
        cases s with
        | none => rfl
        | some s => exact absurd hi (wipeE_in z)
    have kd : ∀ j : Nat, isAc (restE e1 e vs)[j]? = isAc e1[j]? := fun j => by
      by_cases hj : j ∈ vs
      · rw [restE_in hl hj]
      · rw [restE_out hj, S1.kd j, wipeE_out hj]
    have get : ∀ {j : Nat} {s : Sl}, (restE e1 e vs)[j]? = some (some s) → (j ∈ vs ∧ e1[j]? = some (some s)) ∨ (j ∉ vs ∧ e[j]? = some (some s)) := fun {j s} z => by
      by_cases hj : j ∈ vs
      · rw [restE_in hl hj] at z
        exact .inl ⟨hj, z⟩
      · rw [restE_out hj] at z
        exact .inr ⟨hj, z⟩
    have ac1 : ∀ {j : Nat} {dj : List PyData}, (restE e1 e vs)[j]? = some (some (.ac dj)) → j ∉ vs ∧ e[j]? = some (some (.ac dj)) := fun {j dj} z => by
      rcases get z with ⟨h1, h2⟩ | z
      · have q1 := noAc_at hn h1
        rw [h2] at q1
        cases q1
      · exact z
    have ow1 : ∀ {j : Nat} {t : Ow}, (restE e1 e vs)[j]? = some (some (.ow t)) → e[j]? = some (some (.ow t)) ∧ σ[j]? = (L2.wipe σ vs)[j]? := fun {j t} z => by
      rcases get z with ⟨h1, h2⟩ | ⟨h1, h2⟩
      · exact (noOw_at hn h1 h2).elim
      · exact ⟨h2, (wipe_out h1).symm⟩
    have own3 : ∀ a, Own0 σ (restE e1 e vs) a → Own0 (L2.wipe σ vs) e a := fun a ⟨j, dj, z1, z2⟩ => by
      obtain ⟨h1, h2⟩ := ac1 z1
      exact ⟨j, dj, h2, by rw [wipe_out h1]; exact z2⟩
    have WF := R.wl.keep (σ' := σ) (e' := restE e1 e vs) (H' := H) (Same.refl G) (fun _ _ z => z) (fun j t z => ow1 z) (fun a z w => (R.wl.out a w).2.2.1 (own3 a z)) (fun _ _ z _ => z)
    have RF : Rl K m E G0 G (restE e1 e vs) σ H := by
      refine ⟨R.gg, R.gh, R.eh, R.mh, R.nw, by rw [restE_len, hl]; exact R1.len, fun j d z => ?_, fun j dj z => ?_, fun j k dj dk p z1 z2 z3 z4 => ?_, fun j dss z => ?_, WF.1⟩
      · rcases get z with ⟨h1, h2⟩ | ⟨h1, h2⟩
        · obtain ⟨v, a1, a2⟩ := R1.im j d h2
          exact ⟨v, a1, dp_same S1.gg a2⟩
        · obtain ⟨v, a1, a2⟩ := R.im j d h2
          rw [wipe_out h1] at a1
          exact ⟨v, a1, a2⟩
      · obtain ⟨h1, h2⟩ := ac1 z
        obtain ⟨p, w, a1, a2⟩ := R.ac j dj h2
        rw [wipe_out h1] at a1
        exact ⟨p, w, a1, a2⟩
      · obtain ⟨h1, h2⟩ := ac1 z1
        obtain ⟨h3, h4⟩ := ac1 z2
        exact R.inj j k dj dk p h2 h4 (by rw [wipe_out h1]; exact z3) (by rw [wipe_out h3]; exact z4)
      · rcases get z with ⟨h1, h2⟩ | ⟨h1, h2⟩
        · exact (R1.ot j dss h2).mono S1.gg
        · have a1 := R.ot j dss h2
          rw [wipe_out h1] at a1
          exact a1
    refine .inl ⟨stop, P G H RF ⟨S1.gg, S1.nw, fun a o h1 h2 => S1.hh a o h1 fun z => h2 (own_wipe0 z), kd, S1.th, fun a z => ?_⟩ ⟨D, ws, rfl, eD, hG, hH, dv, fun z => noD ?_⟩⟩
    · rcases S1.ww a (WF.2 a z) with z | z
      · exact .inl (ownW_wipe0 z)
      · exact .inr z
    · rcases z with z | z
      · exact .inl (own3 D z)
      · exact .inr (WF.2 D z)
structure PTD (X : Cx) (ifs : List Expr) (f : Ft) : Prop where
  ex : PTs X ifs (ttOf X.K f)
def t_yes : Ft := fun e => some (true, e)
theorem ptd_nil : PTD X [] t_yes := ⟨⟨fun pins s σ H Q I h => by
  obtain ⟨m, E, G0, G, e, b, e', R, q, P⟩ := h
  cases q
  exact pts_nil.run pins s σ H Q I (P G H R Stp.refl)⟩⟩
theorem ptd_one {c : Expr} {f : Ft} (h : TD X c f) : PTD X [c] f := ⟨pts_one h.can⟩
variable {elt tg it : Expr} {ifs : List Expr} {scope : Scope} {own : List (Str × Nat)} {pos spos : Pos} {fi : Fi} {S : List Nat} {γ : PyData → Ev → Option Ev} {tst : Ft} {fe : Fe}
theorem x_lc_ok {wi : TI} (hS : ∀ i ∈ S, i ∈ own.map (·.2)) (k : ∀ (m : Option Addr) (E : Ef) (G0 G : Hp) (e : Ev) (σ : St) (H : Hp) (ds : List PyData) (e' : Ev) (Q : It → Hp → Prop),
      Rl X.K m E G0 G e σ H → fi e = some (ds, e') → (∀ J G' H', Rl X.K m E G0 G' e' σ H' → Stp σ G H e G' H' e' → WalkD X.K G' J ds → Q J H') → wi σ H Q)
    (m : Option Addr) (E : Ef) (G0 G : Hp) (e : Ev) (σ : St) (H : Hp) (r : Rs) (e' : Ev) (Q : VK) (R : Rl X.K m E G0 G e σ H) (q : x_lc fi γ tst fe (own.map (·.2)) e = some (r, e')) (P : Po X.K m E G0 σ G H e r e' Q) :
    tLc wi (tgOf X.K S γ) (ttOf X.K tst) (teOf X.K fe) (own.map (·.2)) σ H Q := by
  unfold x_lc at q
  cases h1 : fi e with
  | none => simp only [h1] at q; cases q
  | some z =>
    obtain ⟨ds, e1⟩ := z
    simp only [h1] at q
    by_cases h2 : noAc e1 (own.map (·.2)) = true
    · rw [if_pos h2] at q
      cases h3 : lcGo γ tst fe (own.map (·.2)) ds (wipeE e1 (own.map (·.2))) [] with
      | none => simp only [h3] at q; cases q
      | some z =>
        obtain ⟨acc, e2⟩ := z
        simp only [h3, Option.some.injEq, Prod.mk.injEq] at q
        obtain ⟨rfl, rfl⟩ := q
        refine k m E G0 G e σ H ds e1 _ R h1 fun J G1 H1 R1 S1 W1 D hD => ?_
        exact lc_ok R1 W1 hS h2 h3 hD fun G2 H2 R2 S2 V2 => P _ G2 H2 R2 (S1.trans S2) V2 (nw_back S1 _ fun p z => by
          cases z
          exact hD)
    · rw [if_neg h2] at q
      cases q
/-- [elt for tg in it if ..] -/
theorem ed_lc (hc : X.calm = true) (hN : X.N.Nodup) (hi : ID X tg it fi) (ok : blkC X.N X.env.scope scope own = true) (hS : ∀ i ∈ S, i ∈ own.map (·.2))
    (hg : ∀ (s : Shared) (H : Hp) (C : Addr) (cl : List (Str × Addr)) (fp : List Addr), GD (X.blk s H scope (compEnvC scope cl C X.env) fp) tg S γ) (ht : ∀ (s : Shared) (H : Hp) (C : Addr) (cl : List (Str × Addr)) (fp : List Addr), PTD (X.blk s H scope (compEnvC scope cl C X.env) fp) ifs tst)
    (he : ∀ (s : Shared) (H : Hp) (C : Addr) (cl : List (Str × Addr)) (fp : List Addr), ED (X.blk s H scope (compEnvC scope cl C X.env) fp) elt fe) (hs : ∀ x, foldedSetIterable it X.env x = pure x := by intro _; rfl) :
    ED X (.ListComp elt [⟨tg, it, ifs, 0⟩] scope pos) (x_lc fi γ tst fe (own.map (·.2))) := by
  obtain ⟨wi, pi, k⟩ := hi
  exact ⟨_, pe_lc hc hN pi (blkOk_by ok) (fun s H C cl fp => (hg s H C cl fp).can) (fun s H C cl fp => (ht s H C cl fp).ex) (fun s H C cl fp => (he s H C cl fp).can) hs, x_lc_ok hS k⟩
end
end DL
namespace DL
open PySem PySem.Spec PyProof.Rows L2
/-- the first slot stays the caller's list, if there is one -/
structure Rz (K : PySem.W.Frag) (m : Option Addr) (E : Ef) (G0 G : Hp) (e : Ev) (σ : St) (H : Hp) : Prop where
  r : Rl K m E G0 G e σ H
  z : ∀ p, m = some p → isAc e[0]? = true ∧ σ[0]? = some (some (.ref p))
def PoS (K : PySem.W.Frag) (m : Option Addr) (E : Ef) (G0 G : Hp) (D : Ends) : Fl → Prop
  | .nx e => ∀ G' σ H, Same G G' → Rz K m E G0 G' e σ H → D.nx σ H
  | .bk e => ∀ G' σ H, Same G G' → Rz K m E G0 G' e σ H → D.bk σ H
  | .ct e => ∀ G' σ H, Same G G' → Rz K m E G0 G' e σ H → D.ct σ H
  | .rt r e => ∀ v G' σ H, Same G G' → Rz K m E G0 G' e σ H → Vr K E G' H σ e v r → D.rt v H
structure SD (X : Cx) (st : Stmt) (f : Fs) : Prop where
  ex : ∃ t : TS, PS X st t ∧ ∀ (m : Option Addr) (E : Ef) (G0 G : Hp) (e : Ev) (σ : St) (H : Hp) (fl : Fl) (D : Ends),
    Rz X.K m E G0 G e σ H → f e = some fl → PoS X.K m E G0 G D fl → t D σ H
structure SsD (X : Cx) (sts : List Stmt) (f : Fs) : Prop where
  ex : ∃ t : TS, PSs X sts t ∧ ∀ (m : Option Addr) (E : Ef) (G0 G : Hp) (e : Ev) (σ : St) (H : Hp) (fl : Fl) (D : Ends),
    Rz X.K m E G0 G e σ H → f e = some fl → PoS X.K m E G0 G D fl → t D σ H
section
variable {K : PySem.W.Frag} {m : Option Addr} {E : Ef} {G0 G G' H H' : Hp} {e e' : Ev} {σ σ' : St} {v : V} {d : PyData} {D D' : Ends} {fl : Fl} {i : Nat}
theorem PoS.aft (P : PoS K m E G0 G D fl) (s : Same G G') : PoS K m E G0 G' D fl := by
  cases fl with
  | nx e => exact fun G2 σ H s2 R => P G2 σ H (s.trans s2) R
  | bk e => exact fun G2 σ H s2 R => P G2 σ H (s.trans s2) R
  | ct e => exact fun G2 σ H s2 R => P G2 σ H (s.trans s2) R
  | rt r e => exact fun v G2 σ H s2 R V => P v G2 σ H (s.trans s2) R V
theorem Rz.exp (R : Rz K m E G0 G e σ H) (R' : Rl K m E G0 G' e' σ H') (S : Stp σ G H e G' H' e') : Rz K m E G0 G' e' σ H' :=
  ⟨R', fun p z => ⟨by rw [S.kd 0]; exact (R.z p z).1, (R.z p z).2⟩⟩
def okS (S : List Nat) (e : Ev) : Bool := !(S.contains 0 && isAc e[0]?)
theorem okS_no (h : okS S e = true) (q : isAc e[0]? = true) : 0 ∉ S := by
  intro z
  unfold okS at h
  rw [q, List.contains_iff_mem.mpr z] at h
  cases h
theorem Rz.setI (R : Rz K m E G0 G e σ H) (h : Dp K G v d) (ok : okS [i] e = true) : Rz K m E G0 G (e.set i (some (.im d))) (σ.set i (some v)) H :=
  ⟨R.r.setI i h, fun p z => by
    obtain ⟨z1, z2⟩ := R.z p z
    have n := okS_no ok z1
    have n : i ≠ 0 := fun q => n (by rw [q]; exact List.mem_singleton.mpr rfl)
    rw [List.getElem?_set_ne n, List.getElem?_set_ne n]
    exact ⟨z1, z2⟩⟩
theorem Rz.setA {ds : List PyData} (R : Rz K m E G0 G e σ H) (h : Vr K E G H σ e v (.ac ds)) (ok : okS [i] e = true) : Rz K m E G0 G (e.set i (some (.ac ds))) (σ.set i (some v)) H :=
  ⟨R.r.setA i h, fun p z => by
    obtain ⟨z1, z2⟩ := R.z p z
    have n := okS_no ok z1
    have n : i ≠ 0 := fun q => n (by rw [q]; exact List.mem_singleton.mpr rfl)
    rw [List.getElem?_set_ne n, List.getElem?_set_ne n]
    exact ⟨z1, z2⟩⟩
end
def s_seq (f g : Fs) : Fs := fun e => match f e with
  | some (.nx e1) => g e1
  | some x => some x
  | none => none
def s_nx : Fs := fun e => some (.nx e)
def s_no : Fs := fun _ => none
section
variable {X : Cx} {st : Stmt} {rest : List Stmt} {f g : Fs} {pos : Pos} {a : Expr} {fe : Fe}
theorem ssd_nil : SsD X [] s_nx := ⟨_, pss_nil, fun m E G0 G e σ H fl D R q P => by
  cases q
  exact P G σ H (Same.refl _) R⟩
theorem ssd_cons (h : SD X st f) (h2 : SsD X rest g) : SsD X (st :: rest) (s_seq f g) := by
  obtain ⟨t, p, k⟩ := h
  obtain ⟨t2, p2, k2⟩ := h2
  refine ⟨_, pss_cons p p2, fun m E G0 G e σ H fl D R q P => ?_⟩
  unfold s_seq at q
  split at q
  · rename_i e1 h1
    refine k m E G0 G e σ H _ _ R h1 ?_
    exact fun G' σ' H' s R' => k2 m E G0 G' e1 σ' H' fl D R' q (P.aft s)
  · rename_i x h2 h1
    cases q
    refine k m E G0 G e σ H _ _ R h1 ?_
    cases fl with
    | nx e1 => exact (h2 e1 rfl).elim
    | bk e => exact P
    | ct e => exact P
    | rt r e => exact P
  · cases q
theorem ssd_one (h : SD X st f) : SsD X [st] f := by
  obtain ⟨t, p, k⟩ := h
  exact ⟨_, pss_one p, k⟩
theorem sd_never : SD X st s_no := ⟨_, ps_never, fun m E G0 G e σ H fl D R q P => by cases q⟩
def s_drop (f : Fe) : Fs := fun e => match f e with
  | some (_, e1) => some (.nx e1)
  | none => none
theorem sd_expr (h : ED X a fe) (hs : swapsWith a none pos.line X.env = pure false := by rfl) : SD X (.Expr a pos) (s_drop fe) := by
  obtain ⟨t, p, k⟩ := h
  refine ⟨_, ps_expr p hs, fun m E G0 G e σ H fl D R q P => ?_⟩
  unfold s_drop at q
  split at q
  · rename_i r e1 h1
    cases q
    exact k m E G0 G e σ H _ _ _ R.r h1 fun v G' H' R' S' V N => P G' σ H' S'.gg (R.exp R' S')
  · cases q
def s_ret (f : Fe) : Fs := fun e => match f e with
  | some (r, e1) => some (.rt r e1)
  | none => none
theorem sd_ret (h : ED X a fe) : SD X (.Return (some a) pos) (s_ret fe) := by
  obtain ⟨t, p, k⟩ := h
  refine ⟨_, ps_ret p, fun m E G0 G e σ H fl D R q P => ?_⟩
  unfold s_ret at q
  split at q
  · rename_i r e1 h1
    cases q
    exact k m E G0 G e σ H _ _ _ R.r h1 fun v G' H' R' S' V N => P v G' σ H' S'.gg (R.exp R' S') V
  · cases q
def s_if (c : Ft) (f g : Fs) : Fs := fun e => match c e with
  | some (true, e1) => f e1
  | some (false, e1) => g e1
  | none => none
theorem sd_if {tst : Expr} {A B : List Stmt} {c : Ft} (hc : TD X tst c) (ha : SsD X A f) (hb : SsD X B g) : SD X (.If tst A B pos) (s_if c f g) := by
  obtain ⟨t, p, k⟩ := hc
  obtain ⟨t1, p1, k1⟩ := ha
  obtain ⟨t2, p2, k2⟩ := hb
  refine ⟨_, ps_if p p1 p2, fun m E G0 G e σ H fl D R q P => ?_⟩
  unfold s_if at q
  split at q
  · rename_i e1 h1
    refine k m E G0 G e σ H true e1 _ R.r h1 fun G' H' R' S' => ?_
    rw [if_pos rfl]
    exact k1 m E G0 G' e1 σ H' fl D (R.exp R' S') q (P.aft S'.gg)
  · rename_i e1 h1
    refine k m E G0 G e σ H false e1 _ R.r h1 fun G' H' R' S' => ?_
    rw [if_neg Bool.false_ne_true]
    exact k2 m E G0 G' e1 σ H' fl D (R.exp R' S') q (P.aft S'.gg)
  · cases q
def putA (i : Nat) (e : Ev) : Rs → Option Ev
  | .im d => some (e.set i (some (.im d)))
  | .ac ds => some (e.set i (some (.ac ds)))
  | .br _ => none
def s_set (i : Nat) (f : Fe) : Fs := fun e => match f e with
  | some (r, e1) => if okS [i] e1 = true then (match putA i e1 r with
    | some e2 => some (.nx e2)
    | none => none) else none
  | none => none
def s_setF (i : Nat) (f : Fe) : Fs := s_set i fun e => match f e with
  | some (r, e1) => some (frzR r, e1)
  | none => none
theorem set_ok {i : Nat} {te : TE} (k : ∀ (m : Option Addr) (E : Ef) (G0 G : Hp) (e : Ev) (σ : St) (H : Hp) (r : Rs) (e' : Ev) (Q : VK), Rl X.K m E G0 G e σ H → fe e = some (r, e') → Po X.K m E G0 σ G H e r e' Q → te σ H Q)
    (m : Option Addr) (E : Ef) (G0 G : Hp) (e : Ev) (σ : St) (H : Hp) (fl : Fl) (D : Ends) (R : Rz X.K m E G0 G e σ H) (q : s_set i fe e = some fl) (P : PoS X.K m E G0 G D fl) : tAsg te (gName i) D σ H := by
  unfold s_set at q
  split at q
  · rename_i r e1 h1
    by_cases ok : okS [i] e1 = true
    · rw [if_pos ok] at q
      refine k m E G0 G e σ H _ _ _ R.r h1 fun v G' H' R' S' V N => ?_
      have Rx := R.exp R' S'
      cases r with
      | im d =>
        cases q
        exact P G' _ H' S'.gg (Rx.setI V ok)
      | ac ds =>
        cases q
        exact P G' _ H' S'.gg (Rx.setA V ok)
      | br j => cases q
    · rw [if_neg ok] at q
      cases q
  · cases q
theorem frz_k {te : TE} (k : ∀ (m : Option Addr) (E : Ef) (G0 G : Hp) (e : Ev) (σ : St) (H : Hp) (r : Rs) (e' : Ev) (Q : VK), Rl X.K m E G0 G e σ H → fe e = some (r, e') → Po X.K m E G0 σ G H e r e' Q → te σ H Q)
    (m : Option Addr) (E : Ef) (G0 G : Hp) (e : Ev) (σ : St) (H : Hp) (r : Rs) (e' : Ev) (Q : VK) (R : Rl X.K m E G0 G e σ H) (q : (match fe e with
      | some (r, e1) => some (frzR r, e1)
      | none => none) = some (r, e')) (P : Po X.K m E G0 σ G H e r e' Q) : te σ H Q := by
  split at q
  · rename_i r1 e1 h1
    cases q
    refine k m E G0 G e σ H _ _ _ R h1 fun v G' H' R' S' V N => ?_
    obtain ⟨G2, R2, S2, s2, V2⟩ := R'.freeze S' V N
    exact P v G2 H' R2 S2 V2 (by cases r1 <;> exact True.intro)
  · cases q
section
variable {i : Nat} {x : Str} {pos' : Pos}
theorem sd_set (i : Nat) (hN : X.N.Nodup) (h : ED X a fe) (hi : X.N[i]? = some x := by rfl) (hx : Loc X.env.scope x := by first | exact .inl rfl | exact .inr rfl) (hs : swapsWith a (some (.Name x pos')) pos.line X.env = pure false := by rfl) (hf : X.fn x = true ∨ X.env.scope.names.lookup x = some .local := by first | exact .inl rfl | exact .inr rfl | assumption) :
    SD X (.Assign [.Name x pos'] a pos) (s_set i fe) := by
  obtain ⟨t, p, k⟩ := h
  exact ⟨_, ps_set hN hi hx p hs hf, set_ok k⟩
theorem sd_setF (i : Nat) (hN : X.N.Nodup) (h : ED X a fe) (hi : X.N[i]? = some x := by rfl) (hx : Loc X.env.scope x := by first | exact .inl rfl | exact .inr rfl) (hs : swapsWith a (some (.Name x pos')) pos.line X.env = pure false := by rfl) (hf : X.fn x = true ∨ X.env.scope.names.lookup x = some .local := by first | exact .inl rfl | exact .inr rfl | assumption) :
    SD X (.Assign [.Name x pos'] a pos) (s_setF i fe) := by
  obtain ⟨t, p, k⟩ := h
  exact ⟨_, ps_set hN hi hx p hs hf, set_ok (frz_k k)⟩
end
section
variable {elt tg it : Expr} {ifs : List Expr} {scope : Scope} {own : List (Str × Nat)} {lpos spos : Pos} {fi : Fi} {S : List Nat} {γ : PyData → Ev → Option Ev} {tst : Ft} {fe : Fe} {x : Str} {pos' : Pos}
theorem sd_setLc (i : Nat) (hc : X.calm = true) (hN : X.N.Nodup) (hi : ID X tg it fi) (ok : blkC X.N X.env.scope scope own = true) (hS : ∀ i ∈ S, i ∈ own.map (·.2))
    (hg : ∀ (s : Shared) (H : Hp) (C : Addr) (cl : List (Str × Addr)) (fp : List Addr), GD (X.blk s H scope (compEnvC scope cl C X.env) fp) tg S γ) (ht : ∀ (s : Shared) (H : Hp) (C : Addr) (cl : List (Str × Addr)) (fp : List Addr), PTD (X.blk s H scope (compEnvC scope cl C X.env) fp) ifs tst)
    (he : ∀ (s : Shared) (H : Hp) (C : Addr) (cl : List (Str × Addr)) (fp : List Addr), ED (X.blk s H scope (compEnvC scope cl C X.env) fp) elt fe) (hs : ∀ x, foldedSetIterable it X.env x = pure x := by intro _; rfl)
    (hy : X.N[i]? = some x := by rfl) (hyl : X.env.scope.names.lookup x = some .local := by rfl) (hsw : swapsWith (.ListComp elt [⟨tg, it, ifs, 0⟩] scope lpos) (some (.Name x pos')) spos.line X.env = pure true := by rfl) :
    SD X (.Assign [.Name x pos'] (.ListComp elt [⟨tg, it, ifs, 0⟩] scope lpos) spos) (s_set i (x_lc fi γ tst fe (own.map (·.2)))) := by
  obtain ⟨wi, pi, k⟩ := hi
  exact ⟨_, ps_setLc hc hN hy hyl hsw pi (blkOk_by ok) (fun s H C cl fp => (hg s H C cl fp).can) (fun s H C cl fp => (ht s H C cl fp).ex) (fun s H C cl fp => (he s H C cl fp).can) hs, set_ok (x_lc_ok hS k)⟩
end
def forGo (γ : PyData → Ev → Option Ev) (S : List Nat) (fb : Fs) : List PyData → Ev → Option Fl
  | [], e => some (.nx e)
  | d :: ds, e => if okS S e = true then (match γ d e with
    | some e2 => (match fb e2 with
      | some (.nx e3) => forGo γ S fb ds e3
      | some (.ct e3) => forGo γ S fb ds e3
      | some (.bk e3) => some (.nx e3)
      | some (.rt r e3) => some (.rt r e3)
      | none => none)
    | none => none) else none
def s_for (fi : Fi) (γ : PyData → Ev → Option Ev) (S : List Nat) (fb : Fs) : Fs := fun e => match fi e with
  | some (ds, e1) => forGo γ S fb ds e1
  | none => none
/-- whatever the rule of the statement: the items are told, the body is read -/
theorem sd_forG {PIx : TI → Prop} {st : Stmt} {tg : Expr} {body : List Stmt} {fi : Fi} {S : List Nat} {γ : PyData → Ev → Option Ev} {fb : Fs} (mk : ∀ {wi : TI} {g : TG} {tb : TS}, PIx wi → PG X tg g → PSs X body tb → PS X st (tFor wi g tb))
    (hi : ∃ wi, PIx wi ∧ ∀ (m : Option Addr) (E : Ef) (G0 G : Hp) (e : Ev) (σ : St) (H : Hp) (ds : List PyData) (e' : Ev) (Q : It → Hp → Prop),
    Rl X.K m E G0 G e σ H → fi e = some (ds, e') → (∀ J G' H', Rl X.K m E G0 G' e' σ H' → Stp σ G H e G' H' e' → WalkD X.K G' J ds → Q J H') → wi σ H Q) (hg : GD X tg S γ) (hb : SsD X body fb) : SD X st (s_for fi γ S fb) := by
  obtain ⟨wi, pi, ki⟩ := hi
  obtain ⟨g, pg, kg⟩ := hg
  obtain ⟨tb, pb, kb⟩ := hb
  refine ⟨_, mk pi pg pb, fun m E G0 G e σ H fl D R q P => ?_⟩
  unfold s_for at q
  cases h1 : fi e with
  | none => simp only [h1] at q; cases q
  | some z =>
    obtain ⟨ds, e1⟩ := z
    simp only [h1] at q
    refine ki m E G0 G e σ H ds e1 _ R.r h1 fun J G1 H1 R1 S1 W1 => ?_
    let W : Nat → Nat → St → Hp → Prop := fun i mm σ H => ∃ G2 e2, mm = ds.length - i ∧ i ≤ ds.length ∧ Rz X.K m E G0 G2 e2 σ H ∧ Same G1 G2 ∧ forGo γ S fb (ds.drop i) e2 = some fl
    refine ⟨W, ⟨ds.length, G1, e1, by simp, Nat.zero_le _, R.exp R1 S1, Same.refl _, by simpa using q⟩, ?_⟩
    rintro i mm σ2 H2 ⟨G2, e2, rfl, hi, R2, s2, lc⟩
    obtain ⟨wk, stop⟩ := W1 G2 H2 s2 R2.r.gh
    by_cases hlt : i < ds.length
    · have hd : ds.drop i = ds[i] :: ds.drop (i + 1) := by rw [List.drop_eq_getElem_cons hlt]
      have hget : ds[i]? = some ds[i] := List.getElem?_eq_getElem hlt
      rw [hd] at lc
      generalize ds[i] = d at lc hget hd
      obtain ⟨go, yl⟩ := wk i d hget
      refine .inr ⟨go, W (i + 1) (ds.length - (i + 1)), fun σ' H' h => ⟨_, by omega, h⟩, fun x H' y => ?_⟩
      have hY : ∃ G', Rz X.K m E G0 G' e2 σ2 H' ∧ Same G2 G' ∧ Dp X.K G' x d := by
        rcases yl x H' y with ⟨rfl, h⟩ | ⟨T, us, es, rfl, nT, rfl, rfl, h⟩
        · exact ⟨G2, R2, Same.refl _, h⟩
        · obtain ⟨R', S', D'⟩ := R2.r.newT nT h
          exact ⟨_, R2.exp R' S', S'.gg, D'⟩
      obtain ⟨G', R', s', dx⟩ := hY
      simp only [forGo] at lc
      by_cases ok : okS S e2 = true
      · rw [if_pos ok] at lc
        cases h2 : γ d e2 with
        | none => simp only [h2] at lc; cases lc
        | some e3 =>
          simp only [h2] at lc
          refine kg m E G0 G' e2 σ2 H' x d e3 _ R'.r dx h2 fun σ3 R3 out sl el ac1 => ?_
          have R3' : Rz X.K m E G0 G' e3 σ3 H' := ⟨R3, fun p z => by
            obtain ⟨z1, z2⟩ := R'.z p z
            obtain ⟨o1, o2⟩ := out 0 (okS_no ok z1)
            rw [o1, o2]
            exact ⟨z1, z2⟩⟩
          cases h3 : fb e3 with
          | none => simp only [h3] at lc; cases lc
          | some x3 =>
            refine kb m E G0 G' e3 σ3 H' x3 _ R3' h3 ?_
            cases x3 with
            | nx e4 =>
              simp only [h3] at lc
              exact fun G4 σ4 H4 s4 R4 => ⟨G4, e4, rfl, hlt, R4, s2.trans (s'.trans s4), lc⟩
            | ct e4 =>
              simp only [h3] at lc
              exact fun G4 σ4 H4 s4 R4 => ⟨G4, e4, rfl, hlt, R4, s2.trans (s'.trans s4), lc⟩
            | bk e4 =>
              simp only [h3, Option.some.injEq] at lc
              subst lc
              exact fun G4 σ4 H4 s4 R4 => P G4 σ4 H4 (S1.gg.trans (s2.trans (s'.trans s4))) R4
            | rt r e4 =>
              simp only [h3, Option.some.injEq] at lc
              subst lc
              exact fun v G4 σ4 H4 s4 R4 V => P v G4 σ4 H4 (S1.gg.trans (s2.trans (s'.trans s4))) R4 V
      · rw [if_neg ok] at lc
        cases lc
    · have hi2 : i = ds.length := by omega
      subst hi2
      rw [List.drop_length] at lc
      cases lc
      exact .inl ⟨stop, P G2 σ2 H2 (S1.gg.trans s2) R2⟩
theorem sd_for {tg it : Expr} {body : List Stmt} {fi : Fi} {S : List Nat} {γ : PyData → Ev → Option Ev} {fb : Fs} (hc : X.calm = true) (hp : PassesOwn (model X.prog X.w) X.A X.env X.xe) (hi : ID X tg it fi) (hg : GD X tg S γ) (hb : SsD X body fb)
    (hs : ∀ x, foldedSetIterable it X.env x = pure x := by intro _; rfl) : SD X (.For tg it body [] pos) (s_for fi γ S fb) := sd_forG (fun pi pg pb => ps_for hp hc pi pg pb hs) hi.ex hg hb
def whGo (tst : Ft) (fb : Fs) : Nat → Ev → Option Fl
  | 0, _ => none
  | n + 1, e => match tst e with
    | some (false, e1) => some (.nx e1)
    | some (true, e1) => (match fb e1 with
      | some (.nx e3) => whGo tst fb n e3
      | some (.ct e3) => whGo tst fb n e3
      | some (.bk e3) => some (.nx e3)
      | some (.rt r e3) => some (.rt r e3)
      | none => none)
    | none => none
def s_while (n : Ev → Nat) (tst : Ft) (fb : Fs) : Fs := fun e => whGo tst fb (n e) e
theorem sd_while (n : Ev → Nat) {c : Expr} {body : List Stmt} {tst : Ft} {fb : Fs} (hp : PassesOwn (model X.prog X.w) X.A X.env X.xe) (hc : TD X c tst) (hb : SsD X body fb) : SD X (.While c body [] pos) (s_while n tst fb) := by
  obtain ⟨tc, pc, kc⟩ := hc
  obtain ⟨tb, pb, kb⟩ := hb
  refine ⟨_, ps_while hp pc pb, fun m E G0 G e σ H fl D R q P => ?_⟩
  let W : Nat → St → Hp → Prop := fun mm σ H => ∃ G2 e2, Rz X.K m E G0 G2 e2 σ H ∧ Same G G2 ∧ whGo tst fb mm e2 = some fl
  refine ⟨W, ⟨n e, G, e, R, Same.refl _, q⟩, ?_⟩
  rintro mm σ2 H2 ⟨G2, e2, R2, s2, lc⟩
  cases mm with
  | zero => cases lc
  | succ mm =>
    simp only [whGo] at lc
    cases h1 : tst e2 with
    | none => simp only [h1] at lc; cases lc
    | some z =>
      obtain ⟨b, e3⟩ := z
      refine kc m E G0 G2 e2 σ2 H2 b e3 _ R2.r h1 fun G3 H3 R3 S3 => ?_
      have Rx := R2.exp R3 S3
      cases b with
      | false =>
        simp only [h1, Option.some.injEq] at lc
        subst lc
        rw [if_neg Bool.false_ne_true]
        exact P G3 σ2 H3 (s2.trans S3.gg) Rx
      | true =>
        simp only [h1] at lc
        rw [if_pos rfl]
        refine ⟨W mm, fun σ' H' h => ⟨mm, Nat.lt_succ_self _, h⟩, ?_⟩
        cases h3 : fb e3 with
        | none => simp only [h3] at lc; cases lc
        | some x3 =>
          refine kb m E G0 G3 e3 σ2 H3 x3 _ Rx h3 ?_
          cases x3 with
          | nx e4 =>
            simp only [h3] at lc
            exact fun G4 σ4 H4 s4 R4 => ⟨G4, e4, R4, s2.trans (S3.gg.trans s4), lc⟩
          | ct e4 =>
            simp only [h3] at lc
            exact fun G4 σ4 H4 s4 R4 => ⟨G4, e4, R4, s2.trans (S3.gg.trans s4), lc⟩
          | bk e4 =>
            simp only [h3, Option.some.injEq] at lc
            subst lc
            exact fun G4 σ4 H4 s4 R4 => P G4 σ4 H4 (s2.trans (S3.gg.trans s4)) R4
          | rt r e4 =>
            simp only [h3, Option.some.injEq] at lc
            subst lc
            exact fun v G4 σ4 H4 s4 R4 V => P v G4 σ4 H4 (s2.trans (S3.gg.trans s4)) R4 V
def fzE (j : Nat) (e : Ev) : Ev := match e[j]? with
  | some (some (.ac ds)) => e.set j (some (.im (.list ds)))
  | _ => e
theorem Rz.fz {K : PySem.W.Frag} {m : Option Addr} {E : Ef} {G0 G H : Hp} {e : Ev} {σ : St} {j : Nat} (R : Rz K m E G0 G e σ H) (hj : j ≠ 0) : ∃ G', Same G G' ∧ Rz K m E G0 G' (fzE j e) σ H := by
  unfold fzE
  split
  · rename_i ds h
    obtain ⟨p, ws, h1, h2, h3, h4, h5⟩ := R.r.ac j ds h
    have hE : E p = none := by
      rcases h5 with h5 | h5
      · exact h5
      · exact absurd h5.2 hj
    have s1 : Same G (upd G p (.lst ws)) := same_new h2
    have hl : j < e.length := (List.getElem?_eq_some_iff.mp h).1
    refine ⟨upd G p (.lst ws), s1, ⟨⟨R.r.gg.trans s1, fun b o q => ?_, R.r.eh, R.r.mh, fun b b1 b2 => ?_, by rw [List.length_set]; exact R.r.len, fun i d q => ?_, fun i di q => ?_, fun i k di dk p' q1 q2 q3 q4 => ?_, fun i dss q => ?_, (Wl.put R.r j (s := some (.im (.list ds))) (fun _ z => by cases z) (fun _ z => by cases z) s1 (fun a w z => by
      rw [upd_ne (fun y => R.r.notW h h1 (by rw [← y]; exact w))]
      exact z) (fun _ _ z _ => z)).1⟩, fun p' z => ?_⟩⟩
    · by_cases z : b = p
      · rw [z, upd_same] at q
        rw [z, h3]
        exact q
      · rw [upd_ne z] at q
        exact R.r.gh b o q
    · have z : b ≠ p := fun z => b2 (by rw [z]; exact hE)
      rw [upd_ne z]
      exact R.r.nw b b1 b2
    · rw [set_get] at q
      by_cases z : j = i ∧ i < e.length
      · rw [if_pos z] at q
        cases q
        rw [← z.1]
        exact ⟨_, h1, .lst (.inl (.inl upd_same)) (dpAll_same s1 h4)⟩
      · rw [if_neg z] at q
        obtain ⟨v, a1, a2⟩ := R.r.im i d q
        exact ⟨v, a1, dp_same s1 a2⟩
    · rw [set_get] at q
      by_cases z : j = i ∧ i < e.length
      · rw [if_pos z] at q
        cases q
      · rw [if_neg z] at q
        obtain ⟨p', ws', a1, a2, a3, a4, a5⟩ := R.r.ac i di q
        have n : p' ≠ p := fun y => by
          rw [y] at a1
          have := R.r.inj j i ds di p h q h1 a1
          exact z ⟨this, by rw [← this]; exact hl⟩
        exact ⟨p', ws', a1, by rw [upd_ne n]; exact a2, a3, dpAll_same s1 a4, a5⟩
    · rw [set_get] at q1 q2
      by_cases z : j = i ∧ i < e.length
      · rw [if_pos z] at q1
        cases q1
      · rw [if_neg z] at q1
        by_cases z : j = k ∧ k < e.length
        · rw [if_pos z] at q2
          cases q2
        · rw [if_neg z] at q2
          exact R.r.inj i k di dk p' q1 q2 q3 q4
    · rw [set_get] at q
      by_cases z : j = i ∧ i < e.length
      · rw [if_pos z] at q
        cases q
        exact True.intro
      · rw [if_neg z] at q
        exact (R.r.ot i dss q).mono s1
    · obtain ⟨z1, z2⟩ := R.z p' z
      rw [List.getElem?_set_ne hj]
      exact ⟨z1, z2⟩
  · exact ⟨G, Same.refl _, R⟩
def s_fz (j : Nat) (f : Fs) : Fs := fun e => f (fzE j e)
theorem SD.fz (j : Nat) (h : SD X st f) (hj : j ≠ 0 := by decide) : SD X st (s_fz j f) := by
  obtain ⟨t, p, k⟩ := h
  refine ⟨_, p, fun m E G0 G e σ H fl D R q P => ?_⟩
  obtain ⟨G', s, R'⟩ := R.fz hj
  exact k m E G0 G' _ σ H fl D R' q (P.aft s)
end
end DL
namespace DL
open PySem PySem.Spec PyProof.Rows L2
section
variable {K : PySem.W.Frag} {m : Option Addr} {E : Ef} {G0 G H : Hp} {e : Ev} {σ : St} {i : Nat} {p : Addr} {d0 ds : List PyData} {ws : List V}
theorem Rl.put (R : Rl K m E G0 G e σ H) (h : e[i]? = some (some (.ac d0))) (hp : σ[i]? = some (some (.ref p))) (q : DpAll K G ws ds) :
    Rl K m E G0 G (e.set i (some (.ac ds))) σ (upd H p (.lst ws)) ∧ Stp σ G H e G (upd H p (.lst ws)) (e.set i (some (.ac ds))) := by
  obtain ⟨p', w0, h1, h2, h3, h4, h5⟩ := R.ac i d0 h
  rw [hp] at h1
  cases h1
  have hl : i < e.length := (List.getElem?_eq_some_iff.mp h).1
  have W := Wl.put (G' := G) (H' := upd H p (.lst ws)) R i (s := some (.ac ds)) (fun _ z => by cases z) (fun _ _ => ⟨d0, h⟩) (Same.refl G) (fun _ _ z => z) (fun a o z w => by
    rw [upd_ne (fun y => R.notW h hp (by rw [← y]; exact w))]
    exact z)
  refine ⟨⟨R.gg, fun b o z => ?_, fun b o z1 z2 => ?_, fun b z => ⟨(R.mh b z).1, ?_⟩, R.nw, by rw [List.length_set]; exact R.len, fun j d z => ?_, fun j dj z => ?_, fun j k dj dk p' q1 q2 q3 q4 => ?_, fun j dss z => ?_, W.1⟩,
    Same.refl _, fun _ z _ => z, fun a o z1 z2 => ?_, fun j => ?_, fun a z => ?_, fun a z => .inl (W.2 a z)⟩
  · rw [upd_ne (ne_of_none z h2)]
    exact R.gh b o z
  · have n : b ≠ p := fun y => by
      rcases h5 with h5 | h5
      · rw [y, h5] at z1
        cases z1
      · exact z2 (by rw [y]; exact h5.1)
    rw [upd_ne n]
    exact R.eh b o z1 z2
  · by_cases n : b = p
    · rw [n, upd_same]
      simp
    · rw [upd_ne n]
      exact (R.mh b z).2
  · rw [set_get] at z
    by_cases y : i = j ∧ j < e.length
    · rw [if_pos y] at z
      cases z
    · rw [if_neg y] at z
      exact R.im j d z
  · rw [set_get] at z
    by_cases y : i = j ∧ j < e.length
    · rw [if_pos y] at z
      cases z
      rw [← y.1]
      exact ⟨p, ws, hp, h2, upd_same, q, h5⟩
    · rw [if_neg y] at z
      obtain ⟨p', ws', a1, a2, a3, a4, a5⟩ := R.ac j dj z
      have n : p' ≠ p := fun y2 => by
        rw [y2] at a1
        have := R.inj i j d0 dj p h z hp a1
        exact y ⟨this, by rw [← this]; exact hl⟩
      exact ⟨p', ws', a1, a2, by rw [upd_ne n]; exact a3, a4, a5⟩
  · have old : ∀ {j : Nat} {dj : List PyData}, (e.set i (some (.ac ds)))[j]? = some (some (.ac dj)) → ∃ dj', e[j]? = some (some (.ac dj')) := fun {j dj} z => by
      rw [set_get] at z
      by_cases y : i = j ∧ j < e.length
      · exact ⟨d0, by rw [← y.1]; exact h⟩
      · rw [if_neg y] at z
        exact ⟨dj, z⟩
    obtain ⟨d1, o1⟩ := old q1
    obtain ⟨d2, o2⟩ := old q2
    exact R.inj j k d1 d2 p' o1 o2 q3 q4
  · rw [set_get] at z
    by_cases y : i = j ∧ j < e.length
    · rw [if_pos y] at z
      cases z
      exact True.intro
    · rw [if_neg y] at z
      exact R.ot j dss z
  · have n : a ≠ p := fun y => z2 (.inl ⟨i, d0, h, by rw [y]; exact hp⟩)
    rw [upd_ne n]
    exact z1
  · rw [set_get]
    by_cases y : i = j ∧ j < e.length
    · rw [if_pos y, ← y.1, h]
      rfl
    · rw [if_neg y]
  · by_cases n : a = p
    · rw [n, upd_same]
      simp
    · rw [upd_ne n]
      exact z
end
section
variable {X : Cx} {a b : Expr} {fa fb : Fe} {pos : Pos}
def x_app (i : Nat) (fa : Fe) : Fe := fun e => if isAc e[i]? = true then (match fa e with
  | some (r, e1) => (match imR (frzR r), e1[i]? with
    | some d, some (some (.ac ds)) => if okLen (ds.length + 1) = true then some (.im .none, e1.set i (some (.ac (ds ++ [d])))) else none
    | _, _ => none)
  | none => none) else none
theorem frz_im {r : Rs} {d : PyData} (h : imR (frzR r) = some d) : frzR r = .im d := by
  cases r with
  | im d =>
    cases h
    rfl
  | ac ds =>
    cases h
    rfl
  | br i => cases h
theorem Rl.acP {K : PySem.W.Frag} {m : Option Addr} {E : Ef} {G0 G H : Hp} {e : Ev} {σ : St} {i : Nat} (R : Rl K m E G0 G e σ H) (h : isAc e[i]? = true) :
    ∃ p ws, σ[i]? = some (some (.ref p)) ∧ H p = some (.lst ws) := by
  obtain ⟨ds', q⟩ := isAc_iff.mp h
  obtain ⟨p, ws, h1, h2, h3, _⟩ := R.ac i ds' q
  exact ⟨p, ws, h1, h3⟩
theorem len_lt {n : Nat} (h : okLen (n + 1) = true) : n < sizeLine := by
  have := okLen_ok h
  omega
/-- xs.append(e) -/
theorem ed_app (i : Nat) {x : Str} {np apos : Pos} (ha : ED X a fa) (hN : X.N[i]? = some x := by rfl)
    (hv : Vis X.env.scope x := by first | exact Or.inl rfl | exact Or.inr (Or.inl rfl) | exact Or.inr (Or.inr rfl)) (hd : (x == ("__debug__" : Str)) = false := by decide) (hcd : (x == ("__classdict__" : Str)) = false := by decide)
    (hbase : attributeBase (.Name x np) "append" X.env (eval (.Name x np) X.env) = eval (.Name x np) X.env := by rfl)
    (hfew : ((backTo pos (starEach [a] X.env)).all (fun x => !x.1) && (backToKw pos (keywordEach [] X.env)).all (fun x => x.1.isSome)
      && decide (([a] : List Expr).length + ([] : List Keyword).length + (if ([] : List Keyword).isEmpty then 0 else 1) < 30)) = true := by rfl)
    (hline : (apos.endLine == pos.line) = true := by rfl) (hs : starEach [a] X.env = (false, eval a X.env) :: starEach [] X.env := by rfl) (hplain : (backTo pos (starEach [] X.env)).any (·.1) = false := by rfl) :
    ED X (.Call (.Attribute (.Name x np) "append" apos) [a] [] pos) (x_app i fa) := by
  obtain ⟨t, p, k⟩ := ha
  refine ⟨_, pe_bm PySem.F.plainAttrs_list PySem.F.slot_list_append PySem.F.type_list_append mt_append (pe_var hN hv hd hcd) (pa_cons p pa_nil hs) hbase hfew hline hs hplain, fun m E G0 G e σ H r e' Q R q P => ?_⟩
  unfold x_app at q
  by_cases h0 : isAc e[i]? = true
  · rw [if_pos h0] at q
    obtain ⟨l, w0, hσ, hl⟩ := R.acP h0
    refine ⟨.ref l, hσ, .inl ⟨rfl, w0, .inl (.inl hl)⟩, ?_⟩
    split at q
    · rename_i r1 e1 h1
      split at q
      · rename_i d ds h2 h3
        by_cases h4 : okLen (ds.length + 1) = true
        · rw [if_pos h4] at q
          cases q
          refine k m E G0 G e σ H r1 e1 _ R h1 fun v G1 H1 R1 S1 V1 N1 => ?_
          obtain ⟨G2, R2, S2, s2, V2⟩ := R1.freeze S1 V1 N1
          rw [frz_im h2] at V2
          obtain ⟨p', ws, q1, q2, q3, q4, q5⟩ := R2.ac i ds h3
          rw [hσ] at q1
          cases q1
          obtain ⟨R3, S3⟩ := R2.put h3 hσ (dpAll_app q4 (.cons V2 .nil))
          exact ⟨l, ws, v, rfl, rfl, q3, by rw [dpAll_len q4]; exact len_lt h4, P .non G2 _ R3 (S2.trans S3) .non True.intro⟩
        · rw [if_neg h4] at q
          cases q
      · cases q
    · cases q
  · rw [if_neg h0] at q
    cases q
theorem get_list : PGet X (rIxL X.K) := by
  rintro pins s σ H o i ov iv Q I ro ri ⟨p, xs, kk, z, rfl, rfl, hq, he, q⟩
  cases ro
  obtain ⟨t', rfl⟩ := ri
  obtain ⟨us, vals, place, small⟩ := I.list hq
  have line := line63
  have same := vals.length
  have here : ∀ j : Nat, xs[j]? = some z → ∃ u, us.toArray[j]? = some u ∧ EP X pins σ Q u s := fun j hj => by
    obtain ⟨u, hu, ru⟩ := vals.get hj
    exact ⟨u, by rw [List.getElem?_toArray]; exact hu, z, H, I, ru, q⟩
  unfold atI ixN at he
  split at he
  · split at he
    · rename_i front short
      obtain ⟨u, hu, done⟩ := here kk.toNat he
      exact wpAny_getItem_list place.isList front (by omega) hu done
    · cases he
  · split at he
    · rename_i back deep
      obtain ⟨u, hu, done⟩ := here (kk + xs.length).toNat he
      have size : us.toArray.size = xs.length := by
        rw [List.size_toArray]
        exact same.symm
      exact wpAny_getItem_list_neg place.isList (by omega) (by rw [size]; exact deep) (by omega) (by rw [size]; exact hu) done
    · cases he
/-- g: the operator -/
def s_augI (g : Int → Int → Int) (i : Nat) (fk fv : Fe) : Fs := fun e => if isAc e[i]? = true then (match fk e with
  | some (.im (.int k), e1) => (match e1[i]? with
    | some (some (.ac ds)) => (match atI ds k, fv e1 with
      | some (.int a), some (.im (.int b), e2) => (match e2[i]? with
        | some (some (.ac ds2)) => (match ixN ds2.length k with
          | some j => some (.nx (e2.set i (some (.ac (ds2.set j (.int (g a b)))))))
          | none => none)
        | _ => none)
      | _, _ => none)
    | _ => none)
  | _ => none) else none
theorem sd_augI {op : Operator} (g : Int → Int → Int) (ho : PIp X op (ipI g)) (i : Nat) {x : Str} {np tp : Pos} (hk : ED X b fb) (hv' : ED X a fa) (hN : X.N[i]? = some x := by rfl)
    (hv : Vis X.env.scope x := by first | exact Or.inl rfl | exact Or.inr (Or.inl rfl) | exact Or.inr (Or.inr rfl)) (hd : (x == ("__debug__" : Str)) = false := by decide) (hcd : (x == ("__classdict__" : Str)) = false := by decide)
    (hz : ∀ ov iv new, augStore b ov iv new = (do holding [new, ov, iv] (setItem ov iv new); release [new, ov, iv] []; pure .next) := by intros; rfl) : SD X (.AugAssign (.Subscript (.Name x np) b tp) op a pos) (s_augI g i fb fa) := by
  obtain ⟨t, p, k⟩ := hv'
  obtain ⟨t2, p2, k2⟩ := hk
  refine ⟨_, ps_augS (pe_var hN hv hd hcd) p2 get_list p ho set_list hz, fun m E G0 G e σ H fl D R q P => ?_⟩
  unfold s_augI at q
  by_cases h0 : isAc e[i]? = true
  · rw [if_pos h0] at q
    obtain ⟨l, w0, hσ, hl⟩ := R.r.acP h0
    refine ⟨.ref l, hσ, ?_⟩
    split at q
    · rename_i kk e1 h1
      split at q
      · rename_i ds h2
        split at q
        · rename_i a1 b1 e2 h3 h4
          split at q
          · rename_i ds2 h5
            split at q
            · rename_i j h6
              cases q
              refine k2 m E G0 G e σ H _ e1 _ R.r h1 fun u G1 H1 R1 S1 V1 N1 => ?_
              cases V1
              obtain ⟨p', ws, q1, q2, q3, q4, q5⟩ := R1.ac i ds h2
              rw [hσ] at q1
              cases q1
              obtain ⟨z, z1, z2⟩ := dpAll_atI q4 h3
              cases z2
              refine ⟨l, ws, kk, .int a1, rfl, rfl, .inl (.inl q3), z1, ?_⟩
              refine k m E G0 G1 e1 σ H1 _ e2 _ R1 h4 fun u G2 H2 R2 S2 V2 N2 => ?_
              cases V2
              refine ⟨a1, b1, rfl, rfl, ?_⟩
              obtain ⟨p', ws2, q1, q2, q3, q4, q5⟩ := R2.ac i ds2 h5
              rw [hσ] at q1
              cases q1
              obtain ⟨R4, S4⟩ := R2.put h5 hσ (dpAll_set j q4 (.int (g a1 b1)))
              exact ⟨l, ws2, kk, j, rfl, rfl, q3, by rw [dpAll_len q4]; exact h6, P G2 σ _ (S1.gg.trans S2.gg) (R.exp R4 (S1.trans (S2.trans S4)))⟩
            · cases q
          · cases q
        · cases q
      · cases q
    · cases q
  · rw [if_neg h0] at q
    cases q
def s_aug (g : Int → Int → Int) (i : Nat) (fv : Fe) : Fs := fun e => match e[i]? with
  | some (some (.im (.int a))) => (match fv e with
    | some (.im (.int b), e1) => if okS [i] e1 = true then some (.nx (e1.set i (some (.im (.int (g a b)))))) else none
    | _ => none)
  | _ => none
theorem sd_aug {op : Operator} (g : Int → Int → Int) (ho : PIp X op (ipI g)) (i : Nat) {x : Str} {np : Pos} (hNd : X.N.Nodup) (hv' : ED X a fa) (hN : X.N[i]? = some x := by rfl)
    (hx : Loc X.env.scope x := by first | exact .inl rfl | exact .inr rfl) (hf : X.fn x = true ∨ X.env.scope.names.lookup x = some .local := by first | exact .inl rfl | exact .inr rfl | assumption) : SD X (.AugAssign (.Name x np) op a pos) (s_aug g i fa) := by
  obtain ⟨t, p, k⟩ := hv'
  refine ⟨_, ps_aug hNd hN hx p ho hf, fun m E G0 G e σ H fl D R q P => ?_⟩
  unfold s_aug at q
  split at q
  · rename_i a1 h1
    split at q
    · rename_i b1 e1 h2
      by_cases ok : okS [i] e1 = true
      · rw [if_pos ok] at q
        cases q
        obtain ⟨v, v1, v2⟩ := R.r.im i _ h1
        cases v2
        refine ⟨_, v1, ?_⟩
        refine k m E G0 G e σ H _ e1 _ R.r h2 fun u G1 H1 R1 S1 V1 N1 => ?_
        cases V1
        exact ⟨a1, b1, rfl, rfl, P G1 _ H1 S1.gg ((R.exp R1 S1).setI (.int _) ok)⟩
      · rw [if_neg ok] at q
        cases q
    · cases q
  · cases q
end
end DL
namespace DL
open PySem PySem.Spec PyProof.Rows L2
def VrF (K : PySem.W.Frag) (G H H' : Hp) (v : V) : Rs → Prop
  | .im d => Dp K G v d
  | .ac ds => ∃ p ws, v = .ref p ∧ H p = none ∧ G p = none ∧ H' p = some (.lst ws) ∧ DpAll K G ws ds
  | .br _ => False
/-- n data in, a result out -/
def spD (K : PySem.W.Frag) (n : Nat) (φ : List PyData → Option Rs) : Sp := fun vs H Q _ => ∃ G ds r, Same G H ∧ DpAll K G vs ds ∧ vs.length = n ∧ φ ds = some r ∧
  ∀ v G' H', Same G G' → Same G' H' → Same H H' → (∀ a, G a = none → H a ≠ none → G' a = none) → VrF K G' H H' v r → Q v H'
/-- a def of the module that is kept: where it lies, what it promises, how it is called -/
inductive Kf (P : Program) (w : World) (K : PySem.W.Frag) (mg : Str → Option Value) (base : Heap) (k : Nat) (x : Str) (sp : Sp) (dvs : List V) : Prop where
  | kept (at_ : Addr) (fd : FuncData) (names : List Str) (given : List Value) (fn : FnOk P w K mg base CX0 k at_ fd names sp) (here : mg x = some (.ref at_)) (stays : PySem.W.keepIn K (.ref at_) = true) (binds : Binds K fd names given) (vals : Vals dvs given)
def x_call (φ : List PyData → Option Rs) (dds : List PyData) (fa : Fa) : Fe := fun e => match argsI fa e with
  | some (ds, e1) => (match φ (ds ++ dds) with
    | some (.im d) => some (.im d, e1)
    | some (.ac cs) => some (.ac cs, e1)
    | _ => none)
  | none => none
section
variable {K : PySem.W.Frag} {m : Option Addr} {E : Ef} {G0 G G' H H' : Hp} {e : Ev} {σ : St} {v : V} {r : Rs}
/-- behind a call that writes nothing -/
theorem Rl.called (R : Rl K m E G0 G e σ H) (s1 : Same G G') (s2 : Same G' H') (s3 : Same H H') (n : ∀ a, G a = none → H a ≠ none → G' a = none) : Rl K m E G0 G' e σ H' ∧ Stp σ G H e G' H' e := by
  have th : ∀ a, H a ≠ none → H' a ≠ none := fun a z => by
    cases q : H a with
    | none => exact absurd q z
    | some o => rw [s3 a o q]; simp
  have W := R.wl.keep0 (H' := H') s1 (fun a w z => n a z (R.wl.out a w).2.1) (fun a o z _ => s3 a o z)
  refine ⟨⟨R.gg.trans s1, s2, fun a o z1 z2 => s3 a o (R.eh a o z1 z2), fun a z => ⟨(R.mh a z).1, th a (R.mh a z).2⟩, fun a z1 z2 => n a (R.nw a z1 z2) ?_, R.len, fun i d q => ?_, fun i ds q => ?_, R.inj, fun i dss q => (R.ot i dss q).mono s1, W.1⟩, s1, n, fun a o z _ => s3 a o z, fun _ => rfl, th, fun a z => .inl (W.2 a z)⟩
  · by_cases y : m = some a
    · exact (R.mh a y).2
    · cases q : E a with
      | none => exact absurd q z2
      | some o => rw [R.eh a o q y]; simp
  · obtain ⟨v, h1, h2⟩ := R.im i d q
    exact ⟨v, h1, dp_same s1 h2⟩
  · obtain ⟨p, ws, h1, h2, h3, h4, h5⟩ := R.ac i ds q
    exact ⟨p, ws, h1, n p h2 (by rw [h3]; simp), s3 p _ h3, dpAll_same s1 h4, h5⟩
theorem Rl.vrf (R : Rl K m E G0 G e σ H) (h : VrF K G' H H' v r) (hh : ∀ a o, H a = some o → OwnW σ e H a → H' a = some o) : Vr K E G' H' σ e v r ∧ Nw H v r := by
  cases r with
  | im d => exact ⟨h, True.intro⟩
  | br i => exact h.elim
  | ac ds =>
    obtain ⟨p, ws, rfl, h1, h2, h3, h4⟩ := h
    obtain ⟨f1, f2, f3, f4⟩ := R.fresh h1
    exact ⟨⟨p, ws, rfl, f2, h2, h3, h4, fun z => f3 (by
      rcases z with z | z
      · exact .inl z
      · exact .inr ((R.wl.keep0 (Same.refl G) (fun _ _ z => z) hh).2 p z))⟩, fun q z => by
      cases z
      exact h1⟩
end
def dvsD (K : PySem.W.Frag) (dvs : List V) (dds : List PyData) : Prop := ∀ G : Hp, DpAll K G dvs dds
theorem dvs0 {K : PySem.W.Frag} : dvsD K [] [] := fun _ => .nil
section
variable {X : Cx} {a : Expr} {es : List Expr} {fa : Fa} {p pos : Pos} {x : Str} {j k n : Nat} {dvs : List V} {dds : List PyData}
theorem call_ok {φ : List PyData → Option Rs} {t : TA} (hd : dvsD X.K dvs dds) (hn : ∀ ds, (φ ds).isSome = true → ds.length = n)
    (kk : ∀ (m : Option Addr) (E : Ef) (G0 G : Hp) (e : Ev) (σ : St) (H : Hp) (rs : List Rs) (e' : Ev) (Q : List V → Hp → Prop),
    Rl X.K m E G0 G e σ H → fa e = some (rs, e') → (∀ vs G' H', Rl X.K m E G0 G' e' σ H' → Stp σ G H e G' H' e' → VrAll X.K E G' H' σ e' vs rs → Q vs H') → t σ H Q)
    (m : Option Addr) (E : Ef) (G0 G : Hp) (e : Ev) (σ : St) (H : Hp) (rr : Rs) (e' : Ev) (Q : VK) (R : Rl X.K m E G0 G e σ H) (q : x_call φ dds fa e = some (rr, e')) (P : Po X.K m E G0 σ G H e rr e' Q) : tCall (spD X.K n φ) dvs E0 t σ H Q := by
  unfold x_call at q
  cases h1 : argsI fa e with
  | none => simp only [h1] at q; cases q
  | some z =>
    obtain ⟨ds, e1⟩ := z
    simp only [h1] at q
    obtain ⟨rs, q1, q2⟩ := argsI_ok h1
    have main : ∀ r, φ (ds ++ dds) = some r → r = rr ∧ e1 = e' → tCall (spD X.K n φ) dvs E0 t σ H Q := fun r h2 ⟨z1, z2⟩ => by
      subst z1 z2
      refine kk m E G0 G e σ H rs e1 _ R q1 fun vs G1 H1 R1 S1 V1 => ?_
      have D1 := vr_imAll V1 q2
      have D2 := dpAll_app D1 (hd G1)
      refine ⟨G1, ds ++ dds, r, R1.gh, D2, ?_, h2, fun v G' H' s1 s2 s3 nw vr => ?_⟩
      · rw [dpAll_len D2]
        exact hn _ (by rw [h2]; rfl)
      · obtain ⟨R2, S2⟩ := R1.called s1 s2 s3 nw
        obtain ⟨V2, N2⟩ := R1.vrf vr fun a o z _ => s3 a o z
        exact P v G' H' R2 (S1.trans S2) V2 (nw_back S1 v N2)
    cases h2 : φ (ds ++ dds) with
    | none => simp only [h2] at q; cases q
    | some r =>
      cases r with
      | im d =>
        simp only [h2, Option.some.injEq, Prod.mk.injEq] at q
        exact main _ h2 q
      | ac d =>
        simp only [h2, Option.some.injEq, Prod.mk.injEq] at q
        exact main _ h2 q
      | br d => simp only [h2] at q; cases q
theorem ed_call {φ : List PyData → Option Rs} (F : Kf X.prog X.w X.K X.mg X.base k x (spD X.K n φ) dvs) (hr : Room j X.A) (hk : k ≤ j) (hd : dvsD X.K dvs dds) (hn : ∀ ds, (φ ds).isSome = true → ds.length = n) (h : AD X (a :: es) fa) (hg : Gl X x := by rfl)
    (hdb : (x == ("__debug__" : Str)) = false := by decide) (he : starEach (a :: es) X.env = (false, eval a X.env) :: starEach es X.env := by rfl) (hpl : (backTo pos (starEach es X.env)).any (·.1) = false := by rfl) :
    ED X (.Call (.Name x p) (a :: es) [] pos) (x_call φ dds fa) := by
  obtain ⟨f, fd, ps, ds, F, hm, kp, hb, hv⟩ := F
  obtain ⟨t, pa, kk⟩ := h
  exact ⟨_, pe_call F (hr.mono hk) hg hm kp hb hv (E := E0) (fun _ _ _ _ _ _ _ z => z.elim) pa hdb he hpl, call_ok hd hn kk⟩
theorem ed_call0 {φ : List PyData → Option Rs} (F : Kf X.prog X.w X.K X.mg X.base k x (spD X.K n φ) dvs) (hr : Room j X.A) (hk : k ≤ j) (hd : dvsD X.K dvs dds) (hn : ∀ ds, (φ ds).isSome = true → ds.length = n) (hg : Gl X x := by rfl)
    (hdb : (x == ("__debug__" : Str)) = false := by decide) : ED X (.Call (.Name x p) [] [] pos) (x_call φ dds a_nil) := by
  obtain ⟨f, fd, ps, ds, F, hm, kp, hb, hv⟩ := F
  refine ⟨_, pe_call0 F (hr.mono hk) hg hm kp hb hv (E := E0) (fun _ _ _ _ _ _ _ z => z.elim) hdb, ?_⟩
  exact call_ok hd hn fun m E G0 G e σ H rs e' Q R q P => by
    cases q
    exact P [] G H R Stp.refl True.intro
end
def finR (r : Rs) (e : Ev) : Option Rs := match r with
  | .im d => some (.im d)
  | .ac ds => some (.ac ds)
  | .br i => (match e[i]? with
    | some (some (.ac ds)) => some (.ac ds)
    | _ => none)
def env0 (ds : List PyData) (nl : Nat) : Ev := ds.map (fun d => some (Sl.im d)) ++ List.replicate nl none
def runF (n nl : Nat) (g : Fs) (ds : List PyData) : Option Rs := if ds.length = n then (match g (env0 ds nl) with
  | some (.rt r e) => finR r e
  | some (.nx _) => some (.im .none)
  | _ => none) else none
theorem runF_len {n nl : Nat} {g : Fs} : ∀ ds, (runF n nl g ds).isSome = true → ds.length = n := fun ds h => by
  unfold runF at h
  by_cases z : ds.length = n
  · exact z
  · rw [if_neg z] at h
    cases h
section
variable {K : PySem.W.Frag} {G H : Hp} {vs us : List V} {ds c : List PyData} {nl : Nat}
theorem env0_at {i : Nat} {s : Sl} (h : (env0 ds nl)[i]? = some (some s)) : ∃ d, ds[i]? = some d ∧ s = .im d := by
  unfold env0 at h
  by_cases hi : i < ds.length
  · rw [List.getElem?_append_left (by rw [List.length_map]; exact hi), List.getElem?_map] at h
    cases z : ds[i]? with
    | none => rw [z] at h; cases h
    | some d =>
      rw [z] at h
      cases h
      exact ⟨d, rfl, rfl⟩
  · rw [List.getElem?_append_right (by rw [List.length_map]; omega)] at h
    rw [List.getElem?_replicate] at h
    split at h
    · cases h
    · cases h
theorem st_at {i : Nat} {v : V} {N : List Str} (h : vs[i]? = some v) : (L2.start N vs)[i]? = some (some v) := by
  unfold L2.start
  have hi := (List.getElem?_eq_some_iff.mp h).1
  rw [List.getElem?_append_left (by rw [List.length_map]; exact hi), List.getElem?_map, h]
  rfl
theorem rz_start {N : List Str} (s : Same G H) (q : DpAll K G vs ds) (hl : vs.length + nl = N.length) : Rz K none (Ef.of H) G G (env0 ds nl) (L2.start N vs) H := by
  refine ⟨⟨Same.refl _, s, fun a o z _ => z, fun a z => (by cases z), fun a z _ => z, ?_, fun i d z => ?_, fun i d z => ?_, fun i j di dj p z => ?_, fun i dss z => ?_, Wl.non fun i t z => by
    obtain ⟨d', z1, z2⟩ := env0_at z
    cases z2⟩, fun p z => by cases z⟩
  · unfold env0 L2.start
    simp only [List.length_append, List.length_map, List.length_replicate]
    rw [dpAll_len q] at hl ⊢
    omega
  · obtain ⟨d', z1, z2⟩ := env0_at z
    cases z2
    obtain ⟨v, z3, z4⟩ := dpAll_get q z1
    exact ⟨v, st_at z3, z4⟩
  · obtain ⟨d', z1, z2⟩ := env0_at z
    cases z2
  · obtain ⟨d', z1, z2⟩ := env0_at z
    cases z2
  · obtain ⟨d', z1, z2⟩ := env0_at z
    cases z2
    exact True.intro
end
section
variable {P : Program} {w : World} {K : PySem.W.Frag} {mg : Str → Option Value} {base : Heap} {x qual : Str} {params : Arguments} {body : List Stmt} {scope : Scope} {dvs : List V} {kws : List (Str × V)} {f : Addr} {fd : FuncData} {N ps : List Str} {k n nl : Nat} {g : Fs}
theorem fnD (F : FunD K x qual params body scope dvs kws f fd) (S : FnScope N ps scope) (hp : ps.length = n) (hl : n + nl = N.length)
    (hb : ∀ (cdv : Value) (A : Around) (outer : List Env) (s : Shared) (H : Hp) (E : XK), Room k (A.deeper (envOfC qual scope s.heap.objs.size f cdv)) → SsD (cxOf CX0 P w K mg base N qual scope f cdv A outer s H E).nox body g) :
    FnOk P w K mg base CX0 (k + 1) f fd ps (spD K n (runF n nl g)) := by
  refine F.ok S (fun vs H Q E h => ?_) fun cdv A outer s H vs Q E hr h => ?_
  · obtain ⟨_, _, _, _, _, h, _⟩ := h
    rw [h, hp]
  · obtain ⟨t, pt, kt⟩ := hb cdv A outer s H E hr
    obtain ⟨G, ds, r, s1, hd, hv, hr2, hQ⟩ := h
    refine ⟨t, pt.nox, ?_⟩
    have Rz0 : Rz K none (Ef.of H) G G (env0 ds nl) (L2.start N vs) H := rz_start s1 hd (by omega)
    unfold runF at hr2
    rw [if_pos (by rw [← dpAll_len hd]; exact hv)] at hr2
    split at hr2
    · rename_i r' e' h1
      refine kt none (Ef.of H) G G _ _ H _ _ Rz0 h1 fun v G' σ' H' s2 R' V' => ?_
      have hh : Same H H' := fun a o z => R'.r.eh a o z (by simp)
      have nw : ∀ a, G a = none → H a ≠ none → G' a = none := R'.r.nw
      refine hQ v G' H' s2 R'.r.gh hh nw ?_
      unfold finR at hr2
      cases r' with
      | im d =>
        cases hr2
        exact V'
      | ac d =>
        cases hr2
        obtain ⟨p, ws, a1, a2, a3, a4, a5, _⟩ := V'
        exact ⟨p, ws, a1, a2, a3, a4, a5⟩
      | br i =>
        dsimp only at hr2
        split at hr2
        · rename_i d h2
          cases hr2
          have b2 : σ'[i]? = some (some v) := V'
          obtain ⟨p, ws, a1, a2, a3, a4, a5⟩ := R'.r.ac i d h2
          rw [a1] at b2
          cases b2
          have a5 : H p = none := by
            rcases a5 with a5 | a5
            · exact a5
            · cases a5.1
          exact ⟨p, ws, rfl, a5, a2, a3, a4⟩
        · cases hr2
    · rename_i e' h1
      cases hr2
      refine kt none (Ef.of H) G G _ _ H _ _ Rz0 h1 fun G' σ' H' s2 R' => ?_
      exact hQ .non G' H' s2 R'.r.gh (fun a o z => R'.r.eh a o z (by simp)) R'.r.nw .non
    · cases hr2
end
end DL
namespace DL
open PySem PySem.Spec PyProof.Rows L2
end DL
namespace DL
open PySem PySem.Spec PySem.W PyProof.Rows L2 Calls
def tI (k : List Int) : PyData := .tuple (k.map PyData.int)
def upT (ks : List (List Int)) : List (List Int) := ks.mergeSort fun p q => decide (p ≤ q)
def okT (ks : List (List Int)) : Bool := decide (ks.length ≤ 1) || ks.all fun k => !k.isEmpty
theorem upT_perm (ks : List (List Int)) : (upT ks).Perm ks := List.mergeSort_perm _ _
theorem upT_pw (ks : List (List Int)) : (upT ks).Pairwise (· ≤ ·) := by
  have z := List.pairwise_mergeSort (le := fun p q : List Int => decide (p ≤ q)) (fun a b c h1 h2 => by
    rw [decide_eq_true_eq] at h1 h2 ⊢
    exact List.le_trans h1 h2) (fun a b => by
    rw [Bool.or_eq_true, decide_eq_true_eq, decide_eq_true_eq]
    exact List.le_total a b) ks
  exact z.imp fun h => of_decide_eq_true h
theorem upT_uniq {ks ms : List (List Int)} (h : ms.Perm ks) (k : ms.Pairwise (· ≤ ·)) : ms = upT ks :=
  List.Perm.eq_of_pairwise (le := (· ≤ ·)) (fun a b _ _ h1 h2 => List.le_antisymm h1 h2) k (upT_pw ks) (h.trans (upT_perm ks).symm)
theorem upT_congr {ks ms : List (List Int)} (h : ms.Perm ks) : upT ms = upT ks := upT_uniq ((upT_perm ms).trans h) (upT_pw ms)
theorem dataLe_tups : dataLe false tI = fun p q => decide (p ≤ q) := dataLe_rows fun k : List Int => k
theorem alike_tI (p q : List Int) : alike (tI p) (tI q) = true := alike_ints p q
theorem depth_tI (p : List Int) : (tI p).depth ≤ 1 := by
  show PyData.depthAll (p.map .int) + 1 ≤ 1
  rw [depth_ints]
  exact Nat.le_refl _
theorem okT_two {ks : List (List Int)} (h : okT ks = true) (h2 : ¬ ks.length ≤ 1) : Sortable (ks.map tI) := by
  unfold okT at h
  rw [Bool.or_eq_true, decide_eq_true_eq] at h
  rcases h with h | h
  · exact absurd h h2
  · refine .inl fun d hd => ?_
    obtain ⟨k, hk, rfl⟩ := List.mem_map.mp hd
    have z := List.all_eq_true.mp h k hk
    cases k with
    | nil => cases z
    | cons i k => exact ⟨.int i, k.map .int, rfl⟩
theorem perm_one {α : Type} {xs ys : List α} (p : xs.Perm ys) (h : ys.length ≤ 1) : xs = ys := by
  match ys, h with
  | [], _ => exact p.eq_nil
  | [y], _ => exact List.perm_singleton.mp p
theorem upT_one {ks : List (List Int)} (h : ks.length ≤ 1) : upT ks = ks := perm_one (upT_perm ks) h
section
variable {prog : Program} {w : World} {A : Around} {E : Value → Shared → Prop} {s : Shared} {vs : List Value} {ks : List (List Int)} {R : Value → List Int → Prop}
/-- one item or none: nothing is compared -/
theorem sort_few {a : Addr} {n : Nat} {P : PySem.Fin → Shared → Prop} (ho : s.heap.get? a = some (seqObj "list" vs.toArray n)) (h1 : vs.length ≤ 1) (h : P (.done (.ret .none)) { s with heap := sortedHeap s.heap a vs vs.toArray }) :
    wpAny (model prog w) A (Builtin.«list.sort» ⟨[.ref a], []⟩) P E s := by
  refine SK.plain_sort (r := fun _ => 0) ho (by omega) (fun h2 => by omega) fun ps out e1 e2 _ => ?_
  have e3 : out.toList = vs := by
    have z := e2.map Prod.snd
    rw [← e1, List.map_snd_zip (Nat.le_refl _)] at z
    exact perm_one z h1
  have e4 : out = vs.toArray := by rw [← e3]
  rw [e4]
  exact h
theorem sorted_tlist {l : Addr} {Q : Value → Shared → Prop} (hl : s.heap.IsList l vs.toArray) (e : EachIs R vs ks) (er : EachIs (fun v k => ∃ as, Reads s.heap v (tI k) as) vs ks) (hk : okT ks = true) (hL : ks.length ≤ sizeLine) (hu : A.units + 4 < cLine)
    (h : ∀ out, EachIs R out (upT ks) → Q (.ref (s.heap.objs.size + 1)) { s with heap := sortedAll s.heap vs (List.toArray out) }) : wpAny (model prog w) A (call (.builtin "sorted") [.ref l]) Q E s := by
  by_cases h1 : ks.length ≤ 1
  · refine sorted_of_sort hl (by rw [e.length]; exact hL) (args_sorted1 _) (fun _ => args_list_sort _) fun _ => ?_
    refine sort_few (s := { s with heap := copyHeap s.heap vs }) (copyHeap_at s.heap vs) (by rw [e.length]; exact h1) ⟨rfl, h vs ?_⟩
    rw [upT_one h1]
    exact e
  · refine sorted_data (enc := tI) hl e er (AllAlike.of alike_tI) (okT_two hk h1) hL (fun b _ => by have := depth_tI b; omega) fun out _ eo => h out ?_
    rw [dataLe_tups] at eo
    exact eo
end
def IsK (K : PySem.W.Frag) (G : Hp) (v : Value) (k : List Int) : Prop := ∃ x, RelV x v ∧ Dp K G x (tI k)
theorem isK_all {K : PySem.W.Frag} {G : Hp} : ∀ {ws : List V} {us : List Value} {ks : List (List Int)}, DpAll K G ws (ks.map tI) → Vals ws us → EachIs (IsK K G) us ks
  | [], _, [], _, .nil => .nil
  | w :: ws, _, k :: ks, .cons h t, .cons r q => .cons ⟨w, r, h⟩ (isK_all t q)
  | [], _, _ :: _, h, _ => by cases h
  | _ :: _, _, [], h, _ => by cases h
theorem isK_back {K : PySem.W.Frag} {G : Hp} : ∀ {us : List Value} {ks : List (List Int)}, EachIs (IsK K G) us ks → ∃ ws, Vals ws us ∧ DpAll K G ws (ks.map tI)
  | _, _, .nil => ⟨[], .nil, .nil⟩
  | _, _, .cons h t => by
    obtain ⟨x, r, d⟩ := h
    obtain ⟨ws, r2, d2⟩ := isK_back t
    exact ⟨x :: ws, .cons r r2, .cons d d2⟩
theorem isK_reads {X : Cx} {pins : List (Addr × Obj)} {σ : St} {G H : Hp} {s : Shared} (I : Inv X pins σ H s) (sg : Same G H) {us : List Value} {ks : List (List Int)} (e : EachIs (IsK X.K G) us ks) : EachIs (fun v k => ∃ as, Reads s.heap v (tI k) as) us ks :=
  e.mono fun v k ⟨x, r, d⟩ => L2.Dp.reads I _ x v ((dp_same sg d).lib (noDict_ints _)) r
section
variable {X : Cx}
/-- sorted(xs), xs a list of tuples of ints -/
def rSortTL (K : PySem.W.Frag) : List V → Hp → VK → Prop := fun vs H Q => ∃ (G : Hp) (a : Addr) (ws : List V) (ks : List (List Int)), Same G H ∧ vs = [.ref a] ∧ SqL K H a ws ∧ DpAll K G ws (ks.map tI) ∧ okT ks = true ∧
  ∀ ys p, DpAll K G ys ((upT ks).map tI) → H p = none → Q (.ref p) (upd H p (.lst ys))
theorem cr_sortTL (hu : X.A.units + 64 < cLine) : CallR X (.builtin "sorted") (rSortTL X.K) := by
  intro pins s σ H vs us Q I r h
  obtain ⟨G, a, ws, ks, sg, rfl, hs, hd, ok, q⟩ := h
  obtain ⟨its, rv, pl, hz⟩ := I.list hs
  rw [Vals.ref1 r]
  have e := isK_all hd rv
  have hl : ks.length ≤ sizeLine := by
    rw [← e.length, ← rv.length]
    exact hz
  refine sorted_tlist pl.isList e (isK_reads I sg e) ok hl (by omega) fun out eo => ?_
  obtain ⟨ys, r2, d2⟩ := isK_back eo
  obtain ⟨c, hat⟩ := sortedAll_at s.heap its out.toArray
  have hl2 : ys.length ≤ sizeLine := by
    rw [dpAll_len d2, List.length_map, (upT_perm ks).length_eq]
    exact hl
  exact ⟨.ref _, upd H (s.heap.objs.size + 1) (.lst ys), I.laid (t' := s.toks) (fun _ _ => sortedAll_old) (Nat.le_succ _) ⟨hl2, out, c, r2, hat⟩, rfl, q ys _ d2 (I.hok.fresh (Nat.le_succ _))⟩
end
end DL
namespace DL
open PySem PySem.Spec PyProof.Rows L2
theorem enumNew1 {v : Value} {ob : Obj} {P : Heap → Prop} (B : Begins v ob P) :
    Meets (Builtin.«enumerate.__new__» ⟨[.type "enumerate", v], []⟩) fun _ R st => P st.heap ∧
      R (.ok (.ret (.ref (st.heap.push ob).objs.size))) { st with heap := (st.heap.push ob).push { cls := .type "enumerate", data := .fields #[.none, .bool false, .ref st.heap.objs.size, rawInt 0, .none, .none] } } :=
  .of_wp fun pr wo Ar R st z => by
    obtain ⟨he, ge, dr, to, oo⟩ := st
    obtain ⟨z1, z2⟩ := z
    have sb := sub_enumerate
    have it1 : ∀ {A' : Around} {E' : Value → Shared → Prop} {Q' : Value → Shared → Prop}, Q' (.ref he.objs.size) ⟨he.push ob, ge, dr, to, oo⟩ → wpAny (model pr wo) A' (pyIter v) Q' E' ⟨he, ge, dr, to, oo⟩ := fun y => B.iter pr wo _ _ ⟨he, ge, dr, to, oo⟩ _ z1 y
    wp_walk using it1
    refine wpAny_stack_any fun sk => wpAny_pure ?_
    split
    · rename_i cc _ _ _ _ _
      cases (cc == Value.type "enumerate") <;> (wp_walk using it1; exact ⟨_, rfl, z2⟩)
    · wp_walk using it1
      exact ⟨_, rfl, z2⟩
theorem enumCall1 {prog : Program} {w : World} {A : Around} {E : Value → Shared → Prop} {s : Shared} {v : Value} {ob : Obj} {P : Heap → Prop} {Q : Value → Shared → Prop} (B : Begins v ob P) (h1 : P s.heap)
    (h : ∀ g, IsEnum g (s.heap.objs.size + 1) s.heap.objs.size 0 .none → g.get? s.heap.objs.size = some ob → (∀ b u, s.heap.get? b = some u → g.get? b = some u) → Q (.ref (s.heap.objs.size + 1)) { s with heap := g }) :
    wpAny (model prog w) A (call (.type "enumerate") [v]) Q E s := by
  refine callType_new F.called_enumerate (by decide) (F.typeCall_enumerate_1 _) (F.newCall_enumerate_1 _) (fun x => F.args_object_init_2 x _) F.entry_enumerate_new (enumNew1 B) ⟨h1, ?_⟩
  have sz : (s.heap.push ob).objs.size = s.heap.objs.size + 1 := Heap.size_push ..
  have old : ∀ b u, s.heap.get? b = some u → ((s.heap.push ob).push { cls := .type "enumerate", data := .fields #[.none, .bool false, .ref s.heap.objs.size, rawInt 0, .none, .none] }).get? b = some u := fun b u y => Heap.get?_push_of_some _ (Heap.get?_push_of_some _ y)
  have en := Heap.get?_push_size (s.heap.push ob) (o := { cls := .type "enumerate", data := .fields #[.none, .bool false, .ref s.heap.objs.size, rawInt 0, .none, .none] }) rfl
  show _ ∧ _
  rw [sz] at en ⊢
  exact ⟨⟨_, en, rfl⟩, h _ en (Heap.get?_push_of_some _ (Heap.get?_push_size _ B.free)) old⟩
/-- the tuple at a, each item in a new pair -/
def ItE (K : PySem.W.Frag) (a : Addr) : It where
  go := fun i H => ∃ xs x, SqT K H a xs ∧ xs[i]? = some x
  yld := fun i H v H' => ∃ T x, v = .ref T ∧ H T = none ∧ H' = upd H T (.tup [.int (i : Nat), x]) ∧ ∀ xs, SqT K H a xs → xs[i]? = some x
  stop := fun i H => ∃ xs : List V, SqT K H a xs ∧ xs.length = i
theorem turn_enumT {P : Program} {w : World} {K : PySem.W.Frag} {elts : List Expr} {kk : Nat} {tpos : Pos} (a e it : Addr) :
    Turn P w K (.Tuple elts kk tpos) (ItE K a) [e, it] e fun i h => (∃ old, IsEnum h e it ((i : Nat) : Int) old) ∧ h.IsTupleIter it a i ∧ e ≠ it ∧ a ≠ it ∧ a ≠ e where
  mem := List.mem_cons_self
  obj := fun i h ⟨⟨old, z1⟩, ⟨o, z2, z3, z4⟩, _⟩ b hb => by
    rcases List.mem_cons.mp hb with y | y
    · subst y
      exact ⟨_, z1, fun v q => nomatch q⟩
    · rw [List.mem_singleton.mp y]
      exact ⟨o, z2, fun v q => by rw [z4] at q; cases q⟩
  keep := fun i h h' ⟨⟨old, z1⟩, z2, z3⟩ k => ⟨⟨old, k e List.mem_cons_self _ z1⟩, z2.at fun o q => k it (List.mem_cons_of_mem _ List.mem_cons_self) o q, z3⟩
  item := by
    intro X e1 e2 e3 hc i pins s σ H E I hf ⟨⟨old, z1⟩, z2, z3, z4, z5⟩ ⟨xs, x, hq, hx⟩
    subst e1 e2 e3
    obtain ⟨its, rv, tp, hz⟩ := I.tuple hq
    obtain ⟨u, hu, ru⟩ := rv.get hx
    have li : i < its.toArray.size := by
      rw [List.size_toArray]
      exact (List.getElem?_eq_some_iff.mp hu).1
    have le : e < s.heap.objs.size := Heap.lt_size z1
    have lt : it < s.heap.objs.size := by
      obtain ⟨_, q, _⟩ := z2
      exact Heap.lt_size q
    have D := Draws.tuple (prog := X.prog) (w := X.w) (A := X.A.in1) (by exact I.ok.hd hc) it a z4 its.toArray
    refine wpAny_pyNext_enum_itemD D z1 ⟨z2, tp⟩ li z3 (by
      intro m
      rcases List.mem_cons.mp m with y | y
      · exact z3 y
      · exact z5 (List.mem_singleton.mp y).symm) fun u2 g tk hu2 eo st gT gs gk => ?_
    have eu : u2 = u := by
      have y : its.toArray[i]? = some u2 := hu2
      rw [List.getElem?_toArray, hu] at y
      exact (Option.some.inj y).symm
    subst eu
    refine ⟨_, rfl, wpAny_letOwnedTupleGo_enum (s := { s with heap := g, toks := tk + 1 }) eo fun g2 eo2 sb => ?_⟩
    have nT : s.heap.objs.size ≠ e := Nat.ne_of_gt le
    have gT2 := (sb.2 _ nT).trans gT
    have new : ObjOk X.prog X.w (upd H s.heap.objs.size (.tup [.int (i : Nat), x])) g2 s.heap.objs.size (.tup [.int (i : Nat), x]) := ⟨by show 2 ≤ sizeLine; decide, [.int i tk, u2], .cons ⟨_, rfl⟩ (.cons ru .nil), ⟨_, gT2, rfl, _, rfl⟩⟩
    have out : ∀ {b : Addr}, b ∉ [e, it] → b ≠ e ∧ b ≠ it := fun {b} m => ⟨fun y => m (by rw [y]; exact List.mem_cons_self), fun y => m (by rw [y]; exact List.mem_cons_of_mem _ List.mem_cons_self)⟩
    have J := I.turnedNew (t' := tk + 1) (ch := [e, it]) (fun b ob m y => (sb.2 b (out m).1).trans (gk b ob (out m).1 (out m).2 y)) hf (Nat.le_refl _) new
    refine ⟨.ref s.heap.objs.size, _, J, rfl, ⟨_, x, rfl, I.hok.fresh (Nat.le_refl _), rfl, fun ys hy => by rw [I.tuple_inj hy hq]; exact hx⟩, ⟨⟨u2, ?_⟩, st.1.at fun o q => (sb.2 it z3.symm).trans q, z3, z4, z5⟩, fun b m => ?_⟩
    · rw [show (((i + 1 : Nat) : Nat) : Int) = (i : Int) + 1 by omega]
      exact eo2
    · have lb : b < s.heap.objs.size := by
        rcases List.mem_cons.mp m with y | y
        · rw [y]; exact le
        · rw [List.mem_singleton.mp y]; exact lt
      rw [upd_ne (Nat.ne_of_lt lb)]
      exact (hf b m).1
  done := by
    intro X e1 e2 e3 hc i pins s σ H E I hf ⟨⟨old, z1⟩, z2, z3, z4, z5⟩ ⟨xs, hq, hx⟩
    subst e1 e2 e3
    obtain ⟨its, rv, tp, hz⟩ := I.tuple hq
    have le : e < s.heap.objs.size := Heap.lt_size z1
    have D := Draws.tuple (prog := X.prog) (w := X.w) (A := X.A.in1) (by exact I.ok.hd hc) it a z4 its.toArray
    obtain ⟨f0, f1, f2, f3, f4, f5⟩ := hf it (List.mem_cons_of_mem _ List.mem_cons_self)
    have big : its.toArray.size = i := by
      rw [List.size_toArray, ← rv.length]
      exact hx
    rw [← big] at z2
    exact wpAny_pyNext_enum_endD D z1 ⟨z2, tp⟩ fun g eb => ⟨rfl, I.turned (t' := s.toks) (fun b o m y => eb b o m y) f0 f1 f3 f4 f5⟩
  self := fun A i s Q E ⟨⟨_, z⟩, _⟩ h => wpAny_pyIter_enum z h
def iEnumT (K : PySem.W.Frag) (ta : TA) : TI := fun σ H R => ta σ H fun vs H1 => ∃ a xs, vs = [.ref a] ∧ SqT K H1 a xs ∧ R (ItE K a) H1
theorem pi_enumT {X : Cx} {e : Expr} {ta : TA} {p pos tpos : Pos} {elts : List Expr} {kk : Nat} (hg : Gl X "enumerate") (hm : X.mg "enumerate" = none) (ha : PA X [e] ta) (hs : starEach [e] X.env = [(false, eval e X.env)] := by rfl) :
    PI X (.Tuple elts kk tpos) (.Call (.Name "enumerate" p) [e] [] pos) (iEnumT X.K ta) := by
  refine ⟨fun pins s σ H R I h => Call_ (ld_blt I hg hm boot_enumerate (callWith_type1 (thn (ha.run pos pins s σ H _ I h) fun us s1 z => ?_) hs rfl))⟩
  obtain ⟨vs, H1, I1, r1, a, xs, rfl, hq, q⟩ := z
  rw [Vals.ref1 r1]
  obtain ⟨its, rv, tp, hz⟩ := I1.tuple hq
  have la : a < s1.heap.objs.size := by
    obtain ⟨o, ho, _⟩ := tp
    exact Heap.lt_size ho
  refine enumCall1 (begins_tuple a its.toArray) tp fun g z1 z2 z3 => wpAny_pyIter_enum z1 ?_
  have nn : ∀ b ∈ [s1.heap.objs.size + 1, s1.heap.objs.size], s1.heap.objs.size ≤ b := fun b m => by
    rcases List.mem_cons.mp m with y | y
    · omega
    · rw [List.mem_singleton.mp y]
      exact Nat.le_refl _
  exact ⟨_, _, _, _, H1, rfl, I1.kept (t' := s1.toks) z3, turn_enumT a (s1.heap.objs.size + 1) s1.heap.objs.size, ⟨⟨.none, z1⟩, ⟨_, z2, rfl, rfl⟩, Nat.succ_ne_self _, Nat.ne_of_lt la, Nat.ne_of_lt (Nat.lt_succ_of_lt la)⟩, fun b m => I1.fpOk (nn b m) (I1.hok.fresh (nn b m)), q⟩
def enumD (ds : List PyData) : List PyData := (List.range ds.length).zipWith (fun (i : Nat) d => PyData.tuple [.int (i : Int), d]) ds
theorem enumD_at {ds : List PyData} {i : Nat} {d : PyData} (h : (enumD ds)[i]? = some d) : ∃ x, ds[i]? = some x ∧ d = .tuple [.int (i : Int), x] := by
  unfold enumD at h
  rw [List.getElem?_zipWith] at h
  cases z1 : (List.range ds.length)[i]? with
  | none => rw [z1] at h; cases h
  | some j =>
    cases z2 : ds[i]? with
    | none => rw [z1, z2] at h; cases h
    | some x =>
      rw [z1, z2] at h
      obtain ⟨y1, y2⟩ := List.getElem?_eq_some_iff.mp z1
      rw [List.getElem_range] at y2
      subst y2
      cases h
      exact ⟨x, rfl, rfl⟩
theorem enumD_len {ds : List PyData} : (enumD ds).length = ds.length := by
  unfold enumD
  rw [List.length_zipWith, List.length_range, Nat.min_self]
section
variable {K : PySem.W.Frag} {G0 : Hp} {a : Addr} {xs : List V} {ds : List PyData}
theorem walk_enumT (h : SqT K G0 a xs) (q : DpAll K G0 xs ds) : WalkD K G0 (ItE K a) (enumD ds) := by
  intro G H s1 s2
  have hq : SqT K H a xs := seqT (s1.trans s2) h
  refine ⟨fun i d e => ?_, xs, hq, by rw [enumD_len, dpAll_len q]⟩
  obtain ⟨x, e1, rfl⟩ := enumD_at e
  obtain ⟨v, e2, e3⟩ := dpAll_get q e1
  refine ⟨⟨xs, v, hq, e2⟩, fun u H2 ⟨T, y, z1, z2, z3, z4⟩ => .inr ⟨T, [.int (i : Nat), y], _, z1, z2, z3, rfl, ?_⟩⟩
  have z5 := z4 xs hq
  rw [e2] at z5
  cases z5
  exact .cons (.int _) (.cons (dp_same s1 e3) .nil)
theorem walk_enumL (h : SqL K G0 a xs) (q : DpAll K G0 xs ds) : WalkD K G0 (Ite K a) (enumD ds) := by
  intro G H s1 s2
  have hq : SqL K H a xs := (s1.trans s2).seq h
  refine ⟨fun i d e => ?_, xs, hq, by rw [enumD_len, dpAll_len q]; exact Nat.le_refl _⟩
  obtain ⟨x, e1, rfl⟩ := enumD_at e
  obtain ⟨v, e2, e3⟩ := dpAll_get q e1
  refine ⟨⟨xs, v, hq, e2⟩, fun u H2 ⟨T, y, z1, z2, z3, z4⟩ => .inr ⟨T, [.int (i : Nat), y], _, z1, z2, z3, rfl, ?_⟩⟩
  have z5 := z4 xs hq
  rw [e2] at z5
  cases z5
  exact .cons (.int _) (.cons (dp_same s1 e3) .nil)
end
def i_enum (f : Fe) : Fi := fun e => match i_seq f e with
  | some (ds, e1) => some (enumD ds, e1)
  | none => none
theorem id_enum {X : Cx} {a : Expr} {fa : Fe} {pos p tpos : Pos} {elts : List Expr} {kk : Nat} (ha : ED X a fa) (hm : X.mg "enumerate" = none) (hg : Gl X "enumerate" := by rfl) (hs : starEach [a] X.env = [(false, eval a X.env)] := by rfl) :
    ID X (.Tuple elts kk tpos) (.Call (.Name "enumerate" p) [a] [] pos) (i_enum fa) := by
  obtain ⟨t, pa, k⟩ := ha
  refine ⟨_, pi_or (pi_enum hg hm (pa_cons pa pa_nil hs) hs) (pi_enumT hg hm (pa_cons pa pa_nil hs) hs), fun m E G0 G e σ H ds e' Q R q P => ?_⟩
  unfold i_enum at q
  cases h1 : i_seq fa e with
  | none => rw [h1] at q; cases q
  | some z =>
    obtain ⟨ds0, e1⟩ := z
    rw [h1] at q
    cases q
    obtain ⟨r, q1, q2⟩ := i_seq_ok h1
    rcases q2 with q2 | q2
    · refine .inl (k m E G0 G e σ H r _ _ R q1 fun v G1 H1 R1 S1 V1 N1 => ?_)
      obtain ⟨G2, R2, S2, s2, V2⟩ := R1.freeze S1 V1 N1
      rw [q2] at V2
      have V3 : Dp X.K G2 v (.list ds0) := V2
      cases V3 with
      | lst h z => exact ⟨_, _, rfl, R2.gh.seq h, P _ _ _ R2 S2 (walk_enumL h z)⟩
    · refine .inr (k m E G0 G e σ H r _ _ R q1 fun v G1 H1 R1 S1 V1 N1 => ?_)
      obtain ⟨G2, R2, S2, s2, V2⟩ := R1.freeze S1 V1 N1
      rw [q2] at V2
      have V3 : Dp X.K G2 v (.tuple ds0) := V2
      cases V3 with
      | tup h z => exact ⟨_, _, rfl, seqT R2.gh h, P _ _ _ R2 S2 (walk_enumT h z)⟩
end DL
namespace DL
open PySem PySem.Spec PySem.W PyProof.Rows L2
def unT : List PyData → Option (List (List Int))
  | [] => some []
  | .tuple d :: ds => (match unI d, unT ds with
    | some k, some ks => some (k :: ks)
    | _, _ => none)
  | _ :: _ => none
theorem unT_ok : ∀ {ds : List PyData} {ks : List (List Int)}, unT ds = some ks → ds = ks.map tI
  | [], ks, h => by
    cases h
    rfl
  | d :: ds, ks, h => by
    unfold unT at h
    split at h
    · rename_i z
      cases z
    · rename_i d0 ds0 z
      cases z
      split at h
      · rename_i k ks0 h1 h2
        cases h
        rw [unI_ok h1, unT_ok h2]
        rfl
      · cases h
    · cases h
theorem unT_map : ∀ (ks : List (List Int)), unT (ks.map tI) = some ks
  | [] => rfl
  | k :: ks => by
    have e : ∀ (k : List Int), unI (k.map PyData.int) = some k := by
      intro k
      induction k with
      | nil => rfl
      | cons i k ih =>
        show (unI (k.map PyData.int)).map (i :: ·) = _
        rw [ih]
        rfl
    show (match unI (k.map PyData.int), unT (ks.map tI) with
      | some k, some ks => some (k :: ks)
      | _, _ => none) = _
    rw [e, unT_map ks]
def c_sortedT : List PyData → Option Rs
  | [.list ds] => (match unT ds with
    | some ks => if okT ks = true then some (.ac ((upT ks).map tI)) else none
    | none => none)
  | _ => none
theorem vc_sortedT {K : PySem.W.Frag} : VC K (rSortTL K) c_sortedT := by
  intro m E G0 G e σ H vs ds rr Q R l q P
  unfold c_sortedT at q
  split at q
  · rename_i es
    split at q
    · rename_i ks h
      by_cases ok : okT ks = true
      · rw [if_pos ok] at q
        cases q
        rw [unT_ok h] at l
        obtain ⟨v, rfl, lv⟩ := lv1 l
        obtain ⟨p, ws, rfl, s1, k⟩ := lv.list R.gh
        refine ⟨G, p, ws, ks, R.gh, rfl, s1, k, ok, fun ys p2 d hp => ?_⟩
        obtain ⟨R', S', V', N'⟩ := R.newL hp d
        exact P _ _ _ R' S' V' N'
      · rw [if_neg ok] at q
        cases q
    · cases q
  · cases q
def c_sortedA : List PyData → Option Rs := orC c_sortedI c_sortedT
theorem vc_sortedA {K : PySem.W.Frag} : VC K (fun vs H Q => rSortedI K vs H Q ∨ rSortTL K vs H Q) c_sortedA := VC.or vc_sortedI vc_sortedT
theorem cr_sortedA {X : Cx} (hu : X.A.units + 64 < cLine) : CallR X (.builtin "sorted") (fun vs H Q => rSortedI X.K vs H Q ∨ rSortTL X.K vs H Q) := CallR.or cr_sortedI (cr_sortTL hu)
def rgOkB (a b : Int) : Bool := decide (-(2 ^ 62) ≤ a) && (decide (a < 2 ^ 62) && (decide (-(2 ^ 62) ≤ b) && (decide (b < 2 ^ 62) && decide ((b - a).toNat ≤ 2 ^ 24))))
theorem rgOkB_ok {a b : Int} (h : rgOkB a b = true) : RgOk a b := by
  unfold rgOkB at h
  simp only [Bool.and_eq_true, decide_eq_true_eq] at h
  exact h
def rgL (a b : Int) : List PyData := (List.range (b - a).toNat).map fun (j : Nat) => PyData.int (a + (j : Int))
theorem rgV_dp {K : PySem.W.Frag} {G : Hp} (a b : Int) : DpAll K G (rgV a b) (rgL a b) := by
  unfold rgV rgL
  induction (List.range (b - a).toNat) with
  | nil => exact .nil
  | cons i r ih => exact .cons (.int _) ih
abbrev Fg := Ev → Option (Int × Int × Ev)
def g_rg1 (fa : Fe) : Fg := fun e => match fa e with
  | some (.im (.int b), e1) => some (0, b, e1)
  | _ => none
structure RgD (X : Cx) (x : Expr) (f : Fg) : Prop where
  ex : ∃ t, PRg X x t ∧ ∀ (m : Option Addr) (E : Ef) (G0 G : Hp) (e : Ev) (σ : St) (H : Hp) (a b : Int) (e' : Ev) (Q : Int → Int → Hp → Prop),
    Rl X.K m E G0 G e σ H → f e = some (a, b, e') → (∀ G' H', Rl X.K m E G0 G' e' σ H' → Stp σ G H e G' H' e' → Q a b H') → t σ H Q
section
variable {X : Cx} {a b : Expr} {fa fb : Fe} {p pos : Pos}
theorem rgd1 (ha : ED X a fa) (hm : X.mg "range" = none) (hg : Gl X "range" := by rfl) (na : starEach [a] X.env = (false, eval a X.env) :: starEach [] X.env := by rfl) : RgD X (.Call (.Name "range" p) [a] [] pos) (g_rg1 fa) := by
  obtain ⟨t, pa, k⟩ := ha
  refine ⟨_, prg_1 hg hm pa na, fun m E G0 G e σ H i j e' Q R q P => ?_⟩
  unfold g_rg1 at q
  split at q
  · rename_i b e1 h1
    cases q
    refine k m E G0 G e σ H _ _ _ R h1 fun v G1 H1 R1 S1 V1 _ => ?_
    cases V1
    exact ⟨_, rfl, P _ _ R1 S1⟩
  · cases q
def x_trg (f : Fg) : Fe := fun e => match f e with
  | some (a, b, e1) => if rgOkB a b = true then some (.im (.tuple (rgL a b)), e1) else none
  | none => none
theorem ed_trg {f : Fg} (h : RgD X a f) (hc : X.calm = true) (hm : X.mg "tuple" = none) (hg : Gl X "tuple" := by rfl) (na : starEach [a] X.env = (false, eval a X.env) :: starEach [] X.env := by rfl) : ED X (.Call (.Name "tuple" p) [a] [] pos) (x_trg f) := by
  obtain ⟨t, pr, k⟩ := h
  refine ⟨_, pe_tupRg hc hg hm pr na, fun m E G0 G e σ H r e' Q R q P => ?_⟩
  unfold x_trg at q
  split at q
  · rename_i i j e1 h1
    by_cases z : rgOkB i j = true
    · rw [if_pos z] at q
      cases q
      refine k m E G0 G e σ H i j _ _ R h1 fun G1 H1 R1 S1 => ⟨rgOkB_ok z, fun l hl => ?_⟩
      obtain ⟨R', S', V'⟩ := R1.newT hl (rgV_dp (K := X.K) (G := G1) i j)
      exact P _ _ _ R' (S1.trans S') V' True.intro
    · rw [if_neg z] at q
      cases q
  · cases q
end
end DL
namespace DL
open PySem PySem.Spec PySem.W PyProof.Rows L2 Calls
end DL
namespace DL
open PySem PySem.Spec PySem.W PyProof.Rows L2 Calls
end DL
namespace DL
open PySem PySem.Spec PySem.W PyProof.Rows L2
/-- a def under its name, every parameter written -/
theorem kfN {P : Program} {w : World} {K : PySem.W.Frag} {mg : Str → Option Value} {base : Heap} {x qual : Str} {params : Arguments} {body : List Stmt} {scope : Scope} {kws : List (Str × V)} {f : Addr} {fd : FuncData} {k : Nat} {sp : Sp} {ps : List Str}
    (F : FunD K x qual params body scope [] kws f fd) (ok : FnOk P w K mg base CX0 k f fd ps sp) (g : mg x = some (.ref f))
    (h : ∀ (kV doc pm : Value) (an : Option Addr) (cdv ct : Value) (us : List Value), us.length = ps.length → bindArgs (PySem.W.fnOf x qual params body scope .none kV doc pm an cdv ct) ⟨us, []⟩ = pure (ps.zip us)) : Kf P w K mg base k x sp [] :=
  ⟨f, fd, ps, [], ok, g, F.kp, F.bindsN h, .nil⟩
end DL
namespace DL
open PySem PySem.Spec PySem.W PyProof.Rows L2
def nD (n : Nat) : PyData := .int (n : Int)
section
variable {i j : Int}
theorem e_add : p_add (.int i) (.int j) = some (.im (.int (i + j))) := rfl
theorem e_sub : p_sub (.int i) (.int j) = some (.im (.int (i - j))) := rfl
theorem e_eq : p_eq (.int i) (.int j) = some (.im (.bool (decide (i = j)))) := by
  show some (Rs.im (.bool (i == j))) = _
  rw [Bool.beq_eq_decide_eq]
theorem e_ne : p_ne (.int i) (.int j) = some (.im (.bool (!decide (i = j)))) := by
  show some (Rs.im (.bool (!(i == j)))) = _
  rw [Bool.beq_eq_decide_eq]
theorem e_mod (h : 0 < j) : p_mod (.int i) (.int j) = some (.im (.int (i % j))) := by
  show ((if decide (0 < j) = true then some (PyData.int (i % j)) else none).map Rs.im) = _
  rw [if_pos (decide_eq_true h)]
  rfl
theorem e_divW (h : 0 < j) (h2 : j.natAbs.log2 < 9000) : p_div (.int i) (.int j) = some (.im (.int (i / j))) := by
  show ((if divC i j = true then some (PyData.int (i / j)) else none).map Rs.im) = _
  rw [show divC i j = true from decide_eq_true ⟨h, h2⟩]
  rfl
theorem log_few {j : Int} (h : 0 < j) (h2 : j < 1073741824) : j.natAbs.log2 < 9000 := Nat.lt_trans ((Nat.log2_lt (by omega)).mpr (show j.natAbs < 2 ^ 30 by omega)) (by decide)
theorem e_div (h : 0 < j) (h2 : j < 1073741824) : p_div (.int i) (.int j) = some (.im (.int (i / j))) := e_divW h (log_few h h2)
theorem e_mul (h : (-18446744073709551616 < i ∧ i < 18446744073709551616) ∨ (-18446744073709551616 < j ∧ j < 18446744073709551616)) : p_mul (.int i) (.int j) = some (.im (.int (i * j))) := by
  unfold p_mul orF
  have e : (d_int2 (fun i j => .int (i * j)) mulC (.int i) (.int j)).map Rs.im = some (.im (.int (i * j))) := by
    show ((if mulC i j = true then some (PyData.int (i * j)) else none).map Rs.im) = _
    rw [show mulC i j = true from decide_eq_true h]
    rfl
  simp only [e]
end
theorem okLen_yes {n : Nat} (h : n ≤ 16777216) : okLen n = true := decide_eq_true h
theorem e_cat {a b : List PyData} (h : a.length + b.length ≤ 16777216) : p_add (.list a) (.list b) = some (.ac (a ++ b)) := by
  show orF _ (orF q_cat q_catT) (.list a) (.list b) = _
  have e : q_cat (.list a) (.list b) = some (.ac (a ++ b)) := if_pos (okLen_yes h)
  simp only [orF, d_int2, Option.map_none, e]
theorem e_catT {a b : List PyData} (h : a.length + b.length ≤ 16777216) : p_add (.tuple a) (.tuple b) = some (.im (.tuple (a ++ b))) := by
  show orF _ (orF q_cat q_catT) (.tuple a) (.tuple b) = _
  have e : q_catT (.tuple a) (.tuple b) = some (.im (.tuple (a ++ b))) := if_pos (okLen_yes h)
  simp only [orF, d_int2, Option.map_none, q_cat, e]
theorem e_isB {a b : Bool} : p_is (.bool a) (.bool b) = some (.im (.bool (decide (a = b)))) := rfl
theorem e_isnotB {a b : Bool} : p_isnot (.bool a) (.bool b) = some (.im (.bool (!decide (a = b)))) := rfl
theorem e_eqB {a b : Bool} : p_eq (.bool a) (.bool b) = some (.im (.bool (decide (a = b)))) := by
  cases a <;> cases b <;> rfl
theorem atI_nat {α : Type} (ds : List α) (j : Nat) : atI ds (j : Int) = ds[j]? := by
  unfold atI ixN
  rw [if_pos (by omega)]
  by_cases h : j < ds.length
  · rw [if_pos (by omega)]
    simp
  · rw [if_neg (by omega), List.getElem?_eq_none (by omega)]
    rfl
theorem ixN_nat {n j : Nat} (h : j < n) : ixN n (j : Int) = some j := by
  unfold ixN
  rw [if_pos (by omega), if_pos (by omega)]
  simp
theorem unI_ints : ∀ (ns : List Int), unI (ns.map PyData.int) = some ns
  | [] => rfl
  | n :: ns => by
    show (unI (ns.map PyData.int)).map (n :: ·) = _
    rw [unI_ints ns]
    rfl
theorem forGo_nx {γ : PyData → Ev → Option Ev} {S : List Nat} {fb : Fs} (ds : List PyData) (E : Nat → Ev)
    (h : ∀ i d, ds[i]? = some d → okS S (E i) = true ∧ ∃ e2, γ d (E i) = some e2 ∧ (fb e2 = some (.nx (E (i + 1))) ∨ fb e2 = some (.ct (E (i + 1))))) : forGo γ S fb ds (E 0) = some (.nx (E ds.length)) := by
  induction ds generalizing E with
  | nil => rfl
  | cons d ds ih =>
    obtain ⟨h1, e2, h2, h3⟩ := h 0 d rfl
    have q := ih (fun i => E (i + 1)) fun i d hd => h (i + 1) d (by simpa using hd)
    show (if okS S (E 0) = true then _ else none) = _
    rw [if_pos h1, h2]
    rcases h3 with h3 | h3
    · simp only [h3]
      exact q
    · simp only [h3]
      exact q
theorem rest_wipe (e : Ev) (vs : List Nat) : restE e (wipeE e vs) vs = e := by
  refine List.ext_getElem? fun j => ?_
  by_cases h : j ∈ vs
  · rw [restE_in (wipeE_len vs) h]
  · rw [restE_out h, wipeE_out h]
end DL
namespace DL
open PySem PySem.Spec PySem.W PyProof.Rows L2
theorem r_x_var (i : Nat) (e : Ev) : x_var i e = (match e[i]? with
  | some (some (.im d)) => some (.im d, e)
  | some (some (.ac _)) => some (.br i, e)
  | some (some (.ow _)) => some (.br i, e)
  | _ => none) := of_eq_true (eq_self _)
theorem r_two (fa fb : Fe) (e : Ev) : two fa fb e = (match fa e with
  | some (ra, e1) => (match fb e1 with
    | some (rb, e2) => some (frzR ra, frzR rb, e2)
    | none => none)
  | none => none) := of_eq_true (eq_self _)
theorem r_x_bin (φ : PyData → PyData → Option Rs) (fa fb : Fe) (e : Ev) : x_bin φ fa fb e = (match two fa fb e with
  | some p => (match look2 p with
    | some (a, b, e2) => (match φ a b with
      | some r => some (r, e2)
      | none => none)
    | none => none)
  | none => none) := of_eq_true (eq_self _)
theorem r_t_of (f : Fe) (e : Ev) : t_of f e = (match f e with
  | some (.im (.bool b), e1) => some (b, e1)
  | _ => none) := of_eq_true (eq_self _)
theorem r_t_not (f : Ft) (e : Ev) : t_not f e = (match f e with
  | some (b, e1) => some (!b, e1)
  | none => none) := of_eq_true (eq_self _)
theorem r_t_and (f g : Ft) (e : Ev) : t_and f g e = (match f e with
  | some (true, e1) => g e1
  | some (false, e1) => some (false, e1)
  | none => none) := of_eq_true (eq_self _)
theorem r_t_or (f g : Ft) (e : Ev) : t_or f g e = (match f e with
  | some (true, e1) => some (true, e1)
  | some (false, e1) => g e1
  | none => none) := of_eq_true (eq_self _)
theorem r_x_and (f g : Fe) (e : Ev) : x_and f g e = (match f e with
  | some (.im (.bool true), e1) => g e1
  | some (.im (.bool false), e1) => some (.im (.bool false), e1)
  | _ => none) := of_eq_true (eq_self _)
theorem r_x_not (f : Fe) (e : Ev) : x_not f e = (match f e with
  | some (.im (.bool b), e1) => some (.im (.bool !b), e1)
  | _ => none) := of_eq_true (eq_self _)
theorem r_a_cons (fa : Fe) (fr : Fa) (e : Ev) : a_cons fa fr e = (match fa e with
  | some (r, e1) => (match fr e1 with
    | some (rs, e2) => some (frzR r :: rs, e2)
    | none => none)
  | none => none) := of_eq_true (eq_self _)
theorem r_argsD (fa : Fa) (e : Ev) : argsD fa e = (match fa e with
  | some (rs, e1) => (match lookAll e1 rs with
    | some ds => some (ds, e1)
    | none => none)
  | none => none) := of_eq_true (eq_self _)
theorem r_argsI (fa : Fa) (e : Ev) : argsI fa e = (match fa e with
  | some (rs, e1) => (match imAll rs with
    | some ds => some (ds, e1)
    | none => none)
  | none => none) := of_eq_true (eq_self _)
theorem r_x_tup (fa : Fa) (e : Ev) : x_tup fa e = (match argsI fa e with
  | some (ds, e1) => if okLen ds.length = true then some (.im (.tuple ds), e1) else none
  | none => none) := of_eq_true (eq_self _)
theorem r_x_lst (fa : Fa) (e : Ev) : x_lst fa e = (match argsI fa e with
  | some (ds, e1) => if okLen ds.length = true then some (.ac ds, e1) else none
  | none => none) := of_eq_true (eq_self _)
theorem r_o_at (f : Fe) (e : Ev) : o_at f e = (match f e with
  | some (.im (.int i), e1) => some (some i, e1)
  | _ => none) := of_eq_true (eq_self _)
theorem r_x_sl (fa : Fe) (fl fh : Fo) (e : Ev) : x_sl fa fl fh e = (match fa e with
  | some (r, e1) => (match fl e1 with
    | some (lo, e2) => (match fh e2 with
      | some (hi, e3) => (match lookR e3 (frzR r) with
        | some d => (match sliced lo hi d with
          | some r2 => some (r2, e3)
          | none => none)
        | none => none)
      | none => none)
    | none => none)
  | none => none) := of_eq_true (eq_self _)
theorem r_x_neg (fa : Fe) (e : Ev) : x_neg fa e = (match fa e with
  | some (.im (.int i), e1) => some (.im (.int (-i)), e1)
  | _ => none) := of_eq_true (eq_self _)
theorem r_x_cb (φ : List PyData → Option Rs) (fa : Fa) (e : Ev) : x_cb φ fa e = (match argsD fa e with
  | some (ds, e1) => (match φ ds with
    | some r => some (r, e1)
    | none => none)
  | none => none) := of_eq_true (eq_self _)
theorem r_x_isi (T : Ty) (f : Fe) (e : Ev) : x_isi T f e = (match f e with
  | some (r, e1) => (match lookR e1 (frzR r) with
    | some d => (match isD T d with
      | some b => some (.im (.bool b), e1)
      | none => none)
    | none => none)
  | none => none) := of_eq_true (eq_self _)
theorem r_i_seq (f : Fe) (e : Ev) : i_seq f e = (match f e with
  | some (r, e1) => (match frzR r with
    | .im (.list ds) => some (ds, e1)
    | .im (.tuple ds) => some (ds, e1)
    | _ => none)
  | none => none) := of_eq_true (eq_self _)
theorem r_i_rng1 (fa : Fe) (e : Ev) : i_rng1 fa e = (match fa e with
  | some (.im (.int j), e1) => if rgC j = true then some (rngD 0 j.toNat 1, e1) else none
  | _ => none) := of_eq_true (eq_self _)
theorem r_i_rng2 (fa fb : Fe) (e : Ev) : i_rng2 fa fb e = (match fa e with
  | some (.im (.int i), e1) => (match fb e1 with
    | some (.im (.int j), e2) => if (rgC i && rgC j) = true then some (rngD i (j - i).toNat 1, e2) else none
    | _ => none)
  | _ => none) := of_eq_true (eq_self _)
theorem r_s_seq (f g : Fs) (e : Ev) : s_seq f g e = (match f e with
  | some (.nx e1) => g e1
  | some x => some x
  | none => none) := of_eq_true (eq_self _)
theorem r_s_drop (f : Fe) (e : Ev) : s_drop f e = (match f e with
  | some (_, e1) => some (.nx e1)
  | none => none) := of_eq_true (eq_self _)
theorem r_s_ret (f : Fe) (e : Ev) : s_ret f e = (match f e with
  | some (r, e1) => some (.rt r e1)
  | none => none) := of_eq_true (eq_self _)
theorem r_s_if (c : Ft) (f g : Fs) (e : Ev) : s_if c f g e = (match c e with
  | some (true, e1) => f e1
  | some (false, e1) => g e1
  | none => none) := of_eq_true (eq_self _)
theorem r_s_set (i : Nat) (f : Fe) (e : Ev) : s_set i f e = (match f e with
  | some (r, e1) => if okS [i] e1 = true then (match putA i e1 r with
    | some e2 => some (.nx e2)
    | none => none) else none
  | none => none) := of_eq_true (eq_self _)
theorem r_s_for (fi : Fi) (γ : PyData → Ev → Option Ev) (S : List Nat) (fb : Fs) (e : Ev) : s_for fi γ S fb e = (match fi e with
  | some (ds, e1) => forGo γ S fb ds e1
  | none => none) := of_eq_true (eq_self _)
theorem r_x_app (i : Nat) (fa : Fe) (e : Ev) : x_app i fa e = (if isAc e[i]? = true then (match fa e with
  | some (r, e1) => (match imR (frzR r), e1[i]? with
    | some d, some (some (.ac ds)) => if okLen (ds.length + 1) = true then some (.im .none, e1.set i (some (.ac (ds ++ [d])))) else none
    | _, _ => none)
  | none => none) else none) := of_eq_true (eq_self _)
theorem r_s_augI (g : Int → Int → Int) (i : Nat) (fk fv : Fe) (e : Ev) : s_augI g i fk fv e = (if isAc e[i]? = true then (match fk e with
  | some (.im (.int k), e1) => (match e1[i]? with
    | some (some (.ac ds)) => (match atI ds k, fv e1 with
      | some (.int a), some (.im (.int b), e2) => (match e2[i]? with
        | some (some (.ac ds2)) => (match ixN ds2.length k with
          | some j => some (.nx (e2.set i (some (.ac (ds2.set j (.int (g a b)))))))
          | none => none)
        | _ => none)
      | _, _ => none)
    | _ => none)
  | _ => none) else none) := of_eq_true (eq_self _)
theorem r_s_aug (g : Int → Int → Int) (i : Nat) (fv : Fe) (e : Ev) : s_aug g i fv e = (match e[i]? with
  | some (some (.im (.int a))) => (match fv e with
    | some (.im (.int b), e1) => if okS [i] e1 = true then some (.nx (e1.set i (some (.im (.int (g a b)))))) else none
    | _ => none)
  | _ => none) := of_eq_true (eq_self _)
theorem r_x_call (φ : List PyData → Option Rs) (dds : List PyData) (fa : Fa) (e : Ev) : x_call φ dds fa e = (match argsI fa e with
  | some (ds, e1) => (match φ (ds ++ dds) with
    | some (.im d) => some (.im d, e1)
    | some (.ac cs) => some (.ac cs, e1)
    | _ => none)
  | none => none) := of_eq_true (eq_self _)
theorem r_i_enum (f : Fe) (e : Ev) : i_enum f e = (match i_seq f e with
  | some (ds, e1) => some (enumD ds, e1)
  | none => none) := of_eq_true (eq_self _)
theorem r_s_setF (i : Nat) (f : Fe) (e : Ev) : s_setF i f e = (match f e with
  | some (r, e1) => if okS [i] e1 = true then (match putA i e1 (frzR r) with
    | some e2 => some (.nx e2)
    | none => none) else none
  | none => none) := by
  unfold s_setF s_set
  cases h : f e with
  | none => simp only [h]
  | some z => simp only [h] <;> rfl
end DL
namespace DL
open PySem PySem.Spec PySem.W PyProof.Rows L2
section
variable {f g : Fs} {e e1 : Ev} {r : Rs} {o : Option Fl} {x : Fe} {ds : List PyData} {fi : Fi} {γ : PyData → Ev → Option Ev} {S : List Nat} {fb : Fs} {c : Ft} {b : Bool} {n nl : Nat} {r' : Rs}
theorem ifT (h : c e = some (true, e1)) (k : f e1 = o) : s_if c f g e = o := by
  rw [r_s_if, h]
  exact k
theorem ifF (h : c e = some (false, e1)) (k : g e1 = o) : s_if c f g e = o := by
  rw [r_s_if, h]
  exact k
theorem sf (h : fi e = some (ds, e1)) (k : forGo γ S fb ds e1 = o) : s_for fi γ S fb e = o := by
  rw [r_s_for, h]
  exact k
theorem ret (h : x e = some (r, e1)) : s_ret x e = some (.rt r e1) := by
  rw [r_s_ret, h]
theorem setF {i : Nat} {d : PyData} (h : x e = some (r, e1)) (ok : okS [i] e1 = true) (hr : frzR r = .im d) : s_setF i x e = some (.nx (e1.set i (some (.im d)))) := by
  rw [r_s_setF, h]
  simp only [ok, hr, putA]
  rfl
theorem setX {i : Nat} {e2 : Ev} (h : x e = some (r, e1)) (ok : okS [i] e1 = true) (hr : putA i e1 r = some e2) : s_set i x e = some (.nx e2) := by
  rw [r_s_set, h]
  simp only [ok, hr]
  rfl
theorem drop (h : x e = some (r, e1)) : s_drop x e = some (.nx e1) := by
  rw [r_s_drop, h]
theorem runs (hl : ds.length = n) (h : g (env0 ds nl) = some (.rt r e)) (k : finR r e = some r') : runF n nl g ds = some r' := by
  unfold runF
  rw [if_pos hl, h]
  exact k
theorem iseqL (h : x e = some (.im (.list ds), e1)) : i_seq x e = some (ds, e1) := by
  simp [r_i_seq, h, frzR]
theorem iseqT (h : x e = some (.im (.tuple ds), e1)) : i_seq x e = some (ds, e1) := by
  simp [r_i_seq, h, frzR]
theorem bang (h : x e = some (.im (.bool b), e1)) : t_of x e = some (b, e1) := by
  rw [r_t_of, h]
end
theorem callI {φ : List PyData → Option Rs} {dds ds ds' : List PyData} {fa : Fa} {e e1 : Ev} {d : PyData} (ha : argsI fa e = some (ds, e1)) (hd : ds ++ dds = ds') (h : φ ds' = some (.im d)) : x_call φ dds fa e = some (.im d, e1) := by
  rw [r_x_call, ha]
  simp only [hd, h]
theorem callA {φ : List PyData → Option Rs} {dds ds ds' cs : List PyData} {fa : Fa} {e e1 : Ev} (ha : argsI fa e = some (ds, e1)) (hd : ds ++ dds = ds') (h : φ ds' = some (.ac cs)) : x_call φ dds fa e = some (.ac cs, e1) := by
  rw [r_x_call, ha]
  simp only [hd, h]
theorem a0 {e : Ev} : argsI a_nil e = some ([], e) := rfl
theorem aI {f : Fe} {fa : Fa} {e e1 e2 : Ev} {d : PyData} {ds : List PyData} (h : f e = some (.im d, e1)) (k : argsI fa e1 = some (ds, e2)) : argsI (a_cons f fa) e = some (d :: ds, e2) := by
  rw [r_argsI] at k ⊢
  rw [r_a_cons, h]
  cases z : fa e1 with
  | none => rw [z] at k; cases k
  | some p =>
    obtain ⟨rs, e3⟩ := p
    rw [z] at k
    cases y : imAll rs with
    | none => simp only [y] at k; cases k
    | some es =>
      simp only [y, Option.some.injEq, Prod.mk.injEq] at k
      obtain ⟨rfl, rfl⟩ := k
      simp only [z, imAll, frzR, imR, y]
theorem aA {f : Fe} {fa : Fa} {e e1 e2 : Ev} {cs : List PyData} {ds : List PyData} (h : f e = some (.ac cs, e1)) (k : argsI fa e1 = some (ds, e2)) : argsI (a_cons f fa) e = some (.list cs :: ds, e2) := by
  rw [r_argsI] at k ⊢
  rw [r_a_cons, h]
  cases z : fa e1 with
  | none => rw [z] at k; cases k
  | some p =>
    obtain ⟨rs, e3⟩ := p
    rw [z] at k
    cases y : imAll rs with
    | none => simp only [y] at k; cases k
    | some es =>
      simp only [y, Option.some.injEq, Prod.mk.injEq] at k
      obtain ⟨rfl, rfl⟩ := k
      simp only [z, imAll, frzR, imR, y]
theorem vI {i : Nat} {e : Ev} {d : PyData} (h : e[i]? = some (some (.im d))) : x_var i e = some (.im d, e) := by
  rw [r_x_var, h]
theorem cI {d : PyData} {e : Ev} : x_c d e = some (.im d, e) := rfl
theorem tnot {f : Ft} {e e1 : Ev} {b : Bool} (h : f e = some (b, e1)) : t_not f e = some (!b, e1) := by
  rw [r_t_not, h]
theorem rngD0 (m : Nat) : rngD 0 m 1 = (List.range m).map nD := by
  unfold rngD
  refine List.map_congr_left fun k _ => ?_
  unfold nD
  congr 1
  omega
theorem i_rng1_at {fa : Fe} {e e1 : Ev} {m : Nat} (h1 : fa e = some (.im (.int (m : Int)), e1)) (hm : m ≤ 1000000) : i_rng1 fa e = some ((List.range m).map nD, e1) := by
  rw [r_i_rng1, h1]
  have c : rgC (m : Int) = true := decide_eq_true (by omega)
  simp only [c, if_true]
  rw [show (m : Int).toNat = m by omega, rngD0]
end DL
namespace DL
open PySem PySem.Spec PyProof.Rows L2
/-- the values in the order of the parameters -/
def perm {α : Type} (π : List Nat) (xs : List α) : List α := π.filterMap fun i => xs[i]?
theorem vals_get : ∀ {vs : List V} {us : List Value} (i : Nat), Vals vs us → (∃ v u, vs[i]? = some v ∧ us[i]? = some u ∧ RelV v u) ∨ (vs[i]? = none ∧ us[i]? = none)
  | _, _, _, .nil => .inr ⟨rfl, rfl⟩
  | _, _, 0, .cons h _ => .inl ⟨_, _, rfl, rfl, h⟩
  | _, _, i + 1, .cons _ t => by simpa using vals_get i t
theorem vals_perm {vs : List V} {us : List Value} (h : Vals vs us) : ∀ π : List Nat, Vals (perm π vs) (perm π us)
  | [] => .nil
  | i :: π => by
    unfold perm
    rcases vals_get i h with ⟨v, u, h1, h2, h3⟩ | ⟨h1, h2⟩
    · rw [List.filterMap_cons_some h1, List.filterMap_cons_some h2]
      exact .cons h3 (vals_perm h π)
    · rw [List.filterMap_cons_none h1, List.filterMap_cons_none h2]
      exact vals_perm h π
theorem vals_app : ∀ {vs zs : List V} {us ws : List Value}, Vals vs us → Vals zs ws → Vals (vs ++ zs) (us ++ ws)
  | _, _, _, _, .nil, q => q
  | _, _, _, _, .cons h t, q => .cons h (vals_app t q)
theorem dpAll_perm {K : PySem.W.Frag} {G : Hp} {vs : List V} {ds : List PyData} (h : DpAll K G vs ds) : ∀ π : List Nat, DpAll K G (perm π vs) (perm π ds)
  | [] => .nil
  | i :: π => by
    unfold perm
    cases h1 : ds[i]? with
    | some d =>
      obtain ⟨v, h2, h3⟩ := dpAll_get h h1
      rw [List.filterMap_cons_some h1, List.filterMap_cons_some h2]
      exact .cons h3 (dpAll_perm h π)
    | none =>
      have h2 : vs[i]? = none := by
        rw [List.getElem?_eq_none_iff] at h1 ⊢
        rw [dpAll_len h]
        exact h1
      rw [List.filterMap_cons_none h1, List.filterMap_cons_none h2]
      exact dpAll_perm h π
/-- a def that is called with n values by place and the keywords ks -/
structure KfK (P : Program) (w : World) (K : PySem.W.Frag) (mg : Str → Option Value) (base : Heap) (k : Nat) (x : Str) (sp : Sp) (n : Nat) (ks : List Str) (π : List Nat) : Prop where
  ex : ∃ (f : Addr) (fd : FuncData) (ps : List Str), FnOk P w K mg base CX0 k f fd ps sp ∧ mg x = some (.ref f) ∧ PySem.W.keepIn K (.ref f) = true ∧ KBn K fd ps n ks (fun us ws => perm π (us ++ ws)) (fun vs zs => perm π (vs ++ zs))
theorem kbn_of {K : PySem.W.Frag} {x qual : Str} {params : Arguments} {body : List Stmt} {scope : Scope} {kws : List (Str × V)} {f : Addr} {fd : FuncData} {ps : List Str} (F : FunD K x qual params body scope [] kws f fd) (n : Nat) (ks : List Str) (π : List Nat)
    (h : ∀ (kV doc pm : Value) (an : Option Addr) (cdv ct : Value) (us ws : List Value), us.length = n → ws.length = ks.length → bindArgs (PySem.W.fnOf x qual params body scope .none kV doc pm an cdv ct) ⟨us, ks.zip ws⟩ = pure (ps.zip (perm π (us ++ ws)))) :
    KBn K fd ps n ks (fun us ws => perm π (us ++ ws)) (fun vs zs => perm π (vs ++ zs)) := by
  obtain ⟨_, _, _, kv, dc, md, an, cd, cl, _, same, _, _, noDefaults, _⟩ := F.ex
  subst same
  cases noDefaults with
  | inr some_ => exact absurd rfl some_.1
  | inl none_ =>
    obtain ⟨_, rfl⟩ := none_
    exact ⟨fun _ us ws _ n1 n2 => .of_eq (h kv dc md an cd cl us ws n1 n2), fun r1 r2 => vals_perm (vals_app r1 r2) π⟩
structure KD (X : Cx) (kws : List Keyword) (f : Fa) : Prop where
  ex : ∃ t : TA, PK X kws t ∧ ∀ (m : Option Addr) (E : Ef) (G0 G : Hp) (e : Ev) (σ : St) (H : Hp) (rs : List Rs) (e' : Ev) (Q : List V → Hp → Prop),
    Rl X.K m E G0 G e σ H → f e = some (rs, e') → (∀ vs G' H', Rl X.K m E G0 G' e' σ H' → Stp σ G H e G' H' e' → VrAll X.K E G' H' σ e' vs rs → Q vs H') → t σ H Q
section
variable {X : Cx} {a : Expr} {kws : List Keyword} {fa : Fe} {fr : Fa} {nm : Option Str} {kpos : Pos}
theorem kd_nil : KD X [] a_nil := ⟨_, pk_nil, fun m E G0 G e σ H rs e' Q R q P => by
  cases q
  exact P [] G H R Stp.refl True.intro⟩
theorem kd_cons (ha : ED X a fa) (hr : KD X kws fr) : KD X (⟨nm, a, kpos⟩ :: kws) (a_cons fa fr) := by
  obtain ⟨t, p, k⟩ := ha
  obtain ⟨t2, p2, k2⟩ := hr
  refine ⟨_, pk_cons p p2, fun m E G0 G e σ H rs e' Q R q P => ?_⟩
  unfold a_cons at q
  cases h1 : fa e with
  | none => simp only [h1] at q; cases q
  | some z =>
    obtain ⟨r, e1⟩ := z
    simp only [h1] at q
    cases h2 : fr e1 with
    | none => simp only [h2] at q; cases q
    | some z2 =>
      obtain ⟨rs2, e2⟩ := z2
      simp only [h2, Option.some.injEq, Prod.mk.injEq] at q
      obtain ⟨rfl, rfl⟩ := q
      refine k m E G0 G e σ H r e1 _ R h1 fun v G1 H1 R1 S1 V1 N1 => ?_
      obtain ⟨G1', R1', S1', s1, V1'⟩ := R1.freeze S1 V1 N1
      refine k2 m E G0 G1' e1 σ H1 rs2 e2 _ R1' h2 fun vs G2 H2 R2 S2 V2 => ?_
      exact P (v :: vs) G2 H2 R2 (S1'.trans S2) ⟨V1'.stp S2, V2⟩
end
def x_callK (φ : List PyData → Option Rs) (π : List Nat) (fa fk : Fa) : Fe := fun e => match argsI fa e with
  | some (ds, e1) => (match argsI fk e1 with
    | some (zs, e2) => (match φ (perm π (ds ++ zs)) with
      | some (.im d) => some (.im d, e2)
      | some (.ac cs) => some (.ac cs, e2)
      | _ => none)
    | none => none)
  | none => none
section
variable {X : Cx} {a : Expr} {es : List Expr} {kws : List Keyword} {fa fk : Fa} {p pos : Pos} {x : Str} {j k n m : Nat} {ks : List Str} {π : List Nat}
theorem vrAll_len {K : PySem.W.Frag} {E : Ef} {G H : Hp} {σ : St} {e : Ev} : ∀ {vs : List V} {rs : List Rs}, VrAll K E G H σ e vs rs → vs.length = rs.length
  | [], [], _ => rfl
  | _ :: _, _ :: _, h => congrArg (· + 1) (vrAll_len h.2)
  | [], _ :: _, h => h.elim
  | _ :: _, [], h => h.elim
theorem callK_ok {φ : List PyData → Option Rs} {t tk : TA} (hn : ∀ ds, (φ ds).isSome = true → ds.length = n)
    (kk : ∀ (m : Option Addr) (E : Ef) (G0 G : Hp) (e : Ev) (σ : St) (H : Hp) (rs : List Rs) (e' : Ev) (Q : List V → Hp → Prop),
    Rl X.K m E G0 G e σ H → fa e = some (rs, e') → (∀ vs G' H', Rl X.K m E G0 G' e' σ H' → Stp σ G H e G' H' e' → VrAll X.K E G' H' σ e' vs rs → Q vs H') → t σ H Q)
    (kz : ∀ (m : Option Addr) (E : Ef) (G0 G : Hp) (e : Ev) (σ : St) (H : Hp) (rs : List Rs) (e' : Ev) (Q : List V → Hp → Prop),
    Rl X.K m E G0 G e σ H → fk e = some (rs, e') → (∀ vs G' H', Rl X.K m E G0 G' e' σ H' → Stp σ G H e G' H' e' → VrAll X.K E G' H' σ e' vs rs → Q vs H') → tk σ H Q)
    (l1 : ∀ {e e' : Ev} {rs : List Rs}, fa e = some (rs, e') → rs.length = j) (l2 : ∀ {e e' : Ev} {rs : List Rs}, fk e = some (rs, e') → rs.length = k)
    (m : Option Addr) (E : Ef) (G0 G : Hp) (e : Ev) (σ : St) (H : Hp) (rr : Rs) (e' : Ev) (Q : VK) (R : Rl X.K m E G0 G e σ H) (q : x_callK φ π fa fk e = some (rr, e')) (P : Po X.K m E G0 σ G H e rr e' Q) :
    tCallN j k (spD X.K n φ) (fun vs zs => perm π (vs ++ zs)) E0 t tk σ H Q := by
  unfold x_callK at q
  cases h1 : argsI fa e with
  | none => simp only [h1] at q; cases q
  | some z =>
    obtain ⟨ds, e1⟩ := z
    simp only [h1] at q
    obtain ⟨rs, q1, q2⟩ := argsI_ok h1
    cases h3 : argsI fk e1 with
    | none => simp only [h3] at q; cases q
    | some z2 =>
      obtain ⟨zs, e2⟩ := z2
      simp only [h3] at q
      obtain ⟨rs2, q3, q4⟩ := argsI_ok h3
      have main : ∀ r, φ (perm π (ds ++ zs)) = some r → r = rr ∧ e2 = e' → tCallN j k (spD X.K n φ) (fun vs zs => perm π (vs ++ zs)) E0 t tk σ H Q := fun r h2 ⟨z1, z2⟩ => by
        subst z1 z2
        refine kk m E G0 G e σ H rs e1 _ R q1 fun vs G1 H1 R1 S1 V1 => ?_
        refine kz m E G0 G1 e1 σ H1 rs2 e2 _ R1 q3 fun ws G2 H2 R2 S2 V2 => ?_
        have D1 := vr_imAll V1 q2
        have D2 := vr_imAll V2 q4
        have D3 := dpAll_perm (dpAll_app (dpAll_same S2.gg D1) D2) π
        refine ⟨(vrAll_len V1).trans (l1 q1), (vrAll_len V2).trans (l2 q3), G2, perm π (ds ++ zs), r, R2.gh, D3, ?_, h2, fun v G' H' s1 s2 s3 nw vr => ?_⟩
        · rw [dpAll_len D3]
          exact hn _ (by rw [h2]; rfl)
        · obtain ⟨R3, S3⟩ := R2.called s1 s2 s3 nw
          obtain ⟨V3, N3⟩ := R2.vrf vr fun a o z _ => s3 a o z
          have S12 := S1.trans S2
          exact P v G' H' R3 (S12.trans S3) V3 (nw_back S12 v N3)
      cases h2 : φ (perm π (ds ++ zs)) with
      | none => simp only [h2] at q; cases q
      | some r =>
        cases r with
        | im d =>
          simp only [h2, Option.some.injEq, Prod.mk.injEq] at q
          exact main _ h2 q
        | ac d =>
          simp only [h2, Option.some.injEq, Prod.mk.injEq] at q
          exact main _ h2 q
        | br d => simp only [h2] at q; cases q
theorem pe_callN0 {CX : CXT} {f : Addr} {fd : FuncData} {ps : List Str} {sp : Sp} {E : XK} {tk : TA} {g : List Value → List Value → List Value} {gV : List V → List V → List V} (F : FnOk X.prog X.w X.K X.mg X.base CX k f fd ps sp) (hr : Room k X.A) (hg : Gl X x) (hm : X.mg x = some (.ref f))
    (hk : PySem.W.keepIn X.K (.ref f) = true) (hb : KBn X.K fd ps 0 ks g gV) (hx : Passes CX X E) (hkw : PK X kws tk)
    (hall : (backToKw pos (keywordEach kws X.env)).all (·.1.isSome) = true) (hks : (backToKw pos (keywordEach kws X.env)).filterMap (·.1) = ks)
    (hpl : ((backTo pos (starEach [] X.env)).any (·.1) || (backToKw pos (keywordEach kws X.env)).any (·.1.isNone)) = false) (hdb : (x == ("__debug__" : Str)) = false) :
    PE X (.Call (.Name x p) [] kws pos) (tCallN 0 ks.length sp gV E tNil tk) :=
  ⟨fun pins s σ H Q I h => wpAny_Call_Name_kw (ld_glob I hg hm (PySem.W.callWith_KW0 (h₀ := X.base) I.ok.mod.kin hk hall (thn (hkw.run pos pins s σ H _ I h) fun ws s' ⟨zs, H', I', rz, len0, lenK, q⟩ =>
    ⟨I'.kIn, hks.symm ▸ run_fnN F hr hb hx I' .nil rz len0 lenK q⟩) hpl) hdb)⟩
theorem ed_callK0 {φ : List PyData → Option Rs} (F : KfK X.prog X.w X.K X.mg X.base k x (spD X.K n φ) 0 ks π) (hr : Room j X.A) (hk : k ≤ j) (hn : ∀ ds, (φ ds).isSome = true → ds.length = n) (h : KD X kws fk)
    (l2 : ∀ {e e' : Ev} {rs : List Rs}, fk e = some (rs, e') → rs.length = ks.length) (hg : Gl X x := by rfl)
    (hall : (backToKw pos (keywordEach kws X.env)).all (·.1.isSome) = true := by rfl) (hks : (backToKw pos (keywordEach kws X.env)).filterMap (·.1) = ks := by rfl)
    (hpl : ((backTo pos (starEach [] X.env)).any (·.1) || (backToKw pos (keywordEach kws X.env)).any (·.1.isNone)) = false := by rfl) (hdb : (x == ("__debug__" : Str)) = false := by decide) :
    ED X (.Call (.Name x p) [] kws pos) (x_callK φ π a_nil fk) := by
  obtain ⟨f, fd, ps, F, hm, kp, hb⟩ := F.ex
  obtain ⟨t, pk, kz⟩ := h
  refine ⟨_, pe_callN0 F (hr.mono hk) hg hm kp hb (E := E0) (fun _ _ _ _ _ _ _ z => z.elim) pk hall hks hpl hdb, callK_ok hn (fun m E G0 G e σ H rs e' Q R q P => ?_) kz (fun q => ?_) l2⟩
  · cases q
    exact P [] G H R Stp.refl True.intro
  · cases q
    rfl
theorem len_nil {e e' : Ev} {rs : List Rs} (q : a_nil e = some (rs, e')) : rs.length = 0 := by
  cases q
  rfl
theorem len_cons {fe : Fe} {fr : Fa} {n : Nat} (h : ∀ {e e' : Ev} {rs : List Rs}, fr e = some (rs, e') → rs.length = n) {e e' : Ev} {rs : List Rs} (q : a_cons fe fr e = some (rs, e')) : rs.length = n + 1 := by
  unfold a_cons at q
  split at q
  · split at q
    · rename_i z
      cases q
      exact congrArg (· + 1) (h z)
    · cases q
  · cases q
end
end DL
namespace DL
open PySem PySem.Spec PyProof.Rows L2
theorem spD_void {K : PySem.W.Frag} {n : Nat} {vs : List V} {H : Hp} {Q : VK} {E : XK} (h : spD K n (fun _ => none) vs H Q E) : False := by
  obtain ⟨_, _, _, _, _, _, h, _⟩ := h
  cases h
theorem fn_void {P : Program} {w : World} {K : PySem.W.Frag} {mg : Str → Option Value} {base : Heap} {CX : CXT} {k n : Nat} {f : Addr} {fd : FuncData} {ps : List Str} : FnOk P w K mg base CX k f fd ps (spD K n (fun _ => none)) :=
  ⟨fun _ _ _ _ h => (spD_void h).elim, by
    intros
    exact (spD_void (by assumption)).elim⟩
end DL
namespace DL
open L2 PySem PySem.Spec PySem.W PyProof.Rows
section
variable {K : PySem.W.Frag} {m : Option Addr} {E : Ef} {G0 G H H1 H2 : Hp} {e : Ev} {σ : St} {i : Nat} {p q : Addr}
/-- the frame, an object exchanged -/
def Ef.put (E : Ef) (q : Addr) (hb : E.b q = none) (o : Option HO) : Ef := ⟨fun a => if a = q then o else E.h a, E.b, fun a u z => by
  have n : a ≠ q := ne_of_none z hb
  rw [if_neg n]
  exact E.sub a u z⟩
theorem Wl.frame {E' : Ef} (w : Wl K m E G e σ H) (h : ∀ a, E a = none → OwnW σ e H a → E' a = none) (hb : E'.b = E.b := by rfl) : Wl K m E' G e σ H := ⟨w.at_, fun a z => ⟨(w.out a z).1, (w.out a z).2.1, (w.out a z).2.2.1, by
  rcases (w.out a z).2.2.2 with y | y
  · exact .inl (h a y z)
  · exact .inr y⟩, w.one, w.al, by rw [hb]; exact w.pin⟩
end
end DL
namespace DL
open L2 PySem PySem.Spec PySem.W PyProof.Rows
def PoSN (K : PySem.W.Frag) (m : Option Addr) (B : Bs) (G0 G : Hp) (D : Ends) : Fl → Prop
  | .nx e => ∀ (E : Ef) G' σ H, E.b = B → Same G G' → Rz K m E G0 G' e σ H → D.nx σ H
  | .bk e => ∀ (E : Ef) G' σ H, E.b = B → Same G G' → Rz K m E G0 G' e σ H → D.bk σ H
  | .ct e => ∀ (E : Ef) G' σ H, E.b = B → Same G G' → Rz K m E G0 G' e σ H → D.ct σ H
  | .rt r e => ∀ (E : Ef) v G' σ H, E.b = B → Same G G' → Rz K m E G0 G' e σ H → Vr K E G' H σ e v r → D.rt v H
structure SDN (X : Cx) (st : Stmt) (f : Fs) : Prop where
  ex : ∃ t : TS, PS X st t ∧ ∀ (m : Option Addr) (E : Ef) (G0 G : Hp) (e : Ev) (σ : St) (H : Hp) (fl : Fl) (D : Ends),
    Rz X.K m E G0 G e σ H → f e = some fl → PoSN X.K m E.b G0 G D fl → t D σ H
section
variable {K : PySem.W.Frag} {m : Option Addr} {B : Bs} {G0 G G' H : Hp} {E : Ef} {D : Ends} {fl : Fl} {e : Ev} {σ : St}
theorem PoSN.aft (P : PoSN K m B G0 G D fl) (s : Same G G') : PoSN K m B G0 G' D fl := by
  cases fl with
  | nx e => exact fun E G2 σ H b s2 R => P E G2 σ H b (s.trans s2) R
  | bk e => exact fun E G2 σ H b s2 R => P E G2 σ H b (s.trans s2) R
  | ct e => exact fun E G2 σ H b s2 R => P E G2 σ H b (s.trans s2) R
  | rt r e => exact fun E v G2 σ H b s2 R V => P E v G2 σ H b (s.trans s2) R V
theorem PoSN.pos (P : PoSN K m E.b G0 G D fl) : PoS K m E G0 G D fl := by
  cases fl with
  | nx e => exact fun G' σ H s R => P E G' σ H rfl s R
  | bk e => exact fun G' σ H s R => P E G' σ H rfl s R
  | ct e => exact fun G' σ H s R => P E G' σ H rfl s R
  | rt r e => exact fun v G' σ H s R V => P E v G' σ H rfl s R V
end
section
variable {X : Cx} {st : Stmt} {rest sts : List Stmt} {f g : Fs} {pos : Pos} {a : Expr} {fe : Fe}
theorem SDN.fz (j : Nat) (h : SDN X st f) (hj : j ≠ 0 := by decide) : SDN X st (s_fz j f) := by
  obtain ⟨t, p, k⟩ := h
  refine ⟨_, p, fun m E G0 G e σ H fl D R q P => ?_⟩
  obtain ⟨G', s, R'⟩ := R.fz hj
  exact k m E G0 G' _ σ H fl D R' q (P.aft s)
end
section
variable {K : PySem.W.Frag} {m : Option Addr} {E : Ef} {G0 G H : Hp} {e : Ev} {σ : St} {i : Nat}
/-- slot i is not the caller's list -/
theorem Rz.set (R : Rz K m E G0 G e σ H) {E' : Ef} {G' H' : Hp} {s : Option Sl} (ok : okS [i] e = true) (R' : Rl K m E' G0 G' (e.set i s) σ H') : Rz K m E' G0 G' (e.set i s) σ H' :=
  ⟨R', fun p z => by
    obtain ⟨z1, z2⟩ := R.z p z
    have n : i ≠ 0 := fun y => okS_no ok z1 (by rw [y]; exact List.mem_singleton.mpr rfl)
    rw [List.getElem?_set_ne n]
    exact ⟨z1, z2⟩⟩
end
section
variable {X : Cx} {st : Stmt} {f : Fs} {pos : Pos} {a b : Expr} {fa fk : Fe}
theorem atI_of {α : Type} {xs : List α} {k : Int} {x : α} {j : Nat} (h : ixN xs.length k = some j) (z : xs[j]? = some x) : atI xs k = some x := by
  unfold atI
  rw [h]
  exact z
end
end DL
namespace DL
open L2 PySem PySem.Spec PySem.W PyProof.Rows
end DL
namespace DL
open L2 PySem PySem.Spec PySem.W PyProof.Rows
end DL
namespace DL
open L2 PySem PySem.Spec PySem.W PyProof.Rows
end DL
namespace DL
open L2 PySem PySem.Spec PySem.W PyProof.Rows
def isNoneD : PyData → Bool
  | .none => true
  | _ => false
theorem notNone {d : PyData} (h : (!isNoneD d) = true) : d ≠ .none := fun z => by
  rw [z] at h
  cases h
def okOrd (a b : PyData) : Bool := (alike a b && (noDict a && noDict b)) && (!isNoneD a && decide (a.depth ≤ 64))
def d_ord (f : PyData → PyData → Bool) (a b : PyData) : Option PyData := if okOrd a b = true then some (.bool (f a b)) else none
def rOrd (K : PySem.W.Frag) (f : PyData → PyData → Bool) : R2 := fun x y H Q => ∃ a b, Dp K H x a ∧ Dp K H y b ∧ okOrd a b = true ∧ Q (.bl (f a b)) H
def q_lt : PyData → PyData → Option Rs := orF p_lt fun a b => (d_ord (fun a b => dataLt a b) a b).map Rs.im
def q_gt : PyData → PyData → Option Rs := orF p_gt fun a b => (d_ord (fun a b => dataLt b a) a b).map Rs.im
def q_le : PyData → PyData → Option Rs := orF p_le fun a b => (d_ord (fun a b => !dataLt b a) a b).map Rs.im
def q_ge : PyData → PyData → Option Rs := orF p_ge fun a b => (d_ord (fun a b => !dataLt a b) a b).map Rs.im
theorem vb_ord {K : PySem.W.Frag} {f : PyData → PyData → Bool} : VB K (rOrd K f) (fun a b => (d_ord f a b).map Rs.im) := VB.pure fun G H x y dx dy d Q s lx ly q P => by
  unfold d_ord at q
  by_cases z : okOrd dx dy = true
  · rw [if_pos z] at q
    cases q
    exact ⟨dx, dy, lx.dp s, ly.dp s, z, P _ (.bl _)⟩
  · rw [if_neg z] at q
    cases q
section
variable {X : Cx}
theorem ord_ok {a b : PyData} (h : okOrd a b = true) : alike a b = true ∧ a ≠ .none ∧ a.depth ≤ 64 ∧ noDict a = true ∧ noDict b = true := by
  unfold okOrd at h
  simp only [Bool.and_eq_true] at h
  exact ⟨h.1.1, notNone h.2.1, of_decide_eq_true h.2.2, h.1.2.1, h.1.2.2⟩
theorem op_ord {op : CmpOp} {f : PyData → PyData → Bool} (hu : X.A.units + 64 < cLine)
    (k : ∀ {s : Shared} {a b : Value} {da db : PyData} {as bs : List Addr} {Q : Value → Shared → Prop}, Reads s.heap a da as → Reads s.heap b db bs → alike da db = true → da ≠ .none → X.A.units + min da.depth db.depth < cLine → Q (.bool (f da db)) s → wpAny (model X.prog X.w) X.A (compareOp op a b) Q X.xe s) :
    OpR X (compareOp op) (rOrd X.K f) := by
  rintro pins s σ H x y v u Q I rx ry ⟨a, b, hx, hy, ok, q⟩
  obtain ⟨o1, o2, o3, o4, o5⟩ := ord_ok ok
  obtain ⟨as, ra⟩ := L2.Dp.reads I a x v (hx.lib o4) rx
  obtain ⟨bs, rb⟩ := L2.Dp.reads I b y u (hy.lib o5) ry
  exact k ra rb o1 o2 (by omega) ⟨.bl _, H, I, rfl, q⟩
theorem vq_lt : VB X.K (fun x y H Q => (rI0 fun i j => .bl (decide (i < j))) x y H Q ∨ rOrd X.K (fun a b => dataLt a b) x y H Q) q_lt := VB.or vb_lt vb_ord
theorem vq_gt : VB X.K (fun x y H Q => (rI0 fun i j => .bl (decide (j < i))) x y H Q ∨ rOrd X.K (fun a b => dataLt b a) x y H Q) q_gt := VB.or vb_gt vb_ord
theorem vq_le : VB X.K (fun x y H Q => (rI0 fun i j => .bl (decide (i ≤ j))) x y H Q ∨ rOrd X.K (fun a b => !dataLt b a) x y H Q) q_le := VB.or vb_le vb_ord
theorem vq_ge : VB X.K (fun x y H Q => (rI0 fun i j => .bl (decide (j ≤ i))) x y H Q ∨ rOrd X.K (fun a b => !dataLt a b) x y H Q) q_ge := VB.or vb_ge vb_ord
theorem oq_lt (hu : X.A.units + 64 < cLine) : OpR X (compareOp .Lt) (fun x y H Q => (rI0 fun i j => .bl (decide (i < j))) x y H Q ∨ rOrd X.K (fun a b => dataLt a b) x y H Q) :=
  OpR.or op_lt (op_ord hu fun ra rb h hn hz q => lt_data ra rb h hn hz q)
theorem oq_gt (hu : X.A.units + 64 < cLine) : OpR X (compareOp .Gt) (fun x y H Q => (rI0 fun i j => .bl (decide (j < i))) x y H Q ∨ rOrd X.K (fun a b => dataLt b a) x y H Q) :=
  OpR.or op_gt (op_ord hu fun ra rb h hn hz q => gt_data ra rb h hn hz q)
theorem oq_le (hu : X.A.units + 64 < cLine) : OpR X (compareOp .LtE) (fun x y H Q => (rI0 fun i j => .bl (decide (i ≤ j))) x y H Q ∨ rOrd X.K (fun a b => !dataLt b a) x y H Q) :=
  OpR.or op_le (op_ord hu fun ra rb h hn hz q => le_data ra rb h hn hz q)
theorem oq_ge (hu : X.A.units + 64 < cLine) : OpR X (compareOp .GtE) (fun x y H Q => (rI0 fun i j => .bl (decide (j ≤ i))) x y H Q ∨ rOrd X.K (fun a b => !dataLt a b) x y H Q) :=
  OpR.or op_ge (op_ord hu fun ra rb h hn hz q => ge_data ra rb h hn hz q)
end
end DL
namespace DL
open L2 PySem PySem.Spec PySem.W PyProof.Rows
section
variable {i j : Int}
theorem e_qlt : q_lt (.int i) (.int j) = some (.im (.bool (decide (i < j)))) := rfl
theorem e_qle : q_le (.int i) (.int j) = some (.im (.bool (decide (i ≤ j)))) := rfl
theorem e_qgt : q_gt (.int i) (.int j) = some (.im (.bool (decide (j < i)))) := rfl
theorem e_qge : q_ge (.int i) (.int j) = some (.im (.bool (decide (j ≤ i)))) := rfl
end
/-- an item told by the number of a version -/
def gv {α : Type} [Inhabited α] (l : List α) (v : Nat) : α := l.getD (v - 1) default
theorem gv_get {α : Type} [Inhabited α] {l : List α} {k : Nat} (h : k < l.length) : l[k]? = some (gv l (k + 1)) := by
  unfold gv
  rw [Nat.add_sub_cancel, List.getD_eq_getElem?_getD, List.getElem?_eq_getElem h]
  rfl
section
variable {α : Type} [Inhabited α] {f : α → PyData} {l : List α}
theorem gv_mem {v : Nat} (h : 1 ≤ v) (h2 : v ≤ l.length) : gv l v ∈ l := by
  have := gv_get (l := l) (k := v - 1) (by omega)
  rw [Nat.sub_add_cancel h] at this
  exact List.mem_of_getElem? this
end
def wS (f : Fs) (e : Ev) (Q : Fl → Prop) : Prop := ∃ fl, f e = some fl ∧ Q fl
def seqK (g : Fs) (Q : Fl → Prop) : Fl → Prop
  | .nx e => wS g e Q
  | .bk e => Q (.bk e)
  | .ct e => Q (.ct e)
  | .rt r e => Q (.rt r e)
section
variable {f g : Fs} {e e1 : Ev} {Q : Fl → Prop} {c : Ft} {x : Fe} {r : Rs} {fl : Fl}
theorem w_seq (h : wS f e (seqK g Q)) : wS (s_seq f g) e Q := by
  obtain ⟨fl, h1, h2⟩ := h
  cases fl with
  | nx e1 =>
    obtain ⟨fl, h3, h4⟩ := h2
    exact ⟨fl, by rw [r_s_seq, h1]; exact h3, h4⟩
  | bk e => exact ⟨.bk e, by rw [r_s_seq, h1], h2⟩
  | ct e => exact ⟨.ct e, by rw [r_s_seq, h1], h2⟩
  | rt r e => exact ⟨.rt r e, by rw [r_s_seq, h1], h2⟩
theorem w_nx (q : Q (.nx e)) : wS s_nx e Q := ⟨_, rfl, q⟩
theorem w_ret (h : x e = some (r, e1)) (q : Q (.rt r e1)) : wS (s_ret x) e Q := ⟨_, ret h, q⟩
theorem w_drop (h : x e = some (r, e1)) (q : Q (.nx e1)) : wS (s_drop x) e Q := ⟨_, drop h, q⟩
theorem w_setI {i : Nat} {d : PyData} (h : x e = some (.im d, e1)) (ok : okS [i] e1 = true) (q : Q (.nx (e1.set i (some (.im d))))) : wS (s_setF i x) e Q := ⟨_, setF h ok rfl, q⟩
theorem w_setL {i : Nat} {ds : List PyData} (h : x e = some (.ac ds, e1)) (ok : okS [i] e1 = true) (q : Q (.nx (e1.set i (some (.im (.list ds)))))) : wS (s_setF i x) e Q := ⟨_, setF h ok rfl, q⟩
theorem w_setA {i : Nat} {ds : List PyData} (h : x e = some (.ac ds, e1)) (ok : okS [i] e1 = true) (q : Q (.nx (e1.set i (some (.ac ds))))) : wS (s_set i x) e Q := ⟨_, setX h ok rfl, q⟩
theorem w_setB {i : Nat} {d : PyData} (h : x e = some (.im d, e1)) (ok : okS [i] e1 = true) (q : Q (.nx (e1.set i (some (.im d))))) : wS (s_set i x) e Q := ⟨_, setX h ok rfl, q⟩
theorem w_fz {j : Nat} (h : wS f (fzE j e) Q) : wS (s_fz j f) e Q := h
theorem w_if {b : Bool} (h : c e = some (b, e1)) (t : b = true → wS f e1 Q) (n : b = false → wS g e1 Q) : wS (s_if c f g) e Q := by
  cases b with
  | true =>
    obtain ⟨fl, h1, h2⟩ := t rfl
    exact ⟨fl, ifT h h1, h2⟩
  | false =>
    obtain ⟨fl, h1, h2⟩ := n rfl
    exact ⟨fl, ifF h h1, h2⟩
end
section
variable {e : Ev} {d : PyData} {ds : List PyData} {r : Rs} {rs : List Rs} {i : Nat} {S : List Nat}
theorem n_lookAll1 {e : Ev} {r : Rs} {rs : List Rs} : lookAll e (r :: rs) = (match lookR e r with
    | some d => (match lookAll e rs with
      | some ds => some (d :: ds)
      | none => none)
    | none => none) := rfl
theorem n_max2 {k j : Int} : c_max2 [.int k, .int j] = some (.im (.int (max k j))) := by
  show some (Rs.im (.int (if j > k then j else k))) = _
  congr 3
  split <;> omega
end
end DL
namespace DL
open L2 PySem PySem.Spec PySem.W PyProof.Rows
end DL
namespace DL
open L2 PySem PySem.Spec PySem.W PyProof.Rows
abbrev im (d : PyData) : Option Sl := some (.im d)
abbrev ac (ds : List PyData) : Option Sl := some (.ac ds)
end DL
namespace DL
open L2 PySem PySem.Spec PySem.W PyProof.Rows
section
variable {x y : Fe} {e e1 e2 : Ev} {a b d : PyData} {r : Rs} {φ : List PyData → Option Rs} {Q : Fl → Prop} {ds : List PyData} {fa : Fa} {i : Nat}
theorem tupI (h : argsI fa e = some (ds, e1)) (hl : ds.length ≤ 16777216) : x_tup fa e = some (.im (.tuple ds), e1) := by
  rw [r_x_tup, h]
  dsimp only
  rw [if_pos (okLen_yes hl)]
theorem iRng1 {m : Nat} (h : x e = some (.im (.int (m : Int)), e1)) (hm : m ≤ 1000000) : i_rng1 x e = some ((List.range m).map nD, e1) := i_rng1_at h hm
theorem negI {k : Int} (h : x e = some (.im (.int k), e1)) : x_neg x e = some (.im (.int (-k)), e1) := by
  rw [r_x_neg, h]
end
end DL
namespace DL
open L2 PySem PySem.Spec PySem.W PyProof.Rows
end DL
namespace DL
open L2 PySem PySem.Spec PySem.W PyProof.Rows
end DL
namespace DL
open PySem PySem.Spec PyProof.Rows L2
section
variable {X : Cx}
variable {elt tg it tg1 it1 : Expr} {ifs ifs1 : List Expr} {scope : Scope} {own : List (Str × Nat)} {pos spos : Pos} {fi fi1 : Fi} {S S1 vs1 : List Nat} {γ γ1 : PyData → Ev → Option Ev} {tst tst1 : Ft} {fe : Fe}
/-- a source, by what it gives -/
def wiOf (K : PySem.W.Frag) (f : Fi) : TI := fun σ H Q => ∃ m E G0 G e ds e', Rl K m E G0 G e σ H ∧ f e = some (ds, e') ∧ ∀ J G' H', Rl K m E G0 G' e' σ H' → Stp σ G H e G' H' e' → WalkD K G' J ds → Q J H'
theorem ID.can {X : Cx} {tg it : Expr} {f : Fi} (h : ID X tg it f) : PI X tg it (wiOf X.K f) := by
  obtain ⟨wi, p, k⟩ := h
  exact ⟨fun pins s σ H Q I ⟨m, E, G0, G, e, ds, e', R, q, P⟩ => p.run pins s σ H Q I (k m E G0 G e σ H ds e' Q R q P)⟩
end
end DL
namespace DL
open L2 PySem PySem.Spec PySem.W PyProof.Rows
section
variable {K : PySem.W.Frag} {m : Option Addr} {E : Ef} {G0 G H : Hp} {e : Ev} {σ : St} {p : Addr} {i : Nat}
theorem Rl.newG {o : HO} (R : Rl K m E G0 G e σ H) (h : H p = none) :
    Rl K m E G0 (upd G p o) e σ (upd H p o) ∧ Stp σ G H e (upd G p o) (upd H p o) e := by
  obtain ⟨hG, hE, hO, hm⟩ := R.fresh h
  have s1 : Same G (upd G p o) := same_new hG
  have nb : ∀ {b : Addr}, H b ≠ none → b ≠ p := fun {b} z y => z (by rw [y]; exact h)
  have W := R.wl.keep0 (H' := upd H p o) s1 (fun b b1 b2 => by rw [upd_ne (nb (R.wl.out b b1).2.1)]; exact b2) (fun b u b1 _ => same_new h b u b1)
  refine ⟨⟨R.gg.trans s1, fun b u z => ?_, fun b u b1 b2 => ?_, fun b b1 => ⟨(R.mh b b1).1, ?_⟩, fun b b1 b2 => ?_, R.len, fun i d z => ?_, fun i ds' z => ?_, R.inj, fun i dss z => (R.ot i dss z).mono s1, W.1⟩, ⟨s1, fun b b1 b2 => ?_, fun b u b1 _ => same_new h b u b1, fun _ => rfl, fun b b1 => ?_, fun a z => .inl (W.2 a z)⟩⟩
  · by_cases y : b = p
    · subst y
      rw [upd_same] at z ⊢
      exact z
    · rw [upd_ne y] at z ⊢
      exact R.gh b u z
  · exact same_new h b u (R.eh b u b1 b2)
  · rw [upd_ne (nb (R.mh b b1).2)]
    exact (R.mh b b1).2
  · have y : b ≠ p := fun y => b2 (by rw [y]; exact hE)
    rw [upd_ne y]
    exact R.nw b b1 b2
  · obtain ⟨u, z1, z2⟩ := R.im i d z
    exact ⟨u, z1, dp_same s1 z2⟩
  · obtain ⟨p', ws', z1, z2, z3, z4, z5⟩ := R.ac i ds' z
    have y : p' ≠ p := nb (by rw [z3]; simp)
    exact ⟨p', ws', z1, by rw [upd_ne y]; exact z2, by rw [upd_ne y]; exact z3, dpAll_same s1 z4, z5⟩
  · rw [upd_ne (nb b2)]
    exact b1
  · rw [upd_ne (nb b1)]
    exact b1
theorem Rl.setO {dss : Ok} (R : Rl K m E G0 G e σ H) (h : ObF K G (some (some (.ref p))) dss) : Rl K m E G0 G (e.set i (some (.ob dss))) (σ.set i (some (.ref p))) H := by
  have hl := R.len
  have keep : ∀ {j : Nat} {s : Sl}, (e.set i (some (.ob dss)))[j]? = some (some s) → (∀ d, s ≠ .ob d) → e[j]? = some (some s) ∧ (σ.set i (some (V.ref p)))[j]? = σ[j]? := fun {j s} z ns => by
    rw [set_get] at z ⊢
    by_cases y : i = j ∧ j < e.length
    · rw [if_pos y] at z
      cases z
      exact absurd rfl (ns dss)
    · rw [if_neg y] at z
      exact ⟨z, if_neg (by omega)⟩
  refine ⟨R.gg, R.gh, R.eh, R.mh, R.nw, by rw [List.length_set, List.length_set]; exact hl, fun j d z => ?_, fun j ds z => ?_, fun j k dj dk q1 z1 z2 z3 z4 => ?_, fun j ds z => ?_, Wl.set R i (fun _ z => by cases z) (fun _ _ z => by cases z)⟩
  · obtain ⟨a1, a2⟩ := keep z fun _ y => by cases y
    rw [a2]
    exact R.im j d a1
  · obtain ⟨a1, a2⟩ := keep z fun _ y => by cases y
    rw [a2]
    exact R.ac j ds a1
  · obtain ⟨a1, a2⟩ := keep z1 fun _ y => by cases y
    obtain ⟨b1, b2⟩ := keep z2 fun _ y => by cases y
    rw [a2] at z3
    rw [b2] at z4
    exact R.inj j k dj dk q1 a1 b1 z3 z4
  · rw [set_get] at z ⊢
    by_cases y : i = j ∧ j < e.length
    · rw [if_pos y] at z
      cases z
      rw [if_pos ⟨y.1, by omega⟩]
      exact h
    · rw [if_neg y] at z
      rw [if_neg (by omega)]
      exact R.ot j ds z
theorem Rz.setO {k : Ok} (R : Rz K m E G0 G e σ H) (h : ObF K G (some (some (.ref p))) k) (ok : okS [i] e = true) : Rz K m E G0 G (e.set i (some (.ob k))) (σ.set i (some (.ref p))) H :=
  ⟨R.r.setO h, fun q z => by
    obtain ⟨z1, z2⟩ := R.z q z
    have n : i ≠ 0 := fun y => okS_no ok z1 (by rw [y]; exact List.mem_singleton.mpr rfl)
    rw [List.getElem?_set_ne n, List.getElem?_set_ne n]
    exact ⟨z1, z2⟩⟩
end
end DL
namespace DL
open L2 PySem PySem.Spec PySem.W PyProof.Rows
section
variable {X : Cx}
def i_rgV (i : Nat) : Fi := fun e => match e[i]? with
  | some (some (.ob (.rng lo hi))) => if (rgC lo && rgC hi) = true then some (rngD lo (hi - lo).toNat 1, e) else none
  | _ => none
end
theorem rgV {i : Nat} {e : Ev} {n : Nat} (h : e[i]? = some (some (.ob (.rng 1 ((n : Int) + 1))))) (hn : n ≤ 1000000) : i_rgV i e = some ((List.range n).map fun k => nD (k + 1), e) := by
  unfold i_rgV
  rw [h]
  dsimp only
  have c : (rgC 1 && rgC ((n : Int) + 1)) = true := by
    rw [Bool.and_eq_true]
    exact ⟨by decide, decide_eq_true (by omega)⟩
  have l : rngD 1 n 1 = (List.range n).map fun k => nD (k + 1) := by
    unfold rngD
    refine List.map_congr_left fun k _ => ?_
    unfold nD
    rw [show ((1 : Int) + (k : Int) * 1) = ((k + 1 : Nat) : Int) by omega]
  rw [if_pos c, show ((n : Int) + 1 - 1).toNat = n by omega, l]
end DL
namespace DL
open L2 PySem PySem.Spec PySem.W PyProof.Rows
abbrev tp {α : Type} (f : α → PyData) (l : List α) : PyData := .tuple (l.map f)
abbrev ls {α : Type} (f : α → PyData) (l : List α) : PyData := .list (l.map f)
abbrev p2 {α β : Type} (f : α → PyData) (g : β → PyData) (x : α × β) : PyData := .tuple [f x.1, g x.2]
abbrev p3 {α β γ : Type} (f : α → PyData) (g : β → PyData) (h : γ → PyData) (x : α × β × γ) : PyData := .tuple [f x.1, g x.2.1, h x.2.2]
def opt {α : Type} (f : α → PyData) : Option α → PyData
  | none => .none
  | some a => f a
abbrev nn (_ : Unit) : PyData := .none
abbrev idD (d : PyData) : PyData := d
abbrev imo (o : Option PyData) : Option Sl := o.map Sl.im
theorem bnd {α β : Type} {o : Option α} {k : α → Option β} {b : β} (h : o.bind k = some b) : ∃ a, o = some a ∧ k a = some b := by
  cases o with
  | none => cases h
  | some a => exact ⟨a, rfl, h⟩
theorem if1 {α : Type} {c : Bool} {a b : α} (h : c = true) : (if c = true then a else b) = a := if_pos h
theorem if0 {α : Type} {c : Bool} {a b : α} (h : c = false) : (if c = true then a else b) = b := if_neg (by rw [h]; exact Bool.false_ne_true)
class EqE {α : Type} [DecidableEq α] (f : α → PyData) where
  d : Nat
  can : ∀ a, PyData.canLay0 (f a) = true
  dep : ∀ a, (f a).depth ≤ d
  eqv : ∀ a b, PyData.eqv (f a) (f b) = decide (a = b)
instance : EqE PyData.int := ⟨0, fun a => by rw [PyData.canLay0], fun a => by rw [PyData.depth]; omega, fun a b => by rw [PyData.eqv]; exact Bool.eq_iff_iff.mpr (by simp)⟩
instance : EqE PyData.bool := ⟨0, fun a => by rw [PyData.canLay0], fun a => by rw [PyData.depth]; omega, fun a b => by rw [PyData.eqv]; exact Bool.eq_iff_iff.mpr (by simp)⟩
instance : EqE nn := ⟨0, fun a => by rw [PyData.canLay0], fun a => by rw [PyData.depth]; omega, fun a b => by rw [PyData.eqv]; rfl⟩
section
variable {α : Type} [DecidableEq α] {f : α → PyData} [E : EqE f]
theorem can_all : ∀ l : List α, PyData.canLayAll0 (l.map f) = true
  | [] => by rw [List.map_nil, PyData.canLayAll0]
  | a :: l => by rw [List.map_cons, PyData.canLayAll0, can_all l, E.can]; rfl
theorem dep_all : ∀ l : List α, PyData.depthAll (l.map f) ≤ E.d
  | [] => by rw [List.map_nil, PyData.depthAll]; omega
  | a :: l => by
    rw [List.map_cons, PyData.depthAll]
    have := dep_all l
    have := E.dep a
    omega
theorem eqv_all : ∀ l m : List α, PyData.eqvAll (l.map f) (m.map f) = decide (l = m)
  | [], [] => by rw [List.map_nil, PyData.eqvAll]; rfl
  | [], b :: m => by simp [PyData.eqvAll]
  | a :: l, [] => by simp [PyData.eqvAll]
  | a :: l, b :: m => by
    rw [List.map_cons, List.map_cons, PyData.eqvAll, eqv_all l m, E.eqv]
    exact Bool.eq_iff_iff.mpr (by simp)
end
instance {α : Type} [DecidableEq α] {f : α → PyData} [E : EqE f] : EqE (tp f) := ⟨E.d + 1, fun a => by rw [PyData.canLay0]; exact can_all a, fun a => by rw [PyData.depth]; have := dep_all (f := f) a; omega, fun a b => by rw [PyData.eqv]; exact eqv_all a b⟩
instance {α : Type} [DecidableEq α] {f : α → PyData} [E : EqE f] : EqE (ls f) := ⟨E.d + 1, fun a => by rw [PyData.canLay0]; exact can_all a, fun a => by rw [PyData.depth]; have := dep_all (f := f) a; omega, fun a b => by rw [PyData.eqv]; exact eqv_all a b⟩
instance {α β : Type} [DecidableEq α] [DecidableEq β] {f : α → PyData} {g : β → PyData} [E : EqE f] [F : EqE g] : EqE (p2 f g) := ⟨max E.d F.d + 1, fun a => by simp [PyData.canLay0, PyData.canLayAll0, E.can, F.can], fun a => by
    rw [PyData.depth, PyData.depthAll, PyData.depthAll, PyData.depthAll]
    have := E.dep a.1
    have := F.dep a.2
    omega, fun a b => by
    rw [PyData.eqv, PyData.eqvAll, PyData.eqvAll, PyData.eqvAll, E.eqv, F.eqv]
    obtain ⟨a1, a2⟩ := a
    obtain ⟨b1, b2⟩ := b
    exact Bool.eq_iff_iff.mpr (by simp)⟩
instance {α β γ : Type} [DecidableEq α] [DecidableEq β] [DecidableEq γ] {f : α → PyData} {g : β → PyData} {h : γ → PyData} [E : EqE f] [F : EqE g] [G : EqE h] : EqE (p3 f g h) := ⟨max E.d (max F.d G.d) + 1, fun a => by simp [PyData.canLay0, PyData.canLayAll0, E.can, F.can, G.can], fun a => by
    rw [PyData.depth, PyData.depthAll, PyData.depthAll, PyData.depthAll, PyData.depthAll]
    have := E.dep a.1
    have := F.dep a.2.1
    have := G.dep a.2.2
    omega, fun a b => by
    rw [PyData.eqv, PyData.eqvAll, PyData.eqvAll, PyData.eqvAll, PyData.eqvAll, E.eqv, F.eqv, G.eqv]
    obtain ⟨a1, a2, a3⟩ := a
    obtain ⟨b1, b2, b3⟩ := b
    exact Bool.eq_iff_iff.mpr (by simp)⟩
section
variable {α : Type} [DecidableEq α] {f : α → PyData} [E : EqE f]
theorem shp1 (h : E.d ≤ 64) (a : α) : SeqAt.shaped (f a) = true := by
  unfold SeqAt.shaped
  rw [E.can, Bool.true_and, decide_eq_true_eq]
  exact Nat.le_trans (E.dep a) h
theorem o_eq (h : E.d ≤ 64) (a b : α) : p_eq (f a) (f b) = some (.im (.bool (decide (a = b)))) := by
  unfold p_eq
  rw [shp1 h, shp1 h, E.eqv]
  rfl
end
class Nn {α : Type} (f : α → PyData) : Prop where
  n : ∀ a, p_isN false (f a) .none = some (.bool false) ∧ p_isN true (f a) .none = some (.bool true)
instance : Nn PyData.int := ⟨fun _ => ⟨rfl, rfl⟩⟩
instance : Nn PyData.bool := ⟨fun _ => ⟨rfl, rfl⟩⟩
instance : Nn PyData.str := ⟨fun _ => ⟨rfl, rfl⟩⟩
instance {α : Type} {f : α → PyData} : Nn (tp f) := ⟨fun _ => ⟨rfl, rfl⟩⟩
instance {α : Type} {f : α → PyData} : Nn (ls f) := ⟨fun _ => ⟨rfl, rfl⟩⟩
instance {α β : Type} {f : α → PyData} {g : β → PyData} : Nn (p2 f g) := ⟨fun _ => ⟨rfl, rfl⟩⟩
instance {α β γ : Type} {f : α → PyData} {g : β → PyData} {h : γ → PyData} : Nn (p3 f g h) := ⟨fun _ => ⟨rfl, rfl⟩⟩
section
variable {α β : Type} {f : α → PyData} {l m r : List α} {a : α} {i j k : Int}
theorem atI_map : atI (l.map f) i = (atI l i).map f := by
  unfold atI
  rw [List.length_map]
  cases ixN l.length i with
  | none => rfl
  | some j => exact List.getElem?_map
theorem o_ixT (h : atI l i = some a) : p_ix (tp f l) (.int i) = some (.im (f a)) := by
  show (atI (l.map f) i).map Rs.im = _
  rw [atI_map, h]
  rfl
theorem o_ixL (h : atI l i = some a) : p_ix (ls f l) (.int i) = some (.im (f a)) := by
  show (atI (l.map f) i).map Rs.im = _
  rw [atI_map, h]
  rfl
def divO (i j : Int) : Option Int := if 0 < j ∧ j.natAbs.log2 < 9000 then some (i / j) else none
theorem o_div (h : divO i j = some k) : p_div (.int i) (.int j) = some (.im (.int k)) := by
  unfold divO at h
  by_cases z : 0 < j ∧ j.natAbs.log2 < 9000
  · rw [if_pos z] at h
    cases h
    exact e_divW z.1 z.2
  · rw [if_neg z] at h
    cases h
def modO (i j : Int) : Option Int := if 0 < j then some (i % j) else none
theorem o_mod (h : modO i j = some k) : p_mod (.int i) (.int j) = some (.im (.int k)) := by
  unfold modO at h
  by_cases z : 0 < j
  · rw [if_pos z] at h
    cases h
    exact e_mod z
  · rw [if_neg z] at h
    cases h
def powO (i j : Int) : Option Int := if powC i j = true then some (i ^ j.toNat) else none
theorem o_pow (h : powO i j = some k) : p_pow (.int i) (.int j) = some (.im (.int k)) := by
  unfold powO at h
  by_cases z : powC i j = true
  · rw [if_pos z] at h
    cases h
    unfold p_pow d_int2
    simp only [z, if_true]
    rfl
  · rw [if_neg z] at h
    cases h
def catO (l m : List α) : Option (List α) := if l.length + m.length ≤ 16777216 then some (l ++ m) else none
theorem o_catT (h : catO l m = some r) : p_add (tp f l) (tp f m) = some (.im (tp f r)) := by
  unfold catO at h
  by_cases z : l.length + m.length ≤ 16777216
  · rw [if_pos z] at h
    cases h
    rw [e_catT (by rw [List.length_map, List.length_map]; exact z)]
    show _ = some (Rs.im (.tuple ((l ++ m).map f)))
    rw [List.map_append]
  · rw [if_neg z] at h
    cases h
theorem o_catL (h : catO l m = some r) : p_add (ls f l) (ls f m) = some (.ac (r.map f)) := by
  unfold catO at h
  by_cases z : l.length + m.length ≤ 16777216
  · rw [if_pos z] at h
    cases h
    rw [e_cat (by rw [List.length_map, List.length_map]; exact z), List.map_append]
  · rw [if_neg z] at h
    cases h
theorem cut_map {lo hi : Option Int} : cutD (l.map f) lo hi = (cutD l lo hi).map f := by
  unfold cutD
  rw [List.length_map, ← List.map_drop, ← List.map_take]
theorem o_lenT : c_len [tp f l] = some (.im (.int l.length)) := by
  show some (Rs.im (.int ((l.map f).length : Nat))) = _
  rw [List.length_map]
theorem o_lenL : c_len [ls f l] = some (.im (.int l.length)) := by
  show some (Rs.im (.int ((l.map f).length : Nat))) = _
  rw [List.length_map]
theorem o_sortedL {l : List Int} : c_sortedA [ls PyData.int l] = some (.ac ((upI l).map PyData.int)) := by
  have q : c_sortedI [ls PyData.int l] = some (.ac ((upI l).map PyData.int)) := by
    unfold c_sortedI c_intsL
    dsimp only
    rw [unI_ints]
  unfold c_sortedA orC
  rw [q]
theorem o_int : c_int [.int i] = some (.im (.int i)) := rfl
theorem o_abs : c_abs [.int i] = some (.im (.int (if i < 0 then -i else i))) := rfl
theorem o_max2 : c_max2 [.int i, .int j] = some (.im (.int (max i j))) := n_max2
def rngO (i j : Int) : Option (List Int) := if (rgC i && rgC j) = true then some ((List.range (j - i).toNat).map fun (k : Nat) => i + (k : Int)) else none
def rng1O (j : Int) : Option (List Int) := if rgC j = true then some ((List.range j.toNat).map fun (k : Nat) => (k : Int)) else none
def enumL (l : List α) : List (Int × α) := (List.range l.length).zipWith (fun (i : Nat) a => ((i : Int), a)) l
theorem enum_typed : enumD (l.map f) = (enumL l).map (p2 PyData.int f) := by
  unfold enumD enumL
  rw [List.length_map, List.map_zipWith, List.zipWith_map_right]
def lcO {γ : Type} (p : α → Option Bool) (g : α → Option γ) : List α → Option (List γ)
  | [] => some []
  | a :: l => (p a).bind fun b => if b = true then (g a).bind fun c => (lcO p g l).bind fun cs => some (c :: cs) else lcO p g l
def lcC {γ : Type} (p : α → Option Bool) (g : α → Option γ) (l : List α) : Option (List γ) := if l.length ≤ 16777216 then lcO p g l else none
/-- a comprehension that moves a state -/
def lcSO {γ σ : Type} (g : α → σ → Option (γ × σ)) : List α → σ → Option (List γ × σ)
  | [], s => some ([], s)
  | a :: l, s => (g a s).bind fun c => (lcSO g l c.2).bind fun cs => some (c.1 :: cs.1, cs.2)
def lcCS {γ σ : Type} (g : α → σ → Option (γ × σ)) (l : List α) (s : σ) : Option (List γ × σ) := if l.length ≤ 16777216 then lcSO g l s else none
def andO (a : Bool) (o : Option Bool) : Option Bool := if a = true then o else some false
def orO (a : Bool) (o : Option Bool) : Option Bool := if a = true then some true else o
def putO (l : List α) (i : Int) (a : α) : Option (List α) := (ixN l.length i).bind fun j => some (l.set j a)
def appO (l : List α) (a : α) : Option (List α) := if l.length + 1 ≤ 16777216 then some (l ++ [a]) else none
end
section
variable {x y z : Fe} {c d : Ft} {e e1 e2 e3 : Ev} {r r1 r2 r3 : Rs} {a b : PyData} {ds : List PyData} {fa fb : Fa}
theorem binX {φ : PyData → PyData → Option Rs} (h1 : x e = some (r1, e1)) (h2 : y e1 = some (r2, e2)) (l1 : lookR e2 (frzR r1) = some a) (l2 : lookR e2 (frzR r2) = some b) (h : φ a b = some r) : x_bin φ x y e = some (r, e2) := by
  rw [r_x_bin, r_two, h1]
  simp only [h2, look2, l1, l2, h]
theorem d0 : argsD a_nil e = some ([], e) := rfl
theorem dX (h1 : x e = some (r, e1)) (h2 : argsD fa e1 = some (ds, e2)) (l1 : lookR e2 (frzR r) = some a) : argsD (a_cons x fa) e = some (a :: ds, e2) := by
  rw [r_argsD] at h2 ⊢
  rw [r_a_cons, h1]
  dsimp only
  cases z : fa e1 with
  | none => rw [z] at h2; cases h2
  | some p =>
    obtain ⟨rs, e3⟩ := p
    rw [z] at h2
    dsimp only at h2 ⊢
    cases y : lookAll e3 rs with
    | none => rw [y] at h2; cases h2
    | some es =>
      rw [y] at h2
      cases h2
      rw [n_lookAll1, l1]
      dsimp only
      rw [y]
theorem cbX {φ : List PyData → Option Rs} (h : argsD fa e = some (ds, e1)) (k : φ ds = some r) : x_cb φ fa e = some (r, e1) := by
  rw [r_x_cb, h]
  simp only [k]
theorem isX {T : Ty} {b : Bool} (h1 : x e = some (r, e1)) (l1 : lookR e1 (frzR r) = some a) (k : isD T a = some b) : x_isi T x e = some (.im (.bool b), e1) := by
  rw [r_x_isi, h1]
  simp only [l1, k]
theorem lstX (h : argsI fa e = some (ds, e1)) (hl : ds.length ≤ 16777216) : x_lst fa e = some (.ac ds, e1) := by
  rw [r_x_lst, h]
  dsimp only
  rw [if_pos (okLen_yes hl)]
theorem notX {b : Bool} (h : x e = some (.im (.bool b), e1)) : x_not x e = some (.im (.bool (!b)), e1) := by
  rw [r_x_not, h]
theorem andX {p q : Bool} {o : Option Bool} (h : x e = some (.im (.bool p), e1)) (k : andO p o = some q) (hy : p = true → ∀ q', o = some q' → y e1 = some (.im (.bool q'), e1)) : x_and x y e = some (.im (.bool q), e1) := by
  rw [r_x_and, h]
  cases p with
  | false => cases k; rfl
  | true => exact hy rfl q k
theorem tandX {p q : Bool} {o : Option Bool} (h : c e = some (p, e1)) (k : andO p o = some q) (hy : p = true → ∀ q', o = some q' → d e1 = some (q', e1)) : t_and c d e = some (q, e1) := by
  rw [r_t_and, h]
  cases p with
  | false => cases k; rfl
  | true => exact hy rfl q k
theorem torX {p q : Bool} {o : Option Bool} (h : c e = some (p, e1)) (k : orO p o = some q) (hy : p = false → ∀ q', o = some q' → d e1 = some (q', e1)) : t_or c d e = some (q, e1) := by
  rw [r_t_or, h]
  cases p with
  | true => cases k; rfl
  | false => exact hy rfl q k
end
section
variable {α : Type} {f : α → PyData} {x y z : Fe} {e e1 e2 e3 : Ev} {r : Rs} {i j k : Int} {l : List α} {fa : Fa}
theorem cutTX {lo hi : Option Int} {fl fh : Fo} (h : x e = some (.im (tp f l), e1)) (h1 : fl e1 = some (lo, e2)) (h2 : fh e2 = some (hi, e3)) : x_sl x fl fh e = some (.im (tp f (cutD l lo hi)), e3) := by
  rw [r_x_sl, h]
  simp only [h1, h2, frzR, lookR, sliced, cut_map]
theorem cutLX {lo hi : Option Int} {fl fh : Fo} (h : x e = some (r, e1)) (h1 : fl e1 = some (lo, e2)) (h2 : fh e2 = some (hi, e3)) (hl : lookR e3 (frzR r) = some (ls f l)) : x_sl x fl fh e = some (.ac ((cutD l lo hi).map f), e3) := by
  rw [r_x_sl, h]
  simp only [h1, h2, hl, sliced, cut_map]
theorem oA (h : x e = some (.im (.int i), e1)) : o_at x e = some (some i, e1) := by
  rw [r_o_at, h]
theorem oN : o_no e = some (none, e) := rfl
theorem seqTX (h : x e = some (.im (tp f l), e1)) : i_seq x e = some (l.map f, e1) := iseqT h
theorem seqLX (h : x e = some (.im (ls f l), e1)) : i_seq x e = some (l.map f, e1) := iseqL h
theorem enumI (h : i_seq x e = some (l.map f, e1)) : i_enum x e = some ((enumL l).map (p2 PyData.int f), e1) := by
  rw [r_i_enum, h]
  dsimp only
  rw [enum_typed]
theorem rng_typed (n : Nat) : rngD i n 1 = ((List.range n).map fun (k : Nat) => i + (k : Int)).map PyData.int := by
  unfold rngD
  rw [List.map_map]
  refine List.map_congr_left fun k _ => ?_
  show PyData.int (i + (k : Int) * 1) = .int (i + k)
  rw [Int.mul_one]
theorem rng2I {is : List Int} (h : x e = some (.im (.int i), e1)) (h2 : y e1 = some (.im (.int j), e2)) (k : rngO i j = some is) : i_rng2 x y e = some (is.map PyData.int, e2) := by
  rw [r_i_rng2, h]
  dsimp only
  rw [h2]
  dsimp only
  unfold rngO at k
  by_cases z : (rgC i && rgC j) = true
  · rw [if_pos z] at k ⊢
    cases k
    rw [rng_typed]
  · rw [if_neg z] at k
    cases k
theorem rng1I {is : List Int} (h : x e = some (.im (.int j), e1)) (k : rng1O j = some is) : i_rng1 x e = some (is.map PyData.int, e1) := by
  rw [r_i_rng1, h]
  dsimp only
  unfold rng1O at k
  by_cases z : rgC j = true
  · rw [if_pos z] at k ⊢
    cases k
    rw [rng_typed]
    refine congrArg some (Prod.ext ?_ rfl)
    dsimp only
    congr 1
    refine List.map_congr_left fun k _ => ?_
    omega
  · rw [if_neg z] at k
    cases k
end
section
variable {X β : Type} {enc : X → PyData} {encB : β → PyData} {fi : Fi} {γ : PyData → Ev → Option Ev} {tst : Ft} {fe : Fe} {vs : List Nat} {e e1 : Ev}
theorem lcGo_typed (p : X → Option Bool) (g : X → Option β) (w : Ev) : ∀ (l : List X) (out : List β) (acc : List PyData), lcO p g l = some out → acc.length + l.length ≤ 16777216 →
    (∀ a ∈ l, ∃ a1, γ (enc a) w = some a1 ∧ wipeE a1 vs = w ∧ (∀ b, p a = some b → tst a1 = some (b, a1)) ∧ (p a = some true → ∀ c, g a = some c → ∃ z, fe a1 = some z ∧ imR (frzR z.1) = some (encB c) ∧ z.2 = a1)) →
    lcGo γ tst fe vs (l.map enc) w acc = some (acc ++ out.map encB, w)
  | [], out, acc, h, _, _ => by
    cases h
    show some (acc, _) = some (acc ++ [], _)
    rw [List.append_nil]
  | a :: l, out, acc, h, hl, k => by
    obtain ⟨b, hb, h⟩ := bnd h
    obtain ⟨a1, k1, k2, k3, k4⟩ := k a List.mem_cons_self
    rw [List.length_cons] at hl
    rw [List.map_cons]
    simp only [lcGo, k1, k3 b hb]
    cases b with
    | false =>
      rw [if_neg Bool.false_ne_true] at h
      simp only [k2]
      exact lcGo_typed p g w l out acc h (by omega) fun x m => k x (List.mem_cons_of_mem _ m)
    | true =>
      rw [if_pos rfl] at h
      obtain ⟨c, hc, h⟩ := bnd h
      obtain ⟨cs, hcs, h⟩ := bnd h
      cases h
      obtain ⟨⟨r, e3⟩, z1, z2, z3⟩ := k4 hb c hc
      simp only [z1, z2]
      dsimp only at z3
      rw [if_pos (okLen_yes (by omega)), z3, k2, lcGo_typed p g w l cs _ hcs (by simp only [List.length_append, List.length_cons, List.length_nil]; omega) fun x m => k x (List.mem_cons_of_mem _ m)]
      rw [List.map_cons, List.append_assoc]
      rfl
theorem lcX {items : List X} {p : X → Option Bool} {g : X → Option β} {out : List β} (h : lcC p g items = some out) (hi : fi e = some (items.map enc, e1)) (hn : noAc e1 vs = true)
    (k : ∀ a ∈ items, ∃ a1, γ (enc a) (wipeE e1 vs) = some a1 ∧ wipeE a1 vs = wipeE e1 vs ∧ (∀ b, p a = some b → tst a1 = some (b, a1)) ∧ (p a = some true → ∀ c, g a = some c → ∃ z, fe a1 = some z ∧ imR (frzR z.1) = some (encB c) ∧ z.2 = a1)) :
    x_lc fi γ tst fe vs e = some (.ac (out.map encB), e1) := by
  unfold lcC at h
  by_cases z : items.length ≤ 16777216
  · rw [if_pos z] at h
    unfold x_lc
    simp only [hi]
    rw [if_pos hn, lcGo_typed p g _ items out [] h (by simpa using z) k]
    simp only [rest_wipe, List.nil_append]
  · rw [if_neg z] at h
    cases h
theorem lcGoS_typed {σ : Type} (g : X → σ → Option (β × σ)) (W : σ → Ev) : ∀ (l : List X) (s : σ) (out : List β) (t : σ) (acc : List PyData), lcSO g l s = some (out, t) → acc.length + l.length ≤ 16777216 →
    (∀ a ∈ l, ∀ s c s', g a s = some (c, s') → ∃ a1, γ (enc a) (wipeE (W s) vs) = some a1 ∧ ∃ z, fe a1 = some z ∧ imR (frzR z.1) = some (encB c) ∧ wipeE z.2 vs = wipeE (W s') vs) →
    lcGo γ t_yes fe vs (l.map enc) (wipeE (W s) vs) acc = some (acc ++ out.map encB, wipeE (W t) vs)
  | [], s, out, t, acc, h, _, _ => by
    cases h
    show some (acc, _) = some (acc ++ [], _)
    rw [List.append_nil]
  | a :: l, s, out, t, acc, h, hl, k => by
    obtain ⟨⟨c, s'⟩, hc, h⟩ := bnd h
    obtain ⟨⟨cs, s2⟩, hcs, h⟩ := bnd h
    cases h
    obtain ⟨a1, k1, ⟨r, e3⟩, z1, z2, z3⟩ := k a List.mem_cons_self s c s' hc
    rw [List.length_cons] at hl
    rw [List.map_cons]
    simp only [lcGo, k1, t_yes, z1, z2]
    dsimp only at z3
    rw [if_pos (okLen_yes (by omega)), z3, lcGoS_typed g W l s' cs _ _ hcs (by simp only [List.length_append, List.length_cons, List.length_nil]; omega) fun x m => k x (List.mem_cons_of_mem _ m)]
    rw [List.map_cons, List.append_assoc]
    rfl
theorem lcSX {σ : Type} (W : σ → Ev) {items : List X} {g : X → σ → Option (β × σ)} {s t : σ} {out : List β} (h : lcCS g items s = some (out, t)) (hi : fi e = some (items.map enc, e1)) (h0 : e1 = W s) (hn : noAc (W s) vs = true) (hr : restE (W s) (wipeE (W t) vs) vs = W t)
    (k : ∀ a ∈ items, ∀ s c s', g a s = some (c, s') → ∃ a1, γ (enc a) (wipeE (W s) vs) = some a1 ∧ ∃ z, fe a1 = some z ∧ imR (frzR z.1) = some (encB c) ∧ wipeE z.2 vs = wipeE (W s') vs) :
    x_lc fi γ t_yes fe vs e = some (.ac (out.map encB), W t) := by
  unfold lcCS at h
  by_cases z : items.length ≤ 16777216
  · rw [if_pos z] at h
    subst h0
    unfold x_lc
    simp only [hi]
    rw [if_pos hn, lcGoS_typed g W items s out t [] h (by simpa using z) k]
    simp only [hr, List.nil_append]
  · rw [if_neg z] at h
    cases h
end
section
open Classical
variable {ρ : Type}
noncomputable def chI (enc : ρ → PyData) (o : Option Rs) : Option ρ := if h : ∃ r, o = some (.im (enc r)) then some (choose h) else none
theorem chI_ok {enc : ρ → PyData} {o : Option Rs} {r : ρ} (h : chI enc o = some r) : o = some (.im (enc r)) := by
  unfold chI at h
  by_cases z : ∃ r, o = some (.im (enc r))
  · rw [dif_pos z] at h
    cases h
    exact choose_spec z
  · rw [dif_neg z] at h
    cases h
/-- what it is, where the data tell it -/
theorem chI_eq {enc : ρ → PyData} {o : Option Rs} {r : ρ} (inj : ∀ a b, enc a = enc b → a = b) (h : o = some (.im (enc r))) : chI enc o = some r := by
  have z : ∃ r, o = some (.im (enc r)) := ⟨r, h⟩
  unfold chI
  rw [dif_pos z]
  have q := h.symm.trans (choose_spec z)
  injection q with q
  injection q with q
  rw [inj _ _ q]
end
end DL
namespace DL
open L2 PySem PySem.Spec PySem.W PyProof.Rows
inductive Lp (σ ρ : Type) where
  | nx (s : σ) | bk (s : σ) | rt (r : ρ)
def PK {σ ρ : Type} (inv : σ → Ev → Prop) (rt : ρ → Rs → Ev → Prop) : Lp σ ρ → Fl → Prop
  | .nx s, .nx e => inv s e
  | .nx s, .ct e => inv s e
  | .bk s, .bk e => inv s e
  | .rt r, .rt r' e => rt r r' e
  | _, _ => False
def SK {σ : Type} (inv : σ → Ev → Prop) : σ → Fl → Prop
  | s, .nx e => inv s e
  | s, .ct e => inv s e
  | _, _ => False
def RK {ρ : Type} (rt : ρ → Rs → Ev → Prop) : ρ → Fl → Prop
  | r, .rt r' e => rt r r' e
  | r, .nx e => rt r (.im .none) e
  | _, _ => False
def forG {α σ ρ : Type} (body : α → σ → Option (Lp σ ρ)) : List α → σ → Option (Lp σ ρ)
  | [], s => some (.nx s)
  | a :: l, s => (body a s).bind fun r => match r with
    | .nx s' => forG body l s'
    | .bk s' => some (.nx s')
    | .rt r => some (.rt r)
def forS {α σ : Type} (body : α → σ → Option σ) : List α → σ → Option σ
  | [], s => some s
  | a :: l, s => (body a s).bind fun s' => forS body l s'
def whS {σ : Type} (c : σ → Option Bool) (body : σ → Option σ) : Nat → σ → Option σ
  | 0, _ => none
  | n + 1, s => (c s).bind fun b => if b = true then (body s).bind fun s' => whS c body n s' else some s
def thenL {σ ρ τ : Type} (o : Option (Lp σ ρ)) (rt : ρ → Option τ) (k : σ → Option τ) : Option τ := o.bind fun l => match l with
  | .nx s => k s
  | .bk s => k s
  | .rt r => rt r
theorem thenL_nx {σ ρ τ : Type} {o : Option (Lp σ ρ)} {s : σ} {rt : ρ → Option τ} {k : σ → Option τ} (h : o = some (.nx s)) : thenL o rt k = k s := by
  rw [h]; rfl
theorem thenL_rt {σ ρ τ : Type} {o : Option (Lp σ ρ)} {r : ρ} {rt : ρ → Option τ} {k : σ → Option τ} (h : o = some (.rt r)) : thenL o rt k = rt r := by
  rw [h]; rfl
section
variable {f g : Fs} {e e1 e2 : Ev} {Q : Fl → Prop} {x y : Fe} {i : Nat} {ds : List PyData}
theorem t_set {α : Type} {f : α → PyData} {v w : α} (hw : some v = some w) (h : x e = some (.im (f v), e1)) (ok : okS [i] e1 = true) (q : Q (.nx (e1.set i (some (.im (f w)))))) : wS (s_setF i x) e Q := by
  cases hw
  exact w_setI h ok q
theorem t_setB {α : Type} {f : α → PyData} {v w : α} (hw : some v = some w) (h : x e = some (.im (f v), e1)) (ok : okS [i] e1 = true) (q : Q (.nx (e1.set i (some (.im (f w)))))) : wS (s_set i x) e Q := by
  cases hw
  exact w_setB h ok q
theorem t_setL {α : Type} {f : α → PyData} {v w : List α} (hw : some v = some w) (h : x e = some (.ac (v.map f), e1)) (ok : okS [i] e1 = true) (q : Q (.nx (e1.set i (some (.im (ls f w)))))) : wS (s_setF i x) e Q := by
  cases hw
  exact w_setL h ok q
theorem t_setA {α : Type} {f : α → PyData} {v w : List α} (hw : some v = some w) (h : x e = some (.ac (v.map f), e1)) (ok : okS [i] e1 = true) (q : Q (.nx (e1.set i (some (.ac (w.map f)))))) : wS (s_set i x) e Q := by
  cases hw
  exact w_setA h ok q
theorem t_app {α : Type} {f : α → PyData} {l m : List α} {a : α} (hm : appO l a = some m) (h : ∃ r, x e = some (r, e1) ∧ imR (frzR r) = some (f a)) (h0 : isAc e[i]? = true) (hi : e1[i]? = some (some (.ac (l.map f)))) (q : Q (.nx (e1.set i (some (.ac (m.map f)))))) : wS (s_drop (x_app i x)) e Q := by
  unfold appO at hm
  by_cases z : l.length + 1 ≤ 16777216
  · rw [if_pos z] at hm
    cases hm
    obtain ⟨r, h, hr⟩ := h
    refine w_drop (r := .im .none) ?_ q
    rw [r_x_app, if_pos h0, h]
    simp only [hr, hi]
    rw [if_pos (okLen_yes (by rw [List.length_map]; exact z)), List.map_append]
    rfl
  · rw [if_neg z] at hm
    cases hm
theorem t_augI {g : Int → Int → Int} {l m : List Int} {k a b : Int} (ha : atI l k = some a) (hm : putO l k (g a b) = some m) (h0 : isAc e[i]? = true) (hk : y e = some (.im (.int k), e1)) (hi : e1[i]? = some (some (.ac (l.map PyData.int)))) (h : x e1 = some (.im (.int b), e2)) (hi2 : e2[i]? = some (some (.ac (l.map PyData.int)))) (q : Q (.nx (e2.set i (some (.ac (m.map PyData.int)))))) : wS (s_augI g i y x) e Q := by
  obtain ⟨j, hj, hm⟩ := bnd hm
  cases hm
  refine ⟨_, ?_, q⟩
  rw [r_s_augI, if_pos h0, hk]
  simp only [hi, atI_map, ha, Option.map_some, h, hi2]
  rw [List.length_map, hj]
  simp only [List.map_set]
theorem t_aug {g : Int → Int → Int} {a b w : Int} (hw : some (g a b) = some w) (h0 : e[i]? = some (some (.im (.int a)))) (h : x e = some (.im (.int b), e1)) (ok : okS [i] e1 = true) (q : Q (.nx (e1.set i (some (.im (.int w)))))) : wS (s_aug g i x) e Q := by
  cases hw
  refine ⟨_, ?_, q⟩
  rw [r_s_aug, h0]
  simp only [h]
  rw [if_pos ok]
def setO (l : List Int) : Option (List Int) := if l.length + 1 < 4096 then some l else none
def JK {σ τ : Type} (inv : σ → Ev → Prop) (seg : σ → Option τ) (t : τ) (Q : Fl → Prop) : Fl → Prop
  | .nx e => ∃ s, inv s e ∧ seg s = some t
  | fl => Q fl
theorem t_join {σ τ : Type} (inv : σ → Ev → Prop) (seg : σ → Option τ) {t : τ} (K : ∀ s e, inv s e → seg s = some t → wS g e Q) (h : wS f e (JK inv seg t Q)) : wS (s_seq f g) e Q := by
  obtain ⟨fl, h1, h2⟩ := h
  refine w_seq ⟨fl, h1, ?_⟩
  cases fl with
  | nx e => obtain ⟨s, h3, h4⟩ := h2; exact K s e h3 h4
  | bk e => exact h2
  | ct e => exact h2
  | rt r e => exact h2
end
section
variable {fi : Fi} {γ : PyData → Ev → Option Ev} {S : List Nat} {fb : Fs} {e e1 : Ev} {Q : Fl → Prop}
theorem t_forG {X σ ρ : Type} (enc : X → PyData) (items : List X) (body : X → σ → Option (Lp σ ρ)) (inv : σ → Ev → Prop) (rt : ρ → Rs → Ev → Prop) {s0 : σ} {l : Lp σ ρ} (hi : fi e = some (items.map enc, e1)) (h0 : inv s0 e1) (h : forG body items s0 = some l)
    (hb : ∀ x s l, body x s = some l → ∀ e, inv s e → okS S e = true ∧ ∃ e2, γ (enc x) e = some e2 ∧ wS fb e2 (PK inv rt l))
    (q1 : ∀ s, l = .nx s → ∀ e, inv s e → Q (.nx e)) (q2 : ∀ r, l = .rt r → ∀ r' e, rt r r' e → Q (.rt r' e)) : wS (s_for fi γ S fb) e Q := by
  have go : ∀ (items : List X) (s0 : σ) (e : Ev), inv s0 e → forG body items s0 = some l → ∃ fl, forGo γ S fb (items.map enc) e = some fl ∧ Q fl := by
    intro items
    induction items with
    | nil =>
      intro s0 e h0 h
      cases h
      exact ⟨_, rfl, q1 s0 rfl e h0⟩
    | cons x items ih =>
      intro s0 e h0 h
      obtain ⟨l1, hl1, h⟩ := bnd h
      obtain ⟨k1, e2, k2, fl, k3, k4⟩ := hb x s0 l1 hl1 e h0
      rw [List.map_cons]
      simp only [forGo, k1, k2, k3, if_true]
      cases l1 with
      | nx s1 =>
        cases fl with
        | nx e3 => exact ih s1 e3 k4 h
        | ct e3 => exact ih s1 e3 k4 h
        | bk e3 => exact k4.elim
        | rt r e3 => exact k4.elim
      | bk s1 =>
        cases h
        cases fl with
        | nx e3 => exact k4.elim
        | ct e3 => exact k4.elim
        | bk e3 => exact ⟨_, rfl, q1 s1 rfl e3 k4⟩
        | rt r e3 => exact k4.elim
      | rt r =>
        cases h
        cases fl with
        | nx e3 => exact k4.elim
        | ct e3 => exact k4.elim
        | bk e3 => exact k4.elim
        | rt r' e3 => exact ⟨_, rfl, q2 r rfl r' e3 k4⟩
  obtain ⟨fl, h1, h2⟩ := go items s0 e1 h0 h
  exact ⟨fl, sf hi h1, h2⟩
theorem t_forS {X σ : Type} (enc : X → PyData) (items : List X) (body : X → σ → Option σ) (inv : σ → Ev → Prop) {s0 s : σ} (hi : fi e = some (items.map enc, e1)) (h0 : inv s0 e1) (h : forS body items s0 = some s)
    (hb : ∀ x s s', body x s = some s' → ∀ e, inv s e → okS S e = true ∧ ∃ e2, γ (enc x) e = some e2 ∧ wS fb e2 (SK inv s'))
    (q1 : ∀ e, inv s e → Q (.nx e)) : wS (s_for fi γ S fb) e Q := by
  have go : ∀ (items : List X) (s0 : σ) (e : Ev), inv s0 e → forS body items s0 = some s → ∃ fl, forGo γ S fb (items.map enc) e = some fl ∧ Q fl := by
    intro items
    induction items with
    | nil =>
      intro s0 e h0 h
      cases h
      exact ⟨_, rfl, q1 e h0⟩
    | cons x items ih =>
      intro s0 e h0 h
      obtain ⟨l1, hl1, h⟩ := bnd h
      obtain ⟨k1, e2, k2, fl, k3, k4⟩ := hb x s0 l1 hl1 e h0
      rw [List.map_cons]
      simp only [forGo, k1, k2, k3, if_true]
      cases fl with
      | nx e3 => exact ih l1 e3 k4 h
      | ct e3 => exact ih l1 e3 k4 h
      | bk e3 => exact k4.elim
      | rt r e3 => exact k4.elim
  obtain ⟨fl, h1, h2⟩ := go items s0 e1 h0 h
  exact ⟨fl, sf hi h1, h2⟩
theorem t_whS {σ : Type} {n : Ev → Nat} {tst : Ft} (c : σ → Option Bool) (body : σ → Option σ) (inv : σ → Ev → Prop) {s0 s : σ} {N : Nat} (hN : n e = N) (h0 : inv s0 e) (h : whS c body N s0 = some s)
    (hc : ∀ s b, c s = some b → ∀ e, inv s e → tst e = some (b, e))
    (hb : ∀ s s', body s = some s' → ∀ e, inv s e → wS fb e (SK inv s'))
    (q1 : ∀ e, inv s e → Q (.nx e)) : wS (s_while n tst fb) e Q := by
  have go : ∀ (N : Nat) (s0 : σ) (e : Ev), inv s0 e → whS c body N s0 = some s → ∃ fl, whGo tst fb N e = some fl ∧ Q fl := by
    intro N
    induction N with
    | zero =>
      intro s0 e h0 h
      cases h
    | succ N ih =>
      intro s0 e h0 h
      obtain ⟨b, hb1, h⟩ := bnd h
      have k0 := hc s0 b hb1 e h0
      cases b with
      | false =>
        cases h
        exact ⟨_, by simp only [whGo, k0], q1 e h0⟩
      | true =>
        rw [if_pos rfl] at h
        obtain ⟨l1, hl1, h⟩ := bnd h
        obtain ⟨fl, k3, k4⟩ := hb s0 l1 hl1 e h0
        simp only [whGo, k0, k3]
        cases fl with
        | nx e3 => exact ih l1 e3 k4 h
        | ct e3 => exact ih l1 e3 k4 h
        | bk e3 => exact k4.elim
        | rt r e3 => exact k4.elim
  unfold wS s_while
  rw [hN]
  exact go N s0 e h0 h
end
section
variable {x y : Fe} {c d : Ft} {e e1 e2 : Ev} {p q : Bool} {i : Nat} {ds : List PyData}
theorem vB (h : e[i]? = some (some (.ac ds))) : x_var i e = some (.br i, e) := by
  rw [r_x_var, h]
theorem andXt (h : x e = some (.im (.bool p), e1)) (k : y e1 = some (.im (.bool q), e1)) : x_and x y e = some (.im (.bool (p && q)), e1) := by
  rw [r_x_and, h]
  cases p with
  | false => rfl
  | true => exact k
theorem torXt (h : c e = some (p, e1)) (k : d e1 = some (q, e1)) : t_or c d e = some (p || q, e1) := by
  rw [r_t_or, h]
  cases p with
  | false => exact k
  | true => rfl
end
section
variable {ρ : Type} {n nl : Nat} {g : Fs} {ds : List PyData}
def rtI (enc : ρ → PyData) (r : ρ) (r' : Rs) (e : Ev) : Prop := finR r' e = some (.im (enc r))
def rtA (enc : ρ → PyData) (r : List ρ) (r' : Rs) (e : Ev) : Prop := finR r' e = some (.ac (r.map enc))
theorem t_fnI {enc : ρ → PyData} {r : ρ} (hl : ds.length = n) (h : wS g (env0 ds nl) (RK (rtI enc) r)) : runF n nl g ds = some (.im (enc r)) := by
  obtain ⟨fl, h1, h2⟩ := h
  unfold runF
  rw [if_pos hl, h1]
  cases fl with
  | nx e => exact h2
  | bk e => exact h2.elim
  | ct e => exact h2.elim
  | rt r e => exact h2
theorem t_fnA {enc : ρ → PyData} {r : List ρ} (hl : ds.length = n) (h : wS g (env0 ds nl) (RK (rtA enc) r)) : runF n nl g ds = some (.ac (r.map enc)) := by
  obtain ⟨fl, h1, h2⟩ := h
  unfold runF
  rw [if_pos hl, h1]
  cases fl with
  | nx e => exact h2
  | bk e => exact h2.elim
  | ct e => exact h2.elim
  | rt r e => exact h2
end
end DL
namespace DL
open L2 PySem PySem.Spec PySem.W PyProof.Rows
end DL
namespace DL
open PySem PySem.Spec PyProof.Rows L2
structure Xc where
  c : Str
  fs : List (Str × PyData)
abbrev Ex (α : Type) := α ⊕ (Xc × Ev)
abbrev Fsx := Ev → Option (Ex Fl)
abbrev Fex := Ev → Option (Ex (Rs × Ev))
/-- its dict -/
def FsAt (K : PySem.W.Frag) (G : Hp) (fs : List (Str × V)) (ds : List (Str × PyData)) : Prop := fs.map (·.1) = ds.map (·.1) ∧ DpAll K G (fs.map (·.2)) (ds.map (·.2))
def XcAt (K : PySem.W.Frag) (mg : Str → Option Value) (G : Hp) (cls : Value) (d : Option Addr) (x : Xc) : Prop := ∃ (C dd : Addr) (fs : List (Str × V)), mg x.c = some (.ref C) ∧ cls = .ref C ∧ d = some dd ∧ G dd = some (.xd fs) ∧ FsAt K G fs x.fs
theorem FsAt.same {K : PySem.W.Frag} {G G' : Hp} {fs : List (Str × V)} {ds : List (Str × PyData)} (h : FsAt K G fs ds) (s : Same G G') : FsAt K G' fs ds := ⟨h.1, dpAll_same s h.2⟩
theorem XcAt.same {K : PySem.W.Frag} {mg : Str → Option Value} {G G' : Hp} {cls : Value} {d : Option Addr} {x : Xc} (h : XcAt K mg G cls d x) (s : Same G G') : XcAt K mg G' cls d x := by
  obtain ⟨C, dd, fs, h1, h2, h3, h4, h5⟩ := h
  exact ⟨C, dd, fs, h1, h2, h3, s dd _ h4, h5.same s⟩
def PoX (K : PySem.W.Frag) (mg : Str → Option Value) (m : Option Addr) (E : Ef) (G0 G : Hp) (D : Ends) (W : WX) : Ex Fl → Prop
  | .inl fl => PoS K m E G0 G D fl
  | .inr (x, e) => ∀ cls d G' σ H, Same G G' → Rz K m E G0 G' e σ H → XcAt K mg G' cls d x → W cls d σ H
theorem PoX.aft {K : PySem.W.Frag} {mg : Str → Option Value} {m : Option Addr} {E : Ef} {G0 G G' : Hp} {D : Ends} {W : WX} {o : Ex Fl} (P : PoX K mg m E G0 G D W o) (s : Same G G') : PoX K mg m E G0 G' D W o := by
  cases o with
  | inl fl => exact PoS.aft P s
  | inr y => exact fun cls d G2 σ H s2 R X => P cls d G2 σ H (s.trans s2) R X
/-- the weakest reading -/
def tsX (K : PySem.W.Frag) (mg : Str → Option Value) (f : Fsx) (W : WX) : TS := fun D σ H => ∃ m E G0 G e o, Rz K m E G0 G e σ H ∧ f e = some o ∧ PoX K mg m E G0 G D W o
structure SDX (X : Cx) (W : WX) (st : Stmt) (f : Fsx) : Prop where
  run : PS X st (tsX X.K X.mg f W)
structure SsDX (X : Cx) (W : WX) (sts : List Stmt) (f : Fsx) : Prop where
  run : PSs X sts (tsX X.K X.mg f W)
def PoE (K : PySem.W.Frag) (mg : Str → Option Value) (m : Option Addr) (E : Ef) (G0 : Hp) (σ : St) (G H : Hp) (e : Ev) (W : WX) (Q : VK) : Ex (Rs × Ev) → Prop
  | .inl (r, e') => Po K m E G0 σ G H e r e' Q
  | .inr (x, e') => ∀ cls d G' H', Rl K m E G0 G' e' σ H' → Stp σ G H e G' H' e' → XcAt K mg G' cls d x → W cls d σ H'
def teX (K : PySem.W.Frag) (mg : Str → Option Value) (f : Fex) (W : WX) : TE := fun σ H Q => ∃ m E G0 G e o, Rl K m E G0 G e σ H ∧ f e = some o ∧ PoE K mg m E G0 σ G H e W Q o
structure EDX (X : Cx) (W : WX) (x : Expr) (f : Fex) : Prop where
  run : PE X x (teX X.K X.mg f W)
theorem ps_imp {X : Cx} {st : Stmt} {t u : TS} (h : PS X st t) (k : ∀ D σ H, u D σ H → t D σ H) : PS X st u := ⟨fun pins s σ H D I q => h.run pins s σ H D I (k D σ H q)⟩
theorem pss_imp {X : Cx} {st : List Stmt} {t u : TS} (h : PSs X st t) (k : ∀ D σ H, u D σ H → t D σ H) : PSs X st u := ⟨fun pins s σ H D I q => h.run pins s σ H D I (k D σ H q)⟩
theorem pe_imp {X : Cx} {x : Expr} {t u : TE} (h : PE X x t) (k : ∀ σ H Q, u σ H Q → t σ H Q) : PE X x u := ⟨fun pins s σ H Q I q => h.run pins s σ H Q I (k σ H Q q)⟩
section
variable {X : Cx} {W : WX} {st : Stmt} {rest : List Stmt} {f g : Fsx} {fs : Fs} {pos : Pos} {a : Expr} {fe : Fe}
def xS (f : Fs) : Fsx := fun e => (f e).map .inl
def xE (f : Fe) : Fex := fun e => (f e).map .inl
theorem SD.x (h : SD X st fs) : SDX X W st (xS fs) := by
  obtain ⟨t, p, k⟩ := h
  refine ⟨ps_imp p fun D σ H ⟨m, E, G0, G, e, o, R, q, P⟩ => ?_⟩
  unfold xS at q
  cases h1 : fs e with
  | none => rw [h1] at q; cases q
  | some fl =>
    rw [h1] at q
    cases q
    exact k m E G0 G e σ H fl D R h1 P
theorem SsD.x {sts : List Stmt} (h : SsD X sts fs) : SsDX X W sts (xS fs) := by
  obtain ⟨t, p, k⟩ := h
  refine ⟨pss_imp p fun D σ H ⟨m, E, G0, G, e, o, R, q, P⟩ => ?_⟩
  unfold xS at q
  cases h1 : fs e with
  | none => rw [h1] at q; cases q
  | some fl =>
    rw [h1] at q
    cases q
    exact k m E G0 G e σ H fl D R h1 P
theorem ED.x (h : ED X a fe) : EDX X W a (xE fe) := by
  obtain ⟨t, p, k⟩ := h
  refine ⟨pe_imp p fun σ H Q ⟨m, E, G0, G, e, o, R, q, P⟩ => ?_⟩
  unfold xE at q
  cases h1 : fe e with
  | none => rw [h1] at q; cases q
  | some z =>
    obtain ⟨r, e'⟩ := z
    rw [h1] at q
    cases q
    exact k m E G0 G e σ H r e' Q R h1 P
def x_seq (f g : Fsx) : Fsx := fun e => match f e with
  | some (.inl (.nx e1)) => g e1
  | o => o
theorem ssdx_nil : SsDX X W [] (xS s_nx) := SsD.x ssd_nil
theorem ssdx_cons (h : SDX X W st f) (h2 : SsDX X W rest g) : SsDX X W (st :: rest) (x_seq f g) := by
  refine ⟨pss_imp (pss_cons h.run h2.run) fun D σ H ⟨m, E, G0, G, e, o, R, q, P⟩ => ?_⟩
  unfold x_seq at q
  show tsX X.K X.mg f W { D with nx := tsX X.K X.mg g W D } σ H
  split at q
  · rename_i e1 h1
    exact ⟨m, E, G0, G, e, _, R, h1, fun G' σ' H' s R' => ⟨m, E, G0, G', e1, o, R', q, P.aft s⟩⟩
  · rename_i h1
    refine ⟨m, E, G0, G, e, o, R, q, ?_⟩
    cases o with
    | inl fl =>
      cases fl with
      | nx e1 => exact absurd q (h1 e1)
      | bk e1 => exact P
      | ct e1 => exact P
      | rt r e1 => exact P
    | inr y => exact P
theorem ssdx_one (h : SDX X W st f) : SsDX X W [st] f := by
  refine ⟨pss_imp (pss_one h.run) fun D σ H q => q⟩
def x_ifS (c : Ft) (f g : Fsx) : Fsx := fun e => match c e with
  | some (true, e1) => f e1
  | some (false, e1) => g e1
  | none => none
theorem sdx_if {tst : Expr} {A B : List Stmt} {c : Ft} (hc : TD X tst c) (ha : SsDX X W A f) (hb : SsDX X W B g) : SDX X W (.If tst A B pos) (x_ifS c f g) := by
  obtain ⟨t, p, k⟩ := hc
  refine ⟨ps_imp (ps_if p ha.run hb.run) fun D σ H ⟨m, E, G0, G, e, o, R, q, P⟩ => ?_⟩
  unfold x_ifS at q
  split at q
  · rename_i e1 h1
    refine k m E G0 G e σ H true e1 _ R.r h1 fun G' H' R' S' => ?_
    rw [if_pos rfl]
    exact ⟨m, E, G0, G', e1, o, R.exp R' S', q, P.aft S'.gg⟩
  · rename_i e1 h1
    refine k m E G0 G e σ H false e1 _ R.r h1 fun G' H' R' S' => ?_
    rw [if_neg Bool.false_ne_true]
    exact ⟨m, E, G0, G', e1, o, R.exp R' S', q, P.aft S'.gg⟩
  · cases q
variable {fx : Fex}
def x_drop (f : Fex) : Fsx := fun e => match f e with
  | some (.inl (_, e1)) => some (.inl (.nx e1))
  | some (.inr y) => some (.inr y)
  | none => none
theorem sdx_expr (h : EDX X W a fx) (hs : swapsWith a none pos.line X.env = pure false := by rfl) : SDX X W (.Expr a pos) (x_drop fx) := by
  refine ⟨ps_imp (ps_expr h.run hs) fun D σ H ⟨m, E, G0, G, e, o, R, q, P⟩ => ?_⟩
  unfold x_drop at q
  split at q
  · rename_i r e1 h1
    cases q
    exact ⟨m, E, G0, G, e, _, R.r, h1, fun v G' H' R' S' V N => P G' σ H' S'.gg (R.exp R' S')⟩
  · rename_i y h1
    cases q
    obtain ⟨x, e1⟩ := y
    exact ⟨m, E, G0, G, e, _, R.r, h1, fun cls d G' H' R' S' X' => P cls d G' σ H' S'.gg (R.exp R' S') X'⟩
  · cases q
def x_ret (f : Fex) : Fsx := fun e => match f e with
  | some (.inl (r, e1)) => some (.inl (.rt r e1))
  | some (.inr y) => some (.inr y)
  | none => none
theorem sdx_ret (h : EDX X W a fx) : SDX X W (.Return (some a) pos) (x_ret fx) := by
  refine ⟨ps_imp (ps_ret h.run) fun D σ H ⟨m, E, G0, G, e, o, R, q, P⟩ => ?_⟩
  unfold x_ret at q
  split at q
  · rename_i r e1 h1
    cases q
    exact ⟨m, E, G0, G, e, _, R.r, h1, fun v G' H' R' S' V N => P v G' σ H' S'.gg (R.exp R' S') V⟩
  · rename_i y h1
    cases q
    obtain ⟨x, e1⟩ := y
    exact ⟨m, E, G0, G, e, _, R.r, h1, fun cls d G' H' R' S' X' => P cls d G' σ H' S'.gg (R.exp R' S') X'⟩
  · cases q
def x_set (i : Nat) (f : Fex) : Fsx := fun e => match f e with
  | some (.inl (r, e1)) => (s_setF i (fun _ => some (r, e1)) e).map .inl
  | some (.inr y) => some (.inr y)
  | none => none
theorem sdx_set {x : Str} {pos' : Pos} (i : Nat) (hN : X.N.Nodup) (h : EDX X W a fx) (hi : X.N[i]? = some x := by rfl) (hx : Loc X.env.scope x := by first | exact .inl rfl | exact .inr rfl) (hs : swapsWith a (some (.Name x pos')) pos.line X.env = pure false := by rfl)
    (hf : X.fn x = true ∨ X.env.scope.names.lookup x = some .local := by first | exact .inl rfl | exact .inr rfl | assumption) : SDX X W (.Assign [.Name x pos'] a pos) (x_set i fx) := by
  refine ⟨ps_imp (ps_set hN hi hx h.run hs hf) fun D σ H ⟨m, E, G0, G, e, o, R, q, P⟩ => ?_⟩
  unfold x_set at q
  split at q
  · rename_i r e1 h1
    refine ⟨m, E, G0, G, e, _, R.r, h1, fun v G' H' R' S' V N => ?_⟩
    have Rx := R.exp R' S'
    obtain ⟨G2, R2, S2, s2, V2⟩ := R'.freeze S' V N
    have Rx2 := R.exp R2 S2
    rw [r_s_setF] at q
    dsimp only at q
    by_cases ok : okS [i] e1 = true
    · rw [if_pos ok] at q
      cases hr : frzR r with
      | im d =>
        rw [hr] at q V2
        cases q
        exact P G2 _ H' S2.gg (Rx2.setI V2 ok)
      | ac ds => cases r <;> cases hr
      | br j =>
        rw [hr] at q
        cases q
    · rw [if_neg ok] at q
      cases q
  · rename_i y h1
    cases q
    obtain ⟨x, e1⟩ := y
    exact ⟨m, E, G0, G, e, _, R.r, h1, fun cls d G' H' R' S' X' => P cls d G' σ H' S'.gg (R.exp R' S') X'⟩
  · cases q
end
end DL
namespace DL
open PySem PySem.Spec PyProof.Rows L2
abbrev Ro := Rs ⊕ Xc
def spX (K : PySem.W.Frag) (mg : Str → Option Value) (n : Nat) (φ : List PyData → Option Ro) : Sp := fun vs H Q E => ∃ G ds o, Same G H ∧ DpAll K G vs ds ∧ vs.length = n ∧ φ ds = some o ∧
  (∀ r, o = .inl r → ∀ v G' H', Same G G' → Same G' H' → Same H H' → (∀ a, G a = none → H a ≠ none → G' a = none) → VrF K G' H H' v r → Q v H') ∧
  (∀ x, o = .inr x → ∀ cls d G' H', Same G G' → Same G' H' → Same H H' → (∀ a, G a = none → H a ≠ none → G' a = none) → XcAt K mg G' cls d x → E cls d H')
inductive KfX (P : Program) (w : World) (K : PySem.W.Frag) (mg : Str → Option Value) (base : Heap) (k : Nat) (x : Str) (sp : Sp) (dvs : List V) : Prop where
  | kept (at_ : Addr) (fd : FuncData) (names : List Str) (given : List Value) (fn : FnOk P w K mg base (L2N.CX P w) k at_ fd names sp) (here : mg x = some (.ref at_)) (stays : PySem.W.keepIn K (.ref at_) = true) (binds : Binds K fd names given) (vals : Vals dvs given)
def runX (n nl : Nat) (g : Fsx) (ds : List PyData) : Option Ro := if ds.length = n then (match g (env0 ds nl) with
  | some (.inl (.rt r e)) => (finR r e).map .inl
  | some (.inl (.nx _)) => some (.inl (.im .none))
  | some (.inr (x, _)) => some (.inr x)
  | _ => none) else none
theorem runX_len {n nl : Nat} {g : Fsx} : ∀ ds, (runX n nl g ds).isSome = true → ds.length = n := fun ds h => by
  unfold runX at h
  by_cases z : ds.length = n
  · exact z
  · rw [if_neg z] at h
    cases h
section
variable {P : Program} {w : World} {K : PySem.W.Frag} {mg : Str → Option Value} {base : Heap} {x qual : Str} {params : Arguments} {body : List Stmt} {scope : Scope} {dvs : List V} {kws : List (Str × V)} {f : Addr} {fd : FuncData} {N ps : List Str} {k n nl : Nat} {g : Fsx}
theorem fnX (F : FunD K x qual params body scope dvs kws f fd) (S : FnScope N ps scope) (hp : ps.length = n) (hl : n + nl = N.length)
    (hb : ∀ (cdv : Value) (A : Around) (outer : List Env) (s : Shared) (H : Hp) (E : XK), Room k (A.deeper (envOfC qual scope s.heap.objs.size f cdv)) → L2N.Takes (cxOf (L2N.CX P w) P w K mg base N qual scope f cdv A outer s H E) (fun cls d _ H => E cls d H) →
      SsDX (cxOf (L2N.CX P w) P w K mg base N qual scope f cdv A outer s H E) (fun cls d _ H => E cls d H) body g) :
    FnOk P w K mg base (L2N.CX P w) (k + 1) f fd ps (spX K mg n (runX n nl g)) := by
  refine F.ok S (fun vs H Q E h => ?_) fun cdv A outer s H vs Q E hr h => ?_
  · obtain ⟨_, _, _, _, _, h, _⟩ := h
    rw [h, hp]
  · have b := hb cdv A outer s H E hr (L2N.takes_of rfl rfl rfl rfl)
    obtain ⟨G, ds, o, s1, hd, hv, hr2, hQ, hE⟩ := h
    refine ⟨_, b.run, ?_⟩
    have Rz0 : Rz K none (Ef.of H) G G (env0 ds nl) (L2.start N vs) H := rz_start s1 hd (by omega)
    unfold runX at hr2
    rw [if_pos (by rw [← dpAll_len hd]; exact hv)] at hr2
    have nw : ∀ {e' : Ev} {G' : Hp} {σ' : St} {H' : Hp}, Rz K none (Ef.of H) G G' e' σ' H' → (∀ a, G a = none → H a ≠ none → G' a = none) := fun R' => R'.r.nw
    have hh : ∀ {e' : Ev} {G' : Hp} {σ' : St} {H' : Hp}, Rz K none (Ef.of H) G G' e' σ' H' → Same H H' := fun R' a o z => R'.r.eh a o z (by simp)
    split at hr2
    · rename_i r' e' h1
      refine ⟨none, Ef.of H, G, G, _, _, Rz0, h1, fun v G' σ' H' s2 R' V' => ?_⟩
      unfold finR at hr2
      cases r' with
      | im d =>
        cases hr2
        exact hQ _ rfl v G' H' s2 R'.r.gh (hh R') (nw R') V'
      | ac d =>
        cases hr2
        obtain ⟨p, ws, a1, a2, a3, a4, a5, _⟩ := V'
        exact hQ _ rfl v G' H' s2 R'.r.gh (hh R') (nw R') ⟨p, ws, a1, a2, a3, a4, a5⟩
      | br i =>
        dsimp only at hr2
        split at hr2
        · rename_i d h2
          cases hr2
          have b2 : σ'[i]? = some (some v) := V'
          obtain ⟨p, ws, a1, a2, a3, a4, a5⟩ := R'.r.ac i d h2
          rw [a1] at b2
          cases b2
          have a5 : H p = none := by
            rcases a5 with a5 | a5
            · exact a5
            · cases a5.1
          exact hQ _ rfl _ G' H' s2 R'.r.gh (hh R') (nw R') ⟨p, ws, rfl, a5, a2, a3, a4⟩
        · cases hr2
    · rename_i e' h1
      cases hr2
      exact ⟨none, Ef.of H, G, G, _, _, Rz0, h1, fun G' σ' H' s2 R' => hQ _ rfl .non G' H' s2 R'.r.gh (hh R') (nw R') .non⟩
    · rename_i xc e' h1
      cases hr2
      exact ⟨none, Ef.of H, G, G, _, _, Rz0, h1, fun cls d G' σ' H' s2 R' X' => hE _ rfl cls d G' H' s2 R'.r.gh (hh R') (nw R') X'⟩
    · cases hr2
end
def x_callX (φ : List PyData → Option Ro) (dds : List PyData) (fa : Fa) : Fex := fun e => match argsI fa e with
  | some (ds, e1) => (match φ (ds ++ dds) with
    | some (.inl (.im d)) => some (.inl (.im d, e1))
    | some (.inl (.ac cs)) => some (.inl (.ac cs, e1))
    | some (.inr x) => some (.inr (x, e1))
    | _ => none)
  | none => none
def tCallX (sp : Sp) (dvs : List V) (W : WX) (t : TA) : TE := fun σ H Q => t σ H fun vs H1 => sp (vs ++ dvs) H1 Q (fun cls d H => W cls d σ H)
section
variable {X : Cx} {W : WX} {k j n : Nat} {f : Addr} {fd : FuncData} {ps : List Str} {sp : Sp} {x : Str} {p pos : Pos} {a : Expr} {es : List Expr} {t : TA} {dvs : List V} {ds : List Value} {dds : List PyData} {fa : Fa}
theorem pe_callXd (F : FnOk X.prog X.w X.K X.mg X.base (L2N.CX X.prog X.w) k f fd ps sp) (hr : Room k X.A) (hg : Gl X x) (hm : X.mg x = some (.ref f)) (hk : PySem.W.keepIn X.K (.ref f) = true) (hb : Binds X.K fd ps ds) (hd : Vals dvs ds) (tk : L2N.Takes X W)
    (ha : PA X (a :: es) t) (hdb : (x == ("__debug__" : Str)) = false := by decide) (he : starEach (a :: es) X.env = (false, eval a X.env) :: starEach es X.env := by rfl) (hpl : (backTo pos (starEach es X.env)).any (·.1) = false := by rfl) :
    PE X (.Call (.Name x p) (a :: es) [] pos) (tCallX sp dvs W t) := by
  refine ⟨fun pins s σ H Q I h => wpAny_Call_Name_kw (ld_glob I hg hm (PySem.W.callWith_K (h₀ := X.base) I.ok.mod.kin hk (thn (ha.run pos pins s σ H _ I h) fun us s1 y => ?_) he hpl) hdb)⟩
  obtain ⟨vs, H1, I1, r, q⟩ := y
  have v2 : Vals (vs ++ dvs) (us ++ ds) := r.append hd
  have hl : (us ++ ds).length = ps.length := v2.length.symm.trans (F.len _ _ _ _ q)
  refine ⟨I1.kIn, wpAny_call (codeAny_mono (F.run X.A X.stack s1 H1 ⟨us, []⟩ (us ++ ds) (vs ++ dvs) Q _ hr I1.env0 (hb s1 us I1.kIn hl) v2 q) fun e s' z => ?_)⟩
  match e, z with
  | .error e, z => exact L2N.passAt tk σ pins H1 s1 e s' I1 z
  | .ok (.ret u), z => exact I1.after z
theorem edx_call {φ : List PyData → Option Ro} (F : KfX X.prog X.w X.K X.mg X.base k x (spX X.K X.mg n φ) dvs) (hr : Room j X.A) (hk : k ≤ j) (hd : dvsD X.K dvs dds) (hn : ∀ ds, (φ ds).isSome = true → ds.length = n) (tk : L2N.Takes X W) (h : AD X (a :: es) fa) (hg : Gl X x := by rfl)
    (hdb : (x == ("__debug__" : Str)) = false := by decide) (he : starEach (a :: es) X.env = (false, eval a X.env) :: starEach es X.env := by rfl) (hpl : (backTo pos (starEach es X.env)).any (·.1) = false := by rfl) :
    EDX X W (.Call (.Name x p) (a :: es) [] pos) (x_callX φ dds fa) := by
  obtain ⟨f, fd, ps, ds, F, hm, kp, hb, hv⟩ := F
  obtain ⟨t, pa, kk⟩ := h
  refine ⟨pe_imp (pe_callXd F (hr.mono hk) hg hm kp hb hv tk pa hdb he hpl) fun σ H Q ⟨m, E, G0, G, e, o, R, q, P⟩ => ?_⟩
  unfold x_callX at q
  cases h1 : argsI fa e with
  | none => simp only [h1] at q; cases q
  | some z =>
    obtain ⟨ds, e1⟩ := z
    simp only [h1] at q
    obtain ⟨rs, q1, q2⟩ := argsI_ok h1
    refine kk m E G0 G e σ H rs e1 _ R q1 fun vs G1 H1 R1 S1 V1 => ?_
    have D1 := vr_imAll V1 q2
    have D2 := dpAll_app D1 (hd G1)
    cases h2 : φ (ds ++ dds) with
    | none => simp only [h2] at q; cases q
    | some y =>
      refine ⟨G1, ds ++ dds, y, R1.gh, D2, (by rw [dpAll_len D2]; exact hn _ (by rw [h2]; rfl)), h2, fun r hy v G' H' s1 s2 s3 nw vr => ?_, fun xc hy cls d G' H' s1 s2 s3 nw xt => ?_⟩
      · subst hy
        obtain ⟨R2, S2⟩ := R1.called s1 s2 s3 nw
        obtain ⟨V2, N2⟩ := R1.vrf vr fun a o z _ => s3 a o z
        cases r with
        | im d =>
          simp only [h2, Option.some.injEq] at q
          subst q
          exact P v G' H' R2 (S1.trans S2) V2 (nw_back S1 v N2)
        | ac d =>
          simp only [h2, Option.some.injEq] at q
          subst q
          exact P v G' H' R2 (S1.trans S2) V2 (nw_back S1 v N2)
        | br d => simp only [h2] at q; cases q
      · subst hy
        obtain ⟨R2, S2⟩ := R1.called s1 s2 s3 nw
        simp only [h2, Option.some.injEq] at q
        subst q
        exact P cls d G' H' R2 (S1.trans S2) xt
end
/-- __init__: a field for each name -/
def spI (C : Addr) (ns : List Str) : Sp := fun vs H Q _ => ∃ (a : Addr) (us : List V), vs = .ref a :: us ∧ us.length = ns.length ∧ H a = some (exo a C none) ∧
  ∀ (dx : Addr) (H' : Hp), H dx = none → dx ≠ a → H' a = some (exo a C (some dx)) → H' dx = some (exd dx (ns.zip us).reverse) → (∀ b, b ≠ a → b ≠ dx → H' b = H b) → Q .non H'
/-- what is told of such a class -/
structure ExT (P : Program) (w : World) (K : PySem.W.Frag) (mg : Str → Option Value) (base : Heap) (x : Str) (ns : List Str) : Prop where
  ex : ∃ (C fI : Addr) (fd : FuncData) (ps : List Str), mg x = some (.ref C) ∧ OexC K C ∧ PySem.W.findIn K (.ref C) "__init__" = some (some (.ref fI)) ∧ PySem.W.typeIn K (.ref fI) = some (.type "function") ∧ FnOk P w K mg base CX0 1 fI fd ps (spI C ns) ∧ Binds K fd ps []
def x_raise (c : Str) (ns : List Str) (fa : Fa) : Fsx := fun e => match argsI fa e with
  | some (ds, e1) => if ds.length = ns.length ∧ ns.length ≤ 1000 then some (.inr (⟨c, (ns.zip ds).reverse⟩, e1)) else none
  | none => none
theorem zip_fst {α : Type} : ∀ (ns : List Str) (us : List α), us.length = ns.length → (ns.zip us).map (·.1) = ns
  | [], _, _ => rfl
  | n :: ns, [], h => by cases h
  | n :: ns, u :: us, h => by
    rw [List.zip_cons_cons, List.map_cons, zip_fst ns us (by simpa using h)]
theorem zip_snd {α : Type} : ∀ (ns : List Str) (us : List α), us.length = ns.length → (ns.zip us).map (·.2) = us
  | [], [], _ => rfl
  | [], u :: us, h => by cases h
  | n :: ns, [], h => by cases h
  | n :: ns, u :: us, h => by
    rw [List.zip_cons_cons, List.map_cons, zip_snd ns us (by simpa using h)]
theorem dpAll_rev' {K : PySem.W.Frag} {G : Hp} {vs : List V} {ds : List PyData} (h : DpAll K G vs ds) : DpAll K G vs.reverse ds.reverse := dpAll_rev h
theorem fsAt_zip {K : PySem.W.Frag} {G : Hp} {ns : List Str} {vs : List V} {ds : List PyData} (h : DpAll K G vs ds) (hl : ds.length = ns.length) : FsAt K G (ns.zip vs).reverse (ns.zip ds).reverse := by
  have lv : vs.length = ns.length := by rw [dpAll_len h, hl]
  unfold FsAt
  rw [List.map_reverse, List.map_reverse, List.map_reverse, List.map_reverse, zip_fst ns vs lv, zip_fst ns ds hl, zip_snd ns vs lv, zip_snd ns ds hl]
  exact ⟨rfl, dpAll_rev' h⟩
theorem fin_oex {X : Cx} {pins : List (Addr × Obj)} {σ : St} {H0 H3 : Hp} {Q : XK} {s0 s3 : Shared} {h1 : Heap} {p C dd : Addr} {fs : List (Str × V)} (T : Raises X (.ref C)) (I0 : Inv X pins σ H0 s0) (hp : s0.heap.objs.size ≤ p)
    (kp : ∀ b u, s0.heap.get? b = some u → h1.get? b = some u) (n3 : Un (frs X.stack) [] (upd H0 p (exo p C none)) H3 h1 s3.heap) (ok3 : HOk X.prog X.w H3 s3.heap) (os3 : s3.os = s0.os) (bare3 : AllBare s3.gens)
    (e1 : H3 p = some (exo p C (some dd))) (e2 : H3 dd = some (exd dd fs)) (e3 : H0 dd = none) (q : Q (.ref C) (some dd) (upd (L2.del H3 p) dd (.xd fs))) : L2N.MkP X pins σ Q (.ref p) s3 := by
  obtain ⟨hh0, gg0, dd0, tt0, oo0⟩ := s0
  obtain ⟨hh3, gg3, dd3, tt3, oo3⟩ := s3
  obtain ⟨args, Gm, J, k3, none3, obj3, gone3⟩ := mk_end0 (d2 := dd3) (t2 := tt3) I0 hp kp n3 ok3 os3 bare3 e1 e2 e3
  refine ⟨p, _, _, ⟨Gm, gg3, dd3, tt3, oo3⟩, _, .ref C, some dd, rfl, J, k3, none3, obj3, ?_, rfl, rfl, gone3, rfl, bare3, T, q⟩
  exact ⟨rfl, rfl, fun ws hw => by
    cases hw
    rfl⟩
theorem pmk_oexN {X : Cx} {CX : CXT} {e0 : Expr} {rest : List Expr} {ta : TA} {np cp : Pos} {x : Str} {C fI : Addr} {k : Nat} {fd : FuncData} {ps : List Str} {sp : Sp} {gs : List Value} {gvs : List V} (T : OexC X.K C) (hi : PySem.W.findIn X.K (.ref C) "__init__" = some (some (.ref fI)))
    (ht : PySem.W.typeIn X.K (.ref fI) = some (.type "function")) (F : FnOk X.prog X.w X.K X.mg X.base CX k fI fd ps sp) (room : Room (k + 1) X.A) (hb : Binds X.K fd ps gs) (hv : Vals gvs gs) (hx : Passes CX X (fun _ _ _ => False)) (hg : Gl X x) (hm : X.mg x = some (.ref C))
    (ha : PA X (e0 :: rest) ta) (hdb : (x == ("__debug__" : Str)) = false := by decide) (hst : starEach (e0 :: rest) X.env = (false, eval e0 X.env) :: starEach rest X.env := by rfl) (hpl : (backTo cp (starEach rest X.env)).any (·.1) = false := by rfl) :
    L2N.PMk X (.Call (.Name x np) (e0 :: rest) [] cp) (tMkO C sp gvs ta) := by
  intro pins s σ H Q I q0
  have cls := T.cls
  obtain ⟨_, _, _, _, bmro, _, _, _, _, _, _, _, _, _, _, lookC, refs⟩ := cls
  refine wpAny_Call_Name_kw (ld_glob I hg hm (PySem.W.callWith_K (h₀ := X.base) I.ok.mod.kin T.kC ?_ hst hpl) hdb)
  refine thn (ha.run cp pins s σ H _ I q0) fun given sA ⟨vs, HA, IA, rel, few, mk⟩ => ⟨IA.kIn, ?_⟩
  show wpAny _ _ (call (.ref C) given) _ _ _
  -- the tuple of the arguments, then the exception
  have keep : ∀ b u, sA.heap.get? b = some u → ((sA.heap.push (PySem.W.kdv_tup given)).push (PySem.HandSPX.excO C sA.heap.objs.size)).get? b = some u := fun b u z => Heap.get?_push_of_some _ (Heap.get?_push_of_some _ z)
  have up : sA.heap.objs.size ≤ sA.heap.objs.size + 1 := Nat.le_succ _
  have fresh : HA (sA.heap.objs.size + 1) = none := IA.hok.fresh up
  have body := mk _ fresh
  obtain ⟨hp, gs0, dr, tk, os⟩ := sA
  have stands : ((hp.push (PySem.W.kdv_tup given)).push (PySem.HandSPX.excO C hp.objs.size)).get? (hp.objs.size + 1) = some (PySem.HandSPX.excO C hp.objs.size) := by
    heap_get
  have IB := IA.laid (t' := tk) (o := exo (hp.objs.size + 1) C none) keep up (exo_ok stands)
  have all : Vals (V.ref (hp.objs.size + 1) :: (vs ++ gvs)) (Value.ref (hp.objs.size + 1) :: (given ++ gs)) := .cons rfl (rel.append hv)
  have many : (Value.ref (hp.objs.size + 1) :: given ++ gs).length = ps.length := (all.length.symm.trans (F.len _ _ _ _ body) :)
  have small : given.length ≤ sizeLine := by
    have z := Paired.length rel
    rw [sizeLine_eq]
    omega
  have inits := F.run _ X.stack _ _ ⟨Value.ref (hp.objs.size + 1) :: given, []⟩ _ _ _ (fun _ _ _ => False) (room.make C given []) (IB.env0.make C given []) (hb _ (Value.ref (hp.objs.size + 1) :: given) IB.kIn many) all body
  refine wpAny_call (PySem.HandSPX.call_own PySem.F.excBase_ValueError (fun Y => PySem.HandSPX.refsVE_contains Y bmro refs) (IA.kIn _ _ lookC) (PySem.W.looks_findIn IA.kIn hi) (fun self => PySem.W.bind_fn IA.kIn self ht) small (codeAny_mono inits fun r sZ z => ?_))
  match r, z with
  | .error er, z => exact hx pins σ _ _ er sZ IB z
  | .ok .next, z => exact z.elim
  | .ok .brk, z => exact z.elim
  | .ok .cont, z => exact z.elim
  | .ok (.ret u), ⟨v, H2, os2, bare2, un2, hok2, rv, ev, dd, fs, ea, ed, hd1, q2⟩ =>
    subst ev
    exact ⟨rv, fin_oex (raises_own T.exC T.tyC) IA up keep un2 hok2 os2 bare2 ea ed hd1 q2⟩
section
variable {X : Cx} {W : WX} {x : Str} {ns : List Str} {p p2 pos : Pos} {a : Expr} {es : List Expr} {fa : Fa} {j : Nat}
theorem sdx_raise (T : ExT X.prog X.w X.K X.mg X.base x ns) (hr : Room j X.A) (hj : 2 ≤ j) (hc : X.calm = true) (tk : L2N.Takes X W) (h : AD X (a :: es) fa) (hg : Gl X x := by rfl)
    (hdb : (x == ("__debug__" : Str)) = false := by decide) (he : starEach (a :: es) X.env = (false, eval a X.env) :: starEach es X.env := by rfl) (hpl : (backTo p2 (starEach es X.env)).any (·.1) = false := by rfl) :
    SDX X W (.Raise (some (.Call (.Name x p) (a :: es) [] p2)) none pos) (x_raise x ns fa) := by
  obtain ⟨C, fI, fd, ps, gC, T1, iC, tI, F1, hb⟩ := T
  obtain ⟨t, pa, kk⟩ := h
  refine ⟨ps_imp (L2N.ps_raise hc tk (pmk_oexN T1 iC tI F1 (hr.mono hj) hb .nil (fun _ _ _ _ _ _ _ z => z.elim) hg gC pa hdb he hpl)) fun D σ H ⟨m, E, G0, G, e, o, R, q, P⟩ => ?_⟩
  unfold x_raise at q
  cases h1 : argsI fa e with
  | none => simp only [h1] at q; cases q
  | some z =>
    obtain ⟨ds, e1⟩ := z
    simp only [h1] at q
    by_cases hl : ds.length = ns.length ∧ ns.length ≤ 1000
    · rw [if_pos hl] at q
      cases q
      obtain ⟨rs, q1, q2⟩ := argsI_ok h1
      refine kk m E G0 G e σ H rs e1 _ R.r q1 fun vs G1 H1 R1 S1 V1 => ?_
      have D1 := vr_imAll V1 q2
      have lv : vs.length = ns.length := by rw [dpAll_len D1]; exact hl.1
      refine ⟨by omega, fun b hb1 => ⟨b, vs, by rw [List.append_nil], lv, upd_same, fun dx H' d1 d2 d3 d4 d5 => ⟨rfl, dx, (ns.zip vs).reverse, d3, d4, ?_, ?_⟩⟩⟩
      · rw [upd_ne d2] at d1
        exact d1
      · have d0 : H1 dx = none := by rwa [upd_ne d2] at d1
        have eq : upd (L2.del H' b) dx (.xd (ns.zip vs).reverse) = upd H1 dx (.xd (ns.zip vs).reverse) := by
          funext c
          by_cases y : c = dx
          · subst y
            rw [upd_same, upd_same]
          · rw [upd_ne y, upd_ne y]
            by_cases y2 : c = b
            · subst y2
              rw [L2.del_same]
              exact hb1.symm
            · rw [L2.del_ne y2, d5 c y2 y, upd_ne y2]
        rw [eq]
        obtain ⟨R2, S2⟩ := R1.newG (o := .xd (ns.zip vs).reverse) d0
        refine P (.ref C) (some dx) _ σ _ (S1.gg.trans S2.gg) (R.exp R2 (S1.trans S2)) ⟨C, dx, _, gC, rfl, rfl, upd_same, ?_⟩
        exact (fsAt_zip D1 hl.1).same S2.gg
    · rw [if_neg hl] at q
      cases q
end
end DL
namespace DL
open PySem PySem.Spec PyProof.Rows L2
section
variable {P : Program} {w : World} {K : PySem.W.Frag} {mg : Str → Option Value} {base : Heap} {x qual : Str} {params : Arguments} {body : List Stmt} {scope : Scope} {dvs : List V} {kws : List (Str × V)} {f C : Addr} {fd : FuncData} {N ps : List Str} {f1 f2 : Str}
theorem init2 (F : FunD K x qual params body scope dvs kws f fd) (S : FnScope N ps scope) (hp : ps.length = 3) (T : OexC K C) (n1 : PySem.W.findIn K (.ref C) f1 = some none) (n2 : PySem.W.findIn K (.ref C) f2 = some none)
    (hb : ∀ (cdv : Value) (A : Around) (outer : List Env) (s : Shared) (H : Hp) (E : XK), PSs (cxOf CX0 P w K mg base N qual scope f cdv A outer s H E) body (tSeq (tOst K f1 (tVar 0) (tVar 1)) (tSeq (tOst K f2 (tVar 0) (tVar 2)) tNext))) : FnOk P w K mg base CX0 1 f fd ps (spI C [f1, f2]) := by
  refine F.ok S (fun vs H Q E h => ?_) fun cdv A outer s H vs Q E hr h => ⟨_, hb cdv A outer s H E, ?_⟩
  · obtain ⟨a, us, rfl, h1, _⟩ := h
    rw [hp, List.length_cons, h1]
    rfl
  · obtain ⟨a, us, rfl, h1, h2, h3⟩ := h
    match us, h1 with
    | [u1, u2], _ =>
      refine ⟨u1, st_at rfl, .ref a, st_at rfl, a, C, rfl, T, n1, .inl ⟨h2, fun dx d1 d2 => ?_⟩⟩
      have e2 : a ≠ dx := fun z => d2 z.symm
      refine ⟨u2, st_at rfl, .ref a, st_at rfl, a, C, rfl, T, n2, .inr ⟨dx, [(f1, u1)], upd_same, by rw [upd_ne d2, upd_same], by show 1 ≤ 900; omega, ?_⟩⟩
      exact h3 dx _ d1 d2 (by rw [upd_ne e2, upd_same]) upd_same fun b b1 b2 => by rw [upd_ne b2, upd_ne b1, upd_ne b2]
end
section
variable {K : PySem.W.Frag} {m : Option Addr} {E : Ef} {G0 G H : Hp} {e : Ev} {σ : St} {i : Nat}
theorem Rl.drop (R : Rl K m E G0 G e σ H) (i : Nat) : Rl K m E G0 G (e.set i none) (σ.set i none) H := by
  have keep : ∀ {j : Nat} {s : Sl}, (e.set i none)[j]? = some (some s) → e[j]? = some (some s) ∧ (σ.set i none)[j]? = σ[j]? := fun {j s} z => by
    have z2 := R.len
    rw [set_get] at z ⊢
    by_cases y : i = j ∧ j < e.length
    · rw [if_pos y] at z
      cases z
    · rw [if_neg y] at z
      exact ⟨z, if_neg (by omega)⟩
  refine ⟨R.gg, R.gh, R.eh, R.mh, R.nw, by rw [List.length_set, List.length_set]; exact R.len, ?_, ?_, ?_, ?_, (R.wl.keep (Same.refl G) (fun _ _ z => z) (fun j t z => keep z) (fun a ⟨j, ds, z1, z2⟩ w => (R.wl.out a w).2.2.1 ⟨j, ds, (keep z1).1, by rw [← (keep z1).2]; exact z2⟩) (fun _ _ z _ => z)).1⟩
  · intro j d z
    rw [(keep z).2]
    exact R.im j d (keep z).1
  · intro j ds z
    rw [(keep z).2]
    exact R.ac j ds (keep z).1
  · intro j k dj dk q z1 z2 z3 z4
    rw [(keep z1).2] at z3
    rw [(keep z2).2] at z4
    exact R.inj j k dj dk q (keep z1).1 (keep z2).1 z3 z4
  · intro j s z
    rw [(keep z).2]
    exact R.ot j s (keep z).1
theorem Rz.drop (R : Rz K m E G0 G e σ H) (ok : okS [i] e = true) : Rz K m E G0 G (e.set i none) (σ.set i none) H := by
  refine ⟨R.r.drop i, fun p z => ?_⟩
  obtain ⟨z1, z2⟩ := R.z p z
  by_cases y : i = 0
  · subst y
    exact absurd (List.mem_singleton.mpr rfl) (okS_no ok z1)
  · rw [List.getElem?_set_ne y, List.getElem?_set_ne y]
    exact ⟨z1, z2⟩
end
def gone (i : Nat) (e : Ev) : Option Ev := if okS [i] e = true then some (e.set i none) else none
/-- behind a clause the name is gone -/
def goneF (i : Nat) : Fl → Option Fl
  | .nx e => (gone i e).map .nx
  | .bk e => (gone i e).map .bk
  | .ct e => (gone i e).map .ct
  | .rt (.im d) e => (gone i e).map (.rt (.im d))
  | .rt _ _ => none
abbrev Su := Str → Addr → Addr → Fs
/-- what a clause gives, wherever the exception stands -/
def caught (i : Nat) (g : Su) (x : Xc) (e : Ev) (fl : Fl) : Prop := ∀ (a dd : Addr) (fs : List (Str × V)), ∃ fl', g x.c a dd (e.set i (some (.ob (.xc a dd fs x.fs)))) = some fl' ∧ goneF i fl' = some fl
theorem caught_one {i : Nat} {g : Su} {x : Xc} {e : Ev} {fl fl2 : Fl} (h : caught i g x e fl) (h2 : caught i g x e fl2) : fl = fl2 := by
  obtain ⟨f1, a1, a2⟩ := h 0 0 []
  obtain ⟨f2, b1, b2⟩ := h2 0 0 []
  rw [a1] at b1
  cases b1
  rw [a2] at b2
  exact Option.some.inj b2
open Classical in
noncomputable def x_try (fb : Fsx) (sub : Str → Option Bool) (i : Nat) (g : Su) : Fsx := fun e => match fb e with
  | some (.inl fl) => some (.inl fl)
  | some (.inr (x, e1)) => (match sub x.c with
    | some true => if h : okS [i] e1 = true ∧ ∃ fl, caught i g x e1 fl then some (.inl (choose h.2)) else none
    | some false => some (.inr (x, e1))
    | none => none)
  | none => none
theorem x_try_no {fb : Fsx} {sub : Str → Option Bool} {i : Nat} {g : Su} {e : Ev} {fl : Fl} (h : fb e = some (.inl fl)) : x_try fb sub i g e = some (.inl fl) := by
  unfold x_try
  rw [h]
theorem x_try_up {fb : Fsx} {sub : Str → Option Bool} {i : Nat} {g : Su} {e e1 : Ev} {x : Xc} (h : fb e = some (.inr (x, e1))) (hs : sub x.c = some false) : x_try fb sub i g e = some (.inr (x, e1)) := by
  unfold x_try
  rw [h]
  dsimp only
  rw [hs]
theorem x_try_yes {fb : Fsx} {sub : Str → Option Bool} {i : Nat} {g : Su} {e e1 : Ev} {x : Xc} {fl : Fl} (h : fb e = some (.inr (x, e1))) (hs : sub x.c = some true) (ok : okS [i] e1 = true) (c : caught i g x e1 fl) : x_try fb sub i g e = some (.inl fl) := by
  unfold x_try
  rw [h]
  dsimp only
  rw [hs]
  dsimp only
  rw [dif_pos ⟨ok, fl, c⟩]
  exact congrArg (fun z => some (Sum.inl z)) (caught_one (Classical.choose_spec (⟨fl, c⟩ : ∃ fl, caught i g x e1 fl)) c)
def SubT (K : PySem.W.Frag) (mg : Str → Option Value) (c : Value) (sub : Str → Option Bool) : Prop := ∀ x b, sub x = some b → ∀ C, mg x = some (.ref C) → PySem.W.exmOne K (.ref C) c = some b
def noW : WX := fun _ _ _ _ => False
/-- the clause's reading -/
def tsC (K : PySem.W.Frag) (mg : Str → Option Value) (g : Su) (a : Addr) (cls : Value) (d : Option Addr) : TS := fun D σ H => ∃ (c : Str) (C dd : Addr), mg c = some (.ref C) ∧ cls = .ref C ∧ d = some dd ∧ tsX K mg (xS (g c a dd)) noW D σ H
section
variable {X : Cx} {W : WX} {x n : Str} {c : Value} {i : Nat} {body suite : List Stmt} {b0 : Stmt} {np pos pos' : Pos} {fb : Fsx} {sub : Str → Option Bool} {g : Su}
theorem suite_read {a : Addr} {oe : Obj} {cls : Value} {d : Option Addr} {pn : List (Addr × Obj)} (hz : L2N.Zn cls d oe) (hv : ∃ vs, oe.data = .fields vs)
    (hsu : ∀ (k : Str) (C a dd : Addr) (oe : Obj) (pn : List (Addr × Obj)), X.mg k = some (.ref C) → L2N.Zn (.ref C) (some dd) oe → (∃ vs, oe.data = .fields vs) → SsD (X.suite a ((a, oe) :: pn)) (b0 :: suite) (g k a dd)) :
    PSs (X.suite a ((a, oe) :: pn)) (b0 :: suite) (tsC X.K X.mg g a cls d) := by
  refine ⟨fun pins s σ H D I ⟨k, C, dd, h1, h2, h3, h4⟩ => ?_⟩
  subst h2 h3
  exact ((hsu k C a dd oe pn h1 hz hv).x (W := noW)).run.run pins s σ H D I h4
theorem try_read {st : Stmt} (T : SubT X.K X.mg c sub) (h : PS X st (fun D σ H => tsX X.K X.mg fb (wAs X.K c i (tsC X.K X.mg g) W D) D σ H)) : SDX X W st (x_try fb sub i g) := by
  refine ⟨ps_imp h fun D σ H ⟨m, E, G0, G, e, o, R, q, P⟩ => ?_⟩
  unfold x_try at q
  split at q
  · rename_i fl h1
    cases q
    exact ⟨m, E, G0, G, e, _, R, h1, P⟩
  · rename_i y e1 h1
    refine ⟨m, E, G0, G, e, _, R, h1, ?_⟩
    intro cls d G' σ' H' s1 R1 A1
    obtain ⟨C, dd, fs, g1, g2, g3, g4, g5⟩ := A1
    subst g2 g3
    split at q
    · rename_i h2
      split at q
      · rename_i hh
        cases q
        have cc := Classical.choose_spec hh.2
        refine ⟨true, T _ _ h2 C g1, fun _ a na => ?_, fun z => by cases z⟩
        obtain ⟨fl', c1, c2⟩ := cc a dd fs
        have R2 : Rz X.K m E G0 G' (e1.set i (some (.ob (.xc a dd fs y.fs)))) (σ'.set i (some (.ref a))) H' := R1.setO ⟨rfl, g4, g5.1, g5.2⟩ hh.1
        refine ⟨y.c, C, dd, g1, rfl, rfl, m, E, G0, G', _, .inl fl', R2, (by show (g y.c a dd _).map Sum.inl = _; rw [c1]; rfl), ?_⟩
        have P2 := PoS.aft P s1
        generalize Classical.choose hh.2 = fl at c2 P2
        have drop : ∀ {e2 e3 : Ev}, gone i e2 = some e3 → okS [i] e2 = true ∧ e3 = e2.set i none := fun {e2 e3} z => by
          unfold gone at z
          by_cases k : okS [i] e2 = true
          · rw [if_pos k] at z
            exact ⟨k, (Option.some.inj z).symm⟩
          · rw [if_neg k] at z
            cases z
        match fl', c2 with
        | .nx e2, c2 =>
          cases h3 : gone i e2 with
          | none => rw [show goneF i (.nx e2) = (gone i e2).map .nx from rfl, h3] at c2; cases c2
          | some e3 =>
            rw [show goneF i (.nx e2) = (gone i e2).map .nx from rfl, h3] at c2
            cases c2
            obtain ⟨k1, rfl⟩ := drop h3
            exact fun G2 σ2 H2 s2 R3 => P2 G2 _ H2 s2 (R3.drop k1)
        | .bk e2, c2 =>
          cases h3 : gone i e2 with
          | none => rw [show goneF i (.bk e2) = (gone i e2).map .bk from rfl, h3] at c2; cases c2
          | some e3 =>
            rw [show goneF i (.bk e2) = (gone i e2).map .bk from rfl, h3] at c2
            cases c2
            obtain ⟨k1, rfl⟩ := drop h3
            exact fun G2 σ2 H2 s2 R3 => P2 G2 _ H2 s2 (R3.drop k1)
        | .ct e2, c2 =>
          cases h3 : gone i e2 with
          | none => rw [show goneF i (.ct e2) = (gone i e2).map .ct from rfl, h3] at c2; cases c2
          | some e3 =>
            rw [show goneF i (.ct e2) = (gone i e2).map .ct from rfl, h3] at c2
            cases c2
            obtain ⟨k1, rfl⟩ := drop h3
            exact fun G2 σ2 H2 s2 R3 => P2 G2 _ H2 s2 (R3.drop k1)
        | .rt (.im dv) e2, c2 =>
          cases h3 : gone i e2 with
          | none => rw [show goneF i (.rt (.im dv) e2) = (gone i e2).map (.rt (.im dv)) from rfl, h3] at c2; cases c2
          | some e3 =>
            rw [show goneF i (.rt (.im dv) e2) = (gone i e2).map (.rt (.im dv)) from rfl, h3] at c2
            cases c2
            obtain ⟨k1, rfl⟩ := drop h3
            exact fun v G2 σ2 H2 s2 R3 V => P2 v G2 _ H2 s2 (R3.drop k1) V
        | .rt (.ac dv) e2, c2 => cases c2
        | .rt (.br dv) e2, c2 => cases c2
      · cases q
    · rename_i h2
      cases q
      exact ⟨false, T _ _ h2 C g1, (fun z => by cases z), fun _ => P _ _ G' σ' H' s1 R1 ⟨C, dd, fs, g1, rfl, rfl, g4, g5⟩⟩
    · cases q
  · cases q
theorem sdx_try (hs : X.stack = X.env :: X.outer) (hf : X.env.frame = some X.env.locals) (hN : X.N.Nodup) (tk : L2N.Takes X W) (T : SubT X.K X.mg c sub) (hc : Names X x c)
    (hb : ∀ (W' : WX) (pn : List (Addr × Obj)) (xe : Value → Shared → Prop), L2N.Takes (X.tr pn xe) W' → PassesOwn (model X.prog X.w) X.A X.env xe → SsDX (X.tr pn xe) W' body fb)
    (hsu : ∀ (k : Str) (C a dd : Addr) (oe : Obj) (pn : List (Addr × Obj)), X.mg k = some (.ref C) → L2N.Zn (.ref C) (some dd) oe → (∃ vs, oe.data = .fields vs) → SsD (X.suite a ((a, oe) :: pn)) (b0 :: suite) (g k a dd))
    (hi : X.N[i]? = some n := by rfl) (hln : X.env.kindOf n = some .local := by rfl) :
    SDX X W (.Try body [.ExceptHandler (some (.Name x np)) (some n) (b0 :: suite) pos'] [] [] pos) (x_try fb sub i g) := by
  exact try_read T (L2N.ps_try_as (tb := fun W' => tsX X.K X.mg fb W') (ts := tsC X.K X.mg g) hs hf hN hi hln hc tk (fun W' pn xe t1 t2 => (hb W' pn xe t1 t2).run) fun a oe cls d pn hz hv => suite_read hz hv hsu)
end
def noX (f : Fsx) : Fs := fun e => match f e with
  | some (.inl fl) => some fl
  | _ => none
theorem sd_noX {X : Cx} {st : Stmt} {f : Fsx} (h : ∀ W, L2N.Takes X W → SDX X W st f) : SD X st (noX f) := by
  refine ⟨_, (h noW fun _ _ ⟨_, _, _, _, _, _, _, _, _, _, _, _, _, _, _, _, w⟩ => w.elim).run, fun m E G0 G e σ H fl D R q P => ?_⟩
  unfold noX at q
  split at q
  · rename_i fl' h1
    cases q
    exact ⟨m, E, G0, G, e, _, R, h1, P⟩
  · cases q
def x_fld (ok : Str → Bool) (k : Str) (a dd : Addr) (i : Nat) (f : Str) : Fe := fun e => if ok k = true then (match e[i]? with
  | some (some (.ob (.xc a' dd' _ ds))) => if a' = a ∧ dd' = dd then (ds.lookup f).map fun d => (.im d, e) else none
  | _ => none) else none
structure FldT (K : PySem.W.Frag) (mg : Str → Option Value) (f : Str) (ok : Str → Bool) : Prop where
  at_ : ∀ k, ok k = true → ∀ C, mg k = some (.ref C) → XfC K C ∧ PySem.W.findIn K (.ref C) f = some none
theorem look_fs {K : PySem.W.Frag} {G : Hp} {f : Str} {d : PyData} : ∀ {fs : List (Str × V)} {ds : List (Str × PyData)}, fs.map (·.1) = ds.map (·.1) → DpAll K G (fs.map (·.2)) (ds.map (·.2)) → ds.lookup f = some d → ∃ v, fs.lookup f = some v ∧ Dp K G v d
  | [], [], _, _, h => by cases h
  | [], _ :: _, h, _, _ => by cases h
  | _ :: _, [], h, _, _ => by cases h
  | (a, v) :: fs, (b, w) :: ds, h1, h2, h3 => by
    obtain ⟨ha, hr⟩ := List.cons.inj (show a :: fs.map (·.1) = b :: ds.map (·.1) from h1)
    subst ha
    rw [List.lookup_cons] at h3 ⊢
    cases h : (f == a) with
    | true =>
      rw [h] at h3
      cases h3
      exact ⟨v, rfl, by cases h2; assumption⟩
    | false =>
      rw [h] at h3
      exact look_fs hr (by cases h2; assumption) h3
section
variable {X : Cx} {a dd C : Addr} {oe : Obj} {pn : List (Addr × Obj)} {n f k : Str} {i : Nat} {pos np : Pos} {ok : Str → Bool}
theorem ed_fld (T : FldT X.K X.mg f ok) (hm : X.mg k = some (.ref C)) (hz : Zc (.ref C) (some dd) oe) (hf : ∃ vs, oe.data = .fields vs) (hN : X.N[i]? = some n := by rfl) (hv : Vis X.env.scope n := by first | exact Or.inl rfl | exact Or.inr (Or.inl rfl) | exact Or.inr (Or.inr rfl))
    (hd : (n == ("__debug__" : Str)) = false := by decide) (hcd : (n == ("__classdict__" : Str)) = false := by decide) (hb : attributeBase (.Name n np) f X.env (eval (.Name n np) X.env) = eval (.Name n np) X.env := by rfl) :
    ED (X.suite a ((a, oe) :: pn)) (.Attribute (.Name n np) f pos) (x_fld ok k a dd i f) := by
  by_cases hok : ok k = true
  · obtain ⟨t1, t2⟩ := T.at_ k hok C hm
    refine ⟨_, pe_xf (X := X) t1 t2 hz hf (pe_var (X := X.suite a ((a, oe) :: pn)) hN hv hd hcd) hb, fun m E G0 G e σ H r e' Q R q P => ?_⟩
    unfold x_fld at q
    rw [if_pos hok] at q
    split at q
    · rename_i a' dd' fs ds h1
      split at q
      · rename_i h2
        obtain ⟨rfl, rfl⟩ := h2
        cases h3 : ds.lookup f with
        | none => rw [h3] at q; cases q
        | some d =>
          rw [h3] at q
          cases q
          obtain ⟨o1, o2, o3, o4⟩ := R.ot i _ h1
          obtain ⟨v, l1, l2⟩ := look_fs o3 o4 h3
          exact ⟨.ref _, o1, rfl, rfl, _, fs, v, rfl, R.gh _ _ o2, l1, P v G H R Stp.refl l2 True.intro⟩
      · cases q
    · cases q
  · refine ⟨fun _ _ _ => False, ⟨fun _ _ _ _ _ _ z => z.elim⟩, fun m E G0 G e σ H r e' Q R q P => ?_⟩
    unfold x_fld at q
    rw [if_neg hok] at q
    cases q
end
end DL
namespace DL
open PySem PySem.Spec PyProof.Rows L2
structure KitOk (K : PySem.W.Frag) (D : Addr) : Prop where
  cl : (PySem.W.clsIn K D).isSome = true
  hg : PySem.W.findIn K (.ref D) "__getattribute__" = some (some (.builtin "BaseException.__getattribute__"))
  hk : PySem.W.findIn K (.ref D) "__getattr__" = some none
  hs : PySem.W.subIn K (.ref D) (.type "BaseException") = some true
  ha : PySem.W.findIn K (.ref D) "__class__" = some (some (.builtin "object.__class__"))
  hn : PySem.W.specialIn K (.builtin "object.__class__") "__get__" = some (some (.builtin "getset_descriptor.__get__"))
  ht : PySem.W.takesIn K (.builtin "object.__class__") = some true
  hm : PySem.W.mroIn K D (.type "object") = some true
end DL
namespace DL
open PySem PySem.Spec PyProof.Rows L2
abbrev XTab := List ((Str × Str) × Bool)
def tabF (tab : XTab) (y : Str) : Str → Option Bool := fun k => tab.lookup (k, y)
structure XcC (K : PySem.W.Frag) (C : Addr) : Prop where
  ox : OexC K C
  xf : XfC K C
  ki : KitOk K C
structure Xi (K : PySem.W.Frag) (mg : Str → Option Value) (cs ys fs : List Str) (tab : XTab) : Prop where
  cl : ∀ x, cs.contains x = true → ∃ C, mg x = some (.ref C) ∧ XcC K C ∧ ∀ f, fs.contains f = true → PySem.W.findIn K (.ref C) f = some none
  gl : ∀ y, ys.contains y = true → ∃ D, mg y = some (.ref D)
  rel : ∀ k y b, tab.lookup (k, y) = some b → cs.contains k = true ∧ ∀ C D, mg k = some (.ref C) → mg y = some (.ref D) → PySem.W.exmOne K (.ref C) (.ref D) = some b ∧ PySem.W.kitOne K (.ref C) (.ref D) = some b
section
variable {K : PySem.W.Frag} {mg : Str → Option Value} {cs ys fs : List Str} {tab : XTab}
theorem Xi.sub (T : Xi K mg cs ys fs tab) (y : Str) (h : ys.contains y = true := by decide +kernel) : ∃ D, mg y = some (.ref D) ∧ SubT K mg (.ref D) (tabF tab y) := by
  obtain ⟨D, hD⟩ := T.gl y h
  exact ⟨D, hD, fun k b z C hC => ((T.rel k y b z).2 C D hC hD).1⟩
theorem Xi.fld (T : Xi K mg cs ys fs tab) (f : Str) (h : fs.contains f = true := by decide +kernel) : FldT K mg f (fun k => cs.contains k) := by
  refine ⟨fun k z C hC => ?_⟩
  obtain ⟨C', h1, h2, h3⟩ := T.cl k z
  rw [hC] at h1
  cases h1
  exact ⟨h2.xf, h3 f h⟩
end
section
variable {X : Cx} {W : WX} {x n : Str} {i : Nat} {body suite : List Stmt} {b0 : Stmt} {np pos pos' : Pos} {fb : Fsx} {sub : Str → Option Bool} {g : Su}
theorem sdx_tryT (hs : X.stack = X.env :: X.outer) (hf : X.env.frame = some X.env.locals) (hN : X.N.Nodup) (tk : L2N.Takes X W) (T : ∃ D, X.mg x = some (.ref D) ∧ SubT X.K X.mg (.ref D) sub)
    (hb : ∀ (W' : WX) (pn : List (Addr × Obj)) (xe : Value → Shared → Prop), L2N.Takes (X.tr pn xe) W' → PassesOwn (model X.prog X.w) X.A X.env xe → SsDX (X.tr pn xe) W' body fb)
    (hsu : ∀ (k : Str) (C a dd : Addr) (oe : Obj) (pn : List (Addr × Obj)), X.mg k = some (.ref C) → L2N.Zn (.ref C) (some dd) oe → (∃ vs, oe.data = .fields vs) → SsD (X.suite a ((a, oe) :: pn)) (b0 :: suite) (g k a dd))
    (hi : X.N[i]? = some n := by rfl) (hln : X.env.kindOf n = some .local := by rfl) (hg : Gl X x := by rfl) (hdb : (x == ("__debug__" : Str)) = false := by decide) :
    SDX X W (.Try body [.ExceptHandler (some (.Name x np)) (some n) (b0 :: suite) pos'] [] [] pos) (x_try fb sub i g) := by
  obtain ⟨D, h1, h2⟩ := T
  exact sdx_try hs hf hN tk h2 ⟨hg, hdb, .inl h1⟩ hb hsu hi hln
theorem sd_tryT (hs : X.stack = X.env :: X.outer) (hf : X.env.frame = some X.env.locals) (hN : X.N.Nodup) (T : ∃ D, X.mg x = some (.ref D) ∧ SubT X.K X.mg (.ref D) sub)
    (hb : ∀ (W' : WX) (pn : List (Addr × Obj)) (xe : Value → Shared → Prop), L2N.Takes (X.tr pn xe) W' → PassesOwn (model X.prog X.w) X.A X.env xe → SsDX (X.tr pn xe) W' body fb)
    (hsu : ∀ (k : Str) (C a dd : Addr) (oe : Obj) (pn : List (Addr × Obj)), X.mg k = some (.ref C) → L2N.Zn (.ref C) (some dd) oe → (∃ vs, oe.data = .fields vs) → SsD (X.suite a ((a, oe) :: pn)) (b0 :: suite) (g k a dd))
    (hi : X.N[i]? = some n := by rfl) (hln : X.env.kindOf n = some .local := by rfl) (hg : Gl X x := by rfl) (hdb : (x == ("__debug__" : Str)) = false := by decide) :
    SD X (.Try body [.ExceptHandler (some (.Name x np)) (some n) (b0 :: suite) pos'] [] [] pos) (noX (x_try fb sub i g)) := sd_noX fun _ tk => sdx_tryT hs hf hN tk T hb hsu hi hln hg hdb
end
def oexB (K : PySem.W.Frag) (C : Addr) : Bool := match K.lookup C with
  | some ⟨.type "type", _, .cls cd, sl⟩ => (match cd.mro, sl.toList with
    | .ref C' :: bm, [_, _, _, _, some (.builtin n), _] => decide (C' = C) && (decide (n = "ValueError.__new__") && (cd.hasDict && (!cd.hasDel && PySem.HandSPX.refsVE bm)))
    | _, _ => false)
  | _ => false
theorem oexB_ok {K : PySem.W.Frag} {C : Addr} (h : oexB K C = true) : ∃ nm q N bs bm sn sub ab col dd k0 k1 k2 k3 k5, K.lookup C = some (excClassObj nm q C N bs bm true sn sub ab col dd k0 k1 k2 k3 k5 "ValueError.__new__") ∧ PySem.HandSPX.refsVE bm = true := by
  unfold oexB at h
  split at h
  · rename_i dd cd sl ho
    split at h
    · rename_i C' bm k0 k1 k2 k3 n k5 hm hs
      obtain ⟨h1, h⟩ := He.ba h
      obtain ⟨h2, h⟩ := He.ba h
      obtain ⟨h3, h⟩ := He.ba h
      obtain ⟨h4, h5⟩ := He.ba h
      have e1 := of_decide_eq_true h1
      have e2 := of_decide_eq_true h2
      subst e1 e2
      obtain ⟨nm, bs, mro, ns, qn, hd, sn, sub, ab, col, del⟩ := cd
      dsimp only at hm h3 h4
      subst hm h3
      have e4 : del = false := by simpa using h4
      subst e4
      obtain ⟨l⟩ := sl
      have e5 : l = [k0, k1, k2, k3, some (.builtin "ValueError.__new__"), k5] := hs
      subst e5
      exact ⟨nm, qn, ns, bs, bm, sn, sub, ab, col, dd, k0, k1, k2, k3, k5, ho, h5⟩
    · cases h
  · cases h
def xcB (K : PySem.W.Frag) (C : Addr) : Bool := oexB K C && (decide (PySem.W.findIn K (.ref C) "__setattr__" = some (some (.builtin "object.__setattr__"))) && (decide (PySem.W.subIn K (.ref C) (.type "BaseException") = some true) && (decide (PySem.W.typeIn K (.ref C) = some (.type "type")) && (PySem.W.keepIn K (.ref C) && (xfB K C &&
  ((PySem.W.clsIn K C).isSome && (decide (PySem.W.findIn K (.ref C) "__class__" = some (some (.builtin "object.__class__"))) && (decide (PySem.W.specialIn K (.builtin "object.__class__") "__get__" = some (some (.builtin "getset_descriptor.__get__"))) && (decide (PySem.W.takesIn K (.builtin "object.__class__") = some true) && decide (PySem.W.mroIn K C (.type "object") = some true))))))))))
theorem xcB_ok {K : PySem.W.Frag} {C : Addr} (h : xcB K C = true) : XcC K C := by
  obtain ⟨h1, h⟩ := He.ba h
  obtain ⟨h2, h⟩ := He.ba h
  obtain ⟨h3, h⟩ := He.ba h
  obtain ⟨h4, h⟩ := He.ba h
  obtain ⟨h5, h⟩ := He.ba h
  obtain ⟨h6, h⟩ := He.ba h
  obtain ⟨h7, h⟩ := He.ba h
  obtain ⟨h8, h⟩ := He.ba h
  obtain ⟨h9, h⟩ := He.ba h
  obtain ⟨h10, h11⟩ := He.ba h
  have x := xfB_ok h6
  exact ⟨⟨oexB_ok h1, of_decide_eq_true h2, of_decide_eq_true h3, of_decide_eq_true h4, h5⟩, x, ⟨h7, x.ga, x.gg, x.exC, of_decide_eq_true h8, of_decide_eq_true h9, of_decide_eq_true h10, of_decide_eq_true h11⟩⟩
/-- a class with its __init__ -/
def iniB (K : PySem.W.Frag) (x : Str) : Bool := decide (PySem.W.findIn K (.ref (He.ga K x)) "__init__" = some (some (.ref (He.ma K (He.ga K x) "__init__")))) && decide (PySem.W.typeIn K (.ref (He.ma K (He.ga K x) "__init__")) = some (.type "function"))
def exB (cs ys fs : List Str) (tab : XTab) (K : PySem.W.Frag) : Bool :=
  (cs.all fun x => (He.Fa.glo x).ok K && (xcB K (He.ga K x) && (iniB K x && fs.all fun f => decide (PySem.W.findIn K (.ref (He.ga K x)) f = some none)))) &&
    ((ys.all fun y => (He.Fa.glo y).ok K) && (tab.all fun t => cs.contains t.1.1 && (ys.contains t.1.2 && (decide (PySem.W.exmOne K (.ref (He.ga K t.1.1)) (.ref (He.ga K t.1.2)) = some t.2) && decide (PySem.W.kitOne K (.ref (He.ga K t.1.1)) (.ref (He.ga K t.1.2)) = some t.2)))))
section
variable {K : PySem.W.Frag} {h : Heap} {mg : Str → Option Value} {cs ys fs : List Str} {tab : XTab}
theorem look_mem {α β : Type} [BEq α] [LawfulBEq α] {a : α} {b : β} : ∀ {l : List (α × β)}, l.lookup a = some b → (a, b) ∈ l
  | [], h => by cases h
  | (c, d) :: l, h => by
    rw [List.lookup_cons] at h
    cases q : (a == c) with
    | true =>
      rw [q] at h
      cases h
      rw [eq_of_beq q]
      exact List.mem_cons_self
    | false =>
      rw [q] at h
      exact List.mem_cons_of_mem _ (look_mem h)
theorem exB_xi (X : K.In h) (G : h.Ns mainGlobals mg) (c : exB cs ys fs tab K = true) : Xi K mg cs ys fs tab := by
  obtain ⟨c1, c⟩ := He.ba c
  obtain ⟨c2, c3⟩ := He.ba c
  refine ⟨fun x hx => ?_, fun y hy => ?_, fun k y b z => ?_⟩
  · obtain ⟨h1, h2⟩ := He.ba (List.all_eq_true.mp c1 x (List.contains_iff_mem.mp hx))
    obtain ⟨h2, h3⟩ := He.ba h2
    obtain ⟨h3, h4⟩ := He.ba h3
    exact ⟨_, He.glo_ok X G h1, xcB_ok h2, fun f hf => of_decide_eq_true (List.all_eq_true.mp h4 f (List.contains_iff_mem.mp hf))⟩
  · exact ⟨_, He.glo_ok X G (List.all_eq_true.mp c2 y (List.contains_iff_mem.mp hy))⟩
  · obtain ⟨h1, h2⟩ := He.ba (List.all_eq_true.mp c3 ((k, y), b) (look_mem z))
    obtain ⟨h2, h3⟩ := He.ba h2
    obtain ⟨h3, h4⟩ := He.ba h3
    refine ⟨h1, fun C D hC hD => ?_⟩
    have g1 := He.glo_ok X G (He.ba (List.all_eq_true.mp c1 k (List.contains_iff_mem.mp h1))).1
    have g2 := He.glo_ok X G (List.all_eq_true.mp c2 y (List.contains_iff_mem.mp h2))
    rw [hC] at g1
    rw [hD] at g2
    cases g1
    cases g2
    exact ⟨of_decide_eq_true h3, of_decide_eq_true h4⟩
theorem exB_ini {P : Program} {w : World} {base : Heap} (X : K.In h) (G : h.Ns mainGlobals mg) (c : exB cs ys fs tab K = true) {x : Str} {ns ps : List Str} {fd : FuncData} (hx : cs.contains x = true)
    (F1 : ∀ C, mg x = some (.ref C) → XcC K C → (∀ f, fs.contains f = true → PySem.W.findIn K (.ref C) f = some none) → FnOk P w K mg base CX0 1 (He.fAd K (x, some "__init__")) fd ps (spI C ns)) (hb : Binds K fd ps []) : ExT P w K mg base x ns := by
  obtain ⟨c1, _⟩ := He.ba c
  obtain ⟨h1, h2⟩ := He.ba (List.all_eq_true.mp c1 x (List.contains_iff_mem.mp hx))
  obtain ⟨h2, h3⟩ := He.ba h2
  obtain ⟨h3, h4⟩ := He.ba h3
  obtain ⟨h5, h6⟩ := He.ba h3
  have g1 := He.glo_ok X G h1
  have x1 := xcB_ok h2
  exact ⟨_, _, fd, ps, g1, x1.ox, of_decide_eq_true h5, of_decide_eq_true h6, F1 _ g1 x1 fun f hf => of_decide_eq_true (List.all_eq_true.mp h4 f (List.contains_iff_mem.mp hf)), hb⟩
end
def obsX (fa : List He.Fa) (fn : List He.DefD) (ex : PySem.W.Frag → Bool) (K : PySem.W.Frag) : He.AlD × Bool := (He.obsD fa fn K, ex K)
def SaysX (fa : List He.Fa) (fn : List He.DefD) (ex : PySem.W.Frag → Bool) (K : PySem.W.Frag) : Prop := obsX fa fn ex K = (He.valD fn, true)
theorem SaysX.d {fa : List He.Fa} {fn : List He.DefD} {ex : PySem.W.Frag → Bool} {K : PySem.W.Frag} (c : SaysX fa fn ex K) : He.SaysD fa fn K := congrArg Prod.fst c
theorem SaysX.x {fa : List He.Fa} {fn : List He.DefD} {ex : PySem.W.Frag → Bool} {K : PySem.W.Frag} (c : SaysX fa fn ex K) : ex K = true := congrArg Prod.snd c
end DL
namespace DL
open PySem PySem.Spec PyProof.Rows L2
/-- a class's j-th statement -/
def inCls (s : Stmt) (j : Nat) : Stmt := match s with
  | .ClassDef _ _ _ b _ _ _ _ _ _ _ => b.getD j (.Pass ⟨0, 0, 0, 0⟩)
  | _ => .Pass ⟨0, 0, 0, 0⟩
section
variable {X : Cx} {W : WX} {st : Stmt} {f : Fsx}
def x_fz (j : Nat) (f : Fsx) : Fsx := fun e => f (fzE j e)
theorem SDX.fz (j : Nat) (h : SDX X W st f) (hj : j ≠ 0 := by decide) : SDX X W st (x_fz j f) := by
  refine ⟨ps_imp h.run fun D σ H ⟨m, E, G0, G, e, o, R, q, P⟩ => ?_⟩
  obtain ⟨G', s, R'⟩ := R.fz hj
  exact ⟨m, E, G0, G', _, o, R', q, P.aft s⟩
end
section
variable {P : Program} {w : World} {K : PySem.W.Frag} {mg : Str → Option Value} {base : Heap} {x qual : Str} {params : Arguments} {body : List Stmt} {scope : Scope} {dvs dvs' : List V} {kws : List (Str × V)} {f : Addr} {fd : FuncData} {k : Nat} {sp : Sp} {ps : List Str}
theorem kfX (F : FunD K x qual params body scope dvs kws f fd) (ok : FnOk P w K mg base (L2N.CX P w) k f fd ps sp) (g : mg x = some (.ref f)) (b : ∃ ds, Vals dvs' ds ∧ Binds K fd ps ds) : KfX P w K mg base k x sp dvs' := by
  obtain ⟨ds, h1, h2⟩ := b
  exact ⟨f, fd, ps, ds, ok, g, F.kp, h2, h1⟩
theorem kfXN (F : FunD K x qual params body scope [] kws f fd) (ok : FnOk P w K mg base (L2N.CX P w) k f fd ps sp) (g : mg x = some (.ref f))
    (h : ∀ (kV doc pm : Value) (an : Option Addr) (cdv ct : Value) (us : List Value), us.length = ps.length → bindArgs (PySem.W.fnOf x qual params body scope .none kV doc pm an cdv ct) ⟨us, []⟩ = pure (ps.zip us)) : KfX P w K mg base k x sp [] :=
  kfX F ok g ⟨[], .nil, F.bindsN h⟩
end
end DL
namespace DL
open PySem PySem.Spec PyProof.Rows L2
def blB (l : List (Str × String)) (K : PySem.W.Frag) : Bool := l.all fun p => decide (PySem.W.nsIn K mainGlobals p.1 = some (some (.builtin p.2)))
end DL
namespace DL
open L2 PySem PySem.Spec PySem.W PyProof.Rows
def bD : Option Rs → Option Bool
  | some (.im (.bool b)) => some b
  | _ => none
def iD : Option Rs → Option Int
  | some (.im (.int i)) => some i
  | _ => none
def vD : Option Rs → Option PyData
  | some (.im d) => some d
  | _ => none
theorem bD_ok {o : Option Rs} {b : Bool} (h : bD o = some b) : o = some (.im (.bool b)) := by
  unfold bD at h
  split at h
  · cases h
    rfl
  · cases h
theorem iD_ok {o : Option Rs} {i : Int} (h : iD o = some i) : o = some (.im (.int i)) := by
  unfold iD at h
  split at h
  · cases h
    rfl
  · cases h
theorem vD_ok {o : Option Rs} {d : PyData} (h : vD o = some d) : o = some (.im d) := by
  unfold vD at h
  split at h
  · cases h
    rfl
  · cases h
theorem bD_eq {α : Type} [DecidableEq α] {f : α → PyData} [E : EqE f] (h : E.d ≤ 64) (a b : α) : bD (p_eq (f a) (f b)) = some (decide (a = b)) := by rw [o_eq h]; rfl
end DL
namespace DL
open L2 PySem PySem.Spec PySem.W PyProof.Rows
section
variable {l : Addr} {items : Array Value} {n : Nat} {dd : Option Addr} {sl : Array (Option Value)} {u : Tok} {x : Int}
theorem tm_none (c0 : (decide (x < -(2 ^ 63)) || decide (x ≥ 2 ^ 63)) = false) (c1 : (items.isEmpty || x == 1) = false) (c2 : (decide (x ≤ 0) || items.isEmpty) = true) : Meets (Builtin.«tuple.__mul__» ⟨[.ref l, .int x u], []⟩) (fun _ R s => s.heap.get? l = some { cls := .type "tuple", dict := dd, data := .seq items n, slots := sl } ∧
    R (.ok (.ret (.ref s.heap.objs.size))) { s with heap := s.heap.push { cls := Value.type "tuple", data := Data.seq #[] }, toks := s.toks }) :=
  .of_wp fun prog w A R s h => by
    obtain ⟨hp, g, d, tk, os⟩ := s
    obtain ⟨hl, k⟩ := h
    have ix := AutoSeq1.idx_int
    wp_walk using wpAny_loadPart' hl
    repeat (first
      | (refine wpAny_ite_false (decide_eq_false (by rw [c0]; exact Bool.false_ne_true)) ?_; wp_walk using wpAny_loadPart' hl)
      | (refine wpAny_ite_false (decide_eq_false (by rw [c1]; exact Bool.false_ne_true)) ?_; wp_walk using wpAny_loadPart' hl)
      | (refine wpAny_ite_true (by rw [c2]; rfl) ?_; wp_walk using wpAny_loadPart' hl)
      | (refine wpAny_ite_true (by rw [c2]) ?_; wp_walk using wpAny_loadPart' hl))
    exact ⟨_, rfl, k⟩
end
end DL
namespace DL
open PySem PySem.Spec PySem.W PyProof.Rows L2 Calls SeqAt
section
variable {prog : Program} {w : World} {A : Around} {E : Value → Shared → Prop} {s : Shared}
/-- tuple's own __lt__ -/
theorem oneLt_two {xs ys : List PyData} {a b : Value} {as bs : List Addr} {Q : Bool → Shared → Prop} (ra : Reads s.heap a (.tuple xs) as) (rb : Reads s.heap b (.tuple ys) bs) (hal : alikeAll xs ys = true)
    (hu : A.units + min (PyData.tuple xs).depth (PyData.tuple ys).depth < cLine) (hq : Q (dataLt (.tuple xs) (.tuple ys)) s) : wpAny (model prog w) A (oneLt' true a b) Q E s := by
  cases ra with
  | @tuple p o vs n _ _ h1 h2 h3 h4 =>
    cases rb with
    | @tuple p2 o2 vs2 n2 _ _ k1 k2 k3 k4 =>
      have e1 : vs.size = xs.length := by simpa using ReadsAll.length _ _ _ h4
      have e2 : vs2.size = ys.length := by simpa using ReadsAll.length _ _ _ k4
      rw [dataLt_tuple, ← firstLt_toks xs ys hal, ← e1, ← e2] at hq
      obtain ⟨cls, dd, data, sl⟩ := o
      obtain ⟨cls2, dd2, data2, sl2⟩ := o2
      dsimp only at h2 h3 k2 k3
      subst h2 h3 k2 k3
      rw [oneLt'_eq]
      simp only [if_true]
      refine wpAny_bind (wpAny_cRoomFor (room_here hu) (wpAny_bind (wpAny_callSpecialIfBound?_slot (T := "tuple") ⟨_, h1, rfl⟩ F.slot_tuple_lt ?_)))
      refine call_meets F.slot_tuple_lt ⟨_, h1, rfl⟩ F.entry_tuple_lt (F.args_tuple_lt_2 _ _) (tuple_ltAt p p2 vs vs2 n n2 dd dd2 sl sl2 (pairEq xs ys) fun j => dataLt (xs.getD j .none) (ys.getD j .none)) ⟨h1, k1, fun j j1 j2 => ?_, fun j j1 j2 hj => ?_, ?_⟩
      · have z := eqAt_alikeAll xs ys A.in1 s vs.toList vs2.toList _ _ h4 k4 hal (room_in hu) j (by simpa using j1) (by simpa using j2)
        simpa using z
      · have z := rcLt_alikeAll xs ys A.in1 s vs.toList vs2.toList _ _ h4 k4 hal (room_in hu) j (by simpa using j1) (by simpa using j2) hj
        simpa using z
      · exact wpAny_truthy_bool hq
/-- the first items of tuples -/
theorem firsts_mix {M : Model} : ∀ (vs : List Value) (ks : List (List Int)) {Q : List (Option Value) → Shared → Prop}, EachIs (fun v k => ∃ as, Reads s.heap v (tI k) as) vs ks → (∀ L : List (Option Value), L.map Option.isSome = ks.map (fun k => !k.isEmpty) → Q L s) → wpAny M A (vs.mapM firstOfTuple') Q E s
  | _, _, Q, .nil, h => by
    rw [List.mapM_nil]
    exact wpAny_pure (h [] rfl)
  | v :: vs, k :: ks, Q, .cons r t, h => by
    obtain ⟨as, r⟩ := r
    cases r with
    | @tuple p o xs n _ _ h1 h2 h3 h4 =>
      rw [List.mapM_cons]
      refine wpAny_bind ?_
      rw [kas_first_eq]
      refine wpAny_bind (Looks.here (show Looks M s.heap (typeOf (.ref p)) o.cls from (Looks.ld h1).andThen .now) ?_)
      rw [h2, if_neg (by first | decide | simp)]
      refine wpAny_bind (listItems_at h1 h3 (wpAny_pure ?_))
      refine wpAny_bind (firsts_mix vs ks t fun L hL => wpAny_pure (h (xs[0]? :: L) ?_))
      rw [List.map_cons, List.map_cons, hL]
      congr 1
      have e : xs.size = (k.map PyData.int).length := by simpa using ReadsAll.length _ _ _ h4
      rw [List.length_map] at e
      cases k with
      | nil =>
        have z : xs[0]? = none := Array.getElem?_eq_none (by rw [e]; exact Nat.le_refl _)
        rw [z]
        rfl
      | cons i k =>
        have l0 : 0 < xs.size := by
          rw [e]
          exact Nat.succ_pos _
        rw [Array.getElem?_eq_getElem l0]
        rfl
def mixKind (ks : List (List Int)) : SortKind := match ks with
  | [] :: _ => oneType'
  | _ => general'
theorem kind_mix {M : Model} {vs : List Value} {ks : List (List Int)} {Q : SortKind → Shared → Prop} (e : EachIs (fun v k => ∃ as, Reads s.heap v (tI k) as) vs ks) (h2 : 2 ≤ vs.length) (hk : (ks.all fun k => !k.isEmpty) = false) (h : Q (mixKind ks) s) : wpAny M A (keyKind' vs.toArray) Q E s := by
  rw [kat_kind_eq, List.mapM_toArray, map_eq_pure_bind]
  refine wpAny_bind (wpAny_bind (firsts_mix vs ks e fun L hL => wpAny_pure ?_))
  have a1 : (L.toArray.all fun x => x.isSome) = false := by
    have z : (L.map Option.isSome).all id = (ks.map fun k => !k.isEmpty).all id := by rw [hL]
    rw [List.all_map, List.all_map] at z
    rw [List.all_toArray]
    exact z.trans hk
  rw [if_neg (by rw [a1]; exact Bool.false_ne_true)]
  have looks : ∀ v ∈ vs, Looks M s.heap (typeOf v) (.type "tuple") := fun v hv => by
    obtain ⟨k, _, as, r⟩ := e.left v hv
    exact looks_reads r
  match ks, L, hL, h with
  | [], _, _, _ => cases hk
  | [] :: ks, x :: L, hL, h =>
    have hx : x = none := by
      have := (List.cons.inj hL).1
      cases x with
      | none => rfl
      | some y => cases this
    subst hx
    rw [if_neg (by simp)]
    rw [oneTypeOnly'_eq, List.mapM_toArray, map_eq_pure_bind]
    refine wpAny_bind (wpAny_bind (wpAny_bind (kas_mapM (r := .type "tuple") _ (fun v hv Q' hq => (looks v hv).here hq) (wpAny_pure ?_))))
    have all : ((List.map (fun _ => Value.type "tuple") vs).toArray.all fun x => x == Value.type "tuple") = true := by
      simp only [List.all_toArray, List.all_map, List.all_eq_true]
      exact fun _ _ => beq_self_eq_true _
    have at0 : (List.map (fun _ => Value.type "tuple") vs).toArray[0]? = some (.type "tuple") := by
      cases vs with
      | nil => exact absurd h2 (by decide)
      | cons v vs => rfl
    rw [at0]
    simp only [all, if_true]
    exact wpAny_pure (wpAny_pure h)
  | (i :: k) :: ks, x :: L, hL, h =>
    obtain ⟨y, rfl⟩ : ∃ y, x = some y := by
      have := (List.cons.inj hL).1
      cases x with
      | none => cases this
      | some y => exact ⟨y, rfl⟩
    rw [if_pos (by simp)]
    exact wpAny_pure h
theorem sorts_mix {vs : List Value} {ks : List (List Int)} (e : EachIs (fun v k => ∃ as, Reads s.heap v (tI k) as) vs ks) (hk : (ks.all fun k => !k.isEmpty) = false) (hu : ∀ k, k ∈ ks → A.units + (tI k).depth < cLine) : SortsAt prog w A s (dataKind s.heap (ks.map tI)) vs := by
  have hal : AllAlike (ks.map tI) := AllAlike.of alike_tI
  have e' : EachIs (fun v d => ∃ as, Reads s.heap v d as) vs (ks.map tI) := each_map (R := fun v d => ∃ as, Reads s.heap v d as) tI e
  refine ⟨fun v hv => ?_, mixKind ks, ?_, fun h2 E Q hq => kind_mix e h2 hk hq⟩
  · obtain ⟨d, hd, as, r⟩ := e'.left v hv
    exact ⟨_, dataKind_some hal hd r⟩
  · intro E x y a b Q ha hb hq
    obtain ⟨d, as, hd, ra, rfl⟩ := dataKind_inv ha
    obtain ⟨d', as', hd', rb, rfl⟩ := dataKind_inv hb
    obtain ⟨k, mk, rfl⟩ := List.mem_map.mp hd
    obtain ⟨k', mk', rfl⟩ := List.mem_map.mp hd'
    have hdd := hal _ hd _ hd'
    have room : A.units + min (tI k).depth (tI k').depth < cLine := Nat.lt_of_le_of_lt (Nat.add_le_add_left (Nat.min_le_left _ _) _) (hu k mk)
    have hq' : Q (dataLt (tI k) (tI k')) s := hq
    have one : wpAny (model prog w) A (oneLt' true x y) Q E s := oneLt_two ra rb (by simpa [tI, alike] using hdd) room hq'
    have gen : wpAny (model prog w) A (oneLt' false x y) Q E s := oneLt_alike (fun z => by cases z) ra rb hdd (by intro z; cases z) room hq'
    unfold mixKind
    split
    · exact one
    · exact gen
end
section
variable {X : Cx}
def rSortM (K : PySem.W.Frag) : List V → Hp → VK → Prop := fun vs H Q => ∃ (G : Hp) (a : Addr) (ws : List V) (ks : List (List Int)), Same G H ∧ vs = [.ref a] ∧ SqL K H a ws ∧ DpAll K G ws (ks.map tI) ∧ (ks.all fun k => !k.isEmpty) = false ∧
  ∀ ys p, DpAll K G ys ((upT ks).map tI) → H p = none → Q (.ref p) (upd H p (.lst ys))
theorem cr_sortM (hu : X.A.units + 64 < cLine) : CallR X (.builtin "sorted") (rSortM X.K) := by
  rintro pins s σ H vs us Q I r ⟨G, a, ws, ks, sg, rfl, hs, hd, ok, q⟩
  obtain ⟨its, rv, pl, hz⟩ := I.list hs
  rw [Vals.ref1 r]
  have e := isK_all hd rv
  have hl : its.length ≤ sizeLine := by
    rw [← rv.length]
    exact hz
  have er := (isK_reads I sg e).mono fun v k (h : ∃ as, Reads s.heap v (tI k) as) => (⟨h.choose, PyProof.Rows.Reads.keeps (fun _ _ => sorting_copy_old) h.choose_spec⟩ : ∃ as, Reads (sortingHeap (copyHeap s.heap its) (s.heap.objs.size + 1) its) v (tI k) as)
  refine sorted_vals pl.isList (sorts_mix (s := { s with heap := sortingHeap (copyHeap s.heap its) (s.heap.objs.size + 1) its }) er ok fun k _ => ?_) hl ?_
  · have := depth_tI k
    show X.A.units + 2 + _ < _
    omega
  · have eo := sortVals_data false e er (AllAlike.of alike_tI)
    rw [dataLe_tups] at eo
    obtain ⟨ys, r2, d2⟩ := isK_back eo
    obtain ⟨c, hat⟩ := sortedAll_at s.heap its (List.toArray (sortVals (dataKind (sortingHeap (copyHeap s.heap its) (s.heap.objs.size + 1) its) (ks.map tI)) false its its))
    have hl2 : ys.length ≤ sizeLine := by
      have z := (upT_perm ks).length_eq
      unfold upT at z
      rw [dpAll_len d2, List.length_map, z, ← e.length]
      exact hl
    exact ⟨.ref _, upd H (s.heap.objs.size + 1) (.lst ys), I.laid (t' := s.toks) (fun _ _ => sortedAll_old) (Nat.le_succ _) ⟨hl2, _, c, r2, hat⟩, rfl, q ys _ d2 (I.hok.fresh (Nat.le_succ _))⟩
end
def c_sortedM : List PyData → Option Rs
  | [.list ds] => (match unT ds with
    | some ks => if (ks.all fun k => !k.isEmpty) = false then some (.ac ((upT ks).map tI)) else none
    | none => none)
  | _ => none
theorem vc_sortedM {K : PySem.W.Frag} : VC K (rSortM K) c_sortedM := by
  intro m E G0 G e σ H vs ds rr Q R l q P
  unfold c_sortedM at q
  split at q
  · split at q
    · rename_i ks h
      split at q
      · rename_i ok
        cases q
        rw [unT_ok h] at l
        obtain ⟨v, rfl, lv⟩ := lv1 l
        obtain ⟨p, ws, rfl, s1, k⟩ := lv.list R.gh
        refine ⟨G, p, ws, ks, R.gh, rfl, s1, k, ok, fun ys p2 d hp => ?_⟩
        obtain ⟨R', S', V', N'⟩ := R.newL hp d
        exact P _ _ _ R' S' V' N'
      · cases q
    · cases q
  · cases q
def c_sortedB : List PyData → Option Rs := orC c_sortedA c_sortedM
theorem vc_sortedB {K : PySem.W.Frag} : VC K (fun vs H Q => (rSortedI K vs H Q ∨ rSortTL K vs H Q) ∨ rSortM K vs H Q) c_sortedB := VC.or vc_sortedA vc_sortedM
theorem cr_sortedB {X : Cx} (hu : X.A.units + 64 < cLine) : CallR X (.builtin "sorted") (fun vs H Q => (rSortedI X.K vs H Q ∨ rSortTL X.K vs H Q) ∨ rSortM X.K vs H Q) := CallR.or (cr_sortedA hu) (cr_sortM hu)
theorem o_sortedBI {l : List Int} : c_sortedB [ls PyData.int l] = some (.ac ((upI l).map PyData.int)) := by
  unfold c_sortedB orC
  rw [o_sortedL]
theorem o_sortedBT {l : List (List Int)} : c_sortedB [ls (tp PyData.int) l] = some (.ac ((upT l).map (tp PyData.int))) := by
  have u : unT (l.map (tp PyData.int)) = some l := unT_map l
  cases l with
  | nil =>
    show c_sortedB [ls PyData.int []] = _
    rw [o_sortedBI]
    simp [upI, upT, sortB]
  | cons k l =>
    have n1 : c_sortedI [ls (tp PyData.int) (k :: l)] = none := rfl
    by_cases ok : okT (k :: l) = true
    · have q : c_sortedT [ls (tp PyData.int) (k :: l)] = some (.ac ((upT (k :: l)).map tI)) := by
        unfold c_sortedT
        dsimp only
        rw [u]
        dsimp only
        rw [if_pos ok]
      unfold c_sortedB c_sortedA orC
      rw [n1]
      dsimp only
      rw [q]
      rfl
    · have q : c_sortedT [ls (tp PyData.int) (k :: l)] = none := by
        unfold c_sortedT
        dsimp only
        rw [u]
        dsimp only
        rw [if_neg ok]
      have all : ((k :: l).all fun k => !k.isEmpty) = false := by
        unfold okT at ok
        rw [Bool.or_eq_true, not_or] at ok
        exact Bool.eq_false_iff.mpr ok.2
      have q2 : c_sortedM [ls (tp PyData.int) (k :: l)] = some (.ac ((upT (k :: l)).map tI)) := by
        unfold c_sortedM
        dsimp only
        rw [u]
        dsimp only
        rw [if_pos all]
      unfold c_sortedB c_sortedA orC
      rw [n1]
      dsimp only
      rw [q]
      dsimp only
      rw [q2]
      rfl
end DL
namespace DL
open L2 PySem PySem.Spec PySem.W PyProof.Rows
abbrev p1 {α : Type} (f : α → PyData) (x : α) : PyData := .tuple [f x]
instance {α : Type} {f : α → PyData} : Nn (p1 f) := ⟨fun _ => ⟨rfl, rfl⟩⟩
instance {α : Type} [DecidableEq α] {f : α → PyData} [E : EqE f] : EqE (p1 f) := ⟨E.d + 1, fun a => by simp [PyData.canLay0, PyData.canLayAll0, E.can], fun a => by
    rw [PyData.depth, PyData.depthAll, PyData.depthAll]
    have := E.dep a
    omega, fun a b => by
    rw [PyData.eqv, PyData.eqvAll, PyData.eqvAll, E.eqv]
    exact Bool.and_true _⟩
end DL
namespace DL
open L2 PySem PySem.Spec PySem.W PyProof.Rows
def valD (kvs : List (Key × PyData)) (k : Key) : Option PyData := (kvs.find? fun kv => decide (kv.1 = k)).map (·.2)
section
variable {K : PySem.W.Frag} {G : Hp} {v : V} {d : PyData} {k : Key}
theorem Dkv.same {G' : Hp} {ws : List (Key × V)} {kvs : List (Key × PyData)} (q : Dkv K G ws kvs) (s : Same G G') : Dkv K G' ws kvs := ⟨q.1, dpAll_same s q.2⟩
end
end DL
namespace DL
open L2 PySem PySem.Spec PySem.W PyProof.Rows
end DL
namespace DL
open L2 PySem PySem.Spec PySem.W PyProof.Rows
section
variable {α β γ δ ε ζ : Type}
abbrev q2 (f : α → PyData) (g : β → PyData) (x : α × β) : List PyData := [f x.1, g x.2]
abbrev q3 (f : α → PyData) (g : β → PyData) (h : γ → PyData) (x : α × β × γ) : List PyData := [f x.1, g x.2.1, h x.2.2]
abbrev q4 (f : α → PyData) (g : β → PyData) (h : γ → PyData) (k : δ → PyData) (x : α × β × γ × δ) : List PyData := [f x.1, g x.2.1, h x.2.2.1, k x.2.2.2]
abbrev q5 (f : α → PyData) (g : β → PyData) (h : γ → PyData) (k : δ → PyData) (l : ε → PyData) (x : α × β × γ × δ × ε) : List PyData := [f x.1, g x.2.1, h x.2.2.1, k x.2.2.2.1, l x.2.2.2.2]
end
end DL
namespace DL
open L2 PySem PySem.Spec PySem.W PyProof.Rows
section
variable {l : Addr} {items : Array Value} {n : Nat} {dd : Option Addr} {sl : Array (Option Value)} {u : Tok} {x : Int}
theorem tm_self (c0 : (decide (x < -(2 ^ 63)) || decide (x ≥ 2 ^ 63)) = false) (c1 : (items.isEmpty || x == 1) = true) : Meets (Builtin.«tuple.__mul__» ⟨[.ref l, .int x u], []⟩) (fun _ R s => s.heap.get? l = some { cls := .type "tuple", dict := dd, data := .seq items n, slots := sl } ∧ R (.ok (.ret (.ref l))) s) :=
  .of_wp fun prog w A R s h => by
    obtain ⟨hp, g, d, tk, os⟩ := s
    obtain ⟨hl, k⟩ := h
    have ix := AutoSeq1.idx_int
    wp_walk using wpAny_loadPart' hl
    repeat (first
      | (refine wpAny_ite_false (decide_eq_false (by rw [c0]; exact Bool.false_ne_true)) ?_; wp_walk using wpAny_loadPart' hl)
      | (refine wpAny_ite_true (by rw [c1]; rfl) ?_; wp_walk using wpAny_loadPart' hl)
      | (refine wpAny_ite_true (by rw [c1]) ?_; wp_walk using wpAny_loadPart' hl))
    exact ⟨_, rfl, k⟩
end
def rRepB (K : PySem.W.Frag) : R2 := fun x y H Q => ∃ l k xs, x = .ref l ∧ y = .int k ∧ SqT K H l xs ∧ -1000000 ≤ k ∧ k ≤ 1000 ∧ xs.length ≤ 1000 ∧
  ((xs = [] ∨ k = 1) → Q (.ref l) H) ∧ (xs ≠ [] → k ≤ 0 → ∀ p, H p = none → Q (.ref p) (upd H p (.tup []))) ∧ (xs ≠ [] → 2 ≤ k → ∀ p, H p = none → Q (.ref p) (upd H p (.tup (List.replicate k.toNat xs).flatten)))
section
variable {X : Cx}
theorem op_repB : OpR X (binaryOp .Mult) (rRepB X.K) := by
  intro pins s σ H x y v u Q I rx ry h
  obtain ⟨l, k, xs, rfl, rfl, hT, hk, h2, hz, q1, q2, q3⟩ := h
  by_cases big : xs ≠ [] ∧ 2 ≤ k
  · exact op_repT pins s σ H _ _ v u Q I rx ry ⟨l, k, xs, rfl, rfl, hT, big.1, big.2, h2, hz, q3 big.1 big.2⟩
  cases rx
  obtain ⟨t, rfl⟩ := ry
  obtain ⟨its, r, ⟨⟨cls, dd, data, sl⟩, ho, hc, n, hd⟩, hs⟩ := I.tuple hT
  simp only at hc hd
  subst hc hd
  have hle : its.length = xs.length := r.length.symm
  have c0 : (decide (k < -(2 ^ 63)) || decide (k ≥ 2 ^ 63)) = false := by
    rw [decide_eq_false (by omega), decide_eq_false (by omega)] <;> rfl
  have road : ∀ {Rz : Result → Shared → Prop}, wpAny (model X.prog X.w) X.A (call (.builtin "tuple.__mul__") [.ref l, .int k t]) (EP X pins σ Q) X.xe s → wpAny (model X.prog X.w) X.A (binaryOp .Mult (.ref l) (.int k t)) (EP X pins σ Q) X.xe s := fun z =>
    wpAny_binaryOp_repeat_ref (T := "tuple") (U := "int") (by decide) ⟨_, ho, rfl⟩ (fun s' => typeIs_int s' k t) noFill_tuple_mul F.fills_int_mul F.slot_int_rmul repeat_tuple F.slot_int_index.lookup
      (call_meets F.slot_int_rmul (typeIs_int s k t) F.entry_int_rmul (F.args_int_rmul_2 _ _) (int_rmul_tuple k t l its.toArray n dd sl) ⟨ho, rfl, ⟨_, ho, rfl⟩, z⟩)
  by_cases e1 : xs = [] ∨ k = 1
  · have c1 : (its.toArray.isEmpty || k == 1) = true := by
      rcases e1 with e1 | e1
      · have : its = [] := List.eq_nil_of_length_eq_zero (by rw [hle, e1]; rfl)
        rw [this]
        rfl
      · rw [e1]
        simp
    refine road (Rz := fun _ _ => True) (call_meets F.slot_tuple_mul ⟨_, ho, rfl⟩ F.entry_tuple_mul (F.args_tuple_mul_2 _ _) (tm_self (l := l) (items := its.toArray) (n := n) (dd := dd) (sl := sl) (u := t) (x := k) c0 c1) ⟨ho, ?_⟩)
    exact ⟨.ref l, H, I, rfl, q1 e1⟩
  · have e2 : xs ≠ [] := fun z => e1 (.inl z)
    have e3 : k ≠ 1 := fun z => e1 (.inr z)
    have e4 : k ≤ 0 := by
      by_cases z : k ≤ 0
      · exact z
      · exact absurd ⟨e2, by omega⟩ big
    have hi : its.toArray.isEmpty = false := by
      cases its with
      | nil => exact absurd (List.eq_nil_of_length_eq_zero (by rw [← hle]; rfl)) e2
      | cons a b => rfl
    have c1 : (its.toArray.isEmpty || k == 1) = false := by
      rw [hi, Bool.false_or]
      exact beq_eq_false_iff_ne.mpr e3
    have c2 : (decide (k ≤ 0) || its.toArray.isEmpty) = true := by
      rw [decide_eq_true e4]
      rfl
    refine road (Rz := fun _ _ => True) (call_meets F.slot_tuple_mul ⟨_, ho, rfl⟩ F.entry_tuple_mul (F.args_tuple_mul_2 _ _) (tm_none (l := l) (items := its.toArray) (n := n) (dd := dd) (sl := sl) (u := t) (x := k) c0 c1 c2) ⟨ho, ?_⟩)
    refine ⟨.ref s.heap.objs.size, _, I.laid (t' := s.toks) (o := .tup []) (fun b ob q => Heap.get?_push_of_some _ q) (Nat.le_refl _) ?_, rfl, q2 e2 e4 _ (I.hok.fresh (Nat.le_refl _))⟩
    exact ⟨Nat.zero_le _, _, .nil, IsTup.new _ _⟩
def q_repT : PyData → PyData → Option Rs
  | .tuple ds, .int k => if -1000000 ≤ k ∧ k ≤ 1000 ∧ ds.length ≤ 1000 then some (.im (.tuple (List.replicate k.toNat ds).flatten)) else none
  | _, _ => none
def p_repT : PyData → PyData → Option Rs := q_repT
theorem vb_repT {K : PySem.W.Frag} : VB K (rRepB K) p_repT := by
  intro m E G0 G e σ H x y dx dy rr Q R lx ly q P
  unfold p_repT q_repT at q
  split at q
  · rename_i ds k
    by_cases z : -1000000 ≤ k ∧ k ≤ 1000 ∧ ds.length ≤ 1000
    · rw [if_pos z] at q
      cases q
      have dx : Dp K G x (.tuple ds) := by
        rcases lx with h | ⟨_, _, _, _, h, _⟩
        · exact h
        · cases h
      obtain ⟨p1, w1, e1, s1, k1⟩ := lx.tup R.gh
      have e2 := ly.int
      subst e1 e2
      have hl := dpAll_len k1
      refine ⟨p1, k, w1, rfl, rfl, s1, z.1, z.2.1, by rw [hl]; exact z.2.2, fun h => ?_, fun h1 h2 p hp => ?_, fun _ _ p hp => ?_⟩
      · have e : (List.replicate k.toNat ds).flatten = ds := by
          rcases h with h | h
          · subst h
            cases k1
            rw [List.flatten_replicate_nil]
          · subst h
            simp
        rw [e] at P
        exact P _ _ _ R Stp.refl dx True.intro
      · have e : (List.replicate k.toNat ds).flatten = [] := by
          have : k.toNat = 0 := by omega
          rw [this]
          rfl
        rw [e] at P
        obtain ⟨R', S', D'⟩ := R.newT (ws := []) (ds := []) hp .nil
        exact P _ _ _ R' S' D' True.intro
      · obtain ⟨R', S', D'⟩ := R.newT hp (dpAll_rep k1 k.toNat)
        exact P _ _ _ R' S' D' True.intro
    · rw [if_neg z] at q
      cases q
  · cases q
end
end DL
namespace DL
open L2 PySem PySem.Spec PySem.W PyProof.Rows
end DL
namespace DL
open L2 PySem PySem.Spec PySem.W PyProof.Rows
theorem _root_.L2H.RoomH.units {k : Nat} {A : Around} (r : L2H.RoomH k A) : A.units + 64 < cLine := by
  have := r.un
  omega
theorem hot_suite {X : Cx} {a dd C : Addr} {oe : Obj} {pn : List (Addr × Obj)} (hz : L2N.Zn (.ref C) (some dd) oe) (hf : ∃ vs, oe.data = .fields vs) : L2H.HotC (X.suite a ((a, oe) :: pn)) := by
  obtain ⟨vs, hv⟩ := hf
  exact ⟨(a, oe), ⟨rfl, vs, hv, hz.2.2 vs hv⟩, List.mem_cons_self ..⟩
theorem room_suite {X : Cx} {j : Nat} {a : Addr} {pn : List (Addr × Obj)} (hr : Room j X.A) : L2H.RoomH j (X.suite a pn).A := ⟨hr.dp, hr.un⟩
inductive KfH (P : Program) (w : World) (K : PySem.W.Frag) (mg : Str → Option Value) (base : Heap) (k : Nat) (x : Str) (sp : Sp) : Prop where
  | kept (at_ : Addr) (fd : FuncData) (names : List Str) (fn : L2H.FnH P w K mg base CX0 k at_ fd names sp) (here : mg x = some (.ref at_)) (stays : PySem.W.keepIn K (.ref at_) = true) (binds : Binds K fd names [])
section
variable {X : Cx} {k j n : Nat} {x : Str} {p pos : Pos} {a : Expr} {es : List Expr} {fa : Fa}
theorem ed_callH {φ : List PyData → Option Rs} (F : KfH X.prog X.w X.K X.mg X.base k x (spD X.K n φ)) (hr : L2H.RoomH j X.A) (hot : L2H.HotC X) (hk : k ≤ j) (hn : ∀ ds, (φ ds).isSome = true → ds.length = n) (h : AD X (a :: es) fa) (hg : Gl X x := by rfl)
    (hdb : (x == ("__debug__" : Str)) = false := by decide) (he : starEach (a :: es) X.env = (false, eval a X.env) :: starEach es X.env := by rfl) (hpl : (backTo pos (starEach es X.env)).any (·.1) = false := by rfl) :
    ED X (.Call (.Name x p) (a :: es) [] pos) (x_call φ [] fa) := by
  obtain ⟨f, fd, ps, F, hm, kp, hb⟩ := F
  obtain ⟨t, pa, kk⟩ := h
  refine ⟨_, L2H.pe_callH F (hr.mono hk) hot hg hm kp hb (E := fun _ => E0) (fun _ _ _ _ _ _ _ z => z.elim) pa hdb he hpl, ?_⟩
  intro m E G0 G e σ H r e' Q R q P
  have z := call_ok (dvs := []) (dds := []) (fun G => .nil) hn kk m E G0 G e σ H r e' Q R q P
  unfold tCall at z
  simp only [List.append_nil] at z
  exact z
theorem sd_forH {tg e : Expr} {body : List Stmt} {f : Fe} {S : List Nat} {γ : PyData → Ev → Option Ev} {fb : Fs} {q : Pos} (hot : L2H.HotC X) (hp : PassesOwn (model X.prog X.w) X.A X.env X.xe) (ha : ED X e f) (hm : X.mg "range" = none) (hg : GD X tg S γ) (hb : SsD X body fb)
    (hgl : Gl X "range" := by rfl) (hs1 : starEach [e] X.env = [(false, eval e X.env)] := by rfl) (hs : ∀ x, foldedSetIterable (.Call (.Name "range" p) [e] [] q) X.env x = pure x := by intro _; rfl) :
    SD X (.For tg (.Call (.Name "range" p) [e] [] q) body [] pos) (s_for (i_rng1 f) γ S fb) := by
  obtain ⟨t, pa, k⟩ := ha
  exact sd_forG (PIx := L2H.PIH X tg (.Call (.Name "range" p) [e] [] q)) (fun pi pg pb => L2H.ps_forH hp hot pi pg pb hs) ⟨_, L2H.pi_range1H hgl hm (pa_cons pa pa_nil hs1) hs1, rng1_read k⟩ hg hb
end
section
variable {P : Program} {w : World} {K : PySem.W.Frag} {mg : Str → Option Value} {base : Heap} {x qual : Str} {params : Arguments} {body : List Stmt} {scope : Scope} {dvs : List V} {kws : List (Str × V)} {f : Addr} {fd : FuncData} {N ps : List Str} {k n nl : Nat} {g : Fs}
/-- what the body gives, out of what the def promises -/
theorem fn_read {X : Cx} {t : TS} {vs : List V} {H : Hp} {Q : VK} {E : XK} (hK : X.K = K) (hl : n + nl = N.length) (kt : ∀ (m : Option Addr) (E : Ef) (G0 G : Hp) (e : Ev) (σ : St) (H : Hp) (fl : Fl) (D : Ends), Rz X.K m E G0 G e σ H → g e = some fl → PoS X.K m E G0 G D fl → t D σ H)
    (h : spD K n (runF n nl g) vs H Q E) : t { nx := fun _ H' => Q .non H', rt := Q } (L2.start N vs) H := by
  subst hK
  obtain ⟨G, ds, r, s1, hd, hv, hr2, hQ⟩ := h
  have Rz0 : Rz X.K none (Ef.of H) G G (env0 ds nl) (L2.start N vs) H := rz_start s1 hd (by omega)
  unfold runF at hr2
  rw [if_pos (by rw [← dpAll_len hd]; exact hv)] at hr2
  split at hr2
  · rename_i r' e' h1
    refine kt none (Ef.of H) G G _ _ H _ _ Rz0 h1 fun v G' σ' H' s2 R' V' => ?_
    refine hQ v G' H' s2 R'.r.gh (fun a o z => R'.r.eh a o z (by simp)) R'.r.nw ?_
    unfold finR at hr2
    cases r' with
    | im d =>
      cases hr2
      exact V'
    | ac d =>
      cases hr2
      obtain ⟨p, ws, a1, a2, a3, a4, a5, _⟩ := V'
      exact ⟨p, ws, a1, a2, a3, a4, a5⟩
    | br i =>
      dsimp only at hr2
      split at hr2
      · rename_i d h2
        cases hr2
        have b2 : σ'[i]? = some (some v) := V'
        obtain ⟨p, ws, a1, a2, a3, a4, a5⟩ := R'.r.ac i d h2
        rw [a1] at b2
        cases b2
        have a5 : H p = none := by
          rcases a5 with a5 | a5
          · exact a5
          · cases a5.1
        exact ⟨p, ws, rfl, a5, a2, a3, a4⟩
      · cases hr2
  · rename_i e' h1
    cases hr2
    exact kt none (Ef.of H) G G _ _ H _ _ Rz0 h1 fun G' σ' H' s2 R' => hQ .non G' H' s2 R'.r.gh (fun a o z => R'.r.eh a o z (by simp)) R'.r.nw .non
  · cases hr2
theorem fnDH (F : FunD K x qual params body scope dvs kws f fd) (S : FnScope N ps scope) (hp : ps.length = n) (hl : n + nl = N.length)
    (hb : ∀ (cdv : Value) (A : Around) (outer : List Env) (s : Shared) (H : Hp) (E : XK) (p : Addr × Obj), L2H.RoomH k (A.deeper (envOfC qual scope s.heap.objs.size f cdv)) → L2H.HotC (L2H.cxH CX0 P w K mg base N qual scope f cdv A outer s H E p).nox → SsD (L2H.cxH CX0 P w K mg base N qual scope f cdv A outer s H E p).nox body g) :
    L2H.FnH P w K mg base CX0 (k + 1) f fd ps (spD K n (runF n nl g)) := by
  obtain ⟨oc, od, dV, kV, doc, pm, an, cdv, ct, osl, rfl, lk, hcd, _, _⟩ := F.ex
  refine L2H.fn_ofH lk hcd S (fun vs H Q E h => ?_) fun A outer s H vs Q E p hot hr h => ?_
  · obtain ⟨_, _, _, _, _, h, _⟩ := h
    rw [h, hp]
  · obtain ⟨t, pt, kt⟩ := hb cdv A outer s H E p hr ⟨p, hot, List.mem_singleton.mpr rfl⟩
    exact ⟨t, pt.nox, fn_read (K := K) rfl hl kt h⟩
theorem fnH_void {CX : CXT} : L2H.FnH P w K mg base CX k f fd ps (spD K n (fun _ => none)) := by
  refine ⟨fun _ _ _ _ h => (spD_void h).elim, ?_⟩
  intros
  exact (spD_void (by assumption)).elim
theorem kfHN {sp : Sp} (F : FunD K x qual params body scope [] kws f fd) (ok : L2H.FnH P w K mg base CX0 k f fd ps sp) (gm : mg x = some (.ref f))
    (h : ∀ (kV doc pm : Value) (an : Option Addr) (cdv ct : Value) (us : List Value), us.length = ps.length → bindArgs (PySem.W.fnOf x qual params body scope .none kV doc pm an cdv ct) ⟨us, []⟩ = pure (ps.zip us)) : KfH P w K mg base k x sp := ⟨_, _, _, ok, gm, F.kp, F.bindsN h⟩
end
end DL
namespace DL
open L2 PySem PySem.Spec PySem.W PyProof.Rows
theorem u65 {k : Nat} {A : Around} (r : Room k A) : A.units + 65 < cLine := by
  have := r.un
  omega
end DL
namespace DL
open PySem PySem.Spec PySem.W PyProof.Rows L2
end DL
namespace DL
open PySem PySem.Spec PySem.W PyProof.Rows L2
def orRx (φ : List PyData → Option Rs) (ψ : List PyData → Option Ro) : List PyData → Option Ro := fun ds => match φ ds with
  | some r => some (.inl r)
  | none => ψ ds
theorem orRx_len {φ : List PyData → Option Rs} {ψ : List PyData → Option Ro} {n : Nat} (h : ∀ ds, (φ ds).isSome = true → ds.length = n) (k : ∀ ds, (ψ ds).isSome = true → ds.length = n) : ∀ ds, (orRx φ ψ ds).isSome = true → ds.length = n := fun ds q => by
  unfold orRx at q
  cases e : φ ds with
  | some r => exact h ds (by rw [e]; rfl)
  | none =>
    rw [e] at q
    exact k ds q
theorem fn_orX {P : Program} {w : World} {K : PySem.W.Frag} {mg : Str → Option Value} {base : Heap} {k n : Nat} {f : Addr} {fd : FuncData} {ps : List Str} {φ : List PyData → Option Rs} {ψ : List PyData → Option Ro}
    (F : FnOk P w K mg base CX0 k f fd ps (spD K n φ)) (Y : FnOk P w K mg base (L2N.CX P w) k f fd ps (spX K mg n ψ)) : FnOk P w K mg base (L2N.CX P w) k f fd ps (spX K mg n (orRx φ ψ)) := by
  have two : ∀ {vs : List V} {H : Hp} {Q : VK} {E : XK}, spX K mg n (orRx φ ψ) vs H Q E → spD K n φ vs H Q E ∨ spX K mg n ψ vs H Q E := fun {vs H Q E} z => by
    obtain ⟨G, ds, o, a1, a2, a3, a4, a5, a6⟩ := z
    unfold orRx at a4
    cases e : φ ds with
    | some r =>
      rw [e] at a4
      cases a4
      exact .inl ⟨G, ds, r, a1, a2, a3, e, a5 r rfl⟩
    | none =>
      rw [e] at a4
      exact .inr ⟨G, ds, o, a1, a2, a3, a4, a5, a6⟩
  refine ⟨fun vs H Q E z => ?_, fun A outer s H args us vs Q E r e0 b v z => ?_⟩
  · rcases two z with z | z
    · exact F.len _ _ _ _ z
    · exact Y.len _ _ _ _ z
  · rcases two z with z | z
    · refine codeAny_mono (F.run A outer s H args us vs Q E r e0 b v z) fun q s' y => ?_
      match q, y with
      | .ok (.ret u), y => exact y
      | .error e, y => exact False.elim y
    · exact Y.run A outer s H args us vs Q E r e0 b v z
abbrev Fax := Ev → Option (Ex (List Rs × Ev))
def PoA (K : PySem.W.Frag) (mg : Str → Option Value) (m : Option Addr) (E : Ef) (G0 : Hp) (σ : St) (G H : Hp) (e : Ev) (W : WX) (Q : List V → Hp → Prop) : Ex (List Rs × Ev) → Prop
  | .inl (rs, e') => ∀ vs G' H', Rl K m E G0 G' e' σ H' → Stp σ G H e G' H' e' → VrAll K E G' H' σ e' vs rs → Q vs H'
  | .inr (x, e') => ∀ cls d G' H', Rl K m E G0 G' e' σ H' → Stp σ G H e G' H' e' → XcAt K mg G' cls d x → W cls d σ H'
def taX (K : PySem.W.Frag) (mg : Str → Option Value) (f : Fax) (W : WX) : TA := fun σ H Q => ∃ m E G0 G e o, Rl K m E G0 G e σ H ∧ f e = some o ∧ PoA K mg m E G0 σ G H e W Q o
structure ADX (X : Cx) (W : WX) (xs : List Expr) (f : Fax) : Prop where
  run : PA X xs (taX X.K X.mg f W)
theorem pa_imp {X : Cx} {xs : List Expr} {t u : TA} (h : PA X xs t) (k : ∀ σ H Q, u σ H Q → t σ H Q) : PA X xs u := ⟨fun pos pins s σ H Q I q => h.run pos pins s σ H Q I (k σ H Q q)⟩
section
variable {X : Cx} {W : WX} {a : Expr} {es : List Expr} {fx : Fex} {fa : Fa} {fr : Fax} {pos : Pos}
def xA (f : Fa) : Fax := fun e => (f e).map .inl
theorem AD.x (h : AD X es fa) : ADX X W es (xA fa) := by
  obtain ⟨t, p, k⟩ := h
  refine ⟨pa_imp p fun σ H Q ⟨m, E, G0, G, e, o, R, q, P⟩ => ?_⟩
  unfold xA at q
  cases h1 : fa e with
  | none => rw [h1] at q; cases q
  | some z =>
    obtain ⟨rs, e'⟩ := z
    rw [h1] at q
    cases q
    exact k m E G0 G e σ H rs e' Q R h1 P
def ax_cons (fx : Fex) (fr : Fax) : Fax := fun e => match fx e with
  | some (.inl (r, e1)) => (match fr e1 with
    | some (.inl (rs, e2)) => some (.inl (frzR r :: rs, e2))
    | some (.inr y) => some (.inr y)
    | none => none)
  | some (.inr y) => some (.inr y)
  | none => none
theorem adx_cons (ha : EDX X W a fx) (hr : ADX X W es fr) (hs : starEach (a :: es) X.env = (false, eval a X.env) :: starEach es X.env := by rfl) : ADX X W (a :: es) (ax_cons fx fr) := by
  refine ⟨pa_imp (pa_cons ha.run hr.run hs) fun σ H Q ⟨m, E, G0, G, e, o, R, q, P⟩ => ?_⟩
  unfold ax_cons at q
  show teX X.K X.mg fx W σ H fun x H1 => taX X.K X.mg fr W σ H1 fun xs H2 => Q (x :: xs) H2
  split at q
  · rename_i r e1 h1
    refine ⟨m, E, G0, G, e, _, R, h1, fun v G1 H1 R1 S1 V1 N1 => ?_⟩
    obtain ⟨G1', R1', S1', s1, V1'⟩ := R1.freeze S1 V1 N1
    split at q
    · rename_i rs e2 h2
      cases q
      exact ⟨m, E, G0, G1', e1, _, R1', h2, fun vs G2 H2 R2 S2 V2 => P (v :: vs) G2 H2 R2 (S1'.trans S2) ⟨V1'.stp S2, V2⟩⟩
    · rename_i y h2
      cases q
      obtain ⟨x, e2⟩ := y
      exact ⟨m, E, G0, G1', e1, _, R1', h2, fun cls d G2 H2 R2 S2 X2 => P cls d G2 H2 R2 (S1'.trans S2) X2⟩
    · cases q
  · rename_i y h1
    cases q
    obtain ⟨x, e1⟩ := y
    exact ⟨m, E, G0, G, e, _, R, h1, P⟩
  · cases q
end
end DL
namespace DL
open L2 PySem PySem.Spec PySem.W PyProof.Rows
end DL
namespace DL
open PySem PySem.Spec PySem.W PyProof.Rows L2
end DL
namespace DL
open PySem PySem.Spec PySem.W PyProof.Rows L2
end DL
namespace DL
open PySem PySem.Spec PySem.W PyProof.Rows L2
def x_pop0 (i : Nat) : Fe := fun e => match e[i]? with
  | some (some (.ac ds)) => (match ds[ds.length - 1]? with
    | some d => some (.im d, e.set i (some (.ac ds.dropLast)))
    | none => none)
  | _ => none
section
variable {K : PySem.W.Frag} {G : Hp}
theorem dpAll_front {vs : List V} {ds : List PyData} (h : DpAll K G vs ds) : DpAll K G vs.dropLast ds.dropLast := by
  rw [List.dropLast_eq_take, List.dropLast_eq_take, dpAll_len h]
  exact dpAll_take _ h
theorem dpAll_out {vs : List V} {ds : List PyData} (h : DpAll K G vs ds) (k : Nat) : DpAll K G (vs.eraseIdx k) (ds.eraseIdx k) := by
  rw [List.eraseIdx_eq_take_drop_succ, List.eraseIdx_eq_take_drop_succ]
  exact dpAll_app (dpAll_take _ h) (dpAll_drop _ h)
end
section
variable {X : Cx} {pos : Pos} {a : Expr} {fa : Fe}
theorem ed_pop0 (i : Nat) {x : Str} {np apos : Pos} (hN : X.N[i]? = some x := by rfl)
    (hv : Vis X.env.scope x := by first | exact Or.inl rfl | exact Or.inr (Or.inl rfl) | exact Or.inr (Or.inr rfl)) (hd : (x == ("__debug__" : Str)) = false := by decide) (hcd : (x == ("__classdict__" : Str)) = false := by decide)
    (hbase : attributeBase (.Name x np) "pop" X.env (eval (.Name x np) X.env) = eval (.Name x np) X.env := by rfl) (hline : (apos.endLine == pos.line) = true := by rfl) :
    ED X (.Call (.Attribute (.Name x np) "pop" apos) [] [] pos) (x_pop0 i) := by
  refine ⟨_, pe_bm0 PySem.F.plainAttrs_list PySem.F.slot_list_pop PySem.F.type_list_pop mt_pop (pe_var hN hv hd hcd) hbase hline, fun m E G0 G e σ H r e' Q R q P => ?_⟩
  unfold x_pop0 at q
  split at q
  · rename_i ds h3
    split at q
    · rename_i d h4
      cases q
      obtain ⟨l, ws, q1, q2, q3, q4, q5⟩ := R.ac i ds h3
      obtain ⟨y, y1, y2⟩ := dpAll_get q4 h4
      obtain ⟨R3, S3⟩ := R.put h3 q1 (dpAll_front q4)
      refine ⟨.ref l, q1, .inl ⟨rfl, ws, .inl (.inl q3)⟩, l, ws, y, rfl, rfl, q3, by rw [dpAll_len q4]; exact y1, ?_⟩
      exact P y G _ R3 S3 y2 True.intro
    · cases q
  · cases q
end
end DL
namespace DL
open PySem PySem.Spec PyProof.Rows L2
theorem callTypeKw {M : Model} {A : Around} {E : Value → Shared → Prop} {s : Shared} {env : Env} {pos : Pos} {T : String} {e : Expr} {rest : List Expr} {kws : List Keyword} {Q : Value → Shared → Prop}
    (h : wpAny M A (spliced (backTo pos (starEach (e :: rest) env))) (fun vs s₁ => wpAny M A (evalAll ((backToKw pos (keywordEach kws env)).map (·.2)))
      (fun kvs s₂ => wpAny M A (call (.type T) vs (((backToKw pos (keywordEach kws env)).filterMap (·.1)).zip kvs)) Q E s₂) E s₁) E s)
    (he : backTo pos (starEach (e :: rest) env) = (false, eval e env) :: backTo pos (starEach rest env))
    (hplain : (backTo pos (starEach (e :: rest) env)).any (·.1) = false)
    (hall : (backToKw pos (keywordEach kws env)).all (·.1.isSome) = true)
    (hkw : (backToKw pos (keywordEach kws env)).any (·.1.isNone) = false) :
    wpAny M A (callWith pos (.type T) [] (backTo pos (starEach (e :: rest) env)) (backToKw pos (keywordEach kws env))) Q E s := by
  have g : wpAny M A (evalArgs (.type T) true (backTo pos (starEach (e :: rest) env)) (backToKw pos (keywordEach kws env))) (fun a s₁ => wpAny M A (call (.type T) ([] ++ a.pos) a.kw) Q E s₁) E s := by
    rw [he] at h ⊢
    exact evalArgs_kwB hall h
  unfold callWith
  refine wpAny_bind (wpAny_holding (wpAny_mono g (fun a s₁ z => wpAny_bind (wpAny_standAt ?_)) fun _ _ x => x))
  simp only [hplain, hkw, Bool.or_false]
  refine wpAny_bind (wpAny_pure ?_)
  exact wpAny_bind (wpAny_mono z (fun r s₂ y => wpAny_bind (wpAny_holding (wpAny_point (wpAny_pure y)))) fun _ _ x => x)
/-- the tuple at a, each item in a new pair, counted from 1 -/
def ItF (K : PySem.W.Frag) (a : Addr) : It where
  go := fun i H => ∃ xs x, SqT K H a xs ∧ xs[i]? = some x
  yld := fun i H v H' => ∃ T x, v = .ref T ∧ H T = none ∧ H' = upd H T (.tup [.int ((i + 1 : Nat) : Int), x]) ∧ ∀ xs, SqT K H a xs → xs[i]? = some x
  stop := fun i H => ∃ xs : List V, SqT K H a xs ∧ xs.length = i
theorem turn_enumF {P : Program} {w : World} {K : PySem.W.Frag} {elts : List Expr} {kk : Nat} {tpos : Pos} (a e it : Addr) :
    Turn P w K (.Tuple elts kk tpos) (ItF K a) [e, it] e fun i h => (∃ old, IsEnum h e it ((i + 1 : Nat) : Int) old) ∧ h.IsTupleIter it a i ∧ e ≠ it ∧ a ≠ it ∧ a ≠ e where
  mem := List.mem_cons_self
  obj := fun i h ⟨⟨old, z1⟩, ⟨o, z2, z3, z4⟩, _⟩ b hb => by
    rcases List.mem_cons.mp hb with y | y
    · subst y
      exact ⟨_, z1, fun v q => nomatch q⟩
    · rw [List.mem_singleton.mp y]
      exact ⟨o, z2, fun v q => by rw [z4] at q; cases q⟩
  keep := fun i h h' ⟨⟨old, z1⟩, z2, z3⟩ k => ⟨⟨old, k e List.mem_cons_self _ z1⟩, z2.at fun o q => k it (List.mem_cons_of_mem _ List.mem_cons_self) o q, z3⟩
  item := by
    intro X e1 e2 e3 hc i pins s σ H E I hf ⟨⟨old, z1⟩, z2, z3, z4, z5⟩ ⟨xs, x, hq, hx⟩
    subst e1 e2 e3
    obtain ⟨its, rv, tp, hz⟩ := I.tuple hq
    obtain ⟨u, hu, ru⟩ := rv.get hx
    have li : i < its.toArray.size := by
      rw [List.size_toArray]
      exact (List.getElem?_eq_some_iff.mp hu).1
    have le : e < s.heap.objs.size := Heap.lt_size z1
    have lt : it < s.heap.objs.size := by
      obtain ⟨_, q, _⟩ := z2
      exact Heap.lt_size q
    have D := Draws.tuple (prog := X.prog) (w := X.w) (A := X.A.in1) (by exact I.ok.hd hc) it a z4 its.toArray
    refine wpAny_pyNext_enum_itemC D z1 ⟨z2, tp⟩ li z3 (by
      intro m
      rcases List.mem_cons.mp m with y | y
      · exact z3 y
      · exact z5 (List.mem_singleton.mp y).symm) fun u2 g tk hu2 eo st gT gs gk => ?_
    have eu : u2 = u := by
      have y : its.toArray[i]? = some u2 := hu2
      rw [List.getElem?_toArray, hu] at y
      exact (Option.some.inj y).symm
    subst eu
    refine ⟨_, rfl, wpAny_letOwnedTupleGo_enum (s := { s with heap := g, toks := tk + 1 }) eo fun g2 eo2 sb => ?_⟩
    have nT : s.heap.objs.size ≠ e := Nat.ne_of_gt le
    have gT2 := (sb.2 _ nT).trans gT
    have new : ObjOk X.prog X.w (upd H s.heap.objs.size (.tup [.int ((i + 1 : Nat) : Int), x])) g2 s.heap.objs.size (.tup [.int ((i + 1 : Nat) : Int), x]) := ⟨by show 2 ≤ sizeLine; decide, [.int ((i + 1 : Nat) : Int) tk, u2], .cons ⟨_, rfl⟩ (.cons ru .nil), ⟨_, gT2, rfl, _, rfl⟩⟩
    have out : ∀ {b : Addr}, b ∉ [e, it] → b ≠ e ∧ b ≠ it := fun {b} m => ⟨fun y => m (by rw [y]; exact List.mem_cons_self), fun y => m (by rw [y]; exact List.mem_cons_of_mem _ List.mem_cons_self)⟩
    have J := I.turnedNew (t' := tk + 1) (ch := [e, it]) (fun b ob m y => (sb.2 b (out m).1).trans (gk b ob (out m).1 (out m).2 y)) hf (Nat.le_refl _) new
    refine ⟨.ref s.heap.objs.size, _, J, rfl, ⟨_, x, rfl, I.hok.fresh (Nat.le_refl _), rfl, fun ys hy => by rw [I.tuple_inj hy hq]; exact hx⟩, ⟨⟨u2, ?_⟩, st.1.at fun o q => (sb.2 it z3.symm).trans q, z3, z4, z5⟩, fun b m => ?_⟩
    · rw [show (((i + 1 + 1 : Nat) : Nat) : Int) = ((i + 1 : Nat) : Int) + 1 by omega]
      exact eo2
    · have lb : b < s.heap.objs.size := by
        rcases List.mem_cons.mp m with y | y
        · rw [y]; exact le
        · rw [List.mem_singleton.mp y]; exact lt
      rw [upd_ne (Nat.ne_of_lt lb)]
      exact (hf b m).1
  done := by
    intro X e1 e2 e3 hc i pins s σ H E I hf ⟨⟨old, z1⟩, z2, z3, z4, z5⟩ ⟨xs, hq, hx⟩
    subst e1 e2 e3
    obtain ⟨its, rv, tp, hz⟩ := I.tuple hq
    have le : e < s.heap.objs.size := Heap.lt_size z1
    have D := Draws.tuple (prog := X.prog) (w := X.w) (A := X.A.in1) (by exact I.ok.hd hc) it a z4 its.toArray
    obtain ⟨f0, f1, f2, f3, f4, f5⟩ := hf it (List.mem_cons_of_mem _ List.mem_cons_self)
    have big : its.toArray.size = i := by
      rw [List.size_toArray, ← rv.length]
      exact hx
    rw [← big] at z2
    exact wpAny_pyNext_enum_endD D z1 ⟨z2, tp⟩ fun g eb => ⟨rfl, I.turned (t' := s.toks) (fun b o m y => eb b o m y) f0 f1 f3 f4 f5⟩
  self := fun A i s Q E ⟨⟨_, z⟩, _⟩ h => wpAny_pyIter_enum z h
def iEnumF (K : PySem.W.Frag) (ta : TA) : TI := fun σ H R => ta σ H fun vs H1 => ∃ a xs, vs = [.ref a] ∧ SqT K H1 a xs ∧ R (ItF K a) H1
theorem pi_enumF {X : Cx} {e : Expr} {ta : TA} {p pos tpos cp kp : Pos} {j : Nat} {elts : List Expr} {kk : Nat} (hg : Gl X "enumerate") (hm : X.mg "enumerate" = none) (ha : PA X [e] ta)
    (hk : L2.PK X [⟨some (Str.ofString "start"), .Constant (.int 1) j cp, kp⟩] (tCons (tC (.int 1)) tNil) := by exact L2.pk_cons L2.pe_int L2.pk_nil)
    (he : backTo pos (starEach [e] X.env) = (false, eval e X.env) :: backTo pos (starEach [] X.env) := by rfl) (hpl : (backTo pos (starEach [e] X.env)).any (·.1) = false := by rfl)
    (hall : (backToKw pos (keywordEach [⟨some (Str.ofString "start"), .Constant (.int 1) j cp, kp⟩] X.env)).all (·.1.isSome) = true := by rfl) (hnone : (backToKw pos (keywordEach [⟨some (Str.ofString "start"), .Constant (.int 1) j cp, kp⟩] X.env)).any (·.1.isNone) = false := by rfl)
    (hks : (backToKw pos (keywordEach [⟨some (Str.ofString "start"), .Constant (.int 1) j cp, kp⟩] X.env)).filterMap (·.1) = [Str.ofString "start"] := by rfl) :
    PI X (.Tuple elts kk tpos) (.Call (.Name "enumerate" p) [e] [⟨some (Str.ofString "start"), .Constant (.int 1) j cp, kp⟩] pos) (iEnumF X.K ta) := by
  refine ⟨fun pins s σ H R I h => ?_⟩
  refine wpAny_Call_Name_kw (ld_blt I hg hm boot_enumerate ?_)
  refine callTypeKw (thn (ha.run pos pins s σ H _ I h) fun us s1 z => ?_) he hpl hall hnone
  obtain ⟨vs, H1, I1, r1, a, xs, rfl, hq, q⟩ := z
  rw [Vals.ref1 r1]
  refine thn (hk.run pos pins s1 σ H1 (fun zs H2 => zs = [.int 1] ∧ H2 = H1) I1 (show _ ∧ _ from ⟨rfl, rfl⟩)) fun ws s2 y => ?_
  obtain ⟨zs, H2, I2, r2, rfl, rfl⟩ := y
  rw [hks]
  obtain ⟨u, rfl, tk, rfl⟩ := vals1 r2
  obtain ⟨its, rv, tp, hz⟩ := I2.tuple hq
  have la : a < s2.heap.objs.size := by
    obtain ⟨o, ho, _⟩ := tp
    exact Heap.lt_size ho
  refine enum_begins_start (k := 1) (t := tk) (begins_tuple a its.toArray) tp (by decide) (by decide) fun g z1 z2 z0 z3 => wpAny_pyIter_enum z1 ?_
  have nn : ∀ b ∈ [s2.heap.objs.size + 1, s2.heap.objs.size], s2.heap.objs.size ≤ b := fun b m => by
    rcases List.mem_cons.mp m with y | y
    · omega
    · rw [List.mem_singleton.mp y]
      exact Nat.le_refl _
  exact ⟨_, _, _, _, H2, rfl, I2.kept (t' := s2.toks) z3, turn_enumF a (s2.heap.objs.size + 1) s2.heap.objs.size, ⟨⟨.none, z1⟩, ⟨_, z2, rfl, rfl⟩, Nat.succ_ne_self _, Nat.ne_of_lt la, Nat.ne_of_lt (Nat.lt_succ_of_lt la)⟩, fun b m => I2.fpOk (nn b m) (I2.hok.fresh (nn b m)), q⟩
def enumF (ds : List PyData) : List PyData := (List.range ds.length).zipWith (fun (i : Nat) d => PyData.tuple [.int ((i + 1 : Nat) : Int), d]) ds
theorem enumF_at {ds : List PyData} {i : Nat} {d : PyData} (h : (enumF ds)[i]? = some d) : ∃ x, ds[i]? = some x ∧ d = .tuple [.int ((i + 1 : Nat) : Int), x] := by
  unfold enumF at h
  rw [List.getElem?_zipWith] at h
  cases z1 : (List.range ds.length)[i]? with
  | none => rw [z1] at h; cases h
  | some j =>
    cases z2 : ds[i]? with
    | none => rw [z1, z2] at h; cases h
    | some x =>
      rw [z1, z2] at h
      obtain ⟨y1, y2⟩ := List.getElem?_eq_some_iff.mp z1
      rw [List.getElem_range] at y2
      subst y2
      cases h
      exact ⟨x, rfl, rfl⟩
theorem enumF_len {ds : List PyData} : (enumF ds).length = ds.length := by
  unfold enumF
  rw [List.length_zipWith, List.length_range, Nat.min_self]
section
variable {K : PySem.W.Frag} {G0 : Hp} {a : Addr} {xs : List V} {ds : List PyData}
theorem walk_enumF (h : SqT K G0 a xs) (q : DpAll K G0 xs ds) : WalkD K G0 (ItF K a) (enumF ds) := by
  intro G H s1 s2
  have hq : SqT K H a xs := seqT (s1.trans s2) h
  refine ⟨fun i d e => ?_, xs, hq, by rw [enumF_len, dpAll_len q]⟩
  obtain ⟨x, e1, rfl⟩ := enumF_at e
  obtain ⟨v, e2, e3⟩ := dpAll_get q e1
  refine ⟨⟨xs, v, hq, e2⟩, fun u H2 ⟨T, y, z1, z2, z3, z4⟩ => .inr ⟨T, [.int ((i + 1 : Nat) : Int), y], _, z1, z2, z3, rfl, ?_⟩⟩
  have z5 := z4 xs hq
  rw [e2] at z5
  cases z5
  exact .cons (.int _) (.cons (dp_same s1 e3) .nil)
end
def i_enumF (f : Fe) : Fi := fun e => match f e with
  | some (r, e1) => (match frzR r with
    | .im (.tuple ds) => some (enumF ds, e1)
    | _ => none)
  | none => none
theorem id_enumF {X : Cx} {a : Expr} {fa : Fe} {pos p tpos cp kp : Pos} {j : Nat} {elts : List Expr} {kk : Nat} (ha : ED X a fa) (hm : X.mg "enumerate" = none) (hg : Gl X "enumerate" := by rfl)
    (hk : L2.PK X [⟨some (Str.ofString "start"), .Constant (.int 1) j cp, kp⟩] (tCons (tC (.int 1)) tNil) := by exact L2.pk_cons L2.pe_int L2.pk_nil) (hs : starEach [a] X.env = [(false, eval a X.env)] := by rfl)
    (he : backTo pos (starEach [a] X.env) = (false, eval a X.env) :: backTo pos (starEach [] X.env) := by rfl) (hpl : (backTo pos (starEach [a] X.env)).any (·.1) = false := by rfl)
    (hall : (backToKw pos (keywordEach [⟨some (Str.ofString "start"), .Constant (.int 1) j cp, kp⟩] X.env)).all (·.1.isSome) = true := by rfl) (hnone : (backToKw pos (keywordEach [⟨some (Str.ofString "start"), .Constant (.int 1) j cp, kp⟩] X.env)).any (·.1.isNone) = false := by rfl)
    (hks : (backToKw pos (keywordEach [⟨some (Str.ofString "start"), .Constant (.int 1) j cp, kp⟩] X.env)).filterMap (·.1) = [Str.ofString "start"] := by rfl) :
    ID X (.Tuple elts kk tpos) (.Call (.Name "enumerate" p) [a] [⟨some (Str.ofString "start"), .Constant (.int 1) j cp, kp⟩] pos) (i_enumF fa) := by
  obtain ⟨t, pa, k⟩ := ha
  refine ⟨_, pi_enumF hg hm (pa_cons pa pa_nil hs) hk he hpl hall hnone hks, fun m E G0 G e σ H ds e' Q R q P => ?_⟩
  unfold i_enumF at q
  split at q
  · rename_i r e1 h1
    split at q
    · rename_i ds0 h2
      cases q
      refine k m E G0 G e σ H r _ _ R h1 fun v G1 H1 R1 S1 V1 N1 => ?_
      obtain ⟨G2, R2, S2, s2, V2⟩ := R1.freeze S1 V1 N1
      rw [h2] at V2
      have V3 : Dp X.K G2 v (.tuple ds0) := V2
      cases V3 with
      | tup h z => exact ⟨_, _, rfl, seqT R2.gh h, P _ _ _ R2 S2 (walk_enumF h z)⟩
    · cases q
  · cases q
end DL
namespace DL
open PySem PySem.Spec PyProof.Rows L2
end DL
namespace DL
open PySem PySem.Spec PySem.W PyProof.Rows L2
def popO {α : Type} (l : List α) : Option (α × List α) := match l[l.length - 1]? with
  | some a => some (a, l.dropLast)
  | none => none
theorem popO_ok {α : Type} (l : List α) (a : α) : popO (l ++ [a]) = some (a, l) := by
  unfold popO
  rw [List.length_append, List.length_singleton, Nat.add_sub_cancel, List.getElem?_append_right (Nat.le_refl _), Nat.sub_self, List.dropLast_concat]
  rfl
theorem popX {α : Type} {f : α → PyData} {l : List α} {w : α × List α} {e : Ev} {i : Nat} (h : popO l = some w) (hi : e[i]? = some (some (.ac (l.map f)))) :
    x_pop0 i e = some (.im (f w.1), e.set i (some (.ac (w.2.map f)))) := by
  unfold popO at h
  unfold x_pop0
  rw [hi]
  dsimp only
  rw [List.length_map, List.getElem?_map]
  cases z : l[l.length - 1]? with
  | none => rw [z] at h; cases h
  | some a =>
    rw [z] at h
    cases h
    show some _ = some _
    rw [List.map_dropLast]
def enumL1 {α : Type} (l : List α) : List (Int × α) := (List.range l.length).zipWith (fun (i : Nat) a => (((i + 1 : Nat) : Int), a)) l
theorem enum1_typed {α : Type} {f : α → PyData} {l : List α} : enumF (l.map f) = (enumL1 l).map (p2 PyData.int f) := by
  unfold enumF enumL1
  rw [List.map_zipWith, List.length_map, List.zipWith_map_right]
theorem enumFI {α : Type} {f : α → PyData} {l : List α} {x : Fe} {e e1 : Ev} (h : x e = some (.im (tp f l), e1)) : i_enumF x e = some ((enumL1 l).map (p2 PyData.int f), e1) := by
  unfold i_enumF
  rw [h]
  show some (enumF (l.map f), e1) = _
  rw [enum1_typed]
end DL
namespace DL
open PySem PySem.Spec PyProof.Rows L2
end DL
namespace DL
open PySem PySem.Spec PySem.W PyProof.Rows L2
def anI : PyData → Option Int
  | .int i => some i
  | _ => none
theorem anI_ok {d : PyData} {i : Int} (h : anI d = some i) : d = .int i := by
  unfold anI at h
  split at h
  · cases h
    rfl
  · cases h
theorem anIX {d : PyData} {i : Int} {x : Fe} {e e1 : Ev} (h : x e = some (.im d, e1)) (k : anI d = some i) : x e = some (.im (.int i), e1) := by
  rw [h, anI_ok k]
end DL
namespace DL
open PySem PySem.Spec PySem.W PyProof.Rows L2
end DL
namespace DL
open PySem PySem.Spec PyProof.Rows L2
end DL
namespace DL
open PySem PySem.Spec PySem.W PyProof.Rows L2
end DL
namespace DL
open PySem PySem.Spec PyProof.Rows L2
end DL
namespace DL
open PySem PySem.Spec PyProof.Rows L2
end DL
namespace DL
open PySem PySem.Spec PyProof.Rows L2
end DL
namespace DL
open PySem PySem.Spec PyProof.Rows L2
end DL
namespace DL
open PySem PySem.Spec PyProof.Rows L2
end DL
namespace DL
open PySem PySem.Spec PySem.W PyProof.Rows L2
end DL
namespace DL
open PySem PySem.Spec PySem.W PyProof.Rows L2
def p_inQ (neg : Bool) : PyData → PyData → Option Rs := fun x y => match y with
  | .list ds => if (SeqAt.shaped x && SeqAt.shaped (.list ds)) = true then some (.im (.bool (if neg = true then !(ds.any fun z => PyData.eqv z x) else ds.any fun z => PyData.eqv z x))) else none
  | _ => none
theorem vb_inQ {K : PySem.W.Frag} : VB K (rInD K) (p_inQ false) := by
  intro m E G0 G e σ H x y dx dy rr Q R lx ly q P
  unfold p_inQ at q
  split at q
  · rename_i ds
    by_cases z : (SeqAt.shaped dx && SeqAt.shaped (.list ds)) = true
    · rw [if_pos z] at q
      cases q
      exact ⟨dx, ds, (lx.dp R.gh).lib (shp_no (shp z).1), (ly.dp R.gh).lib (shp_no (shp z).2), (shp z).1, (shp z).2, P.now R (.bl _) True.intro⟩
    · rw [if_neg z] at q
      cases q
  · cases q
section
variable {α : Type} [DecidableEq α] {f : α → PyData} [E : EqE f] [E2 : EqE (ls f)]
theorem any_in {x : α} : ∀ {l : List α}, ((l.map f).any fun z => PyData.eqv z (f x)) = decide (x ∈ l)
  | [] => rfl
  | b :: l => by
    rw [List.map_cons, List.any_cons, any_in, E.eqv]
    by_cases h : b = x
    · subst h
      simp
    · have h2 : ¬ x = b := fun z => h z.symm
      simp [h, h2]
theorem o_inQ (h : E.d ≤ 64) (h2 : E2.d ≤ 64) {x : α} {l : List α} {D : Decidable (x ∈ l)} : p_inQ false (f x) (ls f l) = some (.im (.bool (@decide (x ∈ l) D))) := by
  show (if (SeqAt.shaped (f x) && SeqAt.shaped (ls f l)) = true then some (Rs.im (.bool ((l.map f).any fun z => PyData.eqv z (f x)))) else none) = _
  rw [shp1 h, shp1 h2, any_in]
  exact congrArg (fun b => some (Rs.im (.bool b))) (decide_eq_decide.mpr Iff.rfl)
end
end DL
namespace DL
open PySem PySem.Spec PySem.W PyProof.Rows L2
instance {α : Type} [DecidableEq α] {f : α → PyData} [E : EqE (tp f)] : EqE (opt (tp f)) := ⟨E.d, fun a => by
    cases a with
    | none => show PyData.canLay0 .none = true; rw [PyData.canLay0]
    | some a => exact E.can a, fun a => by
    cases a with
    | none => show PyData.depth .none ≤ _; rw [PyData.depth]; omega
    | some a => exact E.dep a, fun a b => by
    cases a with
    | none =>
      cases b with
      | none => show PyData.eqv .none .none = _; rw [PyData.eqv]; rfl
      | some b => show PyData.eqv .none (.tuple (b.map f)) = _; rw [PyData.eqv] <;> first | rfl | (intros; simp_all)
    | some a =>
      cases b with
      | none => show PyData.eqv (.tuple (a.map f)) .none = _; rw [PyData.eqv] <;> first | rfl | (intros; simp_all)
      | some b =>
        show PyData.eqv (tp f a) (tp f b) = _
        rw [E.eqv]
        exact decide_eq_decide.mpr ⟨fun h => by rw [h], fun h => Option.some.inj h⟩⟩
end DL
namespace DL
open PySem PySem.Spec PySem.W PyProof.Rows L2
def faOf (f : Fax) : Fa := fun e => match f e with
  | some (.inl z) => some z
  | _ => none
def x_upX (f : Fax) (g : Fex) : Fex := fun e => match f e with
  | some (.inr y) => some (.inr y)
  | _ => g e
section
variable {X : Cx} {W : WX} {k j n : Nat} {x : Str} {p pos : Pos} {a : Expr} {es : List Expr} {dvs : List V} {dds : List PyData} {fr : Fax}
theorem ADX.ad (h : ADX X W es fr) : AD X es (faOf fr) := by
  refine ⟨_, h.run, fun m E G0 G e σ H rs e' Q R q P => ?_⟩
  unfold faOf at q
  split at q
  · rename_i z h1
    cases q
    exact ⟨m, E, G0, G, e, _, R, h1, P⟩
  · cases q
theorem edx_callX {φ : List PyData → Option Ro} (F : KfX X.prog X.w X.K X.mg X.base k x (spX X.K X.mg n φ) dvs) (hr : Room j X.A) (hk : k ≤ j) (hd : dvsD X.K dvs dds) (hn : ∀ ds, (φ ds).isSome = true → ds.length = n) (tk : L2N.Takes X W) (h : ADX X W (a :: es) fr) (hg : Gl X x := by rfl)
    (hdb : (x == ("__debug__" : Str)) = false := by decide) (he : starEach (a :: es) X.env = (false, eval a X.env) :: starEach es X.env := by rfl) (hpl : (backTo pos (starEach es X.env)).any (·.1) = false := by rfl) :
    EDX X W (.Call (.Name x p) (a :: es) [] pos) (x_upX fr (x_callX φ dds (faOf fr))) := by
  have two := edx_call (p := p) (pos := pos) F hr hk hd hn tk h.ad hg hdb he hpl
  obtain ⟨f, fd, ps, ds, F, hm, kp, hb, hv⟩ := F
  have one := pe_callXd (p := p) (pos := pos) F (hr.mono hk) hg hm kp hb hv tk h.run hdb he hpl
  refine ⟨⟨fun pins s σ H Q I q => ?_⟩⟩
  obtain ⟨m, E, G0, G, e, o, R, q, P⟩ := q
  unfold x_upX at q
  split at q
  · rename_i y h1
    cases q
    obtain ⟨z, e1⟩ := y
    exact one.run pins s σ H Q I ⟨m, E, G0, G, e, _, R, h1, P⟩
  · exact two.run.run pins s σ H Q I ⟨m, E, G0, G, e, _, R, q, P⟩
end
end DL
namespace DL
open PySem PySem.Spec PySem.W PyProof.Rows L2
end DL
namespace DL
open PySem PySem.Spec PyProof.Rows L2
end DL
namespace DL
open PySem PySem.Spec PySem.W PyProof.Rows L2
end DL
namespace DL
open PySem PySem.Spec PyProof.Rows L2
end DL
namespace DL
open PySem PySem.Spec PyProof.Rows L2
/-- a def's promise where nobody is being told -/
structure FnG (P : Program) (w : World) (K : PySem.W.Frag) (mg : Str → Option Value) (base : Heap) (k : Nat) (f : Addr) (fd : FuncData) (ps : List Str) (sp : Sp) : Prop where
  few : ∀ vs H Q E, sp vs H Q E → vs.length = ps.length
  goes : ∀ {A : Around} {outer : List Env} {s : Shared} {H : Hp} {args : Args} {us : List Value} {vs : List V} {Q : VK} {E : XK}, A.guards = some [] → Room k A → Env0 P w K mg base A outer s H →
    BindsTo s fd args (ps.zip us) → Vals vs us → sp vs H Q E → codeAny (model P w) A (.call (.ref f) args) (CR CX0 outer P w H s Q E) s
theorem FnOk.calm {P : Program} {w : World} {K : PySem.W.Frag} {mg : Str → Option Value} {base : Heap} {k : Nat} {f : Addr} {fd : FuncData} {ps : List Str} {sp : Sp} (F : FnOk P w K mg base CX0 k f fd ps sp) : FnG P w K mg base k f fd ps sp :=
  ⟨F.len, fun _ h1 h2 h3 h4 h5 => F.run _ _ _ _ _ _ _ _ _ h1 h2 h3 h4 h5⟩
theorem FnG.imp {P : Program} {w : World} {K : PySem.W.Frag} {mg : Str → Option Value} {base : Heap} {k : Nat} {f : Addr} {fd : FuncData} {ps : List Str} {sp sp2 : Sp} (F : FnG P w K mg base k f fd ps sp) (h : ∀ vs H Q E, sp2 vs H Q E → sp vs H Q E) : FnG P w K mg base k f fd ps sp2 :=
  ⟨fun vs H Q E z => F.few vs H Q E (h _ _ _ _ z), fun h1 h2 h3 h4 h5 h6 => F.goes h1 h2 h3 h4 h5 (h _ _ _ _ h6)⟩
end DL
namespace DL
open PySem PySem.Spec PySem.W PyProof.Rows L2
end DL
namespace DL
open PySem PySem.Spec PyProof.Rows L2
open Classical
end DL
namespace DL
open PySem PySem.Spec PyProof.Rows L2
end DL
namespace DL
open PySem PySem.Spec PyProof.Rows L2 HandSHeadRun
end DL
namespace DL
open PySem PySem.Spec PyProof.Rows L2
end DL
namespace DL
open PySem PySem.Spec PyProof.Rows L2
end DL
namespace DL
open PySem PySem.Spec PyProof.Rows L2
structure PrD where
  c : Str
  p : Str
  d : He.DefD
def prAd (K : PySem.W.Frag) (c p : Str) : Addr := match PySem.W.findIn K (.ref (He.ga K c)) p with
  | some (some (.ref pa)) => pa
  | _ => 0
def gtAd (K : PySem.W.Frag) (pa : Addr) : Addr := match PySem.W.recIn K pa "property" with
  | some (.ref g :: _) => g
  | _ => 0
def fnA (K : PySem.W.Frag) (a : Addr) : He.FnW := match K.lookup a with
  | some ⟨_, _, .func fd, _⟩ => some (fd.name, fd.qualname, fd.params, fd.body, fd.scope, fd.globals, fd.closure, fd.builtins)
  | _ => none
def fnP (K : PySem.W.Frag) (q : PrD) : He.FnW := fnA K (gtAd K (prAd K q.c q.p))
def okA (K : PySem.W.Frag) (d : He.DefD) (a : Addr) : Bool := PySem.W.keepIn K (.ref a) && (match K.lookup a with
  | some ⟨_, _, .func fd, _⟩ => PySem.W.codeIn K fd.code d.qual && (He.dflB K fd.defaults (d.dvs K) && He.kwdB K fd.kwdefaults (d.kws K))
  | _ => false)
def PrD.ok (K : PySem.W.Frag) (q : PrD) : Bool :=
  decide (PySem.W.findIn K (.ref (He.ga K q.c)) q.p = some (some (.ref (prAd K q.c q.p)))) && (decide (PySem.W.specialIn K (.ref (prAd K q.c q.p)) "__get__" = some (some (.builtin "property.__get__"))) &&
    (decide (PySem.W.takesIn K (.ref (prAd K q.c q.p)) = some true) && ((match PySem.W.recIn K (prAd K q.c q.p) "property" with
      | some (.ref _ :: _) => true
      | _ => false) && okA K q.d (gtAd K (prAd K q.c q.p)))))
theorem funA {K : PySem.W.Frag} {d : He.DefD} {a : Addr} (e : fnA K a = d.val) (c : okA K d a = true) : ∃ fd, FunD K d.name d.qual d.params d.body d.scope (d.dvs K) (d.kws K) a fd := by
  obtain ⟨kp, c2⟩ := He.ba c
  unfold fnA at e
  cases q : K.lookup a with
  | none =>
    rw [q] at c2
    cases c2
  | some o =>
    obtain ⟨oc, od, dt, osl⟩ := o
    rw [q] at c2 e
    cases dt with
    | func fd =>
      obtain ⟨n1, n2, n3, n4, n5, n6, n7, n8, n9, n10, n11, n12, n13, n14, n15⟩ := fd
      have e2 : (some (n1, n2, n3, n4, n5, n6, n7, n15) : He.FnW) = some (d.name, d.qual, d.params, .stmts d.body, d.scope, mainGlobals, [], builtinsNs) := e
      simp only [Option.some.injEq, Prod.mk.injEq] at e2
      obtain ⟨h1, h2, h3, h4, h5, h6, h7, h8⟩ := e2
      subst h1 h2 h3 h4 h5 h6 h7 h8
      have c3 : (PySem.W.codeIn K n13 d.qual && (He.dflB K n8 (d.dvs K) && He.kwdB K n9 (d.kws K))) = true := c2
      obtain ⟨k1, k2⟩ := He.ba c3
      obtain ⟨k3, k4⟩ := He.ba k2
      exact ⟨_, ⟨oc, od, n8, n9, n10, n11, n12, n13, n14, osl, rfl, q, k1, He.dflB_ok k3, He.kwdB_ok k4⟩, kp⟩
    | _ => cases c2
theorem PrD.get {K : PySem.W.Frag} {q : PrD} (e : fnP K q = q.d.val) (c : q.ok K = true) :
    ∃ fd, FunD K q.d.name q.d.qual q.d.params q.d.body q.d.scope (q.d.dvs K) (q.d.kws K) (gtAd K (prAd K q.c q.p)) fd ∧ PropOf K (He.ga K q.c) q.p (prAd K q.c q.p) (gtAd K (prAd K q.c q.p)) := by
  obtain ⟨c1, c⟩ := He.ba c
  obtain ⟨c2, c⟩ := He.ba c
  obtain ⟨c3, c⟩ := He.ba c
  obtain ⟨c4, c5⟩ := He.ba c
  obtain ⟨fd, F⟩ := funA e c5
  refine ⟨fd, F, of_decide_eq_true c1, of_decide_eq_true c2, of_decide_eq_true c3, ?_⟩
  unfold gtAd
  split at c4
  · rename_i g rest h
    rw [h]
    exact ⟨rest, rfl⟩
  · cases c4
def exP (pr : List PrD) (ex : PySem.W.Frag → Bool) (K : PySem.W.Frag) : Bool := (pr.all fun q => q.ok K) && ex K
abbrev AlP : Type := (He.AlD × Bool) × List He.FnW
def obsP (fa : List He.Fa) (fn : List He.DefD) (pr : List PrD) (ex : PySem.W.Frag → Bool) (K : PySem.W.Frag) : AlP := (obsX fa fn (exP pr ex) K, pr.map (fnP K))
def valP (fn : List He.DefD) (pr : List PrD) : AlP := ((He.valD fn, true), pr.map fun q => q.d.val)
def SaysP (fa : List He.Fa) (fn : List He.DefD) (pr : List PrD) (ex : PySem.W.Frag → Bool) (K : PySem.W.Frag) : Prop := obsP fa fn pr ex K = valP fn pr
section
variable {fa : List He.Fa} {fn : List He.DefD} {pr : List PrD} {ex : PySem.W.Frag → Bool} {K : PySem.W.Frag}
theorem SaysP.s (c : SaysP fa fn pr ex K) : SaysX fa fn (exP pr ex) K := congrArg Prod.fst c
theorem SaysP.d (c : SaysP fa fn pr ex K) : He.SaysD fa fn K := c.s.d
theorem SaysP.x (c : SaysP fa fn pr ex K) : ex K = true := (He.ba c.s.x).2
end
end DL
namespace DL
open PySem PySem.Spec PyProof.Rows L2
end DL
namespace DL
open PySem PySem.Spec PyProof.Rows L2
def hasB (m a : Nat) : Bool := Nat.beq (Nat.land (Nat.shiftRight m a) 1) 1
def addB : List Addr → Nat → List Addr → Nat × List Addr
  | [], m, acc => (m, acc)
  | a :: as, m, acc => match hasB m a with
    | true => addB as m acc
    | false => addB as (Nat.lor m (Nat.shiftLeft 1 a)) (a :: acc)
def refsB (g : Addr → Option Obj) (a : Addr) : List Addr := match g a with
  | some o => He.refsD o
  | none => []
def visB (g : Addr → Option Obj) : List Addr → Nat → List Addr → Nat × List Addr
  | [], m, acc => (m, acc)
  | a :: as, m, acc => match addB (refsB g a) m acc with
    | (m', acc') => visB g as m' acc'
def rndB (g : Addr → Option Obj) : Nat → Nat → List Addr → List Addr
  | 0, _, fr => fr
  | n + 1, m, fr => match visB g fr m [] with
    | (m', fr') => fr ++ rndB g n m' fr'
def asB (g : Addr → Option Obj) (n : Nat) : List Addr := rndB g n (Nat.shiftLeft 1 mainGlobals) [mainGlobals]
def obsBG (n : Nat) (fa : List He.Fa) (fn : List He.DefD) (ex : PySem.W.Frag → Bool) (g : Addr → Option Obj) : He.AlD × Bool := obsX fa fn ex (He.frG g (asB g n))
def hookB (n : Nat) (fa : List He.Fa) (fn : List He.DefD) (ex : PySem.W.Frag → Bool) : PySem.W.Hook where
  α := He.AlD × Bool
  obs := fun s => obsBG n fa fn ex s.heap.get?
  val := fun _ => (He.valD fn, true)
  says := fun _ h => ∃ K : PySem.W.Frag, K.In h ∧ SaysX fa fn ex K
  of := fun _ _ e => ⟨_, He.frG_in, e⟩
  keeps := fun _ _ _ ⟨K, hK, c⟩ k => ⟨K, PySem.W.Frag.In.keeps hK k, c⟩
theorem obsBG_eq {n : Nat} {fa : List He.Fa} {fn : List He.DefD} {ex : PySem.W.Frag → Bool} {g : Addr → Option Obj} {s : Shared} (h : ∀ a, g a = s.heap.get? a) : obsBG n fa fn ex g = (hookB n fa fn ex).obs s := by
  have e : g = s.heap.get? := funext h
  subst e
  rfl
end DL
namespace DL
open PySem PySem.Spec PyProof.Rows L2
end DL
namespace DL
open PySem PySem.Spec PyProof.Rows L2
end DL
namespace DL
open PySem PySem.Spec PyProof.Rows L2
end DL
namespace DL
open PySem PySem.Spec PySem.W PyProof.Rows L2
end DL
namespace DL
open PySem PySem.Spec PyProof.Rows L2
/-- a record of ours that may turn: it was not there at the entry -/
def FpW (X : Cx) (pins : List (Addr × Obj)) (H : Hp) (b : Addr) : Prop :=
  H b = none ∧ b ≠ X.env.locals ∧ b ∉ X.fs ∧ (b ∈ X.ex ∨ X.s_0.heap.get? b = none) ∧ (∀ x c, X.env.cells.lookup x = some c → c ≠ b) ∧ ∀ p ∈ X.pn ++ pins, p.1 ≠ b
section
variable {X : Cx} {pins : List (Addr × Obj)} {σ : St} {H H' : Hp} {s : Shared} {h' : Heap} {ch : List Addr}
theorem FpW.of {b : Addr} (f : FpOk X pins H b) : FpW X pins H b := ⟨f.1, f.2.1, f.2.2.1, f.2.2.2.1.imp id Heap.get?_none_of_le, f.2.2.2.2.1, f.2.2.2.2.2⟩
theorem FpW.up {T : Addr} {o : HO} {b : Addr} (f : FpW X pins H b) (n : b ≠ T) : FpW X pins (upd H T o) b := ⟨by rw [upd_ne n]; exact f.1, f.2⟩
end
/-- what stands behind zip(o, u) -/
structure ZipSt (X : Cx) (pins : List (Addr × Obj)) (K : PySem.W.Frag) (H : Hp) (h : Heap) (z TI TO i1 i2 l1 l2 : Addr) (i : Nat) : Prop where
  D : ZipApart z TI TO i1 i2 l1 l2
  tI : IsPair h TI (.ref i1) (.ref i2)
  t1 : h.IsListIter i1 l1 i
  t2 : h.IsListIter i2 l2 i
  fp : ∀ b ∈ [z, TO, i1, i2], FpW X pins H b
  z0 : (i = 0 ∧ IsZip h z TI TO .none ∧ IsPair h TO .none .none) ∨ ∃ (T : Addr) (g : Bool) (xs : List V), IsZipHeld h z TI TO T g ∧ H T = some (.tup xs)
section
variable {X : Cx} {pins : List (Addr × Obj)} {σ : St} {H : Hp} {s : Shared} {z TI TO i1 i2 l1 l2 q : Addr} {i : Nat} {zs1 zs2 : List V} {A : Around}
theorem ZipSt.lt {h : Heap} (Z : ZipSt X pins X.K H h z TI TO i1 i2 l1 l2 i) (hO : ∃ o, h.get? TO = some o) : ∀ b ∈ [z, TO, i1, i2], b < h.objs.size := by
  intro b hb
  simp only [List.mem_cons, List.not_mem_nil, or_false] at hb
  rcases hb with rfl | rfl | rfl | rfl
  · rcases Z.z0 with ⟨e, a1, a2⟩ | ⟨T, g, xs, a1, a2⟩
    · exact Heap.lt_size a1
    · exact Heap.lt_size a1
  · obtain ⟨o, e⟩ := hO
    exact Heap.lt_size e
  · obtain ⟨o, e, _⟩ := Z.t1
    exact Heap.lt_size e
  · obtain ⟨o, e, _⟩ := Z.t2
    exact Heap.lt_size e
end
end DL
namespace DL
open PySem PySem.Spec PyProof.Rows L2
end DL
namespace DL
open PySem PySem.Spec PySem.W PyProof.Rows L2 Calls
class NoN {α : Type} (f : α → PyData) where
  l : ∀ a, PyData.eqv .none (f a) = false
  r : ∀ a, PyData.eqv (f a) .none = false
instance : NoN PyData.int := ⟨fun a => by simp [PyData.eqv], fun a => by simp [PyData.eqv]⟩
instance : NoN PyData.bool := ⟨fun a => by simp [PyData.eqv], fun a => by simp [PyData.eqv]⟩
instance {α : Type} {f : α → PyData} : NoN (tp f) := ⟨fun a => by simp [PyData.eqv], fun a => by simp [PyData.eqv]⟩
instance {α : Type} {f : α → PyData} : NoN (ls f) := ⟨fun a => by simp [PyData.eqv], fun a => by simp [PyData.eqv]⟩
instance {α β : Type} {f : α → PyData} {g : β → PyData} : NoN (p2 f g) := ⟨fun a => by simp [PyData.eqv], fun a => by simp [PyData.eqv]⟩
instance {α β γ : Type} {f : α → PyData} {g : β → PyData} {h : γ → PyData} : NoN (p3 f g h) := ⟨fun a => by simp [PyData.eqv], fun a => by simp [PyData.eqv]⟩
instance {α : Type} [DecidableEq α] {f : α → PyData} [E : EqE f] [N : NoN f] : EqE (opt f) := ⟨E.d, fun a => by
    cases a with
    | none => show PyData.canLay0 .none = true; rw [PyData.canLay0]
    | some a => exact E.can a, fun a => by
    cases a with
    | none => show PyData.depth .none ≤ _; rw [PyData.depth]; omega
    | some a => exact E.dep a, fun a b => by
    cases a with
    | none =>
      cases b with
      | none => show PyData.eqv .none .none = _; rw [PyData.eqv]; rfl
      | some b => show PyData.eqv .none (f b) = _; rw [N.l]; rfl
    | some a =>
      cases b with
      | none => show PyData.eqv (f a) .none = _; rw [N.r]; rfl
      | some b =>
        show PyData.eqv (f a) (f b) = _
        rw [E.eqv]
        exact Bool.eq_iff_iff.mpr (by simp)⟩
end DL
namespace DL
open PySem PySem.Spec PyProof.Rows L2
inductive Sh where
  | mk (l : List (Int × Int × Sh)) : Sh
def Sh.l : Sh → List (Int × Int × Sh)
  | .mk l => l
end DL
namespace DL
open L2 PySem PySem.Spec PySem.W PyProof.Rows
end DL
namespace DL
open L2 PySem PySem.Spec PySem.W PyProof.Rows
end DL
namespace DL
open L2 PySem PySem.Spec PySem.W PyProof.Rows
end DL
namespace DL
open PySem PySem.Spec PySem.W PyProof.Rows L2
section
variable {K : PySem.W.Frag} {m : Option Addr} {E : Ef} {G0 G G' H H' : Hp} {e : Ev} {σ : St} {i : Nat} {p : Addr} {t t' : Ow}
/-- no other name holds a part of it -/
def noAl (e : Ev) : Bool := e.all fun s => match s with
  | some (.ow t) => !t.isAl
  | _ => true
theorem noAl_at (h : noAl e = true) {j : Nat} (z : e[j]? = some (some (.ow t))) : t.isAl = false := by
  have m := List.mem_of_getElem? z
  have q := List.all_eq_true.mp h _ m
  simpa using q
structure TurnW (K : PySem.W.Frag) (G H G' H' : Hp) (p : Addr) (t t' : Ow) : Prop where
  s1 : Same G G'
  s2 : Same G' H'
  s3 : ∀ a o, H a = some o → a ∉ owA (H p) p t → H' a = some o
  nw : ∀ a, G a = none → H a ≠ none → G' a = none
  at_ : OwAt K G' H' p t'
  nd : (owA (H' p) p t').Nodup
  na : t'.isAl = false
  new : ∀ a ∈ owA (H' p) p t', (a ∈ owA (H p) p t ∨ H a = none) ∧ H' a ≠ none ∧ G' a = none
  th : ∀ a ∈ owA (H p) p t, H' a ≠ none
  kp : ∀ a ∈ owA (H p) p t, a ∈ owA (H' p) p t'
theorem Rl.turnW (R : Rl K m E G0 G e σ H) (h : e[i]? = some (some (.ow t))) (hp : σ[i]? = some (some (.ref p))) (na : t.isAl = false) (T : TurnW K G H G' H' p t t')
    (al : ∀ (j k : Nat), e[j]? = some (some (.ow (.al i k))) → ∀ q, (t.vs (H p))[k]? = some (.ref q) → (∃ ds, t'.ts[k]? = some (.ls ds)) ∧ (t'.vs (H' p))[k]? = some (.ref q)) :
    Rl K m E G0 G' (e.set i (some (.ow t'))) σ H' ∧ Stp σ G H e G' H' (e.set i (some (.ow t'))) := by
  obtain ⟨s1, s2, s3, nw, at', nd, na', new, th, kp⟩ := T
  have hl : i < e.length := (List.getElem?_eq_some_iff.mp h).1
  have own : ∀ a ∈ owA (H p) p t, OwnW σ e H a := fun a ha => ⟨i, t, p, h, hp, ha⟩
  have thA : ∀ a, H a ≠ none → H' a ≠ none := fun a z => by
    by_cases y : a ∈ owA (H p) p t
    · exact th a y
    · cases q : H a with
      | none => exact absurd q z
      | some o => rw [s3 a o q y]; simp
  have keep : ∀ {j : Nat} {s : Sl}, (e.set i (some (.ow t')))[j]? = some (some s) → (∀ u, s ≠ .ow u) → e[j]? = some (some s) := fun {j s} z ns => by
    rw [set_get] at z
    by_cases y : i = j ∧ j < e.length
    · rw [if_pos y] at z
      cases z
      exact absurd rfl (ns _)
    · rw [if_neg y] at z
      exact z
  have kw : ∀ {j : Nat} {u : Ow}, (e.set i (some (.ow t')))[j]? = some (some (.ow u)) → (i = j ∧ u = t') ∨ (i ≠ j ∧ e[j]? = some (some (.ow u))) := fun {j u} z => by
    rw [set_get] at z
    by_cases y : i = j ∧ j < e.length
    · rw [if_pos y] at z
      cases z
      exact .inl ⟨y.1, rfl⟩
    · rw [if_neg y] at z
      exact .inr ⟨fun w => y ⟨w, by rw [← w]; exact hl⟩, z⟩
  have far : ∀ {j : Nat} {u : Ow} {q a : Addr}, i ≠ j → e[j]? = some (some (.ow u)) → σ[j]? = some (some (.ref q)) → a ∈ owA (H q) q u → a ∉ owA (H p) p t := fun {j u q a} n z1 z2 z3 z4 => n (R.wl.one i j t u p q a h z1 hp z2 z4 z3)
  have same : ∀ {j : Nat} {u : Ow} {q a : Addr}, i ≠ j → e[j]? = some (some (.ow u)) → σ[j]? = some (some (.ref q)) → a ∈ owA (H q) q u → H' a = H a := fun {j u q a} n z1 z2 z3 => by
    cases y : H a with
    | none => exact absurd y (R.wl.out a ⟨j, u, q, z1, z2, z3⟩).2.1
    | some o => exact s3 a o y (far n z1 z2 z3)
  have same2 : ∀ {j : Nat} {u : Ow} {q : Addr}, i ≠ j → e[j]? = some (some (.ow u)) → σ[j]? = some (some (.ref q)) → owA (H' q) q u = owA (H q) q u ∧ (u.isAl = false → H' q = H q) := fun {j u q} n z1 z2 => by
    cases y : u.isAl with
    | false =>
      have z := same n z1 z2 (a := q) (by rw [owA_of y]; exact List.mem_cons_self)
      exact ⟨by rw [z], fun _ => z⟩
    | true =>
      cases u with
      | al _ _ => exact ⟨rfl, fun w => by cases w⟩
      | lst _ => cases y
      | ins _ _ => cases y
  have ww : ∀ a, OwnW σ (e.set i (some (.ow t'))) H' a → (a ∈ owA (H' p) p t') ∨ ∃ j u q, i ≠ j ∧ e[j]? = some (some (.ow u)) ∧ σ[j]? = some (some (.ref q)) ∧ a ∈ owA (H q) q u := fun a ⟨j, u, q, z1, z2, z3⟩ => by
    rcases kw z1 with ⟨rfl, rfl⟩ | ⟨n, z⟩
    · rw [hp] at z2
      cases z2
      exact .inl z3
    · rw [(same2 n z z2).1] at z3
      exact .inr ⟨j, u, q, n, z, z2, z3⟩
  have notA : ∀ a, a ∈ owA (H p) p t → E a = none ∨ m = some a := fun a ha => (R.wl.out a (own a ha)).2.2.2
  refine ⟨⟨R.gg.trans s1, s2, fun a o z1 z2 => ?_, fun a z => ⟨(R.mh a z).1, thA a (R.mh a z).2⟩, fun a z1 z2 => nw a (R.nw a z1 z2) ?_, by rw [List.length_set]; exact R.len, fun j d z => ?_, fun j dj z => ?_, fun j k dj dk p' z1 z2 => R.inj j k dj dk p' (keep z1 fun _ y => by cases y) (keep z2 fun _ y => by cases y), fun j s z => ?_, ⟨fun j u z => ?_, fun a z => ?_, fun j k u w q1 q2 a z1 z2 z3 z4 z5 z6 => ?_, fun j j2 k q z1 z2 u q2 z3 z4 z5 => ?_, fun s u q z1 z2 z3 z4 => ?_⟩⟩, s1, nw, fun a o z1 z2 => ?_, fun j => ?_, thA, fun a z => ?_⟩
  · refine s3 a o (R.eh a o z1 z2) fun y => ?_
    rcases notA a y with w | w
    · rw [w] at z1
      cases z1
    · exact z2 w
  · by_cases y : m = some a
    · exact (R.mh a y).2
    · cases q : E a with
      | none => exact absurd q z2
      | some o => rw [R.eh a o q y]; simp
  · obtain ⟨v, a1, a2⟩ := R.im j d (keep z fun _ y => by cases y)
    exact ⟨v, a1, dp_same s1 a2⟩
  · obtain ⟨p', w', a1, a2, a3, a4, a5⟩ := R.ac j dj (keep z fun _ y => by cases y)
    have n : p' ∉ owA (H p) p t := fun y => R.notW (keep z fun _ y => by cases y) a1 (own p' y)
    exact ⟨p', w', a1, nw p' a2 (by rw [a3]; simp), s3 p' _ a3 n, dpAll_same s1 a4, a5⟩
  · cases s with
    | ow _ => exact True.intro
    | im d => exact (R.ot j _ (keep z fun _ y => by cases y)).mono s1
    | ac d => exact (R.ot j _ (keep z fun _ y => by cases y)).mono s1
    | nl d => exact (R.ot j _ (keep z fun _ y => by cases y)).mono s1
    | ob d => exact (R.ot j _ (keep z fun _ y => by cases y)).mono s1
    | dk d => exact (R.ot j _ (keep z fun _ y => by cases y)).mono s1
    | me c d => exact (R.ot j _ (keep z fun _ y => by cases y)).mono s1
  · rcases kw z with ⟨rfl, rfl⟩ | ⟨n, z⟩
    · exact ⟨p, hp, at', nd⟩
    · obtain ⟨q, z2, z3, z4⟩ := R.wl.at_ j u z
      exact ⟨q, z2, z3.keep s1 fun a ha => same n z z2 ha, by rw [(same2 n z z2).1]; exact z4⟩
  · have no : ∀ {a : Addr}, ¬ Own0 σ e a → ¬ Own0 σ (e.set i (some (.ow t'))) a := fun {a} n ⟨j, dj, z1, z2⟩ => n ⟨j, dj, keep z1 (fun _ y => by cases y), z2⟩
    rcases ww a z with y | ⟨j, u, q, n, z1, z2, z3⟩
    · obtain ⟨y1, y2, y3⟩ := new a y
      rcases y1 with y1 | y1
      · obtain ⟨_, _, o3, o4⟩ := R.wl.out a (own a y1)
        exact ⟨y3, y2, no o3, o4⟩
      · obtain ⟨f1, f2, f3, f4⟩ := R.fresh y1
        exact ⟨y3, y2, no fun w => f3 (.inl w), .inl f2⟩
    · obtain ⟨o1, o2, o3, o4⟩ := R.wl.out a ⟨j, u, q, z1, z2, z3⟩
      exact ⟨nw a o1 o2, by rw [same n z1 z2 z3]; exact o2, no o3, o4⟩
  · have cross : ∀ {j : Nat} {u : Ow} {q : Addr}, i ≠ j → e[j]? = some (some (.ow u)) → σ[j]? = some (some (.ref q)) → a ∈ owA (H' q) q u → a ∈ owA (H' p) p t' → False := fun {j u q} n y1 y2 y3 y4 => by
      rw [(same2 n y1 y2).1] at y3
      rcases (new a y4).1 with y | y
      · exact far n y1 y2 y3 y
      · exact (R.wl.out a ⟨j, u, q, y1, y2, y3⟩).2.1 y
    rcases kw z1 with ⟨rfl, rfl⟩ | ⟨n1, y1⟩
    · rcases kw z2 with ⟨rfl, rfl⟩ | ⟨n2, y2⟩
      · rfl
      · rw [hp] at z3
        cases z3
        exact (cross n2 y2 z4 z6 z5).elim
    · rcases kw z2 with ⟨rfl, rfl⟩ | ⟨n2, y2⟩
      · rw [hp] at z4
        cases z4
        exact (cross n1 y1 z3 z5 z6).elim
      · rw [(same2 n1 y1 z3).1] at z5
        rw [(same2 n2 y2 z4).1] at z6
        exact R.wl.one j k u w q1 q2 a y1 y2 z3 z4 z5 z6
  · rcases kw z1 with ⟨_, y⟩ | ⟨n1, y1⟩
    · rw [← y] at na'
      cases na'
    · rcases kw z3 with ⟨rfl, rfl⟩ | ⟨n2, y2⟩
      · rw [hp] at z5
        cases z5
        exact al j k y1 q (R.wl.al j i k q y1 z2 t p h na hp).2
      · rw [(same2 n2 y2 z5).2 z4]
        exact R.wl.al j j2 k q y1 z2 u q2 y2 z4 z5
  · rcases kw z2 with ⟨rfl, rfl⟩ | ⟨n2, y2⟩
    · rw [hp] at z4
      cases z4
      obtain ⟨q1, q2⟩ := R.wl.pin s t p z1 h na hp
      exact ⟨q1, fun a ha => kp a (q2 a ha)⟩
    · rw [(same2 n2 y2 z4).1]
      exact R.wl.pin s u q z1 y2 z3 z4
  · exact s3 a o z1 fun y => z2 (.inr (own a y))
  · rw [set_get]
    by_cases y : i = j ∧ j < e.length
    · rw [if_pos y, ← y.1, h]
      rfl
    · rw [if_neg y]
  · rcases ww a z with y | ⟨j, u, q, n, z1, z2, z3⟩
    · rcases (new a y).1 with y | y
      · exact .inl (own a y)
      · exact .inr y
    · exact .inl ⟨j, u, q, z1, z2, z3⟩
end
end DL
namespace DL
open PySem PySem.Spec PySem.W PyProof.Rows L2
/-- one's own thing, n data in; data and the thing out -/
def spW (K : PySem.W.Frag) (n : Nat) (φ : Ow → List PyData → Option (PyData × Ow)) : Sp := fun vs H Q _ => ∃ (G : Hp) (p : Addr) (us : List V) (t : Ow) (ds : List PyData) (d : PyData) (t' : Ow), Same G H ∧ vs = .ref p :: us ∧ OwAt K G H p t ∧ t.isAl = false ∧ (owA (H p) p t).Nodup ∧ (∀ a ∈ owA (H p) p t, G a = none) ∧ DpAll K G us ds ∧ us.length = n ∧ φ t ds = some (d, t') ∧
  ∀ v G' H', TurnW K G H G' H' p t t' → Dp K G' v d → Q v H'
def x_callW (φ : Ow → List PyData → Option (PyData × Ow)) (i : Nat) (fa : Fa) : Fe := fun e => if isOw e[i]? = true then (match argsI fa e with
  | some (ds, e1) => if noAl e1 = true then (match e1[i]? with
    | some (some (.ow t)) => (match φ t ds with
      | some (d, t') => some (.im d, e1.set i (some (.ow t')))
      | none => none)
    | _ => none) else none
  | none => none) else none
theorem isOw_iff {o : Option (Option Sl)} (h : isOw o = true) : ∃ t, o = some (some (.ow t)) := by
  match o, h with
  | some (some (.ow t)), _ => exact ⟨t, rfl⟩
section
variable {X : Cx} {es : List Expr} {fa : Fa} {p np pos : Pos} {x y : Str} {j k n : Nat}
theorem ed_callW {φ : Ow → List PyData → Option (PyData × Ow)} (i : Nat) (F : Kf X.prog X.w X.K X.mg X.base k x (spW X.K n φ) []) (hr : Room j X.A) (hk : k ≤ j) (hn : ∀ t ds, (φ t ds).isSome = true → ds.length = n) (h : AD X es fa)
    (hN : X.N[i]? = some y := by rfl) (hv2 : Vis X.env.scope y := by first | exact Or.inl rfl | exact Or.inr (Or.inl rfl) | exact Or.inr (Or.inr rfl)) (hd2 : (y == ("__debug__" : Str)) = false := by decide) (hcd2 : (y == ("__classdict__" : Str)) = false := by decide) (hg : Gl X x := by rfl)
    (hdb : (x == ("__debug__" : Str)) = false := by decide) (he : starEach (.Name y np :: es) X.env = (false, eval (.Name y np) X.env) :: starEach es X.env := by rfl) (hpl : (backTo pos (starEach es X.env)).any (·.1) = false := by rfl) :
    ED X (.Call (.Name x p) (.Name y np :: es) [] pos) (x_callW φ i fa) := by
  obtain ⟨f, fd, ps, ds, F, hm, kp, hb, hv⟩ := F
  obtain ⟨t, pa, kk⟩ := h
  refine ⟨_, pe_call F (hr.mono hk) hg hm kp hb hv (E := E0) (fun _ _ _ _ _ _ _ z => z.elim) (pa_cons (pe_var hN hv2 hd2 hcd2) pa he) hdb he hpl, fun m E G0 G e σ H r e' Q R q P => ?_⟩
  unfold x_callW at q
  split at q
  · rename_i h0
    obtain ⟨t0, h0⟩ := isOw_iff h0
    obtain ⟨p0, o1, _⟩ := R.wl.at_ i t0 h0
    cases h1 : argsI fa e with
    | none => simp only [h1] at q; cases q
    | some z =>
      obtain ⟨ds', e1⟩ := z
      simp only [h1] at q
      by_cases na : noAl e1 = true
      · rw [if_pos na] at q
        split at q
        · rename_i th h3
          split at q
          · rename_i d t' h4
            cases q
            obtain ⟨rs, q1, q2⟩ := argsI_ok h1
            refine ⟨.ref p0, o1, ?_⟩
            refine kk m E G0 G e σ H rs e1 _ R q1 fun vs G1 H1 R1 S1 V1 => ?_
            have D1 := vr_imAll V1 q2
            obtain ⟨p1, z1, z2, z3⟩ := R1.wl.at_ i th h3
            rw [o1] at z1
            cases z1
            have nt := noAl_at na h3
            refine ⟨G1, p0, vs ++ [], th, ds', d, t', R1.gh, rfl, z2, nt, z3, fun a ha => (R1.wl.out a ⟨i, th, p0, h3, o1, ha⟩).1, by rw [List.append_nil]; exact D1, ?_, h4, fun v G' H' T D => ?_⟩
            · rw [List.append_nil, dpAll_len D1]
              exact hn th _ (by rw [h4]; rfl)
            · obtain ⟨R2, S2⟩ := R1.turnW h3 o1 nt T (fun j k y => by
                have := noAl_at na y
                cases this)
              exact P v G' H' R2 (S1.trans S2) D True.intro
          · cases q
        · cases q
      · rw [if_neg na] at q
        cases q
  · cases q
end
def envW (t : Ow) (ds : List PyData) (nl : Nat) : Ev := some (.ow t) :: env0 ds nl
def ownT (e : Ev) (d : PyData) : Option (PyData × Ow) := match e with
  | some (.ow t) :: _ => if t.isAl = true then none else some (d, t)
  | _ => none
def runW (n nl : Nat) (g : Fs) (t : Ow) (ds : List PyData) : Option (PyData × Ow) := if ds.length = n then (match g (envW t ds nl) with
  | some (.rt (.im d) e) => ownT e d
  | some (.nx e) => ownT e .none
  | _ => none) else none
theorem runW_len {n nl : Nat} {g : Fs} : ∀ t ds, (runW n nl g t ds).isSome = true → ds.length = n := fun t ds h => by
  unfold runW at h
  by_cases z : ds.length = n
  · exact z
  · rw [if_neg z] at h
    cases h
section
variable {K : PySem.W.Frag} {G H : Hp} {us : List V} {ds : List PyData} {nl : Nat} {t : Ow} {p : Addr}
theorem OtAll.full : ∀ {vs : List V} {ts : List Ot}, OtAll K G H vs ts → ∀ q ∈ owL vs ts, H q ≠ none
  | _, _, .nil, _, h => by cases h
  | _, _, .im (v := v) _ t, q, h => OtAll.full t q (by cases v <;> exact h)
  | _, _, .ls h1 _ t, q, h => by
    rcases List.mem_cons.mp h with e | h
    · rw [e, h1]
      simp
    · exact OtAll.full t q h
theorem OwAt.full : ∀ {t : Ow}, OwAt K G H p t → ∀ a ∈ owA (H p) p t, H a ≠ none
  | .lst ts, ⟨ws, h1, h2⟩, a, h => by
    rcases List.mem_cons.mp h with e | h
    · rw [e, h1]
      simp
    · rw [h1, owQ_lst] at h
      exact h2.full a h
  | .ins c fs, ⟨C, dx, ws, h1, _, _, h2⟩, a, h => by
    rcases List.mem_cons.mp h with e | h
    · rw [e, h1]
      simp
    · rw [h1, owQ_ins] at h
      exact h2.full a h
  | .al _ _, _, a, h => by cases h
def Ef.ofW (H : Hp) (p : Addr) (A : List Addr) : Ef := ⟨fun a => if a ∈ A then none else H a, ⟨fun a => if a ∈ A then none else H a, some p, A, 0⟩, fun _ _ z => z⟩
theorem rz_startW {N : List Str} (s : Same G H) (ha : OwAt K G H p t) (na : t.isAl = false) (nd : (owA (H p) p t).Nodup) (hg : ∀ a ∈ owA (H p) p t, G a = none) (q : DpAll K G us ds) (hl : us.length + 1 + nl = N.length) : Rz K none (Ef.ofW H p (owA (H p) p t)) G G (envW t ds nl) (L2.start N (.ref p :: us)) H := by
  have z0 : (L2.start N (V.ref p :: us))[0]? = some (some (.ref p)) := st_at rfl
  have in0 : ∀ {i : Nat} {s : Sl}, (envW t ds nl)[i]? = some (some s) → (i = 0 ∧ s = .ow t) ∨ ∃ d, s = .im d := fun {i s} z => by
    cases i with
    | zero =>
      cases z
      exact .inl ⟨rfl, rfl⟩
    | succ i =>
      obtain ⟨d', z1, z2⟩ := env0_at (i := i) (by simpa [envW] using z)
      exact .inr ⟨d', z2⟩
  have no0 : ∀ {i : Nat} {d : List PyData}, (envW t ds nl)[i]? = some (some (.ac d)) → False := fun {i d} z => by
    rcases in0 z with ⟨_, y⟩ | ⟨_, y⟩ <;> cases y
  have w0 : ∀ {i : Nat} {u : Ow}, (envW t ds nl)[i]? = some (some (.ow u)) → i = 0 ∧ u = t := fun {i u} z => by
    rcases in0 z with ⟨y1, y⟩ | ⟨_, y⟩
    · cases y
      exact ⟨y1, rfl⟩
    · cases y
  refine ⟨⟨Same.refl _, s, fun a o z _ => ?_, fun a z => by (cases z), fun a z _ => z, ?_, fun i d z => ?_, fun i d z => (no0 z).elim, fun i j di dj p' z1 z2 => (no0 z1).elim, fun i dss z => ?_, ⟨fun i u z => ?_, fun a z => ?_, fun i j u w q1 q2 a z1 z2 _ _ _ _ => ?_, fun j i k q z1 => ?_, fun s' u q z1 z2 z3 z4 => ?_⟩⟩, fun p' z => by cases z⟩
  · have z : (if a ∈ owA (H p) p t then none else H a) = some o := z
    by_cases y : a ∈ owA (H p) p t
    · rw [if_pos y] at z
      cases z
    · rw [if_neg y] at z
      exact z
  · unfold envW env0 L2.start
    simp only [List.length_append, List.length_map, List.length_replicate, List.length_cons]
    rw [dpAll_len q] at hl ⊢
    omega
  · cases i with
    | zero => cases z
    | succ i =>
      obtain ⟨d', z1, z2⟩ := env0_at (i := i) (by simpa [envW] using z)
      cases z2
      obtain ⟨v, z3, z4⟩ := dpAll_get q z1
      exact ⟨v, st_at (by simpa using z3), z4⟩
  · rcases in0 z with ⟨_, y⟩ | ⟨_, y⟩ <;> subst y <;> exact True.intro
  · obtain ⟨rfl, rfl⟩ := w0 z
    exact ⟨p, z0, ha, nd⟩
  · obtain ⟨i, u, q1, z1, z2, z3⟩ := z
    obtain ⟨rfl, rfl⟩ := w0 z1
    rw [z0] at z2
    cases z2
    refine ⟨hg a z3, ha.full a z3, fun ⟨j, dj, y1, _⟩ => no0 y1, .inl ?_⟩
    show (if a ∈ owA (H p) p u then none else H a) = none
    rw [if_pos z3]
  · obtain ⟨rfl, _⟩ := w0 z1
    obtain ⟨rfl, _⟩ := w0 z2
    rfl
  · obtain ⟨_, y⟩ := w0 z1
    rw [← y] at na
    cases na
  · obtain ⟨_, rfl⟩ := w0 z2
    have z4 : (L2.start N (V.ref p :: us))[0]? = some (some (V.ref q)) := z4
    rw [z0] at z4
    cases z4
    cases z1
    exact ⟨rfl, fun a ha => ha⟩
end
section
variable {P : Program} {w : World} {K : PySem.W.Frag} {mg : Str → Option Value} {base : Heap} {x qual : Str} {params : Arguments} {body : List Stmt} {scope : Scope} {dvs : List V} {kws : List (Str × V)} {f : Addr} {fd : FuncData} {N ps : List Str} {k n nl : Nat} {g : Fs}
theorem fnW (F : FunD K x qual params body scope dvs kws f fd) (S : FnScope N ps scope) (hp : ps.length = n + 1) (hl : n + 1 + nl = N.length)
    (hb : ∀ (cdv : Value) (A : Around) (outer : List Env) (s : Shared) (H : Hp) (E : XK), Room k (A.deeper (envOfC qual scope s.heap.objs.size f cdv)) → SsD (cxOf CX0 P w K mg base N qual scope f cdv A outer s H E).nox body g) :
    FnOk P w K mg base CX0 (k + 1) f fd ps (spW K n (runW n nl g)) := by
  refine F.ok S (fun vs H Q E h => ?_) fun cdv A outer s H vs Q E hr h => ?_
  · obtain ⟨_, _, us, _, _, _, _, _, h, _, _, _, _, _, h2, _⟩ := h
    rw [h, List.length_cons, h2, hp]
  · obtain ⟨t, pt, kt⟩ := hb cdv A outer s H E hr
    obtain ⟨G, p, us, th, ds, d, t', s1, rfl, h1, h2, h3, h4, h5, h6, h7, hQ⟩ := h
    refine ⟨t, pt.nox, ?_⟩
    have Rz0 := rz_startW (N := N) (nl := nl) s1 h1 h2 h3 h4 h5 (by omega)
    unfold runW at h7
    rw [if_pos (by rw [← dpAll_len h5]; exact h6)] at h7
    have fin : ∀ {v : V} {G' : Hp} {σ' : St} {H' : Hp} {e' : Ev} {r' : PyData}, Same G G' → Rz K none (Ef.ofW H p (owA (H p) p th)) G G' e' σ' H' → ownT e' r' = some (d, t') → Dp K G' v r' → Q v H' := fun {v G' σ' H' e' r'} s2 R' oc vf => by
      unfold ownT at oc
      split at oc
      · rename_i c2 rest
        split at oc
        · cases oc
        · rename_i nt
          cases oc
          have nt : t'.isAl = false := by simpa using nt
          have z : (some (Sl.ow t') :: rest)[0]? = some (some (.ow t')) := rfl
          obtain ⟨p', z1, z2, z3⟩ := R'.r.wl.at_ 0 t' z
          obtain ⟨e1, e2⟩ := R'.r.wl.pin p t' p' rfl z nt z1
          subst e1
          have kp : ∀ a ∈ owA (H p') p' th, a ∈ owA (H' p') p' t' := e2
          have out := fun a (ha : a ∈ owA (H' p') p' t') => R'.r.wl.out a ⟨0, t', p', z, z1, ha⟩
          refine hQ v G' H' ⟨s2, R'.r.gh, fun a o q ne => R'.r.eh a o (by show (if a ∈ owA (H p') p' th then none else H a) = some o; rw [if_neg ne]; exact q) (by simp), fun a q1 q2 => ?_, z2, z3, nt, fun a ha => ⟨?_, (out a ha).2.1, (out a ha).1⟩, fun a ha => (out a (kp a ha)).2.1, kp⟩ vf
          · by_cases y : a ∈ owA (H p') p' th
            · exact (out a (kp a y)).1
            · refine R'.r.nw a q1 ?_
              show (if a ∈ owA (H p') p' th then none else H a) ≠ none
              rw [if_neg y]
              exact q2
          · by_cases y : a ∈ owA (H p') p' th
            · exact .inl y
            · refine .inr ?_
              rcases (out a ha).2.2.2 with w | w
              · have w : (if a ∈ owA (H p') p' th then none else H a) = none := w
                rw [if_neg y] at w
                exact w
              · cases w
      · cases oc
    split at h7
    · rename_i d' e' h8
      exact kt none _ G G _ _ H _ _ Rz0 h8 fun v G' σ' H' s2 R' V' => fin s2 R' h7 V'
    · rename_i e' h8
      exact kt none _ G G _ _ H _ _ Rz0 h8 fun G' σ' H' s2 R' => fin (v := .non) s2 R' h7 .non
    · cases h7
end
end DL
namespace DL
open PySem PySem.Spec PySem.W PyProof.Rows L2
section
variable {K : PySem.W.Frag} {G H : Hp}
theorem otAll_len : ∀ {vs : List V} {ts : List Ot}, OtAll K G H vs ts → vs.length = ts.length
  | _, _, .nil => rfl
  | _, _, .im _ t => congrArg (· + 1) (otAll_len t)
  | _, _, .ls _ _ t => congrArg (· + 1) (otAll_len t)
theorem otAll_im : ∀ {vs : List V} {ts : List Ot} {k : Nat} {d : PyData}, OtAll K G H vs ts → ts[k]? = some (.im d) → ∃ v, vs[k]? = some v ∧ Dp K G v d
  | _, _, _, _, .nil, z => by simp at z
  | _, _, 0, _, .im h _, z => by
    cases z
    exact ⟨_, rfl, h⟩
  | _, _, 0, _, .ls _ _ _, z => by cases z
  | _, _, k + 1, _, .im _ t, z => otAll_im (k := k) t (by simpa using z)
  | _, _, k + 1, _, .ls _ _ t, z => otAll_im (k := k) t (by simpa using z)
theorem otAll_set : ∀ {vs : List V} {ts : List Ot} {k : Nat} {d0 d : PyData} {v : V}, OtAll K G H vs ts → ts[k]? = some (.im d0) → Dp K G v d → OtAll K G H (vs.set k v) (ts.set k (.im d)) ∧ owL (vs.set k v) (ts.set k (.im d)) = owL vs ts
  | _, _, _, _, _, _, .nil, z, _ => by simp at z
  | _, _, 0, _, _, _, .im h t, z, q => ⟨.im q t, by
    show owL (_ :: _) (.im _ :: _) = _
    rw [owL_im, owL_im]⟩
  | _, _, 0, _, _, _, .ls _ _ _, z, _ => by cases z
  | _, _, k + 1, _, _, _, .im h t, z, q => by
    obtain ⟨a, b⟩ := otAll_set (k := k) t (by simpa using z) q
    exact ⟨.im h a, by
      show owL (_ :: _) (.im _ :: _) = _
      rw [owL_im, owL_im, b]⟩
  | _, _, k + 1, _, _, _, .ls h1 h2 t, z, q => by
    obtain ⟨a, b⟩ := otAll_set (k := k) t (by simpa using z) q
    exact ⟨.ls h1 h2 a, by
      show _ :: owL _ _ = _
      rw [b]
      rfl⟩
theorem otAll_upd {q : Addr} {o : HO} : ∀ {vs : List V} {ts : List Ot}, OtAll K G H vs ts → q ∉ owL vs ts → OtAll K G (upd H q o) vs ts
  | _, _, .nil, _ => .nil
  | _, _, .im h t, n => .im h (otAll_upd t (by rw [owL_im] at n; exact n))
  | _, _, .ls h1 h2 t, n => .ls (by rw [upd_ne fun y => n (by rw [← y]; exact List.mem_cons_self)]; exact h1) h2 (otAll_upd t fun y => n (List.mem_cons_of_mem _ y))
theorem otAll_put {q : Addr} {ws' : List V} {ds' : List PyData} (hd : DpAll K G ws' ds') : ∀ {vs : List V} {ts : List Ot} {k : Nat} {ds : List PyData}, OtAll K G H vs ts → vs[k]? = some (.ref q) → ts[k]? = some (.ls ds) → (owL vs ts).Nodup → OtAll K G (upd H q (.lst ws')) vs (ts.set k (.ls ds')) ∧ owL vs (ts.set k (.ls ds')) = owL vs ts
  | _, _, _, _, .nil, z, _, _ => by simp at z
  | _, _, 0, _, .im _ _, _, z, _ => by cases z
  | _, _, 0, _, .ls h1 h2 t, z, _, nd => by
    cases z
    exact ⟨.ls upd_same hd (otAll_upd t (List.nodup_cons.mp nd).1), rfl⟩
  | _, _, k + 1, _, .im h t, z1, z2, nd => by
    rw [owL_im] at nd
    obtain ⟨a, b⟩ := otAll_put hd (k := k) t (by simpa using z1) (by simpa using z2) nd
    exact ⟨.im h a, by
      show owL (_ :: _) (.im _ :: _) = _
      rw [owL_im, owL_im, b]⟩
  | .ref q0 :: vs, .ls ds0 :: ts, k + 1, _, .ls h1 h2 t, z1, z2, nd => by
    have nd := List.nodup_cons.mp nd
    obtain ⟨a, b⟩ := otAll_put hd (k := k) t (by simpa using z1) (by simpa using z2) nd.2
    have m : q ∈ owL vs ts := by
      obtain ⟨q2, _, c1, c2, _⟩ := otAll_ls (k := k) t (by simpa using z2)
      have z1 : vs[k]? = some (V.ref q) := by simpa using z1
      rw [z1] at c1
      cases c1
      exact c2
    exact ⟨.ls (by rw [upd_ne fun y => nd.1 (by rw [y]; exact m)]; exact h1) h2 a, by
      show _ :: owL _ _ = _
      rw [b]
      rfl⟩
end
/-- what a second name tells: the list in the thing at i, item k -/
def alD (e : Ev) (j : Nat) : Option (Nat × Nat × List Ot × List PyData) := match e[j]? with
  | some (some (.ow (.al i k))) => (match e[i]? with
    | some (some (.ow (.lst ts))) => (match ts[k]? with
      | some (.ls ds) => some (i, k, ts, ds)
      | _ => none)
    | _ => none)
  | _ => none
section
variable {K : PySem.W.Frag} {m : Option Addr} {E : Ef} {G0 G H : Hp} {e : Ev} {σ : St} {i j k : Nat} {ts : List Ot} {ds : List PyData}
theorem alD_ok (h : alD e j = some (i, k, ts, ds)) : e[j]? = some (some (.ow (.al i k))) ∧ e[i]? = some (some (.ow (.lst ts))) ∧ ts[k]? = some (.ls ds) := by
  unfold alD at h
  split at h
  · rename_i i' k' h1
    split at h
    · rename_i ts' h2
      split at h
      · rename_i ds' h3
        cases h
        exact ⟨h1, h2, h3⟩
      · cases h
    · cases h
  · cases h
theorem Rl.alAt (R : Rl K m E G0 G e σ H) (h : alD e j = some (i, k, ts, ds)) : ∃ (p q : Addr) (vs ws : List V), σ[i]? = some (some (.ref p)) ∧ σ[j]? = some (some (.ref q)) ∧ H p = some (.lst vs) ∧ OtAll K G H vs ts ∧ vs[k]? = some (.ref q) ∧ H q = some (.lst ws) ∧ DpAll K G ws ds ∧ (p :: owL vs ts).Nodup ∧ q ∈ owL vs ts := by
  obtain ⟨h1, h2, h3⟩ := alD_ok h
  obtain ⟨q, a1, _⟩ := R.wl.at_ j _ h1
  obtain ⟨p, b1, ⟨vs, b2, b3⟩, b4⟩ := R.wl.at_ i _ h2
  have c := (R.wl.al j i k q h1 a1 _ p h2 rfl b1).2
  rw [b2] at c
  have c : vs[k]? = some (.ref q) := c
  obtain ⟨q', ws, d1, d2, d3, d4⟩ := otAll_ls b3 h3
  rw [c] at d1
  cases d1
  have nd : (owA (H p) p (.lst ts)).Nodup := b4
  rw [owA_of rfl, b2, owQ_lst] at nd
  exact ⟨p, q, vs, ws, b1, a1, b2, b3, c, d3, d4, nd, d2⟩
/-- the list is written -/
theorem Rl.alPut {ws' : List V} {ds' : List PyData} {p q : Addr} {vs ws : List V} (R : Rl K m E G0 G e σ H) (h : alD e j = some (i, k, ts, ds)) (b1 : σ[i]? = some (some (.ref p))) (a1 : σ[j]? = some (some (.ref q))) (b2 : H p = some (.lst vs)) (b3 : OtAll K G H vs ts) (c : vs[k]? = some (.ref q)) (nd : (p :: owL vs ts).Nodup) (mq : q ∈ owL vs ts) (hq : H q = some (.lst ws)) (hd : DpAll K G ws' ds') :
    Rl K m E G0 G (e.set i (some (.ow (.lst (ts.set k (.ls ds')))))) σ (upd H q (.lst ws')) ∧ Stp σ G H e G (upd H q (.lst ws')) (e.set i (some (.ow (.lst (ts.set k (.ls ds')))))) := by
  obtain ⟨h1, h2, h3⟩ := alD_ok h
  have nd2 := List.nodup_cons.mp nd
  have pq : p ≠ q := fun y => nd2.1 (by rw [y]; exact mq)
  obtain ⟨x1, x2⟩ := otAll_put hd b3 c h3 nd2.2
  have hp' : upd H q (.lst ws') p = some (.lst vs) := by rw [upd_ne pq]; exact b2
  have o1 : owA (H p) p (.lst ts) = p :: owL vs ts := by rw [owA_of rfl, b2, owQ_lst]
  have o2 : owA (upd H q (.lst ws') p) p (.lst (ts.set k (.ls ds'))) = p :: owL vs ts := by rw [owA_of rfl, hp', owQ_lst, x2]
  have gq : ∀ a ∈ p :: owL vs ts, G a = none ∧ H a ≠ none := fun a ha => by
    obtain ⟨y1, y2, _⟩ := R.wl.out a ⟨i, .lst ts, p, h2, b1, by rw [o1]; exact ha⟩
    exact ⟨y1, y2⟩
  have g0 := (gq q (List.mem_cons_of_mem _ mq)).1
  refine R.turnW h2 b1 rfl ⟨Same.refl _, fun a o z => by rw [upd_ne (ne_of_none z g0)]; exact R.gh a o z, fun a o z n => ?_, fun _ z _ => z, ⟨vs, hp', x1⟩, by rw [o2]; exact nd, rfl, fun a ha => ?_, fun a ha => ?_, fun a ha => by rw [o1] at ha; rw [o2]; exact ha⟩ fun j2 k2 y q2 z => ?_
  · rw [upd_ne fun y => n (by rw [o1, y]; exact List.mem_cons_of_mem _ mq)]
    exact z
  · rw [o2] at ha
    refine ⟨.inl (by rw [o1]; exact ha), ?_, (gq a ha).1⟩
    by_cases y : a = q
    · rw [y, upd_same]
      simp
    · rw [upd_ne y]
      exact (gq a ha).2
  · rw [o1] at ha
    by_cases y : a = q
    · rw [y, upd_same]
      simp
    · rw [upd_ne y]
      exact (gq a ha).2
  · rw [b2] at z
    have z : vs[k2]? = some (.ref q2) := z
    refine ⟨?_, by rw [hp']; exact z⟩
    obtain ⟨q3, e1, _⟩ := R.wl.at_ j2 _ y
    obtain ⟨⟨d2, e2⟩, _⟩ := R.wl.al j2 i k2 q3 y e1 _ p h2 rfl b1
    have e2 : ts[k2]? = some (.ls d2) := e2
    show ∃ ds, (ts.set k (.ls ds'))[k2]? = some (.ls ds)
    rw [set_get]
    by_cases w : k = k2 ∧ k2 < ts.length
    · rw [if_pos w]
      exact ⟨ds', rfl⟩
    · rw [if_neg w]
      exact ⟨d2, e2⟩
/-- an item that is data is written -/
theorem Rl.owPut {d0 d : PyData} {v : V} {p : Addr} {vs : List V} (R : Rl K m E G0 G e σ H) (h2 : e[i]? = some (some (.ow (.lst ts)))) (h3 : ts[k]? = some (.im d0)) (b1 : σ[i]? = some (some (.ref p))) (b2 : H p = some (.lst vs)) (b3 : OtAll K G H vs ts) (nd : (p :: owL vs ts).Nodup) (hd : Dp K G v d) :
    Rl K m E G0 G (e.set i (some (.ow (.lst (ts.set k (.im d)))))) σ (upd H p (.lst (vs.set k v))) ∧ Stp σ G H e G (upd H p (.lst (vs.set k v))) (e.set i (some (.ow (.lst (ts.set k (.im d)))))) := by
  have nd2 := List.nodup_cons.mp nd
  obtain ⟨x1, x2⟩ := otAll_set b3 h3 hd
  have o1 : owA (H p) p (.lst ts) = p :: owL vs ts := by rw [owA_of rfl, b2, owQ_lst]
  have o2 : owA (upd H p (.lst (vs.set k v)) p) p (.lst (ts.set k (.im d))) = p :: owL vs ts := by rw [owA_of rfl, upd_same, owQ_lst, x2]
  have gq : ∀ a ∈ p :: owL vs ts, G a = none ∧ H a ≠ none := fun a ha => by
    obtain ⟨y1, y2, _⟩ := R.wl.out a ⟨i, .lst ts, p, h2, b1, by rw [o1]; exact ha⟩
    exact ⟨y1, y2⟩
  have g0 := (gq p List.mem_cons_self).1
  have th : ∀ a ∈ p :: owL vs ts, upd H p (.lst (vs.set k v)) a ≠ none := fun a ha => by
    by_cases y : a = p
    · rw [y, upd_same]
      simp
    · rw [upd_ne y]
      exact (gq a ha).2
  refine R.turnW h2 b1 rfl ⟨Same.refl _, fun a o z => by rw [upd_ne (ne_of_none z g0)]; exact R.gh a o z, fun a o z n => ?_, fun _ z _ => z, ⟨_, upd_same, otAll_upd x1 (by rw [x2]; exact nd2.1)⟩, by rw [o2]; exact nd, rfl, fun a ha => ?_, fun a ha => th a (by rw [← o1]; exact ha), fun a ha => by rw [o1] at ha; rw [o2]; exact ha⟩ fun j2 k2 y q2 z => ?_
  · rw [upd_ne fun y => n (by rw [o1, y]; exact List.mem_cons_self)]
    exact z
  · rw [o2] at ha
    exact ⟨.inl (by rw [o1]; exact ha), th a ha, (gq a ha).1⟩
  · rw [b2] at z
    have z : vs[k2]? = some (.ref q2) := z
    obtain ⟨q3, e1, _⟩ := R.wl.at_ j2 _ y
    obtain ⟨⟨d2, e2⟩, _⟩ := R.wl.al j2 i k2 q3 y e1 _ p h2 rfl b1
    have e2 : ts[k2]? = some (.ls d2) := e2
    have ne : k ≠ k2 := fun w => by
      rw [← w, h3] at e2
      cases e2
    refine ⟨⟨d2, ?_⟩, ?_⟩
    · show (ts.set k (.im d))[k2]? = _
      rw [List.getElem?_set_ne ne]
      exact e2
    · rw [upd_same]
      show (vs.set k v)[k2]? = _
      rw [List.getElem?_set_ne ne]
      exact z
/-- a second name -/
theorem Rl.setAl {q p : Addr} {vs : List V} (R : Rl K m E G0 G e σ H) (n : i ≠ j) (h2 : e[i]? = some (some (.ow (.lst ts)))) (h3 : ts[k]? = some (.ls ds)) (b1 : σ[i]? = some (some (.ref p))) (b2 : H p = some (.lst vs)) (c : vs[k]? = some (.ref q)) : Rl K m E G0 G (e.set j (some (.ow (.al i k)))) (σ.set j (some (.ref q))) H := by
  have hl := R.len
  have far : ∀ {x : Nat} {s : Sl}, (e.set j (some (.ow (.al i k))))[x]? = some (some s) → (j = x ∧ s = .ow (.al i k) ∧ (σ.set j (some (V.ref q)))[x]? = some (some (.ref q))) ∨ (j ≠ x ∧ e[x]? = some (some s) ∧ (σ.set j (some (V.ref q)))[x]? = σ[x]?) := fun {x s} z => by
    rw [set_get] at z ⊢
    by_cases y : j = x ∧ x < e.length
    · rw [if_pos y] at z
      cases z
      exact .inl ⟨y.1, rfl, by rw [if_pos ⟨y.1, by omega⟩]⟩
    · rw [if_neg y] at z
      have xl : x < e.length := (List.getElem?_eq_some_iff.mp z).1
      exact .inr ⟨fun w => y ⟨w, xl⟩, z, if_neg (by omega)⟩
  have old : ∀ {x : Nat} {s : Sl}, (e.set j (some (.ow (.al i k))))[x]? = some (some s) → (∀ t, s ≠ .ow t) → e[x]? = some (some s) ∧ (σ.set j (some (V.ref q)))[x]? = σ[x]? := fun {x s} z ns => by
    rcases far z with ⟨_, y, _⟩ | ⟨_, y1, y2⟩
    · exact absurd y (ns _)
    · exact ⟨y1, y2⟩
  have ow : ∀ {x : Nat} {t : Ow}, (e.set j (some (.ow (.al i k))))[x]? = some (some (.ow t)) → t.isAl = false → j ≠ x ∧ e[x]? = some (some (.ow t)) ∧ (σ.set j (some (V.ref q)))[x]? = σ[x]? := fun {x t} z nt => by
    rcases far z with ⟨_, y, _⟩ | y
    · cases y
      cases nt
    · exact y
  have own : ∀ a, OwnW (σ.set j (some (.ref q))) (e.set j (some (.ow (.al i k)))) H a → OwnW σ e H a := fun a ⟨x, t, p2, z1, z2, z3⟩ => by
    obtain ⟨y1, y2, y3⟩ := ow z1 (owA_al z3)
    rw [y3] at z2
    exact ⟨x, t, p2, y2, z2, z3⟩
  refine ⟨R.gg, R.gh, R.eh, R.mh, R.nw, by rw [List.length_set, List.length_set]; exact hl, fun x d z => ?_, fun x d z => ?_, fun x y dx dy p2 z1 z2 z3 z4 => ?_, fun x s z => ?_, ⟨fun x t z => ?_, fun a z => ?_, fun x y t u p2 q2 a z1 z2 z3 z4 z5 z6 => ?_, fun x i2 k2 q2 z1 z2 t p2 z3 z4 z5 => ?_, fun s t p2 z1 z2 z3 z4 => ?_⟩⟩
  · obtain ⟨y1, y2⟩ := old z fun _ w => by cases w
    rw [y2]
    exact R.im x d y1
  · obtain ⟨y1, y2⟩ := old z fun _ w => by cases w
    rw [y2]
    exact R.ac x d y1
  · obtain ⟨a1, a2⟩ := old z1 fun _ w => by cases w
    obtain ⟨c1, c2⟩ := old z2 fun _ w => by cases w
    rw [a2] at z3
    rw [c2] at z4
    exact R.inj x y dx dy p2 a1 c1 z3 z4
  · rcases far z with ⟨_, y, _⟩ | ⟨_, y1, y2⟩
    · subst y
      exact True.intro
    · rw [y2]
      exact R.ot x s y1
  · rcases far z with ⟨_, y, y2⟩ | ⟨_, y1, y2⟩
    · cases y
      exact ⟨q, y2, True.intro, List.nodup_nil⟩
    · rw [y2]
      exact R.wl.at_ x t y1
  · obtain ⟨o1, o2, o3, o4⟩ := R.wl.out a (own a z)
    refine ⟨o1, o2, fun ⟨x, dx, y1, y2⟩ => ?_, o4⟩
    obtain ⟨w1, w2⟩ := old y1 fun _ w => by cases w
    rw [w2] at y2
    exact o3 ⟨x, dx, w1, y2⟩
  · obtain ⟨_, a1, a2⟩ := ow z1 (owA_al z5)
    obtain ⟨_, c1, c2⟩ := ow z2 (owA_al z6)
    rw [a2] at z3
    rw [c2] at z4
    exact R.wl.one x y t u p2 q2 a a1 c1 z3 z4 z5 z6
  · obtain ⟨_, c1, c2⟩ := ow z3 z4
    rw [c2] at z5
    rcases far z1 with ⟨_, y, y2⟩ | ⟨_, y1, y2⟩
    · cases y
      rw [y2] at z2
      cases z2
      rw [h2] at c1
      cases c1
      rw [b1] at z5
      cases z5
      exact ⟨⟨ds, h3⟩, by rw [b2]; exact c⟩
    · rw [y2] at z2
      exact R.wl.al x i2 k2 q2 y1 z2 t p2 c1 z4 z5
  · obtain ⟨_, c1, c2⟩ := ow z2 z3
    rw [c2] at z4
    exact R.wl.pin s t p2 z1 c1 z3 z4
end
end DL
namespace DL
open PySem PySem.Spec PySem.W PyProof.Rows L2
section
variable {K : PySem.W.Frag} {m : Option Addr} {E : Ef} {G0 G H : Hp} {e : Ev} {σ : St} {i j k : Nat} {ts : List Ot} {ds : List PyData}
theorem Rl.owV (R : Rl K m E G0 G e σ H) (h : isOw e[i]? = true) : ∃ p, σ[i]? = some (some (.ref p)) := by
  obtain ⟨t, h⟩ := isOw_iff h
  obtain ⟨p, h1, _⟩ := R.wl.at_ i t h
  exact ⟨p, h1⟩
theorem Rl.owL (R : Rl K m E G0 G e σ H) (h : e[i]? = some (some (.ow (.lst ts)))) : ∃ p vs, σ[i]? = some (some (.ref p)) ∧ H p = some (.lst vs) ∧ OtAll K G H vs ts ∧ (p :: owL vs ts).Nodup := by
  obtain ⟨p, h1, ⟨vs, h2, h3⟩, h4⟩ := R.wl.at_ i _ h
  rw [owA_of rfl, h2, owQ_lst] at h4
  exact ⟨p, vs, h1, h2, h3, h4⟩
end
/-- pool[k], an item that is data -/
def x_owI (i : Nat) (fb : Fe) : Fe := fun e => if isOw e[i]? = true then (match fb e with
  | some (.im (.int k), e1) => (match e1[i]? with
    | some (some (.ow (.lst ts))) => (match ixN ts.length k with
      | some j => (match ts[j]? with
        | some (.im d) => some (.im d, e1)
        | _ => none)
      | none => none)
    | _ => none)
  | _ => none) else none
/-- pool[k] = v -/
def s_owS (i : Nat) (fv fk : Fe) : Fs := fun e => match fv e with
  | some (r, e1) => if isOw e1[i]? = true then (match imR (frzR r), fk e1 with
    | some d, some (.im (.int k), e2) => (match e2[i]? with
      | some (some (.ow (.lst ts))) => (match ixN ts.length k with
        | some j => (match ts[j]? with
          | some (.im _) => some (.nx (e2.set i (some (.ow (.lst (ts.set j (.im d)))))))
          | _ => none)
        | none => none)
      | _ => none)
    | _, _ => none) else none
  | none => none
/-- name = pool[k], a list in it -/
def s_al (j i k : Nat) : Fs := fun e => if (decide (i ≠ j) && okS [j] e) = true then (match e[i]? with
  | some (some (.ow (.lst ts))) => (match ts[k]? with
    | some (.ls _) => some (.nx (e.set j (some (.ow (.al i k)))))
    | _ => none)
  | _ => none) else none
/-- name[k] = v, the name a second one -/
def s_alS (j : Nat) (fv fk : Fe) : Fs := fun e => match fv e with
  | some (r, e1) => if isOw e1[j]? = true then (match imR (frzR r), fk e1 with
    | some d, some (.im (.int k), e2) => (match alD e2 j with
      | some (i, n, ts, ds) => (match ixN ds.length k with
        | some l => some (.nx (e2.set i (some (.ow (.lst (ts.set n (.ls (ds.set l d))))))))
        | none => none)
      | none => none)
    | _, _ => none) else none
  | none => none
/-- name.pop(k), the name a second one -/
def x_alP (j : Nat) (fa : Fe) : Fe := fun e => if (alD e j).isSome = true then (match fa e with
  | some (.im (.int k), e1) => (match alD e1 j with
    | some (i, n, ts, ds) => if -(2 ^ 62) ≤ k ∧ k < 2 ^ 62 then (match seqIndex? k ds.length with
      | some l => (match ds[l]? with
        | some d => some (.im d, e1.set i (some (.ow (.lst (ts.set n (.ls (ds.eraseIdx l)))))))
        | none => none)
      | none => none) else none
    | none => none)
  | _ => none) else none
section
variable {X : Cx} {a b : Expr} {fa fb fk : Fe} {pos pos' np tp p2 : Pos} {x y : Str}
theorem ed_owI (i : Nat) (hk : ED X b fk) (hN : X.N[i]? = some x := by rfl) (hv : Vis X.env.scope x := by first | exact Or.inl rfl | exact Or.inr (Or.inl rfl) | exact Or.inr (Or.inr rfl))
    (hd : (x == ("__debug__" : Str)) = false := by decide) (hcd : (x == ("__classdict__" : Str)) = false := by decide) (hs : PlainIx b := by intros; intro _ _; with_unfolding_all rfl) : ED X (.Subscript (.Name x np) b pos) (x_owI i fk) := by
  obtain ⟨t, p, k⟩ := hk
  refine ⟨_, pe_ix ix_list (pe_var hN hv hd hcd) p hs, fun m E G0 G e σ H r e' Q R q P => ?_⟩
  unfold x_owI at q
  by_cases h0 : isOw e[i]? = true
  · rw [if_pos h0] at q
    obtain ⟨p0, hσ⟩ := R.owV h0
    refine ⟨.ref p0, hσ, ?_⟩
    split at q
    · rename_i kk e1 h1
      split at q
      · rename_i ts h2
        split at q
        · rename_i j h3
          split at q
          · rename_i d h4
            cases q
            refine k m E G0 G e σ H _ _ _ R h1 fun v G1 H1 R1 S1 V1 N1 => ?_
            cases V1
            obtain ⟨p', vs, c1, c2, c3, _⟩ := R1.owL h2
            rw [hσ] at c1
            cases c1
            obtain ⟨z, z1, z2⟩ := otAll_im c3 h4
            exact ⟨p0, vs, kk, z, rfl, rfl, .inl (.inl c2), atI_of (j := j) (by rw [otAll_len c3]; exact h3) z1, P z G1 H1 R1 S1 z2 True.intro⟩
          · cases q
        · cases q
      · cases q
    · cases q
  · rw [if_neg h0] at q
    cases q
theorem sd_owS (i : Nat) (hv' : ED X a fa) (hk : ED X b fb) (hN : X.N[i]? = some x := by rfl)
    (hv : Vis X.env.scope x := by first | exact Or.inl rfl | exact Or.inr (Or.inl rfl) | exact Or.inr (Or.inr rfl)) (hd : (x == ("__debug__" : Str)) = false := by decide) (hcd : (x == ("__classdict__" : Str)) = false := by decide)
    (hs : swapsWithSole [.Subscript (.Name x np) b tp] a pos.line X.env = pure false := by rfl) (hw : swappedStores [.Subscript (.Name x np) b tp] a X.env = pure none := by rfl)
    (h1 : (assignEach [.Subscript (.Name x np) b tp] X.env).map (·.2) = [assign (.Subscript (.Name x np) b tp) X.env] := by rfl)
    (hz : ∀ v, assign (.Subscript (.Name x np) b tp) X.env v = (do
      let ov ← holding [v] (eval (.Name x np) X.env)
      let iv ← holding [v, ov] (eval b X.env)
      standAt tp
      holding [v, ov, iv] (setItem ov iv v)
      release [v, ov, iv] []) := by intros; rfl) : SD X (.Assign [.Subscript (.Name x np) b tp] a pos) (s_owS i fa fb) := by
  obtain ⟨t, p, k⟩ := hv'
  obtain ⟨t2, p2, k2⟩ := hk
  refine ⟨_, ps_asg p (pg_sub (pe_var hN hv hd hcd) p2 set_list hz) hs hw h1, fun m E G0 G e σ H fl D R q P => ?_⟩
  unfold s_owS at q
  split at q
  · rename_i r e1 h1
    by_cases h0 : isOw e1[i]? = true
    · rw [if_pos h0] at q
      split at q
      · rename_i d kk e2 h2 h3
        split at q
        · rename_i ts h4
          split at q
          · rename_i j h5
            split at q
            · rename_i d0 h6
              cases q
              refine k m E G0 G e σ H r e1 _ R.r h1 fun v G1 H1 R1 S1 V1 N1 => ?_
              obtain ⟨G2, R2, S2, s2, V2⟩ := R1.freeze S1 V1 N1
              rw [frz_im h2] at V2
              obtain ⟨l, hσ⟩ := R2.owV h0
              refine ⟨.ref l, hσ, ?_⟩
              refine k2 m E G0 G2 e1 σ H1 _ e2 _ R2 h3 fun u G3 H3 R3 S3 V3 N3 => ?_
              cases V3
              obtain ⟨p', vs, c1, c2, c3, c4⟩ := R3.owL h4
              rw [hσ] at c1
              cases c1
              obtain ⟨R4, S4⟩ := R3.owPut h4 h6 hσ c2 c3 c4 (dp_same S3.gg V2)
              exact ⟨l, vs, kk, j, rfl, rfl, c2, by rw [otAll_len c3]; exact h5, P G3 σ _ (S2.gg.trans S3.gg) (R.exp R4 (S2.trans (S3.trans S4)))⟩
            · cases q
          · cases q
        · cases q
      · cases q
    · rw [if_neg h0] at q
      cases q
  · cases q
theorem sd_al (j i k : Nat) (hNd : X.N.Nodup) (hk : ED X b (x_c (.int k))) (hN : X.N[i]? = some x := by rfl) (hv : Vis X.env.scope x := by first | exact Or.inl rfl | exact Or.inr (Or.inl rfl) | exact Or.inr (Or.inr rfl))
    (hd : (x == ("__debug__" : Str)) = false := by decide) (hcd : (x == ("__classdict__" : Str)) = false := by decide) (hix : PlainIx b := by intros; intro _ _; with_unfolding_all rfl)
    (hi : X.N[j]? = some y := by rfl) (hx : Loc X.env.scope y := by first | exact .inl rfl | exact .inr rfl) (hs : swapsWith (.Subscript (.Name x np) b p2) (some (.Name y pos')) pos.line X.env = pure false := by rfl) (hf : X.fn y = true ∨ X.env.scope.names.lookup y = some .local := by first | exact .inl rfl | exact .inr rfl | assumption) :
    SD X (.Assign [.Name y pos'] (.Subscript (.Name x np) b p2) pos) (s_al j i k) := by
  obtain ⟨t, p, kb⟩ := hk
  refine ⟨_, ps_set hNd hi hx (pe_ix ix_list (pe_var hN hv hd hcd) p hix) hs hf, fun m E G0 G e σ H fl D R q P => ?_⟩
  unfold s_al at q
  by_cases h0 : (decide (i ≠ j) && okS [j] e) = true
  · rw [if_pos h0] at q
    obtain ⟨n, ok⟩ := Bool.and_eq_true_iff.mp h0
    have n := of_decide_eq_true n
    split at q
    · rename_i ts h2
      split at q
      · rename_i ds h3
        cases q
        obtain ⟨p0, vs, c1, c2, c3, _⟩ := R.r.owL h2
        refine ⟨.ref p0, c1, ?_⟩
        refine kb m E G0 G e σ H _ _ _ R.r rfl fun v G1 H1 R1 S1 V1 N1 => ?_
        cases V1
        obtain ⟨p', vs, b1, c2, c3, _⟩ := R1.owL h2
        rw [c1] at b1
        cases b1
        obtain ⟨q, ws, z1, _⟩ := otAll_ls c3 h3
        have kl : k < vs.length := (List.getElem?_eq_some_iff.mp z1).1
        refine ⟨p0, vs, k, .ref q, rfl, rfl, .inl (.inl c2), atI_of (j := k) ?_ z1, P G1 _ H1 S1.gg ⟨R1.setAl n h2 h3 c1 c2 z1, fun a z => ?_⟩⟩
        · unfold ixN
          rw [if_pos (by omega), if_pos (by omega)]
          rfl
        · have R' := R.exp R1 S1
          obtain ⟨z1, z2⟩ := R'.z a z
          have n := okS_no ok z1
          have n : j ≠ 0 := fun q => n (by rw [q]; exact List.mem_singleton.mpr rfl)
          rw [List.getElem?_set_ne n, List.getElem?_set_ne n]
          exact ⟨z1, z2⟩
      · cases q
    · cases q
  · rw [if_neg h0] at q
    cases q
theorem sd_alS (j : Nat) (hv' : ED X a fa) (hk : ED X b fb) (hN : X.N[j]? = some x := by rfl)
    (hv : Vis X.env.scope x := by first | exact Or.inl rfl | exact Or.inr (Or.inl rfl) | exact Or.inr (Or.inr rfl)) (hd : (x == ("__debug__" : Str)) = false := by decide) (hcd : (x == ("__classdict__" : Str)) = false := by decide)
    (hs : swapsWithSole [.Subscript (.Name x np) b tp] a pos.line X.env = pure false := by rfl) (hw : swappedStores [.Subscript (.Name x np) b tp] a X.env = pure none := by rfl)
    (h1 : (assignEach [.Subscript (.Name x np) b tp] X.env).map (·.2) = [assign (.Subscript (.Name x np) b tp) X.env] := by rfl)
    (hz : ∀ v, assign (.Subscript (.Name x np) b tp) X.env v = (do
      let ov ← holding [v] (eval (.Name x np) X.env)
      let iv ← holding [v, ov] (eval b X.env)
      standAt tp
      holding [v, ov, iv] (setItem ov iv v)
      release [v, ov, iv] []) := by intros; rfl) : SD X (.Assign [.Subscript (.Name x np) b tp] a pos) (s_alS j fa fb) := by
  obtain ⟨t, p, k⟩ := hv'
  obtain ⟨t2, p2, k2⟩ := hk
  refine ⟨_, ps_asg p (pg_sub (pe_var hN hv hd hcd) p2 set_list hz) hs hw h1, fun m E G0 G e σ H fl D R q P => ?_⟩
  unfold s_alS at q
  split at q
  · rename_i r e1 h1
    by_cases h0 : isOw e1[j]? = true
    · rw [if_pos h0] at q
      split at q
      · rename_i d kk e2 h2 h3
        split at q
        · rename_i i n ts ds h4
          split at q
          · rename_i l h5
            cases q
            refine k m E G0 G e σ H r e1 _ R.r h1 fun v G1 H1 R1 S1 V1 N1 => ?_
            obtain ⟨G2, R2, S2, s2, V2⟩ := R1.freeze S1 V1 N1
            rw [frz_im h2] at V2
            obtain ⟨a0, hσ⟩ := R2.owV h0
            refine ⟨.ref a0, hσ, ?_⟩
            refine k2 m E G0 G2 e1 σ H1 _ e2 _ R2 h3 fun u G3 H3 R3 S3 V3 N3 => ?_
            cases V3
            obtain ⟨p', q, vs, ws, b1, a1, b2, b3, c, hq, dq, nd, mq⟩ := R3.alAt h4
            rw [hσ] at a1
            cases a1
            obtain ⟨R4, S4⟩ := R3.alPut h4 b1 hσ b2 b3 c nd mq hq (dpAll_set l dq (dp_same S3.gg V2))
            exact ⟨a0, ws, kk, l, rfl, rfl, hq, by rw [dpAll_len dq]; exact h5, P G3 σ _ (S2.gg.trans S3.gg) (R.exp R4 (S2.trans (S3.trans S4)))⟩
          · cases q
        · cases q
      · cases q
    · rw [if_neg h0] at q
      cases q
  · cases q
theorem ed_alP (j : Nat) {apos : Pos} (ha : ED X a fa) (hN : X.N[j]? = some x := by rfl)
    (hv : Vis X.env.scope x := by first | exact Or.inl rfl | exact Or.inr (Or.inl rfl) | exact Or.inr (Or.inr rfl)) (hd : (x == ("__debug__" : Str)) = false := by decide) (hcd : (x == ("__classdict__" : Str)) = false := by decide)
    (hbase : attributeBase (.Name x np) "pop" X.env (eval (.Name x np) X.env) = eval (.Name x np) X.env := by rfl)
    (hfew : ((backTo pos (starEach [a] X.env)).all (fun x => !x.1) && (backToKw pos (keywordEach [] X.env)).all (fun x => x.1.isSome)
      && decide (([a] : List Expr).length + ([] : List Keyword).length + (if ([] : List Keyword).isEmpty then 0 else 1) < 30)) = true := by rfl)
    (hline : (apos.endLine == pos.line) = true := by rfl) (hs : starEach [a] X.env = (false, eval a X.env) :: starEach [] X.env := by rfl) (hplain : (backTo pos (starEach [] X.env)).any (·.1) = false := by rfl) :
    ED X (.Call (.Attribute (.Name x np) "pop" apos) [a] [] pos) (x_alP j fa) := by
  obtain ⟨t, p, k⟩ := ha
  refine ⟨_, pe_bm PySem.F.plainAttrs_list PySem.F.slot_list_pop PySem.F.type_list_pop mt_popAt (pe_var hN hv hd hcd) (pa_cons p pa_nil hs) hbase hfew hline hs hplain, fun m E G0 G e σ H r e' Q R q P => ?_⟩
  unfold x_alP at q
  by_cases h0 : (alD e j).isSome = true
  · rw [if_pos h0] at q
    obtain ⟨⟨i0, n0, ts0, ds0⟩, h0⟩ := Option.isSome_iff_exists.mp h0
    obtain ⟨_, q0, _, w0, _, hσ, _, _, _, hl, _⟩ := R.alAt h0
    refine ⟨.ref q0, hσ, .inl ⟨rfl, w0, .inl (.inl hl)⟩, ?_⟩
    split at q
    · rename_i kk e1 h1
      split at q
      · rename_i i n ts ds h2
        by_cases h3 : -(2 ^ 62) ≤ kk ∧ kk < 2 ^ 62
        · rw [if_pos h3] at q
          split at q
          · rename_i l h4
            split at q
            · rename_i d h5
              cases q
              refine k m E G0 G e σ H _ e1 _ R h1 fun v G1 H1 R1 S1 V1 N1 => ?_
              cases V1
              obtain ⟨p', q', vs, ws, b1, a1, b2, b3, c, hq, dq, nd, mq⟩ := R1.alAt h2
              rw [hσ] at a1
              cases a1
              obtain ⟨z, z1, z2⟩ := dpAll_get dq h5
              obtain ⟨R4, S4⟩ := R1.alPut h2 b1 hσ b2 b3 c nd mq hq (dpAll_out dq l)
              exact ⟨q0, ws, kk, l, z, rfl, rfl, hq, by omega, by omega, by rw [dpAll_len dq]; exact h4, z1, P z G1 _ R4 (S1.trans S4) z2 True.intro⟩
            · cases q
          · cases q
        · rw [if_neg h3] at q
          cases q
      · cases q
    · cases q
  · rw [if_neg h0] at q
    cases q
end
end DL
namespace DL
open PySem PySem.Spec PySem.W PyProof.Rows L2
/-- n data in; a new list of one's own lists out -/
def spNw (K : PySem.W.Frag) (n : Nat) (φ : List PyData → Option (List Ot)) : Sp := fun vs H Q _ => ∃ (G : Hp) (ds : List PyData) (ts : List Ot), Same G H ∧ DpAll K G vs ds ∧ vs.length = n ∧ φ ds = some ts ∧
  ∀ (p : Addr) G' H', Same G G' → Same G' H' → Same H H' → (∀ a, G a = none → H a ≠ none → G' a = none) → OwAt K G' H' p (.lst ts) → (owA (H' p) p (.lst ts)).Nodup → (∀ a ∈ owA (H' p) p (.lst ts), G' a = none ∧ H a = none) → Q (.ref p) H'
def itW (e : Ev) : Rs → Option Ot
  | .im d => some (.im d)
  | .ac ds => some (.ls ds)
  | .br i => match e[i]? with
    | some (some (.ac ds)) => some (.ls ds)
    | _ => none
def itsG (e : Ev) : List Rs → Option (List Ot)
  | [] => some []
  | r :: rs => match itW e r with
    | some t => (match itsG e rs with
      | some ts => some (t :: ts)
      | none => none)
    | none => none
def brL : List Rs → List Nat
  | [] => []
  | .br i :: rs => i :: brL rs
  | _ :: rs => brL rs
def acN : List Rs → Nat
  | [] => 0
  | .ac _ :: rs => acN rs + 1
  | _ :: rs => acN rs
def itsOk (rs : List Rs) : Bool := okLen rs.length && (decide (brL rs).Nodup && decide (acN rs ≤ 1))
structure SwD (X : Cx) (sts : List Stmt) (f : Ev → Option (List Ot)) : Prop where
  ex : ∃ t : TS, PSs X sts t ∧ ∀ (E : Ef) (G0 G : Hp) (e : Ev) (σ : St) (H : Hp) (ts : List Ot) (D : Ends),
    Rz X.K none E G0 G e σ H → f e = some ts → (∀ (p : Addr) G' H', Same G G' → Same G' H' → (∀ a o, E a = some o → H' a = some o) → (∀ a, G0 a = none → E a ≠ none → G' a = none) → OwAt X.K G' H' p (.lst ts) → (owA (H' p) p (.lst ts)).Nodup → (∀ a ∈ owA (H' p) p (.lst ts), G' a = none ∧ E a = none) → D.rt (.ref p) H') → t D σ H
def ow_cons (f : Fs) (g : Ev → Option (List Ot)) : Ev → Option (List Ot) := fun e => match f e with
  | some (.nx e1) => g e1
  | _ => none
def ow_ret (fa : Fa) : Ev → Option (List Ot) := fun e => match fa e with
  | some (rs, e1) => if itsOk rs = true then itsG e1 rs else none
  | none => none
section
variable {K : PySem.W.Frag} {E : Ef} {G0 G H : Hp} {e : Ev} {σ : St}
theorem owL_ls {q : Addr} {vs : List V} {ds : List PyData} {ts : List Ot} : owL (.ref q :: vs) (.ls ds :: ts) = q :: owL vs ts := rfl
theorem itsG_ok (R : Rl K none E G0 G e σ H) : ∀ {vs : List V} {rs : List Rs} {ts : List Ot}, VrAll K E G H σ e vs rs → itsG e rs = some ts → (brL rs).Nodup → acN rs ≤ 1 →
    OtAll K G H vs ts ∧ (owL vs ts).Nodup ∧ ∀ q ∈ owL vs ts, G q = none ∧ E q = none ∧ ((∃ i ∈ brL rs, ∃ ds, e[i]? = some (some (.ac ds)) ∧ σ[i]? = some (some (.ref q))) ∨ (acN rs ≠ 0 ∧ ¬ Own σ e H q))
  | [], [], ts, _, q, _, _ => by
    cases q
    exact ⟨.nil, List.nodup_nil, fun _ h => by cases h⟩
  | v :: vs, r :: rs, ts, h, q, nd, na => by
    simp only [itsG] at q
    cases h1 : itW e r with
    | none => simp only [h1] at q; cases q
    | some t =>
      cases h2 : itsG e rs with
      | none => simp only [h1, h2] at q; cases q
      | some ts2 =>
        simp only [h1, h2, Option.some.injEq] at q
        subst q
        cases r with
        | im d =>
          cases h1
          obtain ⟨a, b, c⟩ := itsG_ok R h.2 h2 nd na
          exact ⟨.im h.1 a, by rw [owL_im]; exact b, fun q hq => by
            rw [owL_im] at hq
            exact c q hq⟩
        | ac ds =>
          cases h1
          have na : acN rs + 1 ≤ 1 := na
          obtain ⟨a, b, c⟩ := itsG_ok R h.2 h2 nd (by omega)
          obtain ⟨p, ws, rfl, z1, z2, z3, z4, z5⟩ := h.1
          refine ⟨.ls z3 z4 a, ?_, fun q hq => ?_⟩
          · rw [owL_ls]
            refine List.nodup_cons.mpr ⟨fun hp => ?_, b⟩
            obtain ⟨_, _, c3⟩ := c p hp
            rcases c3 with ⟨i, _, ds', y1, y2⟩ | ⟨y, _⟩
            · exact z5 (.inl ⟨i, ds', y1, y2⟩)
            · omega
          · rw [owL_ls] at hq
            rcases List.mem_cons.mp hq with y | y
            · subst y
              exact ⟨z2, z1, .inr ⟨by show acN rs + 1 ≠ 0; omega, z5⟩⟩
            · obtain ⟨c1, c2, c3⟩ := c q y
              refine ⟨c1, c2, ?_⟩
              rcases c3 with y | y
              · exact .inl y
              · exact .inr ⟨by show acN rs + 1 ≠ 0; omega, y.2⟩
        | br i =>
          simp only [itW] at h1
          split at h1
          · rename_i ds h3
            cases h1
            have nd := List.nodup_cons.mp nd
            obtain ⟨a, b, c⟩ := itsG_ok R h.2 h2 nd.2 na
            obtain ⟨p, ws, z1, z2, z3, z4, z5⟩ := R.ac i ds h3
            have hv : σ[i]? = some (some v) := h.1
            rw [z1] at hv
            cases hv
            have z5 : E p = none := by
              rcases z5 with z5 | z5
              · exact z5
              · cases z5.1
            refine ⟨.ls z3 z4 a, ?_, fun q hq => ?_⟩
            · rw [owL_ls]
              refine List.nodup_cons.mpr ⟨fun hp => ?_, b⟩
              obtain ⟨_, _, c3⟩ := c p hp
              rcases c3 with ⟨j, hj, ds', y1, y2⟩ | ⟨_, y⟩
              · have := R.inj i j ds ds' p h3 y1 z1 y2
                exact nd.1 (by rw [this]; exact hj)
              · exact y (.inl ⟨i, ds, h3, z1⟩)
            · rw [owL_ls] at hq
              rcases List.mem_cons.mp hq with y | y
              · subst y
                exact ⟨z2, z5, .inl ⟨i, List.mem_cons_self, ds, h3, z1⟩⟩
              · obtain ⟨c1, c2, c3⟩ := c q y
                refine ⟨c1, c2, ?_⟩
                rcases c3 with ⟨j, hj, y⟩ | y
                · exact .inl ⟨j, List.mem_cons_of_mem _ hj, y⟩
                · exact .inr y
          · cases h1
  | [], _ :: _, _, h, _, _, _ => h.elim
  | _ :: _, [], _, h, _, _, _ => h.elim
theorem VrAll.len : ∀ {vs : List V} {rs : List Rs}, VrAll K E G H σ e vs rs → vs.length = rs.length
  | [], [], _ => rfl
  | _ :: _, _ :: _, h => congrArg (· + 1) (VrAll.len h.2)
  | [], _ :: _, h => h.elim
  | _ :: _, [], h => h.elim
end
section
variable {X : Cx} {st : Stmt} {rest : List Stmt} {es : List Expr} {f : Fs} {g : Ev → Option (List Ot)} {fa : Fa} {pos p1 : Pos}
theorem swd_cons (h : SD X st f) (h2 : SwD X rest g) : SwD X (st :: rest) (ow_cons f g) := by
  obtain ⟨t, p, k⟩ := h
  obtain ⟨t2, p2, k2⟩ := h2
  refine ⟨_, pss_cons p p2, fun E G0 G e σ H ts D R q P => ?_⟩
  unfold ow_cons at q
  split at q
  · rename_i e1 h1
    refine k none E G0 G e σ H _ _ R h1 ?_
    exact fun G' σ' H' s R' => k2 E G0 G' e1 σ' H' ts D R' q fun p G2 H2 s2 => P p G2 H2 (s.trans s2)
  · cases q
theorem swd_ret (h : AD X es fa) : SwD X [.Return (some (.List es p1)) pos] (ow_ret fa) := by
  obtain ⟨t, p, k⟩ := h
  refine ⟨_, pss_cons (ps_ret (pe_lst p)) pss_nil, fun E G0 G e σ H ts D R q P => ?_⟩
  unfold ow_ret at q
  split at q
  · rename_i rs e1 h1
    by_cases ok : itsOk rs = true
    · rw [if_pos ok] at q
      obtain ⟨o1, ok⟩ := Bool.and_eq_true_iff.mp ok
      obtain ⟨o2, o3⟩ := Bool.and_eq_true_iff.mp ok
      refine k none E G0 G e σ H rs e1 _ R.r h1 fun vs G1 H1 R1 S1 V1 => ?_
      obtain ⟨a, b, c⟩ := itsG_ok R1 V1 q (of_decide_eq_true o2) (of_decide_eq_true o3)
      refine ⟨by rw [V1.len]; exact okLen_ok o1, fun p hp => ?_⟩
      obtain ⟨f1, f2, f3, _⟩ := R1.fresh hp
      have np : p ∉ owL vs ts := fun y => a.full p y hp
      have at' : OwAt X.K G1 (upd H1 p (.lst vs)) p (.lst ts) := ⟨vs, upd_same, otAll_upd a np⟩
      have eq : owA (upd H1 p (.lst vs) p) p (.lst ts) = p :: owL vs ts := by rw [owA_of rfl, upd_same, owQ_lst]
      refine P p G1 (upd H1 p (.lst vs)) S1.gg (fun a o z => ?_) (fun a o z => ?_) R1.nw at' (by rw [eq]; exact List.nodup_cons.mpr ⟨np, b⟩) fun a ha => ?_
      · rw [upd_ne (ne_of_none z f1)]
        exact R1.gh a o z
      · rw [upd_ne (ne_of_none z f2)]
        exact R1.eh a o z (by simp)
      · rw [eq] at ha
        rcases List.mem_cons.mp ha with y | y
        · subst y
          exact ⟨f1, f2⟩
        · obtain ⟨c1, c2, _⟩ := c a y
          exact ⟨c1, c2⟩
    · rw [if_neg ok] at q
      cases q
  · cases q
end
def runNw (n nl : Nat) (g : Ev → Option (List Ot)) (ds : List PyData) : Option (List Ot) := if ds.length = n then g (env0 ds nl) else none
theorem runNw_len {n nl : Nat} {g : Ev → Option (List Ot)} : ∀ ds, (runNw n nl g ds).isSome = true → ds.length = n := fun ds h => by
  unfold runNw at h
  by_cases z : ds.length = n
  · exact z
  · rw [if_neg z] at h
    cases h
section
variable {P : Program} {w : World} {K : PySem.W.Frag} {mg : Str → Option Value} {base : Heap} {x qual : Str} {params : Arguments} {body : List Stmt} {scope : Scope} {dvs : List V} {kws : List (Str × V)} {f : Addr} {fd : FuncData} {N ps : List Str} {k n nl : Nat} {g : Ev → Option (List Ot)}
theorem fnNw (F : FunD K x qual params body scope dvs kws f fd) (S : FnScope N ps scope) (hp : ps.length = n) (hl : n + nl = N.length)
    (hb : ∀ (cdv : Value) (A : Around) (outer : List Env) (s : Shared) (H : Hp) (E : XK), Room k (A.deeper (envOfC qual scope s.heap.objs.size f cdv)) → SwD (cxOf CX0 P w K mg base N qual scope f cdv A outer s H E).nox body g) :
    FnOk P w K mg base CX0 (k + 1) f fd ps (spNw K n (runNw n nl g)) := by
  refine F.ok S (fun vs H Q E h => ?_) fun cdv A outer s H vs Q E hr h => ?_
  · obtain ⟨_, _, _, _, _, h, _⟩ := h
    rw [h, hp]
  · obtain ⟨t, pt, kt⟩ := hb cdv A outer s H E hr
    obtain ⟨G, ds, ts, s1, hd, hv, hr2, hQ⟩ := h
    refine ⟨t, pt.nox, ?_⟩
    have Rz0 : Rz K none (Ef.of H) G G (env0 ds nl) (L2.start N vs) H := rz_start s1 hd (by omega)
    unfold runNw at hr2
    rw [if_pos (by rw [← dpAll_len hd]; exact hv)] at hr2
    exact kt (Ef.of H) G G _ _ H _ _ Rz0 hr2 fun p G' H' a1 a2 a3 a4 a5 a6 a7 => hQ p G' H' a1 a2 a3 a4 a5 a6 a7
end
section
variable {K : PySem.W.Frag} {m : Option Addr} {E : Ef} {G0 G H : Hp} {e : Ev} {σ : St} {i : Nat} {p : Addr} {t : Ow}
theorem Rl.setW (R : Rl K m E G0 G e σ H) (n0 : 3 < i) (nal : noAl e = true) (na : t.isAl = false) (at' : OwAt K G H p t) (nd : (owA (H p) p t).Nodup) (new : ∀ a ∈ owA (H p) p t, G a = none ∧ E a = none ∧ ¬ Own σ e H a) : Rl K m E G0 G (e.set i (some (.ow t))) (σ.set i (some (.ref p))) H := by
  have hl := R.len
  have far : ∀ {x : Nat} {s : Sl}, (e.set i (some (.ow t)))[x]? = some (some s) → (i = x ∧ s = .ow t ∧ (σ.set i (some (V.ref p)))[x]? = some (some (.ref p))) ∨ (i ≠ x ∧ e[x]? = some (some s) ∧ (σ.set i (some (V.ref p)))[x]? = σ[x]?) := fun {x s} z => by
    rw [set_get] at z ⊢
    by_cases y : i = x ∧ x < e.length
    · rw [if_pos y] at z
      cases z
      exact .inl ⟨y.1, rfl, by rw [if_pos ⟨y.1, by omega⟩]⟩
    · rw [if_neg y] at z
      have xl : x < e.length := (List.getElem?_eq_some_iff.mp z).1
      exact .inr ⟨fun w => y ⟨w, xl⟩, z, if_neg (by omega)⟩
  have old : ∀ {x : Nat} {s : Sl}, (e.set i (some (.ow t)))[x]? = some (some s) → (∀ t, s ≠ .ow t) → e[x]? = some (some s) ∧ (σ.set i (some (V.ref p)))[x]? = σ[x]? := fun {x s} z ns => by
    rcases far z with ⟨_, y, _⟩ | ⟨_, y1, y2⟩
    · exact absurd y (ns _)
    · exact ⟨y1, y2⟩
  have own : ∀ a, OwnW (σ.set i (some (.ref p))) (e.set i (some (.ow t))) H a → a ∈ owA (H p) p t ∨ OwnW σ e H a := fun a ⟨x, u, p2, z1, z2, z3⟩ => by
    rcases far z1 with ⟨_, y, y2⟩ | ⟨_, y1, y2⟩
    · cases y
      rw [y2] at z2
      cases z2
      exact .inl z3
    · rw [y2] at z2
      exact .inr ⟨x, u, p2, y1, z2, z3⟩
  refine ⟨R.gg, R.gh, R.eh, R.mh, R.nw, by rw [List.length_set, List.length_set]; exact hl, fun x d z => ?_, fun x d z => ?_, fun x y dx dy p2 z1 z2 z3 z4 => ?_, fun x s z => ?_, ⟨fun x u z => ?_, fun a z => ?_, fun x y u w p2 q2 a z1 z2 z3 z4 z5 z6 => ?_, fun x i2 k2 q2 z1 z2 u p2 z3 z4 z5 => ?_, fun s u p2 z1 z2 z3 z4 => ?_⟩⟩
  · obtain ⟨y1, y2⟩ := old z fun _ w => by cases w
    rw [y2]
    exact R.im x d y1
  · obtain ⟨y1, y2⟩ := old z fun _ w => by cases w
    rw [y2]
    exact R.ac x d y1
  · obtain ⟨a1, a2⟩ := old z1 fun _ w => by cases w
    obtain ⟨c1, c2⟩ := old z2 fun _ w => by cases w
    rw [a2] at z3
    rw [c2] at z4
    exact R.inj x y dx dy p2 a1 c1 z3 z4
  · rcases far z with ⟨_, y, _⟩ | ⟨_, y1, y2⟩
    · subst y
      exact True.intro
    · rw [y2]
      exact R.ot x s y1
  · rcases far z with ⟨_, y, y2⟩ | ⟨_, y1, y2⟩
    · cases y
      exact ⟨p, y2, at', nd⟩
    · rw [y2]
      exact R.wl.at_ x u y1
  · have no : ¬ Own0 σ e a → ¬ Own0 (σ.set i (some (.ref p))) (e.set i (some (.ow t))) a := fun n ⟨x, dx, y1, y2⟩ => by
      obtain ⟨w1, w2⟩ := old y1 fun _ w => by cases w
      rw [w2] at y2
      exact n ⟨x, dx, w1, y2⟩
    rcases own a z with y | y
    · obtain ⟨y1, y2, y3⟩ := new a y
      exact ⟨y1, at'.full a y, no fun w => y3 (.inl w), .inl y2⟩
    · obtain ⟨o1, o2, o3, o4⟩ := R.wl.out a y
      exact ⟨o1, o2, no o3, o4⟩
  · rcases far z1 with ⟨x1, x2, x3⟩ | ⟨_, a1, a2⟩
    · rcases far z2 with ⟨y1, y2, y3⟩ | ⟨_, c1, c2⟩
      · rw [← x1, ← y1]
      · cases x2
        rw [x3] at z3
        cases z3
        rw [c2] at z4
        exact ((new a z5).2.2 (.inr ⟨y, w, q2, c1, z4, z6⟩)).elim
    · rcases far z2 with ⟨y1, y2, y3⟩ | ⟨_, c1, c2⟩
      · cases y2
        rw [y3] at z4
        cases z4
        rw [a2] at z3
        exact ((new a z6).2.2 (.inr ⟨x, u, p2, a1, z3, z5⟩)).elim
      · rw [a2] at z3
        rw [c2] at z4
        exact R.wl.one x y u w p2 q2 a a1 c1 z3 z4 z5 z6
  · rcases far z1 with ⟨_, y, _⟩ | ⟨_, y1, _⟩
    · injection y with y
      rw [← y] at na
      cases na
    · have := noAl_at nal y1
      cases this
  · rcases far z2 with ⟨y, _, _⟩ | ⟨_, y1, y2⟩
    · exact absurd (Nat.min_le_right E.b.i 3) (by omega)
    · rw [y2] at z4
      exact R.wl.pin s u p2 z1 y1 z3 z4
end
def s_callNw (φ : List PyData → Option (List Ot)) (i : Nat) (fa : Fa) : Fs := fun e => match argsI fa e with
  | some (ds, e1) => if (noAl e1 && (okS [i] e1 && decide (3 < i))) = true then (match φ ds with
    | some ts => some (.nx (e1.set i (some (.ow (.lst ts)))))
    | none => none) else none
  | none => none
section
variable {X : Cx} {a : Expr} {es : List Expr} {fa : Fa} {p pos pos' spos : Pos} {x y : Str} {j k n : Nat}
theorem sd_callNw {φ : List PyData → Option (List Ot)} (i : Nat) (hNd : X.N.Nodup) (F : Kf X.prog X.w X.K X.mg X.base k x (spNw X.K n φ) []) (hr : Room j X.A) (hk : k ≤ j) (hn : ∀ ds, (φ ds).isSome = true → ds.length = n) (h : AD X (a :: es) fa) (hg : Gl X x := by rfl)
    (hdb : (x == ("__debug__" : Str)) = false := by decide) (he : starEach (a :: es) X.env = (false, eval a X.env) :: starEach es X.env := by rfl) (hpl : (backTo pos (starEach es X.env)).any (·.1) = false := by rfl)
    (hi : X.N[i]? = some y := by rfl) (hx : Loc X.env.scope y := by first | exact .inl rfl | exact .inr rfl) (hs : swapsWith (.Call (.Name x p) (a :: es) [] pos) (some (.Name y pos')) spos.line X.env = pure false := by rfl) (hf : X.fn y = true ∨ X.env.scope.names.lookup y = some .local := by first | exact .inl rfl | exact .inr rfl | assumption) :
    SD X (.Assign [.Name y pos'] (.Call (.Name x p) (a :: es) [] pos) spos) (s_callNw φ i fa) := by
  obtain ⟨f, fd, ps, ds, F, hm, kp, hb, hv⟩ := F
  obtain ⟨t, pa, kk⟩ := h
  refine ⟨_, ps_set hNd hi hx (pe_call F (hr.mono hk) hg hm kp hb hv (E := E0) (fun _ _ _ _ _ _ _ z => z.elim) pa hdb he hpl) hs hf, fun m E G0 G e σ H fl D R q P => ?_⟩
  unfold s_callNw at q
  cases h1 : argsI fa e with
  | none => simp only [h1] at q; cases q
  | some z =>
    obtain ⟨ds', e1⟩ := z
    simp only [h1] at q
    by_cases h2 : (noAl e1 && (okS [i] e1 && decide (3 < i))) = true
    · rw [if_pos h2] at q
      obtain ⟨nal, h2⟩ := Bool.and_eq_true_iff.mp h2
      obtain ⟨ok, n0⟩ := Bool.and_eq_true_iff.mp h2
      have n0 := of_decide_eq_true n0
      split at q
      · rename_i ts h3
        cases q
        obtain ⟨rs, q1, q2⟩ := argsI_ok h1
        refine kk m E G0 G e σ H rs e1 _ R.r q1 fun vs G1 H1 R1 S1 V1 => ?_
        have D1 := vr_imAll V1 q2
        refine ⟨G1, ds', ts, R1.gh, by rw [List.append_nil]; exact D1, ?_, h3, fun p0 G' H' s1 s2 s3 nw at' nd new => ?_⟩
        · rw [List.append_nil, dpAll_len D1]
          exact hn _ (by rw [h3]; rfl)
        · obtain ⟨R2, S2⟩ := R1.called s1 s2 s3 nw
          have R3 := R2.setW (i := i) (p := p0) (t := .lst ts) n0 nal rfl at' nd fun a ha => by
            obtain ⟨w1, w2⟩ := new a ha
            obtain ⟨f1, f2, f3, f4⟩ := R1.fresh w2
            refine ⟨w1, f2, fun y => ?_⟩
            rcases y with y | y
            · exact f3 (.inl y)
            · exact f3 (.inr ((R1.wl.keep0 (H' := H') s1 (fun a w z => nw a z (R1.wl.out a w).2.1) (fun a o z _ => s3 a o z)).2 a y))
          exact P G' _ H' (S1.gg.trans S2.gg) ⟨R3, fun a z => by
            have R' := R.exp R2 (S1.trans S2)
            obtain ⟨z1, z2⟩ := R'.z a z
            have n : i ≠ 0 := by omega
            rw [List.getElem?_set_ne n, List.getElem?_set_ne n]
            exact ⟨z1, z2⟩⟩
      · cases q
    · rw [if_neg h2] at q
      cases q
end
end DL
namespace DL
open L2 PySem PySem.Spec PySem.W PyProof.Rows
section
variable {ρ : Type} {n nl : Nat} {g : Fs} {ds : List PyData}
def rtW (enc : ρ → PyData) (r : ρ × List Ot) (r' : Rs) (e : Ev) : Prop := r' = .im (enc r.1) ∧ ∃ rest, e = some (.ow (.lst r.2)) :: rest
theorem t_fnW {enc : ρ → PyData} {p : List Ot} {r : ρ × List Ot} (hl : ds.length = n) (h : wS g (envW (.lst p) ds nl) (RK (rtW enc) r)) : runW n nl g (.lst p) ds = some (enc r.1, .lst r.2) := by
  obtain ⟨fl, h1, h2⟩ := h
  unfold runW
  rw [if_pos hl, h1]
  cases fl with
  | nx e =>
    obtain ⟨h3, rest, h4⟩ := h2
    injection h3 with h3
    subst h4
    rw [← h3]
    rfl
  | bk e => exact h2.elim
  | ct e => exact h2.elim
  | rt r e =>
    obtain ⟨h3, rest, h4⟩ := h2
    subst h3
    subst h4
    rfl
end
section
variable {e e1 e2 : Ev} {i j k : Nat} {d : PyData} {ds : List PyData} {o : Option PyData} {x y : Fe} {Q : Fl → Prop} {fa : Fa}
theorem na_nil : noAl [] = true := rfl
theorem na_none (h : noAl e = true) : noAl (none :: e) = true := h
theorem na_im (h : noAl e = true) : noAl (some (.im d) :: e) = true := h
theorem na_imo (h : noAl e = true) : noAl (imo o :: e) = true := by cases o <;> exact h
theorem na_ac (h : noAl e = true) : noAl (some (.ac ds) :: e) = true := h
theorem na_ow {p : List Ot} (h : noAl e = true) : noAl (some (.ow (.lst p)) :: e) = true := h
theorem wI {φ : Ow → List PyData → Option (PyData × Ow)} {t0 t t' : Ow} (h0 : e[i]? = some (some (.ow t0))) (ha : argsI fa e = some (ds, e1)) (na : noAl e1 = true) (hi : e1[i]? = some (some (.ow t))) (h : φ t ds = some (d, t')) : x_callW φ i fa e = some (.im d, e1.set i (some (.ow t'))) := by
  unfold x_callW
  rw [h0]
  simp only [isOw, if_true, ha, na, hi, h]
theorem t_callN {φ : List PyData → Option (List Ot)} {ts : List Ot} (h : φ ds = some ts) (ha : argsI fa e = some (ds, e1)) (na : noAl e1 = true) (ok : okS [i] e1 = true) (n0 : decide (3 < i) = true) (k : Q (.nx (e1.set i (some (.ow (.lst ts)))))) : wS (s_callNw φ i fa) e Q := by
  refine ⟨_, ?_, k⟩
  unfold s_callNw
  simp only [ha, na, ok, n0, h, Bool.and_self, if_true]
theorem owI {ts : List Ot} {z : Int} (h0 : isOw e[i]? = true) (hb : y e = some (.im (.int z), e1)) (h2 : e1[i]? = some (some (.ow (.lst ts)))) (h3 : ixN ts.length z = some j) (h4 : ts[j]? = some (.im d)) : x_owI i y e = some (.im d, e1) := by
  unfold x_owI
  rw [if_pos h0]
  simp only [hb, h2, h3, h4]
theorem w_owS {ts : List Ot} {z : Int} {r : Rs} {d0 : PyData} (h1 : x e = some (r, e1)) (hd : imR (frzR r) = some d) (h0 : isOw e1[i]? = true) (hb : y e1 = some (.im (.int z), e2)) (h2 : e2[i]? = some (some (.ow (.lst ts)))) (h3 : ixN ts.length z = some j) (h4 : ts[j]? = some (.im d0)) (q : Q (.nx (e2.set i (some (.ow (.lst (ts.set j (.im d)))))))) : wS (s_owS i x y) e Q := by
  refine ⟨_, ?_, q⟩
  unfold s_owS
  simp only [h1, h0, if_true, hd, hb, h2, h3, h4]
theorem w_al {ts : List Ot} (n : decide (i ≠ j) = true) (ok : okS [j] e = true) (h2 : e[i]? = some (some (.ow (.lst ts)))) (h3 : ts[k]? = some (.ls ds)) (q : Q (.nx (e.set j (some (.ow (.al i k)))))) : wS (s_al j i k) e Q := by
  refine ⟨_, ?_, q⟩
  unfold s_al
  simp only [n, ok, h2, h3, Bool.and_self, if_true]
theorem alD_of {ts : List Ot} (h1 : e[j]? = some (some (.ow (.al i k)))) (h2 : e[i]? = some (some (.ow (.lst ts)))) (h3 : ts[k]? = some (.ls ds)) : alD e j = some (i, k, ts, ds) := by
  unfold alD
  simp only [h1, h2, h3]
theorem w_alS {ts : List Ot} {z : Int} {r : Rs} {l m : Nat} (h1 : x e = some (r, e1)) (hd : imR (frzR r) = some d) (h0 : isOw e1[j]? = true) (hb : y e1 = some (.im (.int z), e2)) (h2 : alD e2 j = some (i, k, ts, ds)) (h3 : ixN ds.length z = some l) (q : Q (.nx (e2.set i (some (.ow (.lst (ts.set k (.ls (ds.set l d))))))))) : wS (s_alS j x y) e Q := by
  refine ⟨_, ?_, q⟩
  unfold s_alS
  simp only [h1, h0, if_true, hd, hb, h2, h3]
theorem alP {ts : List Ot} {z : Int} {l : Nat} (h0 : (alD e j).isSome = true) (hb : y e = some (.im (.int z), e1)) (h2 : alD e1 j = some (i, k, ts, ds)) (b : -(2 ^ 62) ≤ z ∧ z < 2 ^ 62) (h3 : seqIndex? z ds.length = some l) (h4 : ds[l]? = some d) : x_alP j y e = some (.im d, e1.set i (some (.ow (.lst (ts.set k (.ls (ds.eraseIdx l))))))) := by
  unfold x_alP
  rw [if_pos h0]
  simp only [hb, h2]
  rw [if_pos b]
  simp only [h3, h4]
/-- a second name told -/
theorem vB2 {t : Ow} (h : e[i]? = some (some (.ow t))) : x_var i e = some (.br i, e) := by
  rw [r_x_var, h]
end
open Classical in
noncomputable def chW {ρ : Type} (enc : ρ → PyData) (o : Option (PyData × Ow)) : Option (ρ × List Ot) := if h : ∃ r : ρ × List Ot, o = some (enc r.1, .lst r.2) then some (Classical.choose h) else none
theorem chW_ok {ρ : Type} {enc : ρ → PyData} {o : Option (PyData × Ow)} {r : ρ × List Ot} (h : chW enc o = some r) : o = some (enc r.1, .lst r.2) := by
  unfold chW at h
  by_cases z : ∃ r : ρ × List Ot, o = some (enc r.1, .lst r.2)
  · rw [dif_pos z] at h
    cases h
    exact Classical.choose_spec z
  · rw [dif_neg z] at h
    cases h
theorem chW_of {ρ : Type} {enc : ρ → PyData} (inj : ∀ a b, enc a = enc b → a = b) {o : Option (PyData × Ow)} {r : ρ × List Ot} (h : o = some (enc r.1, .lst r.2)) : chW enc o = some r := by
  have z : ∃ r : ρ × List Ot, o = some (enc r.1, .lst r.2) := ⟨r, h⟩
  unfold chW
  rw [dif_pos z]
  have c := h.symm.trans (Classical.choose_spec z)
  injection c with c
  injection c with c1 c2
  injection c2 with c2
  rw [show Classical.choose z = r from Prod.ext (inj _ _ c1).symm c2.symm]
end DL
namespace DL
open PySem PySem.Spec PySem.W PyProof.Rows L2
def b_cons (fa : Fe) (fr : Fa) : Fa := fun e => match fa e with
  | some (r, e1) => (match fr e1 with
    | some (rs, e2) => some (r :: rs, e2)
    | none => none)
  | none => none
section
variable {X : Cx} {a : Expr} {es : List Expr} {fa : Fe} {fr : Fa}
theorem bd_cons (ha : ED X a fa) (hr : AD X es fr) (hs : starEach (a :: es) X.env = (false, eval a X.env) :: starEach es X.env := by rfl) : AD X (a :: es) (b_cons fa fr) := by
  obtain ⟨t, p, k⟩ := ha
  obtain ⟨t2, p2, k2⟩ := hr
  refine ⟨_, pa_cons p p2 hs, fun m E G0 G e σ H rs e' Q R q P => ?_⟩
  unfold b_cons at q
  cases h1 : fa e with
  | none => simp only [h1] at q; cases q
  | some z =>
    obtain ⟨r, e1⟩ := z
    simp only [h1] at q
    cases h2 : fr e1 with
    | none => simp only [h2] at q; cases q
    | some z2 =>
      obtain ⟨rs2, e2⟩ := z2
      simp only [h2, Option.some.injEq, Prod.mk.injEq] at q
      obtain ⟨rfl, rfl⟩ := q
      refine k m E G0 G e σ H r e1 _ R h1 fun v G1 H1 R1 S1 V1 N1 => ?_
      refine k2 m E G0 G1 e1 σ H1 rs2 e2 _ R1 h2 fun vs G2 H2 R2 S2 V2 => ?_
      exact P (v :: vs) G2 H2 R2 (S1.trans S2) ⟨V1.stp S2, V2⟩
end
theorem bcX {f : Fe} {fa : Fa} {e e1 e2 : Ev} {r : Rs} {rs : List Rs} (h : f e = some (r, e1)) (k : fa e1 = some (rs, e2)) : b_cons f fa e = some (r :: rs, e2) := by
  unfold b_cons
  rw [h]
  dsimp only
  rw [k]
end DL
namespace DL
open PySem PySem.Spec PySem.W PyProof.Rows L2
/-- k data, one's own thing, and further data in (n data in all); data and the thing out -/
def spWk (K : PySem.W.Frag) (k n : Nat) (φ : Ow → List PyData → Option (PyData × Ow)) : Sp := fun vs H Q _ => ∃ (G : Hp) (p : Addr) (us us2 : List V) (t : Ow) (ds ds2 : List PyData) (d : PyData) (t' : Ow), Same G H ∧ vs = us ++ .ref p :: us2 ∧ OwAt K G H p t ∧ t.isAl = false ∧ (owA (H p) p t).Nodup ∧ (∀ a ∈ owA (H p) p t, G a = none) ∧ DpAll K G us ds ∧ DpAll K G us2 ds2 ∧ us.length = k ∧ us.length + us2.length = n ∧ φ t (ds ++ ds2) = some (d, t') ∧
  ∀ v G' H', TurnW K G H G' H' p t t' → Dp K G' v d → Q v H'
def x_callWk (φ : Ow → List PyData → Option (PyData × Ow)) (k : Nat) (fa : Fa) : Fe := fun e => match fa e with
  | some (rs, e1) => if noAl e1 = true then (match rs[k]? with
    | some (.br i) => (match e1[i]? with
      | some (some (.ow t)) => (match imAll (rs.take k), imAll (rs.drop (k + 1)) with
        | some ds, some ds2 => (match φ t (ds ++ ds2) with
          | some (d, t') => some (.im d, e1.set i (some (.ow t')))
          | none => none)
        | _, _ => none)
      | _ => none)
    | _ => none) else none
  | none => none
theorem vrAll_split {K : PySem.W.Frag} {E : Ef} {G H : Hp} {σ : St} {e : Ev} {r : Rs} : ∀ {vs : List V} {rs : List Rs} {k : Nat}, VrAll K E G H σ e vs rs → rs[k]? = some r → ∃ us v us2, vs = us ++ v :: us2 ∧ VrAll K E G H σ e us (rs.take k) ∧ Vr K E G H σ e v r ∧ VrAll K E G H σ e us2 (rs.drop (k + 1)) ∧ us.length = k
  | [], [], _, _, z => by simp at z
  | [], _ :: _, _, h, _ => h.elim
  | _ :: _, [], _, h, _ => h.elim
  | v :: vs, r0 :: rs, 0, h, z => by
    cases z
    exact ⟨[], v, vs, rfl, True.intro, h.1, h.2, rfl⟩
  | v :: vs, r0 :: rs, k + 1, h, z => by
    obtain ⟨us, w, us2, a, b, c, d, l⟩ := vrAll_split (k := k) h.2 (by simpa using z)
    exact ⟨v :: us, w, us2, by rw [a]; rfl, ⟨h.1, b⟩, c, d, congrArg (· + 1) l⟩
section
variable {X : Cx} {es : List Expr} {fa : Fa} {p pos : Pos} {x : Str} {j k b n : Nat} {a : Expr}
theorem ed_callWk {φ : Ow → List PyData → Option (PyData × Ow)} (F : Kf X.prog X.w X.K X.mg X.base b x (spWk X.K k n φ) []) (hr : Room j X.A) (hk : b ≤ j) (hn : ∀ t ds, (φ t ds).isSome = true → ds.length = n) (h : AD X (a :: es) fa) (hg : Gl X x := by rfl)
    (hdb : (x == ("__debug__" : Str)) = false := by decide) (he : starEach (a :: es) X.env = (false, eval a X.env) :: starEach es X.env := by rfl) (hpl : (backTo pos (starEach es X.env)).any (·.1) = false := by rfl) :
    ED X (.Call (.Name x p) (a :: es) [] pos) (x_callWk φ k fa) := by
  obtain ⟨f, fd, ps, ds, F, hm, kp, hb, hv⟩ := F
  obtain ⟨t, pa, kk⟩ := h
  refine ⟨_, pe_call F (hr.mono hk) hg hm kp hb hv (E := E0) (fun _ _ _ _ _ _ _ z => z.elim) pa hdb he hpl, fun m E G0 G e σ H r e' Q R q P => ?_⟩
  unfold x_callWk at q
  split at q
  · rename_i rs e1 h1
    by_cases na : noAl e1 = true
    · rw [if_pos na] at q
      split at q
      · rename_i i h2
        split at q
        · rename_i th h3
          split at q
          · rename_i ds1 ds2 h5 h6
            split at q
            · rename_i d t' h4
              cases q
              refine kk m E G0 G e σ H rs e1 _ R h1 fun vs G1 H1 R1 S1 V1 => ?_
              obtain ⟨us, v0, us2, rfl, V2, V3, V4, hl⟩ := vrAll_split V1 h2
              have D1 := vr_imAll V2 h5
              have D2 := vr_imAll V4 h6
              obtain ⟨p0, z1, z2, z3⟩ := R1.wl.at_ i th h3
              have V3 : σ[i]? = some (some v0) := V3
              rw [z1] at V3
              cases V3
              have nt := noAl_at na h3
              have ln := hn th (ds1 ++ ds2) (by rw [h4]; rfl)
              rw [List.length_append] at ln
              refine ⟨G1, p0, us, us2 ++ [], th, ds1, ds2, d, t', R1.gh, by rw [List.append_nil, List.append_nil], z2, nt, z3, fun y hy => (R1.wl.out y ⟨i, th, p0, h3, z1, hy⟩).1, D1, by rw [List.append_nil]; exact D2, hl, ?_, h4, fun v G' H' T D => ?_⟩
              · rw [List.append_nil, dpAll_len D1, dpAll_len D2]
                exact ln
              · obtain ⟨R2, S2⟩ := R1.turnW h3 z1 nt T (fun j k y => by
                  have := noAl_at na y
                  cases this)
                exact P v G' H' R2 (S1.trans S2) D True.intro
            · cases q
          · cases q
        · cases q
      · cases q
    · rw [if_neg na] at q
      cases q
  · cases q
end
end DL
namespace DL
open PySem PySem.Spec PySem.W PyProof.Rows L2
def envWk (t : Ow) (ds ds2 : List PyData) (nl : Nat) : Ev := ds.map (fun d => some (Sl.im d)) ++ some (.ow t) :: env0 ds2 nl
def ownTk (k : Nat) (e : Ev) (d : PyData) : Option (PyData × Ow) := match e[k]? with
  | some (some (.ow t)) => if t.isAl = true then none else some (d, t)
  | _ => none
def runWk (k n nl : Nat) (g : Fs) (t : Ow) (ds : List PyData) : Option (PyData × Ow) := if ds.length = n then (match g (envWk t (ds.take k) (ds.drop k) nl) with
  | some (.rt (.im d) e) => ownTk k e d
  | some (.nx e) => ownTk k e .none
  | _ => none) else none
theorem runWk_len {k n nl : Nat} {g : Fs} : ∀ t ds, (runWk k n nl g t ds).isSome = true → ds.length = n := fun t ds h => by
  unfold runWk at h
  by_cases z : ds.length = n
  · exact z
  · rw [if_neg z] at h
    cases h
section
variable {K : PySem.W.Frag} {G H : Hp} {us us2 : List V} {ds ds2 : List PyData} {nl k : Nat} {t : Ow} {p : Addr}
theorem envWk_at {i : Nat} {s : Sl} (h : (envWk t ds ds2 nl)[i]? = some (some s)) : (i = ds.length ∧ s = .ow t) ∨ (i < ds.length ∧ ∃ d, ds[i]? = some d ∧ s = .im d) ∨ (ds.length < i ∧ ∃ d, ds2[i - ds.length - 1]? = some d ∧ s = .im d) := by
  unfold envWk at h
  by_cases hi : i < ds.length
  · rw [List.getElem?_append_left (by rw [List.length_map]; exact hi), List.getElem?_map] at h
    cases z : ds[i]? with
    | none =>
      rw [z] at h
      cases h
    | some d =>
      rw [z] at h
      cases h
      exact .inr (.inl ⟨hi, d, rfl, rfl⟩)
  · rw [List.getElem?_append_right (by rw [List.length_map]; omega), List.length_map] at h
    cases y : i - ds.length with
    | zero =>
      rw [y] at h
      cases h
      exact .inl ⟨by omega, rfl⟩
    | succ i' =>
      rw [y] at h
      obtain ⟨d', z1, z2⟩ := env0_at (i := i') (by simpa using h)
      exact .inr (.inr ⟨by omega, d', by rw [show i' + 1 - 1 = i' by omega]; exact z1, z2⟩)
def Ef.ofWk (H : Hp) (p : Addr) (A : List Addr) (k : Nat) : Ef := ⟨fun a => if a ∈ A then none else H a, ⟨fun a => if a ∈ A then none else H a, some p, A, k⟩, fun _ _ z => z⟩
theorem rz_startWk {N : List Str} (s : Same G H) (ha : OwAt K G H p t) (na : t.isAl = false) (nd : (owA (H p) p t).Nodup) (hg : ∀ a ∈ owA (H p) p t, G a = none) (q : DpAll K G us ds) (q2 : DpAll K G us2 ds2) (hk : us.length = k) (k3 : k ≤ 3) (hl : us.length + us2.length + 1 + nl = N.length) : Rz K none (Ef.ofWk H p (owA (H p) p t) k) G G (envWk t ds ds2 nl) (L2.start N (us ++ .ref p :: us2)) H := by
  have dl := dpAll_len q
  have dl2 := dpAll_len q2
  have z0 : (L2.start N (us ++ V.ref p :: us2))[k]? = some (some (.ref p)) := st_at (by
    rw [List.getElem?_append_right (by omega), hk, Nat.sub_self]
    rfl)
  have im0 : ∀ {i : Nat} {d : PyData}, (envWk t ds ds2 nl)[i]? = some (some (.im d)) → ∃ v, (us ++ V.ref p :: us2)[i]? = some v ∧ Dp K G v d := fun {i d} z => by
    rcases envWk_at z with ⟨_, y⟩ | ⟨y, d', z1, z2⟩ | ⟨y, d', z1, z2⟩
    · cases y
    · cases z2
      obtain ⟨v, z3, z4⟩ := dpAll_get q z1
      exact ⟨v, by rw [List.getElem?_append_left (by omega)]; exact z3, z4⟩
    · cases z2
      obtain ⟨v, z3, z4⟩ := dpAll_get q2 z1
      refine ⟨v, ?_, z4⟩
      rw [List.getElem?_append_right (by omega), show i - us.length = (i - ds.length - 1) + 1 by omega]
      exact z3
  have in0 : ∀ {i : Nat} {s : Sl}, (envWk t ds ds2 nl)[i]? = some (some s) → (i = k ∧ s = .ow t) ∨ ∃ d, s = .im d := fun {i s} z => by
    rcases envWk_at z with ⟨y1, y⟩ | ⟨_, d', _, z2⟩ | ⟨_, d', _, z2⟩
    · exact .inl ⟨by omega, y⟩
    · exact .inr ⟨d', z2⟩
    · exact .inr ⟨d', z2⟩
  have no0 : ∀ {i : Nat} {d : List PyData}, (envWk t ds ds2 nl)[i]? = some (some (.ac d)) → False := fun {i d} z => by
    rcases in0 z with ⟨_, y⟩ | ⟨_, y⟩ <;> cases y
  have w0 : ∀ {i : Nat} {u : Ow}, (envWk t ds ds2 nl)[i]? = some (some (.ow u)) → i = k ∧ u = t := fun {i u} z => by
    rcases in0 z with ⟨y1, y⟩ | ⟨_, y⟩
    · cases y
      exact ⟨y1, rfl⟩
    · cases y
  refine ⟨⟨Same.refl _, s, fun a o z _ => ?_, fun a z => by (cases z), fun a z _ => z, ?_, fun i d z => ?_, fun i d z => (no0 z).elim, fun i j di dj p' z1 z2 => (no0 z1).elim, fun i dss z => ?_, ⟨fun i u z => ?_, fun a z => ?_, fun i j u w q1 q2 a z1 z2 _ _ _ _ => ?_, fun j i k q z1 => ?_, fun s' u q z1 z2 z3 z4 => ?_⟩⟩, fun p' z => by cases z⟩
  · have z : (if a ∈ owA (H p) p t then none else H a) = some o := z
    by_cases y : a ∈ owA (H p) p t
    · rw [if_pos y] at z
      cases z
    · rw [if_neg y] at z
      exact z
  · unfold envWk env0 L2.start
    simp only [List.length_append, List.length_map, List.length_replicate, List.length_cons]
    omega
  · obtain ⟨v, z3, z4⟩ := im0 z
    exact ⟨v, st_at z3, z4⟩
  · rcases in0 z with ⟨_, y⟩ | ⟨_, y⟩ <;> subst y <;> exact True.intro
  · obtain ⟨rfl, rfl⟩ := w0 z
    exact ⟨p, z0, ha, nd⟩
  · obtain ⟨i, u, q1, z1, z2, z3⟩ := z
    obtain ⟨rfl, rfl⟩ := w0 z1
    rw [z0] at z2
    cases z2
    refine ⟨hg a z3, ha.full a z3, fun ⟨j, dj, y1, _⟩ => no0 y1, .inl ?_⟩
    show (if a ∈ owA (H p) p u then none else H a) = none
    rw [if_pos z3]
  · rw [(w0 z1).1, (w0 z2).1]
  · obtain ⟨_, y⟩ := w0 z1
    rw [← y] at na
    cases na
  · have y2 : (envWk t ds ds2 nl)[min k 3]? = some (some (.ow u)) := z2
    have y4 : (L2.start N (us ++ V.ref p :: us2))[min k 3]? = some (some (.ref q)) := z4
    rw [Nat.min_eq_left k3] at y2 y4
    have e := (w0 y2).2
    rw [z0] at y4
    cases y4
    cases z1
    rw [e]
    exact ⟨rfl, fun a ha => ha⟩
end
section
variable {P : Program} {w : World} {K : PySem.W.Frag} {mg : Str → Option Value} {base : Heap} {x qual : Str} {params : Arguments} {body : List Stmt} {scope : Scope} {dvs : List V} {kws : List (Str × V)} {f : Addr} {fd : FuncData} {N ps : List Str} {b k n nl : Nat} {g : Fs}
theorem fnWk (F : FunD K x qual params body scope dvs kws f fd) (S : FnScope N ps scope) (hp : ps.length = n + 1) (k3 : k ≤ 3) (hl : n + 1 + nl = N.length)
    (hb : ∀ (cdv : Value) (A : Around) (outer : List Env) (s : Shared) (H : Hp) (E : XK), Room b (A.deeper (envOfC qual scope s.heap.objs.size f cdv)) → SsD (cxOf CX0 P w K mg base N qual scope f cdv A outer s H E).nox body g) :
    FnOk P w K mg base CX0 (b + 1) f fd ps (spWk K k n (runWk k n nl g)) := by
  refine F.ok S (fun vs H Q E h => ?_) fun cdv A outer s H vs Q E hr h => ?_
  · obtain ⟨_, _, us, us2, _, _, _, _, _, _, h, _, _, _, _, _, _, _, h2, _⟩ := h
    rw [h, List.length_append, List.length_cons, hp]
    omega
  · obtain ⟨t, pt, kt⟩ := hb cdv A outer s H E hr
    obtain ⟨G, p, us, us2, th, ds, ds2, d, t', s1, rfl, h1, h2, h3, h4, h5, h55, hk, h6, h7, hQ⟩ := h
    refine ⟨t, pt.nox, ?_⟩
    have dl := dpAll_len h5
    have dl2 := dpAll_len h55
    have Rz0 := rz_startWk (N := N) (nl := nl) s1 h1 h2 h3 h4 h5 h55 hk k3 (by omega)
    unfold runWk at h7
    rw [if_pos (by rw [List.length_append]; omega), List.take_left' (by omega), List.drop_left' (by omega)] at h7
    have fin : ∀ {v : V} {G' : Hp} {σ' : St} {H' : Hp} {e' : Ev} {r' : PyData}, Same G G' → Rz K none (Ef.ofWk H p (owA (H p) p th) k) G G' e' σ' H' → ownTk k e' r' = some (d, t') → Dp K G' v r' → Q v H' := fun {v G' σ' H' e' r'} s2 R' oc vf => by
      unfold ownTk at oc
      split at oc
      · rename_i c2 z
        split at oc
        · cases oc
        · rename_i nt
          cases oc
          have nt : t'.isAl = false := by simpa using nt
          obtain ⟨p', z1, z2, z3⟩ := R'.r.wl.at_ k t' z
          obtain ⟨e1, e2⟩ := R'.r.wl.pin p t' p' rfl (by show e'[min k 3]? = _; rw [Nat.min_eq_left k3]; exact z) nt (by show σ'[min k 3]? = _; rw [Nat.min_eq_left k3]; exact z1)
          subst e1
          have kp : ∀ a ∈ owA (H p') p' th, a ∈ owA (H' p') p' t' := e2
          have out := fun a (ha : a ∈ owA (H' p') p' t') => R'.r.wl.out a ⟨k, t', p', z, z1, ha⟩
          refine hQ v G' H' ⟨s2, R'.r.gh, fun a o q ne => R'.r.eh a o (by show (if a ∈ owA (H p') p' th then none else H a) = some o; rw [if_neg ne]; exact q) (by simp), fun a q1 q2 => ?_, z2, z3, nt, fun a ha => ⟨?_, (out a ha).2.1, (out a ha).1⟩, fun a ha => (out a (kp a ha)).2.1, kp⟩ vf
          · by_cases y : a ∈ owA (H p') p' th
            · exact (out a (kp a y)).1
            · refine R'.r.nw a q1 ?_
              show (if a ∈ owA (H p') p' th then none else H a) ≠ none
              rw [if_neg y]
              exact q2
          · by_cases y : a ∈ owA (H p') p' th
            · exact .inl y
            · refine .inr ?_
              rcases (out a ha).2.2.2 with w | w
              · have w : (if a ∈ owA (H p') p' th then none else H a) = none := w
                rw [if_neg y] at w
                exact w
              · cases w
      · cases oc
    split at h7
    · rename_i d' e' h8
      exact kt none _ G G _ _ H _ _ Rz0 h8 fun v G' σ' H' s2 R' V' => fin s2 R' h7 V'
    · rename_i e' h8
      exact kt none _ G G _ _ H _ _ Rz0 h8 fun G' σ' H' s2 R' => fin (v := .non) s2 R' h7 .non
    · cases h7
end
section
variable {ρ : Type} {n nl k : Nat} {g : Fs} {ds ds2 : List PyData}
def rtWk (k : Nat) (enc : ρ → PyData) (r : ρ × List Ot) (r' : Rs) (e : Ev) : Prop := r' = .im (enc r.1) ∧ e[k]? = some (some (.ow (.lst r.2)))
theorem t_fnWk {enc : ρ → PyData} {p : List Ot} {r : ρ × List Ot} (hl : (ds ++ ds2).length = n) (hk : ds.length = k) (h : wS g (envWk (.lst p) ds ds2 nl) (RK (rtWk k enc) r)) : runWk k n nl g (.lst p) (ds ++ ds2) = some (enc r.1, .lst r.2) := by
  obtain ⟨fl, h1, h2⟩ := h
  unfold runWk
  rw [if_pos hl, List.take_left' hk, List.drop_left' hk, h1]
  cases fl with
  | nx e =>
    obtain ⟨h3, h4⟩ := h2
    injection h3 with h3
    show ownTk k e .none = _
    unfold ownTk
    rw [h4, ← h3]
    rfl
  | bk e => exact h2.elim
  | ct e => exact h2.elim
  | rt r e =>
    obtain ⟨h3, h4⟩ := h2
    subst h3
    show ownTk k e _ = _
    unfold ownTk
    rw [h4]
    rfl
end
section
variable {e e1 e2 : Ev} {i k : Nat} {d : PyData} {ds ds2 : List PyData} {fa : Fa} {f : Fe} {rs : List Rs} {r : Rs}
theorem acX (h : f e = some (r, e1)) (k : fa e1 = some (rs, e2)) : a_cons f fa e = some (frzR r :: rs, e2) := by
  rw [r_a_cons, h]
  dsimp only
  rw [k]
theorem ac0 : a_nil e = some ([], e) := rfl
theorem wkI {φ : Ow → List PyData → Option (PyData × Ow)} {t t' : Ow} (ha : fa e = some (rs, e1)) (na : noAl e1 = true) (hk : rs[k]? = some (.br i)) (hi : e1[i]? = some (some (.ow t))) (h1 : imAll (rs.take k) = some ds) (h2 : imAll (rs.drop (k + 1)) = some ds2) (h : φ t (ds ++ ds2) = some (d, t')) : x_callWk φ k fa e = some (.im d, e1.set i (some (.ow t'))) := by
  unfold x_callWk
  simp only [ha, na, if_true, hk, hi, h1, h2, h]
end
end DL
namespace DL
open PySem PySem.Spec PySem.W PyProof.Rows L2
def hideS : Option Sl → Option Sl
  | some (.ac _) => none
  | some (.ow _) => none
  | s => s
def hideE (j : Nat) (ds : List PyData) (e : Ev) : Ev := (e.map hideS).set j (some (.im (.list ds)))
def flatC : PyData → Bool
  | .int _ => true
  | .bool _ => true
  | .none => true
  | .str _ => true
  | _ => false
def x_tfz (j : Nat) (f : Fe) : Fe := fun e => match e[j]? with
  | some (some (.ac ds)) => (match f (hideE j ds e) with
    | some (.im d, _) => if flatC d = true then some (.im d, e) else none
    | _ => none)
  | _ => none
section
variable {K : PySem.W.Frag} {m : Option Addr} {E : Ef} {G0 G H : Hp} {e : Ev} {σ : St} {j : Nat}
theorem flat_dp {G' : Hp} {v : V} {d : PyData} (h : Dp K G' v d) (f : flatC d = true) : Dp K G v d := by
  cases h with
  | int i => exact .int i
  | bl b => exact .bl b
  | non => exact .non
  | str x => exact .str x
  | _ => cases f
theorem hideE_at {ds : List PyData} {i : Nat} {s : Sl} (h : (hideE j ds e)[i]? = some (some s)) : (i = j ∧ s = .im (.list ds)) ∨ (i ≠ j ∧ e[i]? = some (some s) ∧ (∀ ds, s ≠ .ac ds) ∧ ∀ t, s ≠ .ow t) := by
  unfold hideE at h
  rw [set_get] at h
  by_cases z : j = i ∧ i < (e.map hideS).length
  · rw [if_pos z] at h
    cases h
    exact .inl ⟨z.1.symm, rfl⟩
  · rw [if_neg z, List.getElem?_map] at h
    cases q : e[i]? with
    | none =>
      rw [q] at h
      cases h
    | some o =>
      rw [q] at h
      have n : i ≠ j := fun y => z ⟨y.symm, by rw [List.length_map]; exact (List.getElem?_eq_some_iff.mp q).1⟩
      cases o with
      | none => cases h
      | some s' =>
        cases s' with
        | ac _ => cases h
        | ow _ => cases h
        | _ =>
          cases h
          exact .inr ⟨n, rfl, (fun _ y => nomatch y), (fun _ y => nomatch y)⟩
theorem Rl.hide (R : Rl K m E G0 G e σ H) (hj : j ≠ 0) {ds : List PyData} (h : e[j]? = some (some (.ac ds))) : ∃ G1, Same G G1 ∧ Rl K m E G0 G1 (hideE j ds e) σ H ∧ ∀ a, ¬ Own σ (hideE j ds e) H a := by
  obtain ⟨p, ws, h1, h2, h3, h4, h5⟩ := R.ac j ds h
  have hE : E p = none := by
    rcases h5 with h5 | h5
    · exact h5
    · exact absurd h5.2 hj
  have s1 : Same G (upd G p (.lst ws)) := same_new h2
  have no1 : ∀ {i : Nat} {d : List PyData}, (hideE j ds e)[i]? = some (some (.ac d)) → False := fun {i d} z => by
    rcases hideE_at z with ⟨_, y⟩ | ⟨_, _, y, _⟩
    · cases y
    · exact y d rfl
  have no2 : ∀ (i : Nat) (t : Ow), (hideE j ds e)[i]? = some (some (.ow t)) → False := fun i t z => by
    rcases hideE_at z with ⟨_, y⟩ | ⟨_, _, _, y⟩
    · cases y
    · exact y t rfl
  refine ⟨upd G p (.lst ws), s1, ⟨R.gg.trans s1, fun b o q => ?_, R.eh, R.mh, fun b b1 b2 => ?_, by unfold hideE; rw [List.length_set, List.length_map]; exact R.len, fun i d q => ?_, fun i di q => (no1 q).elim, fun i k di dk p' q1 _ _ _ => (no1 q1).elim, fun i s q => ?_, Wl.non no2⟩, fun a z => ?_⟩
  · by_cases z : b = p
    · rw [z, upd_same] at q
      rw [z, h3]
      exact q
    · rw [upd_ne z] at q
      exact R.gh b o q
  · have z : b ≠ p := fun z => b2 (by rw [z]; exact hE)
    rw [upd_ne z]
    exact R.nw b b1 b2
  · rcases hideE_at q with ⟨y1, y2⟩ | ⟨y1, y2, _, _⟩
    · cases y2
      rw [y1]
      exact ⟨_, h1, .lst (.inl (.inl upd_same)) (dpAll_same s1 h4)⟩
    · obtain ⟨v, a1, a2⟩ := R.im i d y2
      exact ⟨v, a1, dp_same s1 a2⟩
  · rcases hideE_at q with ⟨y1, y2⟩ | ⟨y1, y2, _, _⟩
    · cases y2
      exact True.intro
    · exact (R.ot i s y2).mono s1
  · rcases z with ⟨i, d, z, _⟩ | ⟨i, t, _, z, _⟩
    · exact no1 z
    · exact no2 i t z
end
section
variable {X : Cx} {x : Expr} {f : Fe}
theorem ed_tfz (j : Nat) (h : ED X x f) (hj : j ≠ 0 := by decide) : ED X x (x_tfz j f) := by
  obtain ⟨t, p, k⟩ := h
  refine ⟨_, p, fun m E G0 G e σ H r e' Q R q P => ?_⟩
  unfold x_tfz at q
  split at q
  · rename_i ds h1
    split at q
    · rename_i d e2 h2
      by_cases fl : flatC d = true
      · rw [if_pos fl] at q
        cases q
        obtain ⟨G1, s1, R1, no⟩ := R.hide hj h1
        refine k m E G0 G1 _ σ H _ e2 Q R1 h2 fun v G' H' R' S' V' N' => ?_
        have hh : Same H H' := fun a o z => S'.hh a o z (no a)
        obtain ⟨R2, S2⟩ := R.called (Same.refl G) (R.gh.trans hh) hh (fun _ z _ => z)
        exact P v G H' R2 S2 (flat_dp V' fl) True.intro
      · rw [if_neg fl] at q
        cases q
    · cases q
  · cases q
end
section
variable {e e2 : Ev} {j : Nat} {f : Fe} {ds : List PyData} {d : PyData}
theorem tfzX (h1 : e[j]? = some (some (.ac ds))) (h : f (hideE j ds e) = some (.im d, e2)) (fl : flatC d = true) : x_tfz j f e = some (.im d, e) := by
  unfold x_tfz
  simp only [h1, h, fl, if_true]
end
end DL
namespace DL
open PySem PySem.Spec PySem.W PyProof.Rows L2
def Le {α : Type} (f g : Ev → Option α) : Prop := ∀ e r, f e = some r → g e = some r
theorem le_refl {α : Type} {f : Ev → Option α} : Le f f := fun _ _ h => h
section
variable {f f' g g' : Fs} {a a' b b' : Fe} {p p' : Fa} {c c' d d' : Ft} {u u' v v' : Fsx}
theorem le_cons (hf : Le a a') (hr : Le p p') : Le (a_cons a p) (a_cons a' p') := fun e r h => by
  unfold a_cons at h ⊢
  cases h1 : a e with
  | none => rw [h1] at h; cases h
  | some q =>
    obtain ⟨r1, e1⟩ := q
    rw [h1] at h
    rw [hf e _ h1]
    dsimp only at h ⊢
    cases h2 : p e1 with
    | none => rw [h2] at h; cases h
    | some q => rw [h2] at h; rw [hr e1 q h2]; exact h
theorem le_argsI (ha : Le p p') : Le (argsI p) (argsI p') := fun e r h => by
  unfold argsI at h ⊢
  cases h1 : p e with
  | none => rw [h1] at h; cases h
  | some q => rw [h1] at h; rw [ha e q h1]; exact h
theorem le_argsD (ha : Le p p') : Le (argsD p) (argsD p') := fun e r h => by
  unfold argsD at h ⊢
  cases h1 : p e with
  | none => rw [h1] at h; cases h
  | some q => rw [h1] at h; rw [ha e q h1]; exact h
theorem le_call {φ ψ : List PyData → Option Rs} {dds : List PyData} (hf : ∀ ds r, φ ds = some r → ψ ds = some r) (ha : Le p p') : Le (x_call φ dds p) (x_call ψ dds p') := fun e r h => by
  unfold x_call at h ⊢
  cases h1 : argsI p e with
  | none => rw [h1] at h; cases h
  | some q =>
    obtain ⟨ds, e1⟩ := q
    rw [h1] at h
    rw [le_argsI ha e _ h1]
    dsimp only at h ⊢
    cases h2 : φ (ds ++ dds) with
    | none => rw [h2] at h; cases h
    | some q => rw [h2] at h; rw [hf _ q h2]; exact h
theorem le_cb {φ : List PyData → Option Rs} (ha : Le p p') : Le (x_cb φ p) (x_cb φ p') := fun e r h => by
  unfold x_cb at h ⊢
  cases h1 : argsD p e with
  | none => rw [h1] at h; cases h
  | some q => rw [h1] at h; rw [le_argsD ha e q h1]; exact h
theorem le_tup (ha : Le p p') : Le (x_tup p) (x_tup p') := fun e r h => by
  unfold x_tup at h ⊢
  cases h1 : argsI p e with
  | none => rw [h1] at h; cases h
  | some q => rw [h1] at h; rw [le_argsI ha e q h1]; exact h
theorem le_lst (ha : Le p p') : Le (x_lst p) (x_lst p') := fun e r h => by
  unfold x_lst at h ⊢
  cases h1 : argsI p e with
  | none => rw [h1] at h; cases h
  | some q => rw [h1] at h; rw [le_argsI ha e q h1]; exact h
theorem le_two (ha : Le a a') (hb : Le b b') : Le (two a b) (two a' b') := fun e r h => by
  unfold two at h ⊢
  cases h1 : a e with
  | none => rw [h1] at h; cases h
  | some q =>
    obtain ⟨r1, e1⟩ := q
    rw [h1] at h
    rw [ha e _ h1]
    dsimp only at h ⊢
    cases h2 : b e1 with
    | none => rw [h2] at h; cases h
    | some q => rw [h2] at h; rw [hb e1 q h2]; exact h
theorem le_bin {φ : PyData → PyData → Option Rs} (ha : Le a a') (hb : Le b b') : Le (x_bin φ a b) (x_bin φ a' b') := fun e r h => by
  unfold x_bin at h ⊢
  cases h1 : two a b e with
  | none => rw [h1] at h; cases h
  | some q => rw [h1] at h; rw [le_two ha hb e q h1]; exact h
theorem le_tof (ha : Le a a') : Le (t_of a) (t_of a') := fun e r h => by
  unfold t_of at h ⊢
  cases h1 : a e with
  | none => rw [h1] at h; cases h
  | some q => rw [h1] at h; rw [ha e q h1]; exact h
theorem le_tnot (ha : Le c c') : Le (t_not c) (t_not c') := fun e r h => by
  unfold t_not at h ⊢
  cases h1 : c e with
  | none => rw [h1] at h; cases h
  | some q => rw [h1] at h; rw [ha e q h1]; exact h
theorem le_tand (ha : Le c c') (hb : Le d d') : Le (t_and c d) (t_and c' d') := fun e r h => by
  unfold t_and at h ⊢
  cases h1 : c e with
  | none => rw [h1] at h; cases h
  | some q =>
    obtain ⟨z, e1⟩ := q
    rw [h1] at h
    rw [ha e _ h1]
    cases z with
    | true => exact hb e1 r h
    | false => exact h
theorem le_tor (ha : Le c c') (hb : Le d d') : Le (t_or c d) (t_or c' d') := fun e r h => by
  unfold t_or at h ⊢
  cases h1 : c e with
  | none => rw [h1] at h; cases h
  | some q =>
    obtain ⟨z, e1⟩ := q
    rw [h1] at h
    rw [ha e _ h1]
    cases z with
    | true => exact h
    | false => exact hb e1 r h
theorem le_xnot (ha : Le a a') : Le (x_not a) (x_not a') := fun e r h => by
  unfold x_not at h ⊢
  cases h1 : a e with
  | none => rw [h1] at h; cases h
  | some q => rw [h1] at h; rw [ha e q h1]; exact h
theorem le_xand (ha : Le a a') (hb : Le b b') : Le (x_and a b) (x_and a' b') := fun e r h => by
  unfold x_and at h ⊢
  cases h1 : a e with
  | none => rw [h1] at h; cases h
  | some q =>
    obtain ⟨z, e1⟩ := q
    rw [h1] at h
    rw [ha e _ h1]
    split at h
    · rename_i e2 z; cases z; exact hb _ r h
    · exact h
    · cases h
theorem le_xor (ha : Le a a') (hb : Le b b') : Le (x_or a b) (x_or a' b') := fun e r h => by
  unfold x_or at h ⊢
  cases h1 : a e with
  | none => rw [h1] at h; cases h
  | some q =>
    obtain ⟨z, e1⟩ := q
    rw [h1] at h
    rw [ha e _ h1]
    split at h
    · exact h
    · rename_i e2 z; cases z; exact hb _ r h
    · cases h
theorem le_seq (hf : Le f f') (hg : Le g g') : Le (s_seq f g) (s_seq f' g') := fun e r h => by
  unfold s_seq at h ⊢
  cases h1 : f e with
  | none => rw [h1] at h; cases h
  | some q =>
    rw [h1] at h
    rw [hf e q h1]
    cases q with
    | nx e1 => exact hg e1 r h
    | _ => exact h
theorem le_if (hc : Le c c') (hf : Le f f') (hg : Le g g') : Le (s_if c f g) (s_if c' f' g') := fun e r h => by
  unfold s_if at h ⊢
  cases h1 : c e with
  | none => rw [h1] at h; cases h
  | some q =>
    obtain ⟨z, e1⟩ := q
    rw [h1] at h
    rw [hc e _ h1]
    cases z with
    | true => exact hf e1 r h
    | false => exact hg e1 r h
theorem le_ret (ha : Le a a') : Le (s_ret a) (s_ret a') := fun e r h => by
  unfold s_ret at h ⊢
  cases h1 : a e with
  | none => rw [h1] at h; cases h
  | some q => rw [h1] at h; rw [ha e q h1]; exact h
theorem le_drop (ha : Le a a') : Le (s_drop a) (s_drop a') := fun e r h => by
  unfold s_drop at h ⊢
  cases h1 : a e with
  | none => rw [h1] at h; cases h
  | some q => rw [h1] at h; rw [ha e q h1]; exact h
theorem le_set {i : Nat} (ha : Le a a') : Le (s_set i a) (s_set i a') := fun e r h => by
  unfold s_set at h ⊢
  cases h1 : a e with
  | none => rw [h1] at h; cases h
  | some q => rw [h1] at h; rw [ha e q h1]; exact h
theorem le_setF {i : Nat} (ha : Le a a') : Le (s_setF i a) (s_setF i a') := le_set fun e r h => by
  cases h1 : a e with
  | none => rw [h1] at h; cases h
  | some q => rw [h1] at h; rw [ha e q h1]; exact h
theorem le_fz {j : Nat} (hf : Le f f') : Le (s_fz j f) (s_fz j f') := fun e r h => hf _ r h
theorem le_forGo {γ : PyData → Ev → Option Ev} {S : List Nat} (hf : Le f f') : ∀ ds e r, forGo γ S f ds e = some r → forGo γ S f' ds e = some r
  | [], e, r, h => h
  | x :: ds, e, r, h => by
    unfold forGo at h ⊢
    by_cases z : okS S e = true
    · rw [if_pos z] at h ⊢
      cases h1 : γ x e with
      | none => rw [h1] at h; cases h
      | some e2 =>
        rw [h1] at h
        dsimp only at h ⊢
        cases h2 : f e2 with
        | none => rw [h2] at h; cases h
        | some q =>
          rw [h2] at h
          rw [hf e2 q h2]
          cases q with
          | nx e3 => exact le_forGo hf ds e3 r h
          | ct e3 => exact le_forGo hf ds e3 r h
          | bk e3 => exact h
          | rt _ _ => exact h
    · rw [if_neg z] at h
      cases h
theorem le_for {i i' : Fi} {γ : PyData → Ev → Option Ev} {S : List Nat} (hi : Le i i') (hf : Le f f') : Le (s_for i γ S f) (s_for i' γ S f') := fun e r h => by
  unfold s_for at h ⊢
  cases h1 : i e with
  | none => rw [h1] at h; cases h
  | some q =>
    rw [h1] at h
    rw [hi e q h1]
    exact le_forGo hf _ _ r h
theorem le_iseq (ha : Le a a') : Le (i_seq a) (i_seq a') := fun e r h => by
  unfold i_seq at h ⊢
  cases h1 : a e with
  | none => rw [h1] at h; cases h
  | some q => rw [h1] at h; rw [ha e q h1]; exact h
theorem le_noX (hu : Le u u') : Le (noX u) (noX u') := fun e r h => by
  unfold noX at h ⊢
  cases h1 : u e with
  | none => rw [h1] at h; cases h
  | some q => rw [h1] at h; rw [hu e q h1]; exact h
theorem le_runF {n nl : Nat} (hf : Le f f') : ∀ ds r, runF n nl f ds = some r → runF n nl f' ds = some r := fun ds r h => by
  unfold runF at h ⊢
  by_cases z : ds.length = n
  · rw [if_pos z] at h ⊢
    cases h1 : f (env0 ds nl) with
    | none => rw [h1] at h; cases h
    | some q => rw [h1] at h; rw [hf _ q h1]; exact h
  · rw [if_neg z] at h
    cases h
end
def x_fldT (ok : Str → Bool) (k : Str) (ds : List (Str × PyData)) (f : Str) : Fe := fun e => if ok k = true then (ds.lookup f).map fun d => (.im d, e) else none
def x_binT (φ : PyData → PyData → Option Rs) (fa fb : Fe) : Fe := fun e => match fa e with
  | some (.im a, e1) => (match fb e1 with
    | some (.im b, e2) => (match φ a b with
      | some (.im r) => some (.im r, e2)
      | _ => none)
    | _ => none)
  | _ => none
def x_tryT (fb : Fsx) (sub : Str → Option Bool) (i : Nat) (g : Str → List (Str × PyData) → Fs) : Fsx := fun e => match fb e with
  | some (.inl fl) => some (.inl fl)
  | some (.inr (x, e1)) => (match sub x.c with
    | some true => if i ≠ 0 ∧ i < e1.length then (match g x.c x.fs (e1.set i none) with
      | some (.nx e2) => some (.inl (.nx (e2.set i none)))
      | some (.rt (.im d) e2) => some (.inl (.rt (.im d) (e2.set i none)))
      | _ => none) else none
    | some false => some (.inr (x, e1))
    | none => none)
  | none => none
def SimE {α : Type} (i : Nat) (s : Option Sl) (f g : Ev → Option (α × Ev)) : Prop := ∀ e r e', i < e.length → f e = some (r, e') → g (e.set i s) = some (r, e'.set i s) ∧ i < e'.length
def setFl (i : Nat) (s : Option Sl) : Fl → Fl
  | .nx e => .nx (e.set i s)
  | .bk e => .bk (e.set i s)
  | .ct e => .ct (e.set i s)
  | .rt r e => .rt r (e.set i s)
def SimS (i : Nat) (s : Option Sl) (f g : Fs) : Prop := ∀ e fl, i < e.length → f e = some fl → g (e.set i s) = some (setFl i s fl) ∧ ∀ e', fl = .nx e' → i < e'.length
section
variable {i : Nat} {s : Option Sl} {f f' g g' : Fs} {a a' b b' : Fe} {p p' : Fa} {c c' d d' : Ft}
theorem sm_c {z : PyData} : SimE i s (x_c z) (x_c z) := fun e r e' hi h => by
  cases h
  exact ⟨rfl, hi⟩
theorem sm_var {j : Nat} (n : j ≠ i := by decide) : SimE i s (x_var j) (x_var j) := fun e r e' hi h => by
  unfold x_var at h ⊢
  rw [List.getElem?_set_ne (fun z => n z.symm)]
  split at h <;> cases h <;> rename_i q <;> rw [q] <;> exact ⟨rfl, hi⟩
theorem sm_fld {ok : Str → Bool} {k : Str} {A D : Addr} {fs : List (Str × V)} {ds : List (Str × PyData)} {z : Str} : SimE i (some (.ob (.xc A D fs ds))) (x_fldT ok k ds z) (x_fld ok k A D i z) := fun e r e' hi h => by
  unfold x_fldT at h
  unfold x_fld
  by_cases q : ok k = true
  · rw [if_pos q] at h ⊢
    obtain ⟨y, y1, y2⟩ := Option.map_eq_some_iff.mp h
    cases y2
    rw [List.getElem?_set_self hi]
    dsimp only
    rw [if_pos ⟨rfl, rfl⟩, y1]
    exact ⟨rfl, hi⟩
  · rw [if_neg q] at h
    cases h
theorem sm_nil : SimE i s a_nil a_nil := fun e r e' hi h => by
  cases h
  exact ⟨rfl, hi⟩
theorem sm_cons (ha : SimE i s a a') (hp : SimE i s p p') : SimE i s (a_cons a p) (a_cons a' p') := fun e r e' hi h => by
  unfold a_cons at h ⊢
  cases h1 : a e with
  | none => rw [h1] at h; cases h
  | some q =>
    obtain ⟨r1, e1⟩ := q
    obtain ⟨k1, k2⟩ := ha e r1 e1 hi h1
    rw [h1] at h
    rw [k1]
    dsimp only at h ⊢
    cases h2 : p e1 with
    | none => rw [h2] at h; cases h
    | some q =>
      obtain ⟨r2, e2⟩ := q
      obtain ⟨k3, k4⟩ := hp e1 r2 e2 k2 h2
      rw [h2] at h
      rw [k3]
      cases h
      exact ⟨rfl, k4⟩
theorem sm_argsI (hp : SimE i s p p') : SimE i s (argsI p) (argsI p') := fun e r e' hi h => by
  unfold argsI at h ⊢
  cases h1 : p e with
  | none => rw [h1] at h; cases h
  | some q =>
    obtain ⟨r1, e1⟩ := q
    obtain ⟨k1, k2⟩ := hp e r1 e1 hi h1
    rw [h1] at h
    rw [k1]
    dsimp only at h ⊢
    cases h2 : imAll r1 with
    | none => rw [h2] at h; cases h
    | some q =>
      rw [h2] at h
      cases h
      exact ⟨rfl, k2⟩
theorem sm_tup (hp : SimE i s p p') : SimE i s (x_tup p) (x_tup p') := fun e r e' hi h => by
  unfold x_tup at h ⊢
  cases h1 : argsI p e with
  | none => rw [h1] at h; cases h
  | some q =>
    obtain ⟨r1, e1⟩ := q
    obtain ⟨k1, k2⟩ := sm_argsI hp e r1 e1 hi h1
    rw [h1] at h
    rw [k1]
    dsimp only at h ⊢
    by_cases z : okLen r1.length = true
    · rw [if_pos z] at h ⊢
      cases h
      exact ⟨rfl, k2⟩
    · rw [if_neg z] at h
      cases h
theorem sm_call {φ : List PyData → Option Rs} {dds : List PyData} (hp : SimE i s p p') : SimE i s (x_call φ dds p) (x_call φ dds p') := fun e r e' hi h => by
  unfold x_call at h ⊢
  cases h1 : argsI p e with
  | none => rw [h1] at h; cases h
  | some q =>
    obtain ⟨r1, e1⟩ := q
    obtain ⟨k1, k2⟩ := sm_argsI hp e r1 e1 hi h1
    rw [h1] at h
    rw [k1]
    dsimp only at h ⊢
    split at h
    · cases h
      exact ⟨rfl, k2⟩
    · cases h
      exact ⟨rfl, k2⟩
    · cases h
theorem sm_neg (ha : SimE i s a a') : SimE i s (x_neg a) (x_neg a') := fun e r e' hi h => by
  unfold x_neg at h ⊢
  cases h1 : a e with
  | none => rw [h1] at h; cases h
  | some q =>
    obtain ⟨r1, e1⟩ := q
    obtain ⟨k1, k2⟩ := ha e r1 e1 hi h1
    rw [h1] at h
    rw [k1]
    split at h
    · rename_i z
      cases z
      cases h
      exact ⟨rfl, k2⟩
    · cases h
theorem sm_bin {φ : PyData → PyData → Option Rs} (ha : SimE i s a a') (hb : SimE i s b b') : SimE i s (x_binT φ a b) (x_bin φ a' b') := fun e r e' hi h => by
  unfold x_binT at h
  split at h
  · rename_i a1 e1 h1
    obtain ⟨k1, k2⟩ := ha e _ e1 hi h1
    split at h
    · rename_i b1 e2 h2
      obtain ⟨k3, k4⟩ := hb e1 _ e2 k2 h2
      split at h
      · rename_i r1 h3
        cases h
        refine ⟨?_, k4⟩
        unfold x_bin two
        rw [k1]
        dsimp only
        rw [k3]
        dsimp only [frzR, look2, lookR]
        rw [h3]
      · cases h
    · cases h
  · cases h
theorem sm_tof (ha : SimE i s a a') : SimE i s (t_of a) (t_of a') := fun e r e' hi h => by
  unfold t_of at h ⊢
  split at h
  · rename_i z e1 h1
    cases h
    obtain ⟨k1, k2⟩ := ha e _ _ hi h1
    rw [k1]
    exact ⟨rfl, k2⟩
  · cases h
theorem sm_tnot (ha : SimE i s c c') : SimE i s (t_not c) (t_not c') := fun e r e' hi h => by
  unfold t_not at h ⊢
  split at h
  · rename_i z e1 h1
    cases h
    obtain ⟨k1, k2⟩ := ha e _ _ hi h1
    rw [k1]
    exact ⟨rfl, k2⟩
  · cases h
theorem sm_tor (ha : SimE i s c c') (hb : SimE i s d d') : SimE i s (t_or c d) (t_or c' d') := fun e r e' hi h => by
  unfold t_or at h ⊢
  split at h
  · rename_i e1 h1
    cases h
    obtain ⟨k1, k2⟩ := ha e _ _ hi h1
    rw [k1]
    exact ⟨rfl, k2⟩
  · rename_i e1 h1
    obtain ⟨k1, k2⟩ := ha e _ _ hi h1
    rw [k1]
    exact hb e1 r e' k2 h
  · cases h
theorem sm_tand (ha : SimE i s c c') (hb : SimE i s d d') : SimE i s (t_and c d) (t_and c' d') := fun e r e' hi h => by
  unfold t_and at h ⊢
  split at h
  · rename_i e1 h1
    obtain ⟨k1, k2⟩ := ha e _ _ hi h1
    rw [k1]
    exact hb e1 r e' k2 h
  · rename_i e1 h1
    cases h
    obtain ⟨k1, k2⟩ := ha e _ _ hi h1
    rw [k1]
    exact ⟨rfl, k2⟩
  · cases h
theorem sm_nx : SimS i s s_nx s_nx := fun e fl hi h => by
  cases h
  exact ⟨rfl, fun e' z => by cases z; exact hi⟩
theorem sm_ret (ha : SimE i s a a') : SimS i s (s_ret a) (s_ret a') := fun e fl hi h => by
  unfold s_ret at h ⊢
  split at h
  · rename_i r e1 h1
    cases h
    obtain ⟨k1, k2⟩ := ha e _ _ hi h1
    rw [k1]
    exact ⟨rfl, fun e' z => by cases z⟩
  · cases h
theorem sm_if (hc : SimE i s c c') (hf : SimS i s f f') (hg : SimS i s g g') : SimS i s (s_if c f g) (s_if c' f' g') := fun e fl hi h => by
  unfold s_if at h ⊢
  split at h
  · rename_i e1 h1
    obtain ⟨k1, k2⟩ := hc e _ _ hi h1
    rw [k1]
    exact hf e1 fl k2 h
  · rename_i e1 h1
    obtain ⟨k1, k2⟩ := hc e _ _ hi h1
    rw [k1]
    exact hg e1 fl k2 h
  · cases h
theorem sm_seq (hf : SimS i s f f') (hg : SimS i s g g') : SimS i s (s_seq f g) (s_seq f' g') := fun e fl hi h => by
  unfold s_seq at h ⊢
  cases h1 : f e with
  | none => rw [h1] at h; cases h
  | some q =>
    obtain ⟨k1, k2⟩ := hf e q hi h1
    rw [h1] at h
    rw [k1]
    cases q with
    | nx e1 => exact hg e1 fl (k2 e1 rfl) h
    | bk e1 =>
      cases h
      exact ⟨rfl, fun e' z => by cases z⟩
    | ct e1 =>
      cases h
      exact ⟨rfl, fun e' z => by cases z⟩
    | rt r e1 =>
      cases h
      exact ⟨rfl, fun e' z => by cases z⟩
end
theorem le_try {fb : Fsx} {sub : Str → Option Bool} {i : Nat} {gT : Str → List (Str × PyData) → Fs} {g : Su} (h : ∀ k a dd fs ds, SimS i (some (.ob (.xc a dd fs ds))) (gT k ds) (g k a dd)) : Le (x_tryT fb sub i gT) (x_try fb sub i g) := fun e r q => by
  unfold x_tryT at q
  split at q
  · rename_i fl h1
    cases q
    exact x_try_no h1
  · rename_i x e1 h1
    split at q
    · rename_i h2
      by_cases z : i ≠ 0 ∧ i < e1.length
      · rw [if_pos z] at q
        have ok : ∀ e2 : Ev, okS [i] e2 = true := fun e2 => by
          unfold okS
          rw [show [i].contains 0 = false by simp [List.contains_cons]; exact fun y => z.1 y.symm]
          rfl
        have hl : i < (e1.set i none).length := by rw [List.length_set]; exact z.2
        have ss : ∀ (a dd : Addr) (fs : List (Str × V)), (e1.set i none).set i (some (.ob (.xc a dd fs x.fs))) = e1.set i (some (.ob (.xc a dd fs x.fs))) := fun a dd fs => List.set_set _
        split at q
        · rename_i e2 h3
          cases q
          refine x_try_yes h1 h2 (ok _) fun a dd fs => ?_
          obtain ⟨k1, _⟩ := h x.c a dd fs x.fs _ _ hl h3
          rw [ss] at k1
          refine ⟨_, k1, ?_⟩
          show (gone i (e2.set i _)).map Fl.nx = _
          unfold gone
          rw [if_pos (ok _), List.set_set]
          rfl
        · rename_i d e2 h3
          cases q
          refine x_try_yes h1 h2 (ok _) fun a dd fs => ?_
          obtain ⟨k1, _⟩ := h x.c a dd fs x.fs _ _ hl h3
          rw [ss] at k1
          refine ⟨_, k1, ?_⟩
          show (gone i (e2.set i _)).map (Fl.rt (.im d)) = _
          unfold gone
          rw [if_pos (ok _), List.set_set]
          rfl
        · cases q
      · rw [if_neg z] at q
        cases q
    · rename_i h2
      cases q
      exact x_try_up h1 h2
    · cases q
  · cases q
end DL
namespace K44
open PySem PySem.Spec PyProof.Rows L2 DL
def xcs : List Str := ["NotUsable"]
def xys : List Str := ["NotUsable"]
def xfs : List Str := ["at", "word"]
def xtab : XTab := [(("NotUsable", "NotUsable"), true)]
def xok : Str → Bool := fun k => xcs.contains k
noncomputable section
def g_is_integer : Fs :=
  (s_ret (x_and (x_isi .int (x_var 0)) (x_not (x_isi .bool (x_var 0)))))
def F_is_integer : List PyData → Option Rs := runF 1 0 g_is_integer
def g__poured_on : Fs :=
  (s_seq (s_setF 3 (x_bin p_sub (x_cb c_len (a_cons (x_var 0) a_nil)) (x_var 1)))
  (s_seq (s_setF 4 (x_var 2))
  (s_seq (s_if (t_of (x_bin q_gt (x_var 1) (x_c (.int 0))))
  (s_setF 4 (x_ix (x_ix (x_var 0) (x_var 3)) (x_c (.int 0))))
  s_nx)
  (s_seq (s_ret (x_bin p_add (x_sl (x_var 0) o_no (o_at (x_var 3))) (x_tup (a_cons (x_tup (a_cons (x_var 4) (a_cons (x_var 2) a_nil))) a_nil))))
  s_nx))))
def F__poured_on : List PyData → Option Rs := runF 3 2 g__poured_on
def g__law_cell : Fs :=
  (s_seq (s_if (t_of (x_bin q_lt (x_var 1) (x_cb c_len (a_cons (x_var 0) a_nil))))
  (s_ret (x_cb c_int (a_cons (x_ix (x_var 0) (x_var 1)) a_nil)))
  s_nx)
  (s_seq (s_ret (x_c (.int 0)))
  s_nx))
def F__law_cell : List PyData → Option Rs := runF 2 0 g__law_cell
def g__law_pool : Ev → Option (List Ot) :=
  (ow_cons (s_set 1 (x_c (.int 0)))
  (ow_cons (s_for (i_seq (x_var 0)) (g_name 2) [2]
  (s_set 1 (x_bin p_mod (x_bin p_add (x_bin p_add (x_bin p_mul (x_var 1) (x_c (.int 41))) (x_bin p_mod (x_cb c_int (a_cons (x_var 2) a_nil)) (x_c (.int 6007)))) (x_c (.int 13))) (x_c (.int 1000033)))))
  (ow_ret (b_cons (x_var 1) (b_cons (x_lc (i_seq (x_var 0)) (g_name 2) (t_of (x_bin q_ge (x_cb c_abs (a_cons (x_cb c_int (a_cons (x_var 2) a_nil)) a_nil)) (x_bin p_pow (x_c (.int 10)) (x_c (.int 18))))) (x_cb c_abs (a_cons (x_cb c_int (a_cons (x_var 2) a_nil)) a_nil)) [2]) a_nil)))))
def F__law_pool : List PyData → Option (List Ot) := runNw 1 2 g__law_pool
def g__law_take : Fs :=
  (s_seq (s_al 2 0 1)
  (s_seq (s_if (t_of (x_bin q_gt (x_cb c_len (a_cons (x_var 2) a_nil)) (x_c (.int 0))))
  (s_seq (s_setF 3 (x_ix (x_var 2) (x_c (.int 0))))
  (s_seq (s_alS 2 (x_bin p_div (x_var 3) (x_var 1)) (x_c (.int 0)))
  (s_seq (s_if (t_of (x_bin p_eq (x_ix (x_var 2) (x_c (.int 0))) (x_c (.int 0))))
  (s_drop (x_alP 2 (x_c (.int 0))))
  s_nx)
  (s_seq (s_ret (x_bin p_mod (x_cb c_int (a_cons (x_var 3) a_nil)) (x_var 1)))
  s_nx))))
  s_nx)
  (s_seq (s_owS 0 (x_bin p_mod (x_cb c_int (a_cons (x_bin p_mul (x_owI 0 (x_c (.int 0))) (x_c (.int 5333))) a_nil)) (x_c (.int 1000033))) (x_c (.int 0)))
  (s_seq (s_ret (x_bin p_mod (x_cb c_int (a_cons (x_bin p_div (x_owI 0 (x_c (.int 0))) (x_c (.int 4))) a_nil)) (x_var 1)))
  s_nx))))
def F__law_take : Ow → List PyData → Option (PyData × Ow) := runW 1 2 g__law_take
def g__law_poured : Fs :=
  (s_seq (s_setF 1 (x_lst a_nil))
  (s_seq (s_set 2 (x_lst (a_cons (x_tup a_nil) a_nil)))
  (s_seq (s_for (i_rng2 (x_c (.int 1)) (x_bin p_add (x_cb c_len (a_cons (x_var 0) a_nil)) (x_c (.int 1)))) (g_name 3) [3]
  (s_seq (s_setF 4 (x_var 3))
  (s_seq (s_for (i_rng1 (x_ix (x_var 0) (x_bin p_sub (x_var 3) (x_c (.int 1))))) (g_name 5) [5]
  (s_seq (s_setF 4 (x_ix (x_ix (x_var 1) (x_neg (x_c (.int 1)))) (x_c (.int 0))))
  (s_seq (s_setF 1 (x_sl (x_var 1) o_no (o_at (x_neg (x_c (.int 1))))))
  s_nx)))
  (s_seq (s_setF 1 (x_bin p_add (x_var 1) (x_lst (a_cons (x_tup (a_cons (x_var 4) (a_cons (x_var 3) a_nil))) a_nil))))
  (s_seq (s_drop (x_app 2 (x_cb c_tuple (a_cons (x_var 1) a_nil))))
  s_nx)))))
  (s_seq (s_ret (x_var 2))
  s_nx))))
def F__law_poured : List PyData → Option Rs := runF 1 5 g__law_poured
def g__law_bases : Fs :=
  (s_seq (s_set 1 (x_lst a_nil))
  (s_seq (s_for (i_rng2 (x_c (.int 1)) (x_bin p_add (x_cb c_len (a_cons (x_var 0) a_nil)) (x_c (.int 1)))) (g_name 2) [2]
  (s_seq (s_setF 3 (x_bin p_sub (x_var 2) (x_c (.int 1))))
  (s_seq (s_while (fun _ => 300) (t_and (t_of (x_bin q_gt (x_var 3) (x_c (.int 0)))) (t_of (x_bin q_le (x_ix (x_var 0) (x_bin p_sub (x_var 3) (x_c (.int 1)))) (x_ix (x_var 0) (x_bin p_sub (x_var 2) (x_c (.int 1)))))))
  (s_setF 3 (x_bin p_sub (x_var 3) (x_c (.int 1)))))
  (s_seq (s_drop (x_app 1 (x_var 3)))
  s_nx))))
  (s_seq (s_ret (x_cb c_tuple (a_cons (x_var 1) a_nil)))
  s_nx)))
def F__law_bases : List PyData → Option Rs := runF 1 3 g__law_bases
def g__law_nested : Fs :=
  (s_seq (s_for (i_rng2 (x_c (.int 1)) (x_bin p_add (x_cb c_len (a_cons (x_var 0) a_nil)) (x_c (.int 1)))) (g_name 1) [1]
  (s_for (i_rng2 (x_bin p_add (x_ix (x_var 0) (x_bin p_sub (x_var 1) (x_c (.int 1)))) (x_c (.int 1))) (x_var 1)) (g_name 2) [2]
  (s_if (t_of (x_bin q_lt (x_ix (x_var 0) (x_bin p_sub (x_var 2) (x_c (.int 1)))) (x_ix (x_var 0) (x_bin p_sub (x_var 1) (x_c (.int 1))))))
  (s_ret (x_c (.bool false)))
  s_nx)))
  (s_seq (s_ret (x_c (.bool true)))
  s_nx))
def F__law_nested : List PyData → Option Rs := runF 1 2 g__law_nested
def g__law_chain : Fs :=
  (s_seq (s_setF 2 (x_lst a_nil))
  (s_seq (s_while (fun _ => 300) (t_of (x_bin q_gt (x_var 1) (x_c (.int 0))))
  (s_seq (s_setF 2 (x_bin p_add (x_lst (a_cons (x_tup (a_cons (x_bin p_add (x_ix (x_var 0) (x_bin p_sub (x_var 1) (x_c (.int 1)))) (x_c (.int 1))) (a_cons (x_var 1) a_nil))) a_nil)) (x_var 2)))
  (s_seq (s_setF 1 (x_ix (x_var 0) (x_bin p_sub (x_var 1) (x_c (.int 1)))))
  s_nx)))
  (s_seq (s_ret (x_cb c_tuple (a_cons (x_var 2) a_nil)))
  s_nx)))
def F__law_chain : List PyData → Option Rs := runF 2 1 g__law_chain
def g__law_writes : Fs :=
  (s_seq (s_set 1 (x_lst a_nil))
  (s_seq (s_for (i_rng2 (x_c (.int 1)) (x_bin p_add (x_cb c_len (a_cons (x_var 0) a_nil)) (x_c (.int 1)))) (g_name 2) [2]
  (s_drop (x_app 1 (x_cb c_len (a_cons (x_lc (i_rng2 (x_var 2) (x_bin p_add (x_cb c_len (a_cons (x_var 0) a_nil)) (x_c (.int 1)))) (g_name 3) (t_of (x_bin q_lt (x_ix (x_var 0) (x_bin p_sub (x_var 3) (x_c (.int 1)))) (x_var 2))) (x_var 3) [3]) a_nil)))))
  (s_seq (s_ret (x_cb c_tuple (a_cons (x_var 1) a_nil)))
  s_nx)))
def F__law_writes : List PyData → Option Rs := runF 1 3 g__law_writes
def g_is_number : Fs :=
  (s_ret (x_and (x_call F_is_integer [] (a_cons (x_var 0) a_nil)) (x_bin q_ge (x_var 0) (x_c (.int 0)))))
def F_is_number : List PyData → Option Rs := runF 1 0 g_is_number
def g__law_is_line_plan : Fs :=
  (s_seq (s_if (t_or (t_not (t_of (x_isi .tuple (x_var 0)))) (t_of (x_bin p_ne (x_cb c_len (a_cons (x_var 0) a_nil)) (x_var 1))))
  (s_ret (x_c (.bool false)))
  s_nx)
  (s_seq (s_for (i_rng1 (x_var 1)) (g_name 2) [2]
  (s_if (t_or (t_not (t_of (x_isi .int (x_ix (x_var 0) (x_var 2))))) (t_or (t_of (x_isi .bool (x_ix (x_var 0) (x_var 2)))) (t_or (t_of (x_bin q_lt (x_ix (x_var 0) (x_var 2)) (x_c (.int 0)))) (t_of (x_bin q_gt (x_ix (x_var 0) (x_var 2)) (x_var 2))))))
  (s_ret (x_c (.bool false)))
  s_nx))
  (s_seq (s_ret (x_call F__law_nested [] (a_cons (x_var 0) a_nil)))
  s_nx)))
def F__law_is_line_plan : List PyData → Option Rs := runF 2 1 g__law_is_line_plan
def g__law_ways : Fs :=
  (s_seq (s_setF 1 (x_lst (a_cons (x_tup a_nil) a_nil)))
  (s_seq (s_for (i_rng1 (x_var 0)) (g_name 2) [2]
  (s_seq (s_setF 3 (x_lst a_nil))
  (s_seq (s_for (i_seq (x_var 1)) (g_name 4) [4]
  (s_setF 3 (x_bin p_add (x_var 3) (x_lc (i_rng1 (x_bin p_add (x_cb c_len (a_cons (x_ix (x_call F__law_poured [] (a_cons (x_var 4) a_nil)) (x_var 2)) a_nil)) (x_c (.int 1)))) (g_name 5) t_yes (x_bin p_add (x_var 4) (x_tup (a_cons (x_var 5) a_nil))) [5]))))
  (s_seq (s_setF 1 (x_var 3))
  s_nx))))
  (s_seq (s_ret (x_var 1))
  s_nx)))
def F__law_ways : List PyData → Option Rs := runF 1 5 g__law_ways
def g__law_plans : Fs :=
  (s_seq (s_setF 1 (x_lst (a_cons (x_tup a_nil) a_nil)))
  (s_seq (s_for (i_rng2 (x_c (.int 1)) (x_bin p_add (x_var 0) (x_c (.int 1)))) (g_name 2) [2]
  (s_seq (s_setF 3 (x_lst a_nil))
  (s_seq (s_for (i_seq (x_var 1)) (g_name 4) [4]
  (s_setF 3 (x_bin p_add (x_var 3) (x_lc (i_rng1 (x_var 2)) (g_name 5) t_yes (x_bin p_add (x_var 4) (x_tup (a_cons (x_var 5) a_nil))) [5]))))
  (s_seq (s_setF 1 (x_var 3))
  s_nx))))
  (s_seq (s_ret (x_lc (i_seq (x_var 1)) (g_name 4) (t_of (x_call F__law_nested [] (a_cons (x_var 4) a_nil))) (x_var 4) [4]))
  s_nx)))
def F__law_plans : List PyData → Option Rs := runF 1 5 g__law_plans
def g__law_steps : Fs :=
  (s_seq (s_set 1 (x_lst a_nil))
  (s_seq (s_for (i_rng2 (x_c (.int 1)) (x_bin p_add (x_cb c_len (a_cons (x_var 0) a_nil)) (x_c (.int 1)))) (g_name 2) [2]
  (s_seq (s_setF 3 (x_ix (x_var 0) (x_bin p_sub (x_var 2) (x_c (.int 1)))))
  (s_seq (s_drop (x_app 1 (x_cb c_len (a_cons (x_lc (i_seq (x_call F__law_chain [] (a_cons (x_var 0) (a_cons (x_bin p_sub (x_var 2) (x_c (.int 1))) a_nil)))) (g_name 4) (t_of (x_bin q_gt (x_ix (x_var 4) (x_c (.int 0))) (x_var 3))) (x_var 4) [4]) a_nil))))
  s_nx)))
  (s_seq (s_ret (x_cb c_tuple (a_cons (x_var 1) a_nil)))
  s_nx)))
def F__law_steps : List PyData → Option Rs := runF 1 4 g__law_steps
def g__law_scene : Fs :=
  (s_seq (s_set 2 (x_lst a_nil))
  (s_seq (s_for (i_rng1 (x_var 0)) (g_name 3) [3]
  (s_seq (s_setF 4 (x_tfz 2 (x_cb c_len (a_cons (x_ix (x_call F__law_poured [] (a_cons (x_var 2) a_nil)) (x_var 3)) a_nil))))
  (s_seq (s_drop (x_app 2 (x_bin p_mod (x_cb c_int (a_cons (x_bin p_add (x_bin p_div (x_bin p_add (x_var 3) (x_c (.int 1))) (x_c (.int 2))) (x_callW F__law_take 1 (a_cons (x_c (.int 4)) a_nil))) a_nil)) (x_bin p_add (x_var 4) (x_c (.int 1))))))
  s_nx)))
  (s_seq (s_ret (x_cb c_tuple (a_cons (x_var 2) a_nil)))
  s_nx)))
def F__law_scene : Ow → List PyData → Option (PyData × Ow) := runWk 1 1 3 g__law_scene
def gx_need : Fsx :=
  (x_ifS (t_not (t_of (x_var 0)))
  (x_raise "NotUsable" ["word", "at"] (a_cons (x_var 1) (a_cons (x_neg (x_c (.int 1))) a_nil)))
  (xS s_nx))
def FY_need : List PyData → Option Ro := runX 2 0 gx_need
def g_need : Fs :=
  (s_if (t_not (t_of (x_var 0)))
  s_no
  s_nx)
def F_need : List PyData → Option Rs := runF 2 0 g_need
def FX_need : List PyData → Option Ro := orRx F_need FY_need
def g_is_nested : Fs :=
  (s_seq (s_if (t_not (t_of (x_isi .tuple (x_var 0))))
  (s_ret (x_c (.bool false)))
  s_nx)
  (s_seq (s_set 1 (x_lst (a_cons (x_c (.int 0)) a_nil)))
  (s_seq (s_setF 2 (x_c (.int 0)))
  (s_seq (s_for (i_seq (x_var 0)) (g_name 3) [3]
  (s_seq (s_aug (fun i j => i + j) 2 (x_c (.int 1)))
  (s_seq (s_if (t_not (t_of (x_call F_is_number [] (a_cons (x_var 3) a_nil))))
  (s_ret (x_c (.bool false)))
  s_nx)
  (s_seq (s_while (fun _ => 300) (t_of (x_bin q_gt (x_ix (x_var 1) (x_neg (x_c (.int 1)))) (x_var 3)))
  (s_drop (x_pop0 1)))
  (s_seq (s_if (t_of (x_bin p_ne (x_ix (x_var 1) (x_neg (x_c (.int 1)))) (x_var 3)))
  (s_ret (x_c (.bool false)))
  s_nx)
  (s_seq (s_drop (x_app 1 (x_var 2)))
  s_nx))))))
  (s_seq (s_ret (x_c (.bool true)))
  s_nx)))))
def F_is_nested : List PyData → Option Rs := runF 1 3 g_is_nested
def g_is_pouring : Fs :=
  (s_seq (s_if (t_not (t_of (x_isi .tuple (x_var 0))))
  (s_ret (x_c (.bool false)))
  s_nx)
  (s_seq (s_setF 1 (x_c (.int 0)))
  (s_seq (s_for (i_seq (x_var 0)) (g_name 2) [2]
  (s_seq (s_if (t_or (t_not (t_of (x_call F_is_number [] (a_cons (x_var 2) a_nil)))) (t_of (x_bin q_gt (x_var 2) (x_var 1))))
  (s_ret (x_c (.bool false)))
  s_nx)
  (s_seq (s_setF 1 (x_bin p_add (x_bin p_sub (x_var 1) (x_var 2)) (x_c (.int 1))))
  s_nx)))
  (s_seq (s_ret (x_c (.bool true)))
  s_nx))))
def F_is_pouring : List PyData → Option Rs := runF 1 2 g_is_pouring
def gx_need_plan : Fsx :=
  (x_ifS (t_not (t_of (x_call F_is_nested [] (a_cons (x_var 1) a_nil))))
  (x_raise "NotUsable" ["word", "at"] (a_cons (x_var 0) (a_cons (x_neg (x_c (.int 1))) a_nil)))
  (xS s_nx))
def FY_need_plan : List PyData → Option Ro := runX 2 0 gx_need_plan
def g_need_plan : Fs :=
  (s_if (t_not (t_of (x_call F_is_nested [] (a_cons (x_var 1) a_nil))))
  s_no
  s_nx)
def F_need_plan : List PyData → Option Rs := runF 2 0 g_need_plan
def FX_need_plan : List PyData → Option Ro := orRx F_need_plan FY_need_plan
def g_is_line_plan : Fs :=
  (s_ret (x_call F_is_nested [] (a_cons (x_var 0) a_nil)))
def F_is_line_plan : List PyData → Option Rs := runF 1 0 g_is_line_plan
def gx_plan_poured : Fsx :=
  (x_seq (x_drop (x_callX FX_need [] (a_cons (x_call F_is_pouring [] (a_cons (x_var 0) a_nil)) (a_cons (x_c (.str "pouring")) a_nil))))
  (x_seq (xS (s_setF 1 (x_tup a_nil)))
  (x_seq (xS (s_set 2 (x_lst a_nil)))
  (x_seq (xS (s_for (i_enum (x_var 0)) (g_tup [3, 4]) [3, 4]
  (s_seq (s_setF 1 (x_call F__poured_on [] (a_cons (x_var 1) (a_cons (x_var 4) (a_cons (x_bin p_add (x_var 3) (x_c (.int 1))) a_nil)))))
  (s_seq (s_drop (x_app 2 (x_bin p_sub (x_ix (x_ix (x_var 1) (x_neg (x_c (.int 1)))) (x_c (.int 0))) (x_c (.int 1)))))
  s_nx))))
  (x_seq (xS (s_ret (x_cb c_tuple (a_cons (x_var 2) a_nil))))
  (xS s_nx))))))
def FY_plan_poured : List PyData → Option Ro := runX 1 4 gx_plan_poured
def g_plan_poured : Fs :=
  (s_seq (s_drop (x_call F_need [] (a_cons (x_call F_is_pouring [] (a_cons (x_var 0) a_nil)) (a_cons (x_c (.str "pouring")) a_nil))))
  (s_seq (s_setF 1 (x_tup a_nil))
  (s_seq (s_set 2 (x_lst a_nil))
  (s_seq (s_for (i_enum (x_var 0)) (g_tup [3, 4]) [3, 4]
  (s_seq (s_setF 1 (x_call F__poured_on [] (a_cons (x_var 1) (a_cons (x_var 4) (a_cons (x_bin p_add (x_var 3) (x_c (.int 1))) a_nil)))))
  (s_seq (s_drop (x_app 2 (x_bin p_sub (x_ix (x_ix (x_var 1) (x_neg (x_c (.int 1)))) (x_c (.int 0))) (x_c (.int 1)))))
  s_nx)))
  (s_seq (s_ret (x_cb c_tuple (a_cons (x_var 2) a_nil)))
  s_nx)))))
def F_plan_poured : List PyData → Option Rs := runF 1 4 g_plan_poured
def FX_plan_poured : List PyData → Option Ro := orRx F_plan_poured FY_plan_poured
def gx_standing_after : Fsx :=
  (x_seq (x_drop (x_callX FX_need [] (a_cons (x_call F_is_pouring [] (a_cons (x_var 0) a_nil)) (a_cons (x_c (.str "pouring")) a_nil))))
  (x_seq (x_drop (x_callX FX_need [] (a_cons (x_and (x_call F_is_number [] (a_cons (x_var 1) a_nil)) (x_bin q_le (x_var 1) (x_cb c_len (a_cons (x_var 0) a_nil)))) (a_cons (x_c (.str "number")) a_nil))))
  (x_seq (xS (s_setF 2 (x_tup a_nil)))
  (x_seq (xS (s_for (i_rng1 (x_var 1)) (g_name 3) [3]
  (s_setF 2 (x_call F__poured_on [] (a_cons (x_var 2) (a_cons (x_ix (x_var 0) (x_var 3)) (a_cons (x_bin p_add (x_var 3) (x_c (.int 1))) a_nil)))))))
  (x_seq (xS (s_ret (x_var 2)))
  (xS s_nx))))))
def FY_standing_after : List PyData → Option Ro := runX 2 2 gx_standing_after
def g_standing_after : Fs :=
  (s_seq (s_drop (x_call F_need [] (a_cons (x_call F_is_pouring [] (a_cons (x_var 0) a_nil)) (a_cons (x_c (.str "pouring")) a_nil))))
  (s_seq (s_drop (x_call F_need [] (a_cons (x_and (x_call F_is_number [] (a_cons (x_var 1) a_nil)) (x_bin q_le (x_var 1) (x_cb c_len (a_cons (x_var 0) a_nil)))) (a_cons (x_c (.str "number")) a_nil))))
  (s_seq (s_setF 2 (x_tup a_nil))
  (s_seq (s_for (i_rng1 (x_var 1)) (g_name 3) [3]
  (s_setF 2 (x_call F__poured_on [] (a_cons (x_var 2) (a_cons (x_ix (x_var 0) (x_var 3)) (a_cons (x_bin p_add (x_var 3) (x_c (.int 1))) a_nil))))))
  (s_seq (s_ret (x_var 2))
  s_nx)))))
def F_standing_after : List PyData → Option Rs := runF 2 2 g_standing_after
def FX_standing_after : List PyData → Option Ro := orRx F_standing_after FY_standing_after
def gx_line_reads : Fsx :=
  (x_seq (x_drop (x_callX FX_need_plan [] (a_cons (x_c (.str "bases")) (a_cons (x_var 0) a_nil))))
  (x_seq (xS (s_set 1 (x_lst (a_cons (x_c (.int 0)) a_nil))))
  (x_seq (xS (s_for (i_seq (x_var 0)) (g_name 2) [2]
  (s_drop (x_app 1 (x_bin p_add (x_ix (x_var 1) (x_var 2)) (x_c (.int 1)))))))
  (x_seq (xS (s_ret (x_cb c_tuple (a_cons (x_var 1) a_nil))))
  (xS s_nx)))))
def FY_line_reads : List PyData → Option Ro := runX 1 2 gx_line_reads
def g_line_reads : Fs :=
  (s_seq (s_drop (x_call F_need_plan [] (a_cons (x_c (.str "bases")) (a_cons (x_var 0) a_nil))))
  (s_seq (s_set 1 (x_lst (a_cons (x_c (.int 0)) a_nil)))
  (s_seq (s_for (i_seq (x_var 0)) (g_name 2) [2]
  (s_drop (x_app 1 (x_bin p_add (x_ix (x_var 1) (x_var 2)) (x_c (.int 1))))))
  (s_seq (s_ret (x_cb c_tuple (a_cons (x_var 1) a_nil)))
  s_nx))))
def F_line_reads : List PyData → Option Rs := runF 1 2 g_line_reads
def FX_line_reads : List PyData → Option Ro := orRx F_line_reads FY_line_reads
def gx_line_writes : Fsx :=
  (x_seq (x_drop (x_callX FX_need_plan [] (a_cons (x_c (.str "bases")) (a_cons (x_var 0) a_nil))))
  (x_seq (xS (s_set 1 (x_lc (i_seq (x_var 0)) (g_name 5) t_yes (x_c (.int 0)) [5])))
  (x_seq (xS (s_for (i_enumF (x_var 0)) (g_tup [2, 3]) [2, 3]
  (s_for (i_rng2 (x_var 3) (x_var 2)) (g_name 4) [4]
  (s_augI (fun i j => i + j) 1 (x_var 4) (x_c (.int 1))))))
  (x_seq (xS (s_ret (x_cb c_tuple (a_cons (x_var 1) a_nil))))
  (xS s_nx)))))
def FY_line_writes : List PyData → Option Ro := runX 1 5 gx_line_writes
def g_line_writes : Fs :=
  (s_seq (s_drop (x_call F_need_plan [] (a_cons (x_c (.str "bases")) (a_cons (x_var 0) a_nil))))
  (s_seq (s_set 1 (x_lc (i_seq (x_var 0)) (g_name 5) t_yes (x_c (.int 0)) [5]))
  (s_seq (s_for (i_enumF (x_var 0)) (g_tup [2, 3]) [2, 3]
  (s_for (i_rng2 (x_var 3) (x_var 2)) (g_name 4) [4]
  (s_augI (fun i j => i + j) 1 (x_var 4) (x_c (.int 1)))))
  (s_seq (s_ret (x_cb c_tuple (a_cons (x_var 1) a_nil)))
  s_nx))))
def F_line_writes : List PyData → Option Rs := runF 1 5 g_line_writes
def FX_line_writes : List PyData → Option Ro := orRx F_line_writes FY_line_writes
def gx_pouring_of : Fsx :=
  (x_seq (x_drop (x_callX FX_need [] (a_cons (x_call F_is_line_plan [] (a_cons (x_var 0) a_nil)) (a_cons (x_c (.str "bases")) a_nil))))
  (x_seq (x_set 1 (x_callX FX_line_reads [] (a_cons (x_var 0) a_nil)))
  (x_seq (xS (s_ret (x_cb c_tuple (a_cons (x_lc (i_enum (x_var 0)) (g_tup [2, 3]) t_yes (x_bin p_sub (x_ix (x_var 1) (x_var 2)) (x_ix (x_var 1) (x_var 3))) [2, 3]) a_nil))))
  (xS s_nx))))
def FY_pouring_of : List PyData → Option Ro := runX 1 3 gx_pouring_of
def g_pouring_of : Fs :=
  (s_seq (s_drop (x_call F_need [] (a_cons (x_call F_is_line_plan [] (a_cons (x_var 0) a_nil)) (a_cons (x_c (.str "bases")) a_nil))))
  (s_seq (s_setF 1 (x_call F_line_reads [] (a_cons (x_var 0) a_nil)))
  (s_seq (s_ret (x_cb c_tuple (a_cons (x_lc (i_enum (x_var 0)) (g_tup [2, 3]) t_yes (x_bin p_sub (x_ix (x_var 1) (x_var 2)) (x_ix (x_var 1) (x_var 3))) [2, 3]) a_nil)))
  s_nx)))
def F_pouring_of : List PyData → Option Rs := runF 1 3 g_pouring_of
def FX_pouring_of : List PyData → Option Ro := orRx F_pouring_of FY_pouring_of
def gx_poured_counts : Fsx :=
  (x_ret (x_upX (ax_cons (x_callX FX_plan_poured [] (a_cons (x_var 0) a_nil)) (xA a_nil)) (x_callX FX_line_writes [] (faOf (ax_cons (x_callX FX_plan_poured [] (a_cons (x_var 0) a_nil)) (xA a_nil))))))
def FY_poured_counts : List PyData → Option Ro := runX 1 0 gx_poured_counts
def g_poured_counts : Fs :=
  (s_ret (x_call F_line_writes [] (a_cons (x_call F_plan_poured [] (a_cons (x_var 0) a_nil)) a_nil)))
def F_poured_counts : List PyData → Option Rs := runF 1 0 g_poured_counts
def FX_poured_counts : List PyData → Option Ro := orRx F_poured_counts FY_poured_counts
def R__law_same : Nat → List PyData → Option Rs
  | 0 => fun _ => none
  | N + 1 => runF 2 1 (s_seq (s_if (t_and (t_of (x_isi .tuple (x_var 0))) (t_of (x_isi .tuple (x_var 1))))
  (s_seq (s_if (t_of (x_bin p_ne (x_cb c_len (a_cons (x_var 0) a_nil)) (x_cb c_len (a_cons (x_var 1) a_nil))))
  (s_ret (x_c (.bool false)))
  s_nx)
  (s_seq (s_for (i_rng1 (x_cb c_len (a_cons (x_var 0) a_nil))) (g_name 2) [2]
  (s_if (t_not (t_of (x_call (R__law_same N) [] (a_cons (x_ix (x_var 0) (x_var 2)) (a_cons (x_ix (x_var 1) (x_var 2)) a_nil)))))
  (s_ret (x_c (.bool false)))
  s_nx))
  (s_seq (s_ret (x_c (.bool true)))
  s_nx)))
  s_nx)
  (s_seq (s_ret (x_and (x_bin p_eq (x_isi .bool (x_var 0)) (x_isi .bool (x_var 1))) (x_bin p_eq (x_var 0) (x_var 1))))
  s_nx))
theorem len__law_same : ∀ N ds, (R__law_same N ds).isSome = true → ds.length = 2
  | 0 => fun _ h => nomatch h
  | N + 1 => runF_len
def F__law_same : List PyData → Option Rs := R__law_same 14
def g__law_all : Fs :=
  (s_seq (s_setF 1 (x_call F__law_ways [] (a_cons (x_var 0) a_nil)))
  (s_seq (s_setF 2 (x_call F__law_plans [] (a_cons (x_var 0) a_nil)))
  (s_seq (s_set 3 (x_lst a_nil))
  (s_seq (s_for (i_seq (x_var 1)) (g_name 4) [4]
  (s_seq (s_setF 5 (x_call F_plan_poured [] (a_cons (x_var 4) a_nil)))
  (s_seq (s_if (t_or (t_not (t_of (x_call F__law_is_line_plan [] (a_cons (x_var 5) (a_cons (x_var 0) a_nil))))) (t_or (t_of (x_bin (p_inQ false) (x_var 5) (x_var 3))) (t_not (t_of (x_call F__law_same [] (a_cons (x_call F_pouring_of [] (a_cons (x_var 5) a_nil)) (a_cons (x_var 4) a_nil)))))))
  (s_ret (x_c (.bool false)))
  s_nx)
  (s_seq (s_if (t_not (t_of (x_call F__law_same [] (a_cons (x_call F_poured_counts [] (a_cons (x_var 4) a_nil)) (a_cons (x_call F__law_writes [] (a_cons (x_var 5) a_nil)) a_nil)))))
  (s_ret (x_c (.bool false)))
  s_nx)
  (s_seq (s_drop (x_app 3 (x_var 5)))
  s_nx)))))
  (s_seq (s_ret (x_and (x_bin p_eq (x_cb c_sortedB (a_cons (x_var 3) a_nil)) (x_cb c_sortedB (a_cons (x_var 2) a_nil))) (x_bin p_eq (x_cb c_len (a_cons (x_var 3) a_nil)) (x_ix (x_tup (a_cons (x_c (.int 1)) (a_cons (x_c (.int 1)) (a_cons (x_c (.int 2)) (a_cons (x_c (.int 5)) (a_cons (x_c (.int 14)) (a_cons (x_c (.int 42)) a_nil))))))) (x_var 0)))))
  s_nx)))))
def F__law_all : List PyData → Option Rs := runF 1 5 g__law_all
def g__law_refusal : Fs :=
  (s_seq (noX (x_try (x_ifS (t_of (x_bin p_eq (x_var 0) (x_c (.int 0))))
  (x_drop (x_callX FX_pouring_of [] (a_cons (x_var 1) a_nil)))
  (x_ifS (t_of (x_bin p_eq (x_var 0) (x_c (.int 1))))
  (x_drop (x_callX FX_plan_poured [] (a_cons (x_var 1) a_nil)))
  (x_ifS (t_of (x_bin p_eq (x_var 0) (x_c (.int 2))))
  (x_drop (x_callX FX_standing_after [] (a_cons (x_var 1) (a_cons (x_var 2) a_nil))))
  (x_drop (x_callX FX_poured_counts [] (a_cons (x_var 1) a_nil)))))) (tabF xtab "NotUsable") 3 (fun k a dd =>
  (s_seq (s_if (t_not (t_of (x_call F__law_same [] (a_cons (x_fld xok k a dd 3 "at") (a_cons (x_neg (x_c (.int 1))) a_nil)))))
  (s_ret (x_c (.str "no")))
  s_nx)
  (s_seq (s_ret (x_fld xok k a dd 3 "word"))
  s_nx)))))
  (s_seq (s_ret (x_c (.str "let")))
  s_nx))
def F__law_refusal : List PyData → Option Rs := runF 3 1 g__law_refusal
def g__law_by_hand : Fs :=
  (s_seq (s_setF 0 (x_tup (a_cons (x_c (.int 0)) (a_cons (x_c (.int 1)) (a_cons (x_c (.int 0)) (a_cons (x_c (.int 3)) (a_cons (x_c (.int 3)) a_nil)))))))
  (s_seq (s_setF 1 (x_tup (a_cons (x_c (.int 0)) (a_cons (x_c (.int 0)) (a_cons (x_c (.int 2)) (a_cons (x_c (.int 0)) (a_cons (x_c (.int 1)) a_nil)))))))
  (s_seq (s_if (t_not (t_of (x_call F__law_same [] (a_cons (x_tup (a_cons (x_call F_pouring_of [] (a_cons (x_var 0) a_nil)) (a_cons (x_call F_plan_poured [] (a_cons (x_var 1) a_nil)) (a_cons (x_call F_poured_counts [] (a_cons (x_var 1) a_nil)) a_nil)))) (a_cons (x_tup (a_cons (x_var 1) (a_cons (x_var 0) (a_cons (x_tup (a_cons (x_c (.int 2)) (a_cons (x_c (.int 2)) (a_cons (x_c (.int 1)) (a_cons (x_c (.int 2)) (a_cons (x_c (.int 1)) a_nil)))))) a_nil)))) a_nil)))))
  (s_ret (x_c (.bool false)))
  s_nx)
  (s_seq (s_if (t_not (t_of (x_call F__law_same [] (a_cons (x_tup (a_cons (x_call F_standing_after [] (a_cons (x_var 1) (a_cons (x_c (.int 4)) a_nil))) (a_cons (x_call F_standing_after [] (a_cons (x_var 1) (a_cons (x_c (.int 5)) a_nil))) a_nil))) (a_cons (x_tup (a_cons (x_tup (a_cons (x_tup (a_cons (x_c (.int 1)) (a_cons (x_c (.int 3)) a_nil))) (a_cons (x_tup (a_cons (x_c (.int 4)) (a_cons (x_c (.int 4)) a_nil))) a_nil))) (a_cons (x_tup (a_cons (x_tup (a_cons (x_c (.int 1)) (a_cons (x_c (.int 3)) a_nil))) (a_cons (x_tup (a_cons (x_c (.int 4)) (a_cons (x_c (.int 5)) a_nil))) a_nil))) a_nil))) a_nil)))))
  (s_ret (x_c (.bool false)))
  s_nx)
  (s_seq (s_setF 1 (x_tup (a_cons (x_c (.int 0)) (a_cons (x_c (.int 0)) (a_cons (x_c (.int 1)) (a_cons (x_c (.int 0)) (a_cons (x_c (.int 3)) a_nil)))))))
  (s_seq (s_if (t_not (t_of (x_call F__law_same [] (a_cons (x_callK F_plan_poured [0] a_nil (a_cons (x_var 1) a_nil)) (a_cons (x_tup (a_cons (x_c (.int 0)) (a_cons (x_c (.int 1)) (a_cons (x_c (.int 1)) (a_cons (x_c (.int 3)) (a_cons (x_c (.int 0)) a_nil)))))) a_nil)))))
  (s_ret (x_c (.bool false)))
  s_nx)
  (s_seq (s_if (t_not (t_of (x_call F__law_same [] (a_cons (x_callK F_poured_counts [0] a_nil (a_cons (x_var 1) a_nil)) (a_cons (x_tup (a_cons (x_c (.int 2)) (a_cons (x_c (.int 3)) (a_cons (x_c (.int 2)) (a_cons (x_c (.int 2)) (a_cons (x_c (.int 1)) a_nil)))))) a_nil)))))
  (s_ret (x_c (.bool false)))
  s_nx)
  (s_seq (s_if (t_not (t_of (x_call F__law_same [] (a_cons (x_callK F_standing_after [1, 0] a_nil (a_cons (x_c (.int 4)) (a_cons (x_var 1) a_nil))) (a_cons (x_tup (a_cons (x_tup (a_cons (x_c (.int 1)) (a_cons (x_c (.int 1)) a_nil))) (a_cons (x_tup (a_cons (x_c (.int 2)) (a_cons (x_c (.int 3)) a_nil))) (a_cons (x_tup (a_cons (x_c (.int 4)) (a_cons (x_c (.int 4)) a_nil))) a_nil)))) a_nil)))))
  (s_ret (x_c (.bool false)))
  s_nx)
  (s_seq (s_if (t_not (t_of (x_call F__law_same [] (a_cons (x_tup (a_cons (x_call F_standing_after [] (a_cons (x_var 1) (a_cons (x_c (.int 5)) a_nil))) (a_cons (x_call F_standing_after [] (a_cons (x_var 1) (a_cons (x_c (.int 0)) a_nil))) a_nil))) (a_cons (x_tup (a_cons (x_tup (a_cons (x_tup (a_cons (x_c (.int 1)) (a_cons (x_c (.int 5)) a_nil))) a_nil)) (a_cons (x_tup a_nil) a_nil))) a_nil)))))
  (s_ret (x_c (.bool false)))
  s_nx)
  (s_seq (s_if (t_or (t_not (t_of (x_call F__law_same [] (a_cons (x_callK F_pouring_of [0] a_nil (a_cons (x_tup (a_cons (x_c (.int 0)) (a_cons (x_c (.int 1)) (a_cons (x_c (.int 2)) (a_cons (x_c (.int 2)) (a_cons (x_c (.int 0)) (a_cons (x_c (.int 5)) a_nil))))))) a_nil)) (a_cons (x_tup (a_cons (x_c (.int 0)) (a_cons (x_c (.int 0)) (a_cons (x_c (.int 0)) (a_cons (x_c (.int 1)) (a_cons (x_c (.int 3)) (a_cons (x_c (.int 0)) a_nil))))))) a_nil))))) (t_of (x_bin p_isnot (x_callK F_is_pouring [0] a_nil (a_cons (x_var 1) a_nil)) (x_c (.bool true)))))
  (s_ret (x_c (.bool false)))
  s_nx)
  (s_seq (s_setF 2 (x_bin p_repT (x_tup (a_cons (x_c (.int 0)) a_nil)) (x_c (.int 24))))
  (s_seq (s_setF 3 (x_cb c_tuple (a_cons (x_lc (i_rng2 (x_c (.int 1)) (x_c (.int 25))) (g_name 5) t_yes (x_tup (a_cons (x_var 5) (a_cons (x_var 5) a_nil))) [5]) a_nil)))
  (s_seq (s_setF 4 (x_tup (a_cons (x_call F_standing_after [] (a_cons (x_var 2) (a_cons (x_c (.int 24)) a_nil))) (a_cons (x_call F_plan_poured [] (a_cons (x_var 2) a_nil)) (a_cons (x_call F_poured_counts [] (a_cons (x_var 2) a_nil)) (a_cons (x_call F_pouring_of [] (a_cons (x_trg (g_rg1 (x_c (.int 24)))) a_nil)) a_nil))))))
  (s_seq (s_if (t_not (t_of (x_call F__law_same [] (a_cons (x_var 4) (a_cons (x_tup (a_cons (x_var 3) (a_cons (x_trg (g_rg1 (x_c (.int 24)))) (a_cons (x_bin p_repT (x_tup (a_cons (x_c (.int 1)) a_nil)) (x_c (.int 24))) (a_cons (x_var 2) a_nil))))) a_nil)))))
  (s_ret (x_c (.bool false)))
  s_nx)
  (s_seq (s_setF 2 (x_bin p_add (x_bin p_repT (x_tup (a_cons (x_c (.int 0)) a_nil)) (x_c (.int 23))) (x_tup (a_cons (x_c (.int 23)) a_nil))))
  (s_seq (s_setF 4 (x_tup (a_cons (x_call F_standing_after [] (a_cons (x_var 2) (a_cons (x_c (.int 24)) a_nil))) (a_cons (x_call F_plan_poured [] (a_cons (x_var 2) a_nil)) (a_cons (x_call F_poured_counts [] (a_cons (x_var 2) a_nil)) (a_cons (x_call F_standing_after [] (a_cons (x_var 2) (a_cons (x_c (.int 23)) a_nil))) a_nil))))))
  (s_seq (s_if (t_not (t_of (x_call F__law_same [] (a_cons (x_var 4) (a_cons (x_tup (a_cons (x_tup (a_cons (x_tup (a_cons (x_c (.int 1)) (a_cons (x_c (.int 24)) a_nil))) a_nil)) (a_cons (x_bin p_add (x_trg (g_rg1 (x_c (.int 23)))) (x_tup (a_cons (x_c (.int 0)) a_nil))) (a_cons (x_bin p_add (x_bin p_repT (x_tup (a_cons (x_c (.int 2)) a_nil)) (x_c (.int 23))) (x_tup (a_cons (x_c (.int 1)) a_nil))) (a_cons (x_sl (x_var 3) o_no (o_at (x_c (.int 23)))) a_nil))))) a_nil)))))
  (s_ret (x_c (.bool false)))
  s_nx)
  (s_seq (s_ret (x_call F__law_same [] (a_cons (x_tup (a_cons (x_call F_pouring_of [] (a_cons (x_tup a_nil) a_nil)) (a_cons (x_call F_plan_poured [] (a_cons (x_tup a_nil) a_nil)) (a_cons (x_call F_poured_counts [] (a_cons (x_tup a_nil) a_nil)) (a_cons (x_call F_standing_after [] (a_cons (x_tup a_nil) (a_cons (x_c (.int 0)) a_nil))) a_nil))))) (a_cons (x_tup (a_cons (x_tup a_nil) (a_cons (x_tup a_nil) (a_cons (x_tup a_nil) (a_cons (x_tup a_nil) a_nil))))) a_nil))))
  s_nx))))))))))))))))))
def F__law_by_hand : List PyData → Option Rs := runF 0 6 g__law_by_hand
def g__law_refusals : Fs :=
  (s_seq (s_for (i_seq (x_lst (a_cons (x_lst (a_cons (x_c (.int 0)) a_nil)) (a_cons (x_tup (a_cons (x_c (.int 1)) a_nil)) (a_cons (x_tup (a_cons (x_c (.int 0)) (a_cons (x_c (.int 2)) a_nil))) (a_cons (x_tup (a_cons (x_c (.int 0)) (a_cons (x_c (.int 1)) (a_cons (x_c (.int 2)) a_nil)))) (a_cons (x_tup (a_cons (x_c (.bool true)) a_nil)) (a_cons (x_tup (a_cons (x_c (.int 0)) (a_cons (x_c (.bool true)) a_nil))) (a_cons (x_tup (a_cons (x_neg (x_c (.int 1))) a_nil)) (a_cons (x_c .none) (a_cons (x_c (.int 0)) (a_cons (x_tup (a_cons (x_tup (a_cons (x_c (.int 0)) a_nil)) a_nil)) (a_cons (x_tup (a_cons (x_c (.str "0")) a_nil)) (a_cons (x_tup (a_cons (x_c (.int 0)) (a_cons (x_c (.int 0)) (a_cons (x_c (.int 3)) a_nil)))) (a_cons (x_tup (a_cons (x_c (.int 0)) (a_cons (x_c (.int 0)) (a_cons (x_c (.int 2)) (a_cons (x_c (.int 2)) a_nil))))) (a_cons (x_tup (a_cons (x_c (.bool false)) a_nil)) (a_cons (x_c (.str "0")) (a_cons (x_tup (a_cons (x_c (.int 0)) (a_cons (x_c (.int 1234567890123456789)) a_nil))) (a_cons (x_tup (a_cons (x_c (.int 0)) (a_cons (x_c .none) a_nil))) (a_cons (x_lst (a_cons (x_c (.int 0)) (a_cons (x_c (.int 1)) a_nil))) a_nil)))))))))))))))))))) (g_name 0) [0]
  (s_seq (s_if (t_of (x_bin p_isnot (x_call F_is_pouring [] (a_cons (x_var 0) a_nil)) (x_c (.bool false))))
  (s_ret (x_c (.bool false)))
  s_nx)
  (s_seq (s_for (i_rng2 (x_c (.int 1)) (x_c (.int 4))) (g_name 2) [2]
  (s_if (t_of (x_bin p_ne (x_call F__law_refusal [] (a_cons (x_var 2) (a_cons (x_var 0) (a_cons (x_neg (x_c (.int 1))) a_nil)))) (x_c (.str "pouring"))))
  (s_ret (x_c (.bool false)))
  s_nx))
  s_nx)))
  (s_seq (s_for (i_seq (x_lst (a_cons (x_tup a_nil) (a_cons (x_tup (a_cons (x_c (.int 0)) a_nil)) (a_cons (x_tup (a_cons (x_c (.int 0)) (a_cons (x_c (.int 1)) a_nil))) (a_cons (x_tup (a_cons (x_c (.int 0)) (a_cons (x_c (.int 1)) (a_cons (x_c (.int 1)) a_nil)))) (a_cons (x_tup (a_cons (x_c (.int 0)) (a_cons (x_c (.int 0)) (a_cons (x_c (.int 2)) (a_cons (x_c (.int 1)) a_nil))))) (a_cons (x_tup (a_cons (x_c (.int 0)) (a_cons (x_c (.int 0)) (a_cons (x_c (.int 0)) (a_cons (x_c (.int 3)) (a_cons (x_c (.int 1)) (a_cons (x_c (.int 0)) (a_cons (x_c (.int 2)) a_nil)))))))) (a_cons (x_tup (a_cons (x_c (.int 0)) (a_cons (x_c (.int 0)) (a_cons (x_c (.int 0)) (a_cons (x_c (.int 0)) (a_cons (x_c (.int 4)) a_nil)))))) a_nil))))))))) (g_name 1) [1]
  (s_seq (s_if (t_or (t_of (x_bin p_isnot (x_call F_is_pouring [] (a_cons (x_var 1) a_nil)) (x_c (.bool true)))) (t_of (x_bin p_ne (x_call F__law_refusal [] (a_cons (x_c (.int 1)) (a_cons (x_var 1) (a_cons (x_c (.int 0)) a_nil)))) (x_c (.str "let")))))
  (s_ret (x_c (.bool false)))
  s_nx)
  (s_seq (s_if (t_of (x_bin p_ne (x_call F__law_refusal [] (a_cons (x_c (.int 2)) (a_cons (x_var 1) (a_cons (x_cb c_len (a_cons (x_var 1) a_nil)) a_nil)))) (x_c (.str "let"))))
  (s_ret (x_c (.bool false)))
  s_nx)
  (s_seq (s_if (t_or (t_of (x_bin p_ne (x_call F__law_refusal [] (a_cons (x_c (.int 3)) (a_cons (x_var 1) (a_cons (x_c (.int 0)) a_nil)))) (x_c (.str "let")))) (t_of (x_bin p_ne (x_call F__law_refusal [] (a_cons (x_c (.int 2)) (a_cons (x_var 1) (a_cons (x_c (.int 0)) a_nil)))) (x_c (.str "let")))))
  (s_ret (x_c (.bool false)))
  s_nx)
  (s_seq (s_for (i_seq (x_lst (a_cons (x_bin p_add (x_cb c_len (a_cons (x_var 1) a_nil)) (x_c (.int 1))) (a_cons (x_neg (x_c (.int 1))) (a_cons (x_c (.bool true)) (a_cons (x_c .none) (a_cons (x_c (.str "0")) (a_cons (x_tup (a_cons (x_c (.int 0)) a_nil)) (a_cons (x_c (.bool false)) a_nil))))))))) (g_name 0) [0]
  (s_if (t_of (x_bin p_ne (x_call F__law_refusal [] (a_cons (x_c (.int 2)) (a_cons (x_var 1) (a_cons (x_var 0) a_nil)))) (x_c (.str "number"))))
  (s_ret (x_c (.bool false)))
  s_nx))
  s_nx)))))
  (s_seq (s_for (i_seq (x_lst (a_cons (x_tup (a_cons (x_c (.int 0)) (a_cons (x_c (.int 0)) (a_cons (x_c (.int 1)) a_nil)))) (a_cons (x_tup (a_cons (x_c (.int 1)) a_nil)) (a_cons (x_tup (a_cons (x_c (.int 0)) (a_cons (x_c (.int 2)) a_nil))) (a_cons (x_lst (a_cons (x_c (.int 0)) (a_cons (x_c (.int 1)) a_nil))) (a_cons (x_tup (a_cons (x_c (.int 0)) (a_cons (x_c (.bool true)) a_nil))) (a_cons (x_tup (a_cons (x_c (.bool false)) a_nil)) (a_cons (x_c .none) (a_cons (x_c (.int 0)) (a_cons (x_tup (a_cons (x_neg (x_c (.int 1))) a_nil)) (a_cons (x_tup (a_cons (x_c (.int 0)) (a_cons (x_c (.int 1)) (a_cons (x_c (.int 2)) (a_cons (x_c (.int 1)) (a_cons (x_c (.int 2)) a_nil)))))) (a_cons (x_tup (a_cons (x_c (.str "0")) a_nil)) a_nil))))))))))))) (g_name 0) [0]
  (s_if (t_of (x_bin p_ne (x_call F__law_refusal [] (a_cons (x_c (.int 0)) (a_cons (x_var 0) (a_cons (x_c (.int 0)) a_nil)))) (x_c (.str "bases"))))
  (s_ret (x_c (.bool false)))
  s_nx))
  (s_seq (s_for (i_seq (x_lst (a_cons (x_tup a_nil) (a_cons (x_tup (a_cons (x_c (.int 0)) a_nil)) (a_cons (x_tup (a_cons (x_c (.int 0)) (a_cons (x_c (.int 0)) a_nil))) (a_cons (x_tup (a_cons (x_c (.int 0)) (a_cons (x_c (.int 1)) a_nil))) (a_cons (x_tup (a_cons (x_c (.int 0)) (a_cons (x_c (.int 1)) (a_cons (x_c (.int 1)) a_nil)))) (a_cons (x_tup (a_cons (x_c (.int 0)) (a_cons (x_c (.int 1)) (a_cons (x_c (.int 0)) (a_cons (x_c (.int 3)) (a_cons (x_c (.int 3)) a_nil)))))) (a_cons (x_tup (a_cons (x_c (.int 0)) (a_cons (x_c (.int 1)) (a_cons (x_c (.int 2)) (a_cons (x_c (.int 1)) (a_cons (x_c (.int 1)) a_nil)))))) a_nil))))))))) (g_name 1) [1]
  (s_if (t_of (x_bin p_ne (x_call F__law_refusal [] (a_cons (x_c (.int 0)) (a_cons (x_var 1) (a_cons (x_c (.int 0)) a_nil)))) (x_c (.str "let"))))
  (s_ret (x_c (.bool false)))
  s_nx))
  (s_seq (s_if (t_or (t_of (x_bin p_isnot (x_call F_is_pouring [] (a_cons (x_bin p_repT (x_tup (a_cons (x_c (.int 0)) a_nil)) (x_c (.int 20))) a_nil)) (x_c (.bool true)))) (t_of (x_bin p_isnot (x_call F_is_pouring [] (a_cons (x_bin p_add (x_bin p_repT (x_tup (a_cons (x_c (.int 0)) a_nil)) (x_c (.int 19))) (x_tup (a_cons (x_c (.int 20)) a_nil))) a_nil)) (x_c (.bool false)))))
  (s_ret (x_c (.bool false)))
  s_nx)
  (s_seq (s_ret (x_and (x_bin p_is (x_call F_is_pouring [] (a_cons (x_bin p_repT (x_tup (a_cons (x_c (.int 0)) a_nil)) (x_c (.int 60))) a_nil)) (x_c (.bool true))) (x_bin p_is (x_call F_is_pouring [] (a_cons (x_bin p_add (x_bin p_repT (x_tup (a_cons (x_c (.int 0)) a_nil)) (x_c (.int 59))) (x_tup (a_cons (x_c (.int 60)) a_nil))) a_nil)) (x_c (.bool false)))))
  s_nx))))))
def F__law_refusals : List PyData → Option Rs := runF 0 3 g__law_refusals
def g_law : Fs :=
  (s_seq (s_setF 1 (x_bin p_mod (x_call F__law_cell [] (a_cons (x_var 0) (a_cons (x_c (.int 0)) a_nil))) (x_c (.int 8))))
  (s_seq (s_if (t_of (x_bin p_eq (x_var 1) (x_c (.int 5))))
  (s_ret (x_call F__law_by_hand [] a_nil))
  s_nx)
  (s_seq (s_if (t_of (x_bin p_eq (x_var 1) (x_c (.int 6))))
  (s_ret (x_call F__law_refusals [] a_nil))
  s_nx)
  (s_seq (s_callNw F__law_pool 12 (a_cons (x_var 0) a_nil))
  (s_seq (s_if (t_of (x_bin p_eq (x_var 1) (x_c (.int 2))))
  (s_ret (x_call F__law_all [] (a_cons (x_bin p_add (x_c (.int 4)) (x_callW F__law_take 12 (a_cons (x_c (.int 2)) a_nil))) a_nil)))
  s_nx)
  (s_seq (s_set 2 (x_bin p_add (x_c (.int 5)) (x_callW F__law_take 12 (a_cons (x_c (.int 5)) a_nil))))
  (s_seq (s_if (t_of (x_bin p_eq (x_var 1) (x_c (.int 3))))
  (s_set 2 (x_callW F__law_take 12 (a_cons (x_c (.int 4)) a_nil)))
  s_nx)
  (s_seq (s_if (t_of (x_bin p_eq (x_var 1) (x_c (.int 7))))
  (s_set 2 (x_c (.int 24)))
  s_nx)
  (s_seq (s_fz 2 (s_setF 3 (x_callWk F__law_scene 1 (a_cons (x_var 2) (a_cons (x_var 12) a_nil)))))
  (s_seq (s_setF 4 (x_call F__law_poured [] (a_cons (x_var 3) a_nil)))
  (s_seq (s_setF 5 (x_cb c_tuple (a_cons (x_lc (i_rng2 (x_c (.int 1)) (x_bin p_add (x_var 2) (x_c (.int 1)))) (g_name 6) t_yes (x_bin p_sub (x_ix (x_ix (x_ix (x_var 4) (x_var 6)) (x_neg (x_c (.int 1)))) (x_c (.int 0))) (x_c (.int 1))) [6]) a_nil)))
  (s_seq (s_fz 2 (s_if (t_or (t_of (x_bin p_isnot (x_call F_is_pouring [] (a_cons (x_var 3) a_nil)) (x_c (.bool true)))) (t_or (t_not (t_of (x_call F__law_same [] (a_cons (x_call F_plan_poured [] (a_cons (x_var 3) a_nil)) (a_cons (x_var 5) a_nil))))) (t_not (t_of (x_call F__law_is_line_plan [] (a_cons (x_var 5) (a_cons (x_var 2) a_nil)))))))
  (s_ret (x_c (.bool false)))
  s_nx))
  (s_seq (s_if (t_or (t_not (t_of (x_call F__law_same [] (a_cons (x_call F_pouring_of [] (a_cons (x_var 5) a_nil)) (a_cons (x_var 3) a_nil))))) (t_not (t_of (x_call F__law_same [] (a_cons (x_call F_poured_counts [] (a_cons (x_var 3) a_nil)) (a_cons (x_call F__law_writes [] (a_cons (x_var 5) a_nil)) a_nil))))))
  (s_ret (x_c (.bool false)))
  s_nx)
  (s_seq (s_for (i_rng1 (x_bin p_add (x_var 2) (x_c (.int 1)))) (g_name 6) [6]
  (s_seq (s_setF 10 (x_call F_standing_after [] (a_cons (x_var 3) (a_cons (x_var 6) a_nil))))
  (s_seq (s_if (t_or (t_not (t_of (x_call F__law_same [] (a_cons (x_var 10) (a_cons (x_ix (x_var 4) (x_var 6)) a_nil))))) (t_not (t_of (x_call F__law_same [] (a_cons (x_var 10) (a_cons (x_call F__law_chain [] (a_cons (x_var 5) (a_cons (x_var 6) a_nil))) a_nil))))))
  (s_ret (x_c (.bool false)))
  s_nx)
  s_nx)))
  (s_seq (s_setF 7 (x_call F__law_bases [] (a_cons (x_lc (i_rng2 (x_c (.int 1)) (x_bin p_add (x_var 2) (x_c (.int 1)))) (g_name 11) t_yes (x_bin p_add (x_c (.int 1)) (x_bin p_mod (x_cb c_int (a_cons (x_bin p_add (x_bin p_mul (x_c (.int 5)) (x_var 11)) (x_callW F__law_take 12 (a_cons (x_c (.int 4)) a_nil))) a_nil)) (x_c (.int 4)))) [11]) a_nil)))
  (s_seq (s_setF 8 (x_call F__law_steps [] (a_cons (x_var 7) a_nil)))
  (s_seq (s_if (t_or (t_not (t_of (x_call F__law_same [] (a_cons (x_call F_pouring_of [] (a_cons (x_var 7) a_nil)) (a_cons (x_var 8) a_nil))))) (t_not (t_of (x_call F__law_same [] (a_cons (x_call F_plan_poured [] (a_cons (x_var 8) a_nil)) (a_cons (x_var 7) a_nil))))))
  (s_ret (x_c (.bool false)))
  s_nx)
  (s_seq (s_for (i_rng1 (x_bin p_add (x_var 2) (x_c (.int 1)))) (g_name 6) [6]
  (s_if (t_not (t_of (x_call F__law_same [] (a_cons (x_call F_standing_after [] (a_cons (x_var 8) (a_cons (x_var 6) a_nil))) (a_cons (x_call F__law_chain [] (a_cons (x_var 7) (a_cons (x_var 6) a_nil))) a_nil)))))
  (s_ret (x_c (.bool false)))
  s_nx))
  (s_seq (s_setF 9 (x_bin p_add (x_sl (x_var 3) o_no (o_at (x_neg (x_c (.int 1))))) (x_tup (a_cons (x_bin p_add (x_cb c_len (a_cons (x_ix (x_var 4) (x_cb c_max2 (a_cons (x_c (.int 0)) (a_cons (x_bin p_sub (x_var 2) (x_c (.int 1))) a_nil)))) a_nil)) (x_c (.int 1))) a_nil))))
  (s_seq (s_ret (x_and (x_call F__law_same [] (a_cons (x_call F_pouring_of [] (a_cons (x_var 7) a_nil)) (a_cons (x_var 8) a_nil))) (x_bin p_is (x_call F_is_pouring [] (a_cons (x_var 9) a_nil)) (x_c (.bool false)))))
  s_nx))))))))))))))))))))
def F_law : List PyData → Option Rs := runF 1 12 g_law
end
end K44
namespace K44
open PySem PySem.Spec PyProof.Rows L2 DL
def top (i : Nat) : Stmt := PySem.Challenge.pw_sincemarks_k44_whole_pourings_and_plans.main.body.getD i (.Pass ⟨0, 0, 0, 0⟩)
abbrev s_is_integer : Stmt := top 5
abbrev s_is_number : Stmt := top 6
abbrev s_need : Stmt := top 8
abbrev s_is_nested : Stmt := top 10
abbrev s_need_plan : Stmt := top 11
abbrev s_line_reads : Stmt := top 13
abbrev s_line_writes : Stmt := top 14
abbrev s_is_line_plan : Stmt := top 16
abbrev s_is_pouring : Stmt := top 18
abbrev s_pouring_of : Stmt := top 19
abbrev s__poured_on : Stmt := top 20
abbrev s_plan_poured : Stmt := top 21
abbrev s_standing_after : Stmt := top 22
abbrev s_poured_counts : Stmt := top 23
abbrev s__law_cell : Stmt := top 25
abbrev s__law_pool : Stmt := top 26
abbrev s__law_take : Stmt := top 27
abbrev s__law_same : Stmt := top 28
abbrev s__law_poured : Stmt := top 29
abbrev s__law_bases : Stmt := top 30
abbrev s__law_nested : Stmt := top 31
abbrev s__law_chain : Stmt := top 32
abbrev s__law_writes : Stmt := top 33
abbrev s__law_is_line_plan : Stmt := top 34
abbrev s__law_ways : Stmt := top 35
abbrev s__law_plans : Stmt := top 36
abbrev s__law_all : Stmt := top 37
abbrev s__law_refusal : Stmt := top 38
abbrev s__law_refusals : Stmt := top 39
abbrev s__law_by_hand : Stmt := top 40
abbrev s__law_steps : Stmt := top 41
abbrev s__law_scene : Stmt := top 42
abbrev s_law : Stmt := top 43
def d_is_integer : He.DefD := ⟨("is_integer", none), "is_integer", "is_integer", defArgs s_is_integer, defBody s_is_integer, defScope s_is_integer, [], []⟩
def d_is_number : He.DefD := ⟨("is_number", none), "is_number", "is_number", defArgs s_is_number, defBody s_is_number, defScope s_is_number, [], []⟩
def d_need : He.DefD := ⟨("need", none), "need", "need", defArgs s_need, defBody s_need, defScope s_need, [], []⟩
def d_is_nested : He.DefD := ⟨("is_nested", none), "is_nested", "is_nested", defArgs s_is_nested, defBody s_is_nested, defScope s_is_nested, [], []⟩
def d_need_plan : He.DefD := ⟨("need_plan", none), "need_plan", "need_plan", defArgs s_need_plan, defBody s_need_plan, defScope s_need_plan, [], []⟩
def d_line_reads : He.DefD := ⟨("line_reads", none), "line_reads", "line_reads", defArgs s_line_reads, defBody s_line_reads, defScope s_line_reads, [], []⟩
def d_line_writes : He.DefD := ⟨("line_writes", none), "line_writes", "line_writes", defArgs s_line_writes, defBody s_line_writes, defScope s_line_writes, [], []⟩
def d_is_line_plan : He.DefD := ⟨("is_line_plan", none), "is_line_plan", "is_line_plan", defArgs s_is_line_plan, defBody s_is_line_plan, defScope s_is_line_plan, [], []⟩
def d_is_pouring : He.DefD := ⟨("is_pouring", none), "is_pouring", "is_pouring", defArgs s_is_pouring, defBody s_is_pouring, defScope s_is_pouring, [], []⟩
def d_pouring_of : He.DefD := ⟨("pouring_of", none), "pouring_of", "pouring_of", defArgs s_pouring_of, defBody s_pouring_of, defScope s_pouring_of, [], []⟩
def d__poured_on : He.DefD := ⟨("_poured_on", none), "_poured_on", "_poured_on", defArgs s__poured_on, defBody s__poured_on, defScope s__poured_on, [], []⟩
def d_plan_poured : He.DefD := ⟨("plan_poured", none), "plan_poured", "plan_poured", defArgs s_plan_poured, defBody s_plan_poured, defScope s_plan_poured, [], []⟩
def d_standing_after : He.DefD := ⟨("standing_after", none), "standing_after", "standing_after", defArgs s_standing_after, defBody s_standing_after, defScope s_standing_after, [], []⟩
def d_poured_counts : He.DefD := ⟨("poured_counts", none), "poured_counts", "poured_counts", defArgs s_poured_counts, defBody s_poured_counts, defScope s_poured_counts, [], []⟩
def d__law_cell : He.DefD := ⟨("_law_cell", none), "_law_cell", "_law_cell", defArgs s__law_cell, defBody s__law_cell, defScope s__law_cell, [], []⟩
def d__law_pool : He.DefD := ⟨("_law_pool", none), "_law_pool", "_law_pool", defArgs s__law_pool, defBody s__law_pool, defScope s__law_pool, [], []⟩
def d__law_take : He.DefD := ⟨("_law_take", none), "_law_take", "_law_take", defArgs s__law_take, defBody s__law_take, defScope s__law_take, [], []⟩
def d__law_same : He.DefD := ⟨("_law_same", none), "_law_same", "_law_same", defArgs s__law_same, defBody s__law_same, defScope s__law_same, [], []⟩
def d__law_poured : He.DefD := ⟨("_law_poured", none), "_law_poured", "_law_poured", defArgs s__law_poured, defBody s__law_poured, defScope s__law_poured, [], []⟩
def d__law_bases : He.DefD := ⟨("_law_bases", none), "_law_bases", "_law_bases", defArgs s__law_bases, defBody s__law_bases, defScope s__law_bases, [], []⟩
def d__law_nested : He.DefD := ⟨("_law_nested", none), "_law_nested", "_law_nested", defArgs s__law_nested, defBody s__law_nested, defScope s__law_nested, [], []⟩
def d__law_chain : He.DefD := ⟨("_law_chain", none), "_law_chain", "_law_chain", defArgs s__law_chain, defBody s__law_chain, defScope s__law_chain, [], []⟩
def d__law_writes : He.DefD := ⟨("_law_writes", none), "_law_writes", "_law_writes", defArgs s__law_writes, defBody s__law_writes, defScope s__law_writes, [], []⟩
def d__law_is_line_plan : He.DefD := ⟨("_law_is_line_plan", none), "_law_is_line_plan", "_law_is_line_plan", defArgs s__law_is_line_plan, defBody s__law_is_line_plan, defScope s__law_is_line_plan, [], []⟩
def d__law_ways : He.DefD := ⟨("_law_ways", none), "_law_ways", "_law_ways", defArgs s__law_ways, defBody s__law_ways, defScope s__law_ways, [], []⟩
def d__law_plans : He.DefD := ⟨("_law_plans", none), "_law_plans", "_law_plans", defArgs s__law_plans, defBody s__law_plans, defScope s__law_plans, [], []⟩
def d__law_all : He.DefD := ⟨("_law_all", none), "_law_all", "_law_all", defArgs s__law_all, defBody s__law_all, defScope s__law_all, [], []⟩
def d__law_refusal : He.DefD := ⟨("_law_refusal", none), "_law_refusal", "_law_refusal", defArgs s__law_refusal, defBody s__law_refusal, defScope s__law_refusal, [], []⟩
def d__law_refusals : He.DefD := ⟨("_law_refusals", none), "_law_refusals", "_law_refusals", defArgs s__law_refusals, defBody s__law_refusals, defScope s__law_refusals, [], []⟩
def d__law_by_hand : He.DefD := ⟨("_law_by_hand", none), "_law_by_hand", "_law_by_hand", defArgs s__law_by_hand, defBody s__law_by_hand, defScope s__law_by_hand, [], []⟩
def d__law_steps : He.DefD := ⟨("_law_steps", none), "_law_steps", "_law_steps", defArgs s__law_steps, defBody s__law_steps, defScope s__law_steps, [], []⟩
def d__law_scene : He.DefD := ⟨("_law_scene", none), "_law_scene", "_law_scene", defArgs s__law_scene, defBody s__law_scene, defScope s__law_scene, [], []⟩
def d_law : He.DefD := ⟨("law", none), "law", "law", defArgs s_law, defBody s_law, defScope s_law, [], []⟩
def ex : PySem.W.Frag → Bool := fun K => exB xcs xys xfs xtab K && blB [] K
abbrev s_i_NotUsable : Stmt := inCls (top 3) 0
def d_i_NotUsable : He.DefD := ⟨("NotUsable", some "__init__"), "__init__", "NotUsable.__init__", defArgs s_i_NotUsable, defBody s_i_NotUsable, defScope s_i_NotUsable, [], []⟩
def fn : List He.DefD := [d_is_integer, d_is_number, d_need, d_is_nested, d_need_plan, d_line_reads, d_line_writes, d_is_line_plan, d_is_pouring, d_pouring_of, d__poured_on, d_plan_poured, d_standing_after, d_poured_counts, d__law_cell, d__law_pool, d__law_take, d__law_same, d__law_poured, d__law_bases, d__law_nested, d__law_chain, d__law_writes, d__law_is_line_plan, d__law_ways, d__law_plans, d__law_all, d__law_refusal, d__law_refusals, d__law_by_hand, d__law_steps, d__law_scene, d_law, d_i_NotUsable]
def fa : List He.Fa := [.glo "is_integer", .glo "is_number", .glo "need", .glo "is_nested", .glo "need_plan", .glo "line_reads", .glo "line_writes", .glo "is_line_plan", .glo "is_pouring", .glo "pouring_of", .glo "_poured_on", .glo "plan_poured", .glo "standing_after", .glo "poured_counts", .glo "_law_cell", .glo "_law_pool", .glo "_law_take", .glo "_law_same", .glo "_law_poured", .glo "_law_bases", .glo "_law_nested", .glo "_law_chain", .glo "_law_writes", .glo "_law_is_line_plan", .glo "_law_ways", .glo "_law_plans", .glo "_law_all", .glo "_law_refusal", .glo "_law_refusals", .glo "_law_by_hand", .glo "_law_steps", .glo "_law_scene", .glo "law", .free "ValueError", .free "abs", .free "bool", .free "enumerate", .free "int", .free "isinstance", .free "len", .free "max", .free "range", .free "sorted", .free "tuple"]
def names0 : List Str := ["BookError", "MarkError", "NotUsable", "_law_all", "_law_bases", "_law_by_hand", "_law_cell", "_law_chain", "_law_is_line_plan", "_law_nested", "_law_plans", "_law_pool", "_law_poured", "_law_refusal", "_law_refusals", "_law_same", "_law_scene", "_law_steps", "_law_take", "_law_ways", "_law_writes", "_poured_on", "is_integer", "is_line_plan", "is_nested", "is_number", "is_pouring", "line_reads", "line_writes", "need"]
def names1 : List Str := ["need_plan", "plan_poured", "poured_counts", "pouring_of", "standing_after"]
def names : List Str := names0 ++ names1
abbrev R : PySem.W.OpenRow := PySem.W.OpenLaw.row PySem.Challenge.rw_sincemarks_k44_whole_pourings_and_plans
abbrev hk : PySem.W.Hook := hookB 4 fa fn ex
def ob (s : PySem.W.SharedT) : He.AlD × Bool := obsBG 4 fa fn ex (HandSHeadRun.getT s)
theorem ob_eq (s : PySem.W.SharedT) : ob s = hk.obs s.abs := obsBG_eq (HandSHeadRun.getT_eq s)
theorem run (w : World) : HandSHeadRun.RunEq R (PySem.W.view R.prog [43]) hk ob 6000 names w := by
  intro os
  kernel_rfl
end K44
namespace K44
open PySem PySem.Spec PyProof.Rows L2 DL
structure Bi (mg : Str → Option Value) : Prop where
  abs : mg ("abs" : Str) = none
  bool : mg ("bool" : Str) = none
  enumerate : mg ("enumerate" : Str) = none
  int : mg ("int" : Str) = none
  isinstance : mg ("isinstance" : Str) = none
  len : mg ("len" : Str) = none
  max : mg ("max" : Str) = none
  range : mg ("range" : Str) = none
  sorted : mg ("sorted" : Str) = none
  tuple : mg ("tuple" : Str) = none
theorem sc_is_integer : FnScope ["thing"] ["thing"] (defScope s_is_integer) := ⟨rfl, rfl, rfl, by decide +kernel, rfl, by decide +kernel, by decide +kernel⟩
theorem sc__poured_on : FnScope ["runs", "many", "entry", "kept", "first"] ["runs", "many", "entry"] (defScope s__poured_on) := ⟨rfl, rfl, rfl, by decide +kernel, rfl, by decide +kernel, by decide +kernel⟩
theorem sc__law_cell : FnScope ["_law_script", "_law_k"] ["_law_script", "_law_k"] (defScope s__law_cell) := ⟨rfl, rfl, rfl, by decide +kernel, rfl, by decide +kernel, by decide +kernel⟩
theorem sc__law_pool : FnScope ["_law_script", "_law_state", "_law_cell_here"] ["_law_script"] (defScope s__law_pool) := ⟨rfl, rfl, rfl, by decide +kernel, rfl, by decide +kernel, by decide +kernel⟩
theorem sc__law_take : FnScope ["_law_pool_here", "_law_bound", "_law_great", "_law_rest"] ["_law_pool_here", "_law_bound"] (defScope s__law_take) := ⟨rfl, rfl, rfl, by decide +kernel, rfl, by decide +kernel, by decide +kernel⟩
theorem sc__law_poured : FnScope ["_law_steps_here", "_law_runs", "_law_stands", "_law_t", "_law_low", "_law_k"] ["_law_steps_here"] (defScope s__law_poured) := ⟨rfl, rfl, rfl, by decide +kernel, rfl, by decide +kernel, by decide +kernel⟩
theorem sc__law_bases : FnScope ["_law_heights", "_law_out", "_law_v", "_law_up"] ["_law_heights"] (defScope s__law_bases) := ⟨rfl, rfl, rfl, by decide +kernel, rfl, by decide +kernel, by decide +kernel⟩
theorem sc__law_nested : FnScope ["_law_plan", "_law_z", "_law_v"] ["_law_plan"] (defScope s__law_nested) := ⟨rfl, rfl, rfl, by decide +kernel, rfl, by decide +kernel, by decide +kernel⟩
theorem sc__law_chain : FnScope ["_law_plan", "_law_v", "_law_runs"] ["_law_plan", "_law_v"] (defScope s__law_chain) := ⟨rfl, rfl, rfl, by decide +kernel, rfl, by decide +kernel, by decide +kernel⟩
theorem sc__law_writes : FnScope ["_law_plan", "_law_out", "_law_e", "_law_z"] ["_law_plan"] (defScope s__law_writes) := ⟨rfl, rfl, rfl, by decide +kernel, rfl, by decide +kernel, by decide +kernel⟩
theorem sc_is_number : FnScope ["thing"] ["thing"] (defScope s_is_number) := ⟨rfl, rfl, rfl, by decide +kernel, rfl, by decide +kernel, by decide +kernel⟩
theorem sc__law_is_line_plan : FnScope ["_law_told", "_law_size", "_law_k"] ["_law_told", "_law_size"] (defScope s__law_is_line_plan) := ⟨rfl, rfl, rfl, by decide +kernel, rfl, by decide +kernel, by decide +kernel⟩
theorem sc__law_ways : FnScope ["_law_size", "_law_ways_here", "_law_t", "_law_longer", "_law_way", "_law_k"] ["_law_size"] (defScope s__law_ways) := ⟨rfl, rfl, rfl, by decide +kernel, rfl, by decide +kernel, by decide +kernel⟩
theorem sc__law_plans : FnScope ["_law_size", "_law_ways_here", "_law_v", "_law_longer", "_law_way", "_law_up"] ["_law_size"] (defScope s__law_plans) := ⟨rfl, rfl, rfl, by decide +kernel, rfl, by decide +kernel, by decide +kernel⟩
theorem sc__law_steps : FnScope ["_law_plan", "_law_steps_here", "_law_v", "_law_low", "_law_run"] ["_law_plan"] (defScope s__law_steps) := ⟨rfl, rfl, rfl, by decide +kernel, rfl, by decide +kernel, by decide +kernel⟩
theorem sc__law_scene : FnScope ["_law_size", "_law_pool_here", "_law_steps_here", "_law_t", "_law_many"] ["_law_size", "_law_pool_here"] (defScope s__law_scene) := ⟨rfl, rfl, rfl, by decide +kernel, rfl, by decide +kernel, by decide +kernel⟩
theorem sc_need : FnScope ["holds", "word"] ["holds", "word"] (defScope s_need) := ⟨rfl, rfl, rfl, by decide +kernel, rfl, by decide +kernel, by decide +kernel⟩
theorem sc_is_nested : FnScope ["thing", "chain", "version", "base"] ["thing"] (defScope s_is_nested) := ⟨rfl, rfl, rfl, by decide +kernel, rfl, by decide +kernel, by decide +kernel⟩
theorem sc_is_pouring : FnScope ["thing", "standing", "many"] ["thing"] (defScope s_is_pouring) := ⟨rfl, rfl, rfl, by decide +kernel, rfl, by decide +kernel, by decide +kernel⟩
theorem sc_need_plan : FnScope ["word", "thing"] ["word", "thing"] (defScope s_need_plan) := ⟨rfl, rfl, rfl, by decide +kernel, rfl, by decide +kernel, by decide +kernel⟩
theorem sc_is_line_plan : FnScope ["thing"] ["thing"] (defScope s_is_line_plan) := ⟨rfl, rfl, rfl, by decide +kernel, rfl, by decide +kernel, by decide +kernel⟩
theorem sc_plan_poured : FnScope ["pouring", "runs", "bases", "at", "many"] ["pouring"] (defScope s_plan_poured) := ⟨rfl, rfl, rfl, by decide +kernel, rfl, by decide +kernel, by decide +kernel⟩
theorem sc_standing_after : FnScope ["pouring", "number", "runs", "at"] ["pouring", "number"] (defScope s_standing_after) := ⟨rfl, rfl, rfl, by decide +kernel, rfl, by decide +kernel, by decide +kernel⟩
theorem sc_line_reads : FnScope ["bases", "reads", "base"] ["bases"] (defScope s_line_reads) := ⟨rfl, rfl, rfl, by decide +kernel, rfl, by decide +kernel, by decide +kernel⟩
theorem sc_line_writes : FnScope ["bases", "writes", "version", "base", "place", "_"] ["bases"] (defScope s_line_writes) := ⟨rfl, rfl, rfl, by decide +kernel, rfl, by decide +kernel, by decide +kernel⟩
theorem sc_pouring_of : FnScope ["bases", "reads", "at", "base"] ["bases"] (defScope s_pouring_of) := ⟨rfl, rfl, rfl, by decide +kernel, rfl, by decide +kernel, by decide +kernel⟩
theorem sc_poured_counts : FnScope ["pouring"] ["pouring"] (defScope s_poured_counts) := ⟨rfl, rfl, rfl, by decide +kernel, rfl, by decide +kernel, by decide +kernel⟩
theorem sc__law_same : FnScope ["_law_one", "_law_other", "_law_at"] ["_law_one", "_law_other"] (defScope s__law_same) := ⟨rfl, rfl, rfl, by decide +kernel, rfl, by decide +kernel, by decide +kernel⟩
theorem sc__law_all : FnScope ["_law_size", "_law_ways_here", "_law_plans_here", "_law_made", "_law_way", "_law_told"] ["_law_size"] (defScope s__law_all) := ⟨rfl, rfl, rfl, by decide +kernel, rfl, by decide +kernel, by decide +kernel⟩
theorem sc__law_refusal : FnScope ["_law_what", "_law_first", "_law_second", "caught"] ["_law_what", "_law_first", "_law_second"] (defScope s__law_refusal) := ⟨rfl, rfl, rfl, by decide +kernel, rfl, by decide +kernel, by decide +kernel⟩
theorem sc__law_by_hand : FnScope ["_law_two", "_law_steps_here", "_law_wide", "_law_ones", "_law_told", "_law_t"] [] (defScope s__law_by_hand) := ⟨rfl, rfl, rfl, by decide +kernel, rfl, by decide +kernel, by decide +kernel⟩
theorem sc__law_refusals : FnScope ["_law_bad", "_law_fine", "_law_what"] [] (defScope s__law_refusals) := ⟨rfl, rfl, rfl, by decide +kernel, rfl, by decide +kernel, by decide +kernel⟩
theorem sc_law : FnScope ["_law_script", "_law_mode", "_law_size", "_law_steps_here", "_law_stands", "_law_plan", "_law_t", "_law_other", "_law_due", "_law_broken", "_law_told", "_law_v", "_law_pool_here"] ["_law_script"] (defScope s_law) := ⟨rfl, rfl, rfl, by decide +kernel, rfl, by decide +kernel, by decide +kernel⟩
theorem sc_i_NotUsable : FnScope ["self", "word", "at"] ["self", "word", "at"] (defScope s_i_NotUsable) := ⟨rfl, rfl, rfl, by decide +kernel, rfl, by decide +kernel, by decide +kernel⟩
section
variable {P : Program} {w : World} {K : PySem.W.Frag} {mg : Str → Option Value} {base : Heap} {f : Addr} {fd : FuncData} {dvs : List V} {kws : List (Str × V)}
theorem ok_is_integer (B : Bi mg) (F : FunD K "is_integer" "is_integer" (defArgs s_is_integer) (defBody s_is_integer) (defScope s_is_integer) dvs kws f fd) : FnOk P w K mg base CX0 1 f fd ["thing"] (spD K 1 F_is_integer) :=
  fnD F sc_is_integer rfl rfl fun cdv A outer s H E hr => (ssd_one (sd_ret (ed_and (ed_isi .int (ed_var 0) B.isinstance B.int) (ed_one (ed_not (ed_isi .bool (ed_var 0) B.isinstance B.bool))))))
theorem ok__poured_on (B : Bi mg) (F : FunD K "_poured_on" "_poured_on" (defArgs s__poured_on) (defBody s__poured_on) (defScope s__poured_on) dvs kws f fd) : FnOk P w K mg base CX0 1 f fd ["runs", "many", "entry"] (spD K 3 F__poured_on) :=
  fnD F sc__poured_on rfl rfl fun cdv A outer s H E hr => (ssd_cons (sd_setF 3 sc__poured_on.nd (ed_op vb_sub op_sub (ed_cb vc_len call_len_seq B.len (ad_cons (ed_var 0) ad_nil)) (ed_var 1)))
  (ssd_cons (sd_setF 4 sc__poured_on.nd (ed_var 2))
  (ssd_cons (sd_if (td_cmp vq_gt (oq_gt hr.units) (nomark _) (ed_var 1) ed_int)
  (ssd_one (sd_setF 4 sc__poured_on.nd (ed_ix (ed_ix (ed_var 0) (ed_var 3)) ed_int)))
  ssd_nil)
  (ssd_cons (sd_ret (ed_op vb_add op_add3 (ed_sl (ed_var 0) od_no (od_at (ed_var 3))) (ed_tup (ad_cons (ed_tup (ad_cons (ed_var 4) (ad_cons (ed_var 2) ad_nil))) ad_nil))))
  ssd_nil))))
theorem ok__law_cell (B : Bi mg) (F : FunD K "_law_cell" "_law_cell" (defArgs s__law_cell) (defBody s__law_cell) (defScope s__law_cell) dvs kws f fd) : FnOk P w K mg base CX0 1 f fd ["_law_script", "_law_k"] (spD K 2 F__law_cell) :=
  fnD F sc__law_cell rfl rfl fun cdv A outer s H E hr => (ssd_cons (sd_if (td_cmp vq_lt (oq_lt hr.units) (nomark _) (ed_var 1) (ed_cb vc_len call_len_seq B.len (ad_cons (ed_var 0) ad_nil)))
  (ssd_one (sd_ret (ed_ct vc_int call_int1 B.int (ad_cons (ed_ix (ed_var 0) (ed_var 1)) ad_nil))))
  ssd_nil)
  (ssd_cons (sd_ret ed_int)
  ssd_nil))
theorem ok__law_pool (B : Bi mg) (F : FunD K "_law_pool" "_law_pool" (defArgs s__law_pool) (defBody s__law_pool) (defScope s__law_pool) dvs kws f fd) : FnOk P w K mg base CX0 1 f fd ["_law_script"] (spNw K 1 F__law_pool) :=
  fnNw F sc__law_pool rfl rfl fun cdv A outer s H E hr => (swd_cons (sd_set 1 sc__law_pool.nd ed_int)
  (swd_cons (sd_for rfl PassesOwn.never (id_seq (ed_var 0)) (gd_name (i := 2) sc__law_pool.nd rfl (by first | exact .inl rfl | exact .inr rfl))
  (ssd_one (sd_set 1 sc__law_pool.nd (ed_op vb_mod op_mod (ed_op vb_add op_add3 (ed_op vb_add op_add3 (ed_op vb_mul op_mul2 (ed_var 1) ed_int) (ed_op vb_mod op_mod (ed_ct vc_int call_int1 B.int (ad_cons (ed_var 2) ad_nil)) ed_int)) ed_int) ed_int))))
  (swd_ret (bd_cons (ed_var 1) (bd_cons (ed_lc (own := [("_law_cell_here", 2)]) rfl sc__law_pool.nd (id_seq (ed_var 0)) (by first | decide | with_unfolding_all rfl) (by decide) (fun _ _ _ _ _ => (gd_name (i := 2) sc__law_pool.nd rfl (by first | exact .inl rfl | exact .inr rfl))) (fun _ _ _ _ _ => (ptd_one (td_cmp vq_ge (oq_ge hr.units) (nomark _) (ed_cb vc_abs call_abs B.abs (ad_cons (ed_ct vc_int call_int1 B.int (ad_cons (ed_var 2) ad_nil)) ad_nil)) (ed_op vb_pow op_pow ed_int ed_int)))) (fun _ _ _ _ _ => (ed_cb vc_abs call_abs B.abs (ad_cons (ed_ct vc_int call_int1 B.int (ad_cons (ed_var 2) ad_nil)) ad_nil)))) ad_nil)))))
theorem ok__law_take (B : Bi mg) (F : FunD K "_law_take" "_law_take" (defArgs s__law_take) (defBody s__law_take) (defScope s__law_take) dvs kws f fd) : FnOk P w K mg base CX0 1 f fd ["_law_pool_here", "_law_bound"] (spW K 1 F__law_take) :=
  fnW F sc__law_take rfl rfl fun cdv A outer s H E hr => (ssd_cons (sd_al 2 0 1 sc__law_take.nd ed_int)
  (ssd_cons (sd_if (td_cmp vq_gt (oq_gt hr.units) (nomark _) (ed_cb vc_len call_len_seq B.len (ad_cons (ed_var 2) ad_nil)) ed_int)
  (ssd_cons (sd_setF 3 sc__law_take.nd (ed_ix (ed_var 2) ed_int))
  (ssd_cons (sd_alS 2 (ed_op vb_div op_fdivW (ed_var 3) (ed_var 1)) ed_int)
  (ssd_cons (sd_if (td_cmp vb_eq (op_eqD hr.units) (nomark _) (ed_ix (ed_var 2) ed_int) ed_int)
  (ssd_one (sd_expr (ed_alP 2 ed_int)))
  ssd_nil)
  (ssd_cons (sd_ret (ed_op vb_mod op_mod (ed_ct vc_int call_int1 B.int (ad_cons (ed_var 3) ad_nil)) (ed_var 1)))
  ssd_nil))))
  ssd_nil)
  (ssd_cons (sd_owS 0 (ed_op vb_mod op_mod (ed_ct vc_int call_int1 B.int (ad_cons (ed_op vb_mul op_mul2 (ed_owI 0 ed_int) ed_int) ad_nil)) ed_int) ed_int)
  (ssd_cons (sd_ret (ed_op vb_mod op_mod (ed_ct vc_int call_int1 B.int (ad_cons (ed_op vb_div op_fdivW (ed_owI 0 ed_int) ed_int) ad_nil)) (ed_var 1)))
  ssd_nil))))
theorem ok__law_poured (B : Bi mg) (F : FunD K "_law_poured" "_law_poured" (defArgs s__law_poured) (defBody s__law_poured) (defScope s__law_poured) dvs kws f fd) : FnOk P w K mg base CX0 1 f fd ["_law_steps_here"] (spD K 1 F__law_poured) :=
  fnD F sc__law_poured rfl rfl fun cdv A outer s H E hr => (ssd_cons (sd_setF 1 sc__law_poured.nd (ed_lst ad_nil))
  (ssd_cons (sd_set 2 sc__law_poured.nd (ed_lst (ad_cons (ed_tup ad_nil) ad_nil)))
  (ssd_cons (sd_for rfl PassesOwn.never (id_rng2 ed_int (ed_op vb_add op_add3 (ed_cb vc_len call_len_seq B.len (ad_cons (ed_var 0) ad_nil)) ed_int) B.range) (gd_name (i := 3) sc__law_poured.nd rfl (by first | exact .inl rfl | exact .inr rfl))
  (ssd_cons (sd_setF 4 sc__law_poured.nd (ed_var 3))
  (ssd_cons (sd_for rfl PassesOwn.never (id_rng1 (ed_ix (ed_var 0) (ed_op vb_sub op_sub (ed_var 3) ed_int)) B.range) (gd_name (i := 5) sc__law_poured.nd rfl (by first | exact .inl rfl | exact .inr rfl))
  (ssd_cons (sd_setF 4 sc__law_poured.nd (ed_ix (ed_ix (ed_var 1) (ed_neg ed_int)) ed_int))
  (ssd_cons (sd_setF 1 sc__law_poured.nd (ed_sl (ed_var 1) od_no (od_at (ed_neg ed_int))))
  ssd_nil)))
  (ssd_cons (sd_setF 1 sc__law_poured.nd (ed_op vb_add op_add3 (ed_var 1) (ed_lst (ad_cons (ed_tup (ad_cons (ed_var 4) (ad_cons (ed_var 3) ad_nil))) ad_nil))))
  (ssd_cons (sd_expr (ed_app 2 (ed_ct vc_tuple call_tuple_of B.tuple (ad_cons (ed_var 1) ad_nil))))
  ssd_nil)))))
  (ssd_cons (sd_ret (ed_var 2))
  ssd_nil))))
theorem ok__law_bases (B : Bi mg) (F : FunD K "_law_bases" "_law_bases" (defArgs s__law_bases) (defBody s__law_bases) (defScope s__law_bases) dvs kws f fd) : FnOk P w K mg base CX0 1 f fd ["_law_heights"] (spD K 1 F__law_bases) :=
  fnD F sc__law_bases rfl rfl fun cdv A outer s H E hr => (ssd_cons (sd_set 1 sc__law_bases.nd (ed_lst ad_nil))
  (ssd_cons (sd_for rfl PassesOwn.never (id_rng2 ed_int (ed_op vb_add op_add3 (ed_cb vc_len call_len_seq B.len (ad_cons (ed_var 0) ad_nil)) ed_int) B.range) (gd_name (i := 2) sc__law_bases.nd rfl (by first | exact .inl rfl | exact .inr rfl))
  (ssd_cons (sd_setF 3 sc__law_bases.nd (ed_op vb_sub op_sub (ed_var 2) ed_int))
  (ssd_cons (sd_while (fun _ => 300) PassesOwn.never (WD.td (wd_and (td_cmp vq_gt (oq_gt hr.units) (nomark _) (ed_var 3) ed_int) (wd_and1 (td_cmp vq_le (oq_le hr.units) (nomark _) (ed_ix (ed_var 0) (ed_op vb_sub op_sub (ed_var 3) ed_int)) (ed_ix (ed_var 0) (ed_op vb_sub op_sub (ed_var 2) ed_int))))))
  (ssd_one (sd_setF 3 sc__law_bases.nd (ed_op vb_sub op_sub (ed_var 3) ed_int))))
  (ssd_cons (sd_expr (ed_app 1 (ed_var 3)))
  ssd_nil))))
  (ssd_cons (sd_ret (ed_ct vc_tuple call_tuple_of B.tuple (ad_cons (ed_var 1) ad_nil)))
  ssd_nil)))
theorem ok__law_nested (B : Bi mg) (F : FunD K "_law_nested" "_law_nested" (defArgs s__law_nested) (defBody s__law_nested) (defScope s__law_nested) dvs kws f fd) : FnOk P w K mg base CX0 1 f fd ["_law_plan"] (spD K 1 F__law_nested) :=
  fnD F sc__law_nested rfl rfl fun cdv A outer s H E hr => (ssd_cons (sd_for rfl PassesOwn.never (id_rng2 ed_int (ed_op vb_add op_add3 (ed_cb vc_len call_len_seq B.len (ad_cons (ed_var 0) ad_nil)) ed_int) B.range) (gd_name (i := 1) sc__law_nested.nd rfl (by first | exact .inl rfl | exact .inr rfl))
  (ssd_one (sd_for rfl PassesOwn.never (id_rng2 (ed_op vb_add op_add3 (ed_ix (ed_var 0) (ed_op vb_sub op_sub (ed_var 1) ed_int)) ed_int) (ed_var 1) B.range) (gd_name (i := 2) sc__law_nested.nd rfl (by first | exact .inl rfl | exact .inr rfl))
  (ssd_one (sd_if (td_cmp vq_lt (oq_lt hr.units) (nomark _) (ed_ix (ed_var 0) (ed_op vb_sub op_sub (ed_var 2) ed_int)) (ed_ix (ed_var 0) (ed_op vb_sub op_sub (ed_var 1) ed_int)))
  (ssd_one (sd_ret ed_bl))
  ssd_nil)))))
  (ssd_cons (sd_ret ed_bl)
  ssd_nil))
theorem ok__law_chain (B : Bi mg) (F : FunD K "_law_chain" "_law_chain" (defArgs s__law_chain) (defBody s__law_chain) (defScope s__law_chain) dvs kws f fd) : FnOk P w K mg base CX0 1 f fd ["_law_plan", "_law_v"] (spD K 2 F__law_chain) :=
  fnD F sc__law_chain rfl rfl fun cdv A outer s H E hr => (ssd_cons (sd_setF 2 sc__law_chain.nd (ed_lst ad_nil))
  (ssd_cons (sd_while (fun _ => 300) PassesOwn.never (td_cmp vq_gt (oq_gt hr.units) (nomark _) (ed_var 1) ed_int)
  (ssd_cons (sd_setF 2 sc__law_chain.nd (ed_op vb_add op_add3 (ed_lst (ad_cons (ed_tup (ad_cons (ed_op vb_add op_add3 (ed_ix (ed_var 0) (ed_op vb_sub op_sub (ed_var 1) ed_int)) ed_int) (ad_cons (ed_var 1) ad_nil))) ad_nil)) (ed_var 2)))
  (ssd_cons (sd_setF 1 sc__law_chain.nd (ed_ix (ed_var 0) (ed_op vb_sub op_sub (ed_var 1) ed_int)))
  ssd_nil)))
  (ssd_cons (sd_ret (ed_ct vc_tuple call_tuple_of B.tuple (ad_cons (ed_var 2) ad_nil)))
  ssd_nil)))
theorem ok__law_writes (B : Bi mg) (F : FunD K "_law_writes" "_law_writes" (defArgs s__law_writes) (defBody s__law_writes) (defScope s__law_writes) dvs kws f fd) : FnOk P w K mg base CX0 1 f fd ["_law_plan"] (spD K 1 F__law_writes) :=
  fnD F sc__law_writes rfl rfl fun cdv A outer s H E hr => (ssd_cons (sd_set 1 sc__law_writes.nd (ed_lst ad_nil))
  (ssd_cons (sd_for rfl PassesOwn.never (id_rng2 ed_int (ed_op vb_add op_add3 (ed_cb vc_len call_len_seq B.len (ad_cons (ed_var 0) ad_nil)) ed_int) B.range) (gd_name (i := 2) sc__law_writes.nd rfl (by first | exact .inl rfl | exact .inr rfl))
  (ssd_one (sd_expr (ed_app 1 (ed_cb vc_len call_len_seq B.len (ad_cons (ed_lc (own := [("_law_z", 3)]) rfl sc__law_writes.nd (id_rng2 (ed_var 2) (ed_op vb_add op_add3 (ed_cb vc_len call_len_seq B.len (ad_cons (ed_var 0) ad_nil)) ed_int) B.range) (by first | decide | with_unfolding_all rfl) (by decide) (fun _ _ _ _ _ => (gd_name (i := 3) sc__law_writes.nd rfl (by first | exact .inl rfl | exact .inr rfl))) (fun _ _ _ _ _ => (ptd_one (td_cmp vq_lt (oq_lt hr.units) (nomark _) (ed_ix (ed_var 0) (ed_op vb_sub op_sub (ed_var 3) ed_int)) (ed_var 2)))) (fun _ _ _ _ _ => (ed_var 3))) ad_nil))))))
  (ssd_cons (sd_ret (ed_ct vc_tuple call_tuple_of B.tuple (ad_cons (ed_var 1) ad_nil)))
  ssd_nil)))
theorem ok_is_number (F : FunD K "is_number" "is_number" (defArgs s_is_number) (defBody s_is_number) (defScope s_is_number) dvs kws f fd) (c_is_integer : Kf P w K mg base 1 "is_integer" (spD K 1 F_is_integer) []) : FnOk P w K mg base CX0 2 f fd ["thing"] (spD K 1 F_is_number) :=
  fnD F sc_is_number rfl rfl fun cdv A outer s H E hr => (ssd_one (sd_ret (ed_and (ed_call c_is_integer hr (by decide) dvs0 runF_len (ad_cons (ed_var 0) ad_nil)) (ed_one (ed_cmp vq_ge (oq_ge hr.units) (nomark _) (ed_var 0) ed_int)))))
theorem ok__law_is_line_plan (B : Bi mg) (F : FunD K "_law_is_line_plan" "_law_is_line_plan" (defArgs s__law_is_line_plan) (defBody s__law_is_line_plan) (defScope s__law_is_line_plan) dvs kws f fd) (c__law_nested : Kf P w K mg base 1 "_law_nested" (spD K 1 F__law_nested) []) : FnOk P w K mg base CX0 2 f fd ["_law_told", "_law_size"] (spD K 2 F__law_is_line_plan) :=
  fnD F sc__law_is_line_plan rfl rfl fun cdv A outer s H E hr => (ssd_cons (sd_if (WD.td (wd_or (td_not (td_val (ed_isi .tuple (ed_var 0) B.isinstance B.tuple))) (wd_or1 (td_cmp vb_ne (op_neD hr.units) (nomark _) (ed_cb vc_len call_len_seq B.len (ad_cons (ed_var 0) ad_nil)) (ed_var 1)))))
  (ssd_one (sd_ret ed_bl))
  ssd_nil)
  (ssd_cons (sd_for rfl PassesOwn.never (id_rng1 (ed_var 1) B.range) (gd_name (i := 2) sc__law_is_line_plan.nd rfl (by first | exact .inl rfl | exact .inr rfl))
  (ssd_one (sd_if (WD.td (wd_or (td_not (td_val (ed_isi .int (ed_ix (ed_var 0) (ed_var 2)) B.isinstance B.int))) (wd_or (td_val (ed_isi .bool (ed_ix (ed_var 0) (ed_var 2)) B.isinstance B.bool)) (wd_or (td_cmp vq_lt (oq_lt hr.units) (nomark _) (ed_ix (ed_var 0) (ed_var 2)) ed_int) (wd_or1 (td_cmp vq_gt (oq_gt hr.units) (nomark _) (ed_ix (ed_var 0) (ed_var 2)) (ed_var 2)))))))
  (ssd_one (sd_ret ed_bl))
  ssd_nil)))
  (ssd_cons (sd_ret (ed_call c__law_nested hr (by decide) dvs0 runF_len (ad_cons (ed_var 0) ad_nil)))
  ssd_nil)))
theorem ok__law_ways (B : Bi mg) (F : FunD K "_law_ways" "_law_ways" (defArgs s__law_ways) (defBody s__law_ways) (defScope s__law_ways) dvs kws f fd) (c__law_poured : Kf P w K mg base 1 "_law_poured" (spD K 1 F__law_poured) []) : FnOk P w K mg base CX0 2 f fd ["_law_size"] (spD K 1 F__law_ways) :=
  fnD F sc__law_ways rfl rfl fun cdv A outer s H E hr => (ssd_cons (sd_setF 1 sc__law_ways.nd (ed_lst (ad_cons (ed_tup ad_nil) ad_nil)))
  (ssd_cons (sd_for rfl PassesOwn.never (id_rng1 (ed_var 0) B.range) (gd_name (i := 2) sc__law_ways.nd rfl (by first | exact .inl rfl | exact .inr rfl))
  (ssd_cons (sd_setF 3 sc__law_ways.nd (ed_lst ad_nil))
  (ssd_cons (sd_for rfl PassesOwn.never (id_seq (ed_var 1)) (gd_name (i := 4) sc__law_ways.nd rfl (by first | exact .inl rfl | exact .inr rfl))
  (ssd_one (sd_setF 3 sc__law_ways.nd (ed_op vb_add op_add3 (ed_var 3) (ed_lc (own := [("_law_k", 5)]) rfl sc__law_ways.nd (id_rng1 (ed_op vb_add op_add3 (ed_cb vc_len call_len_seq B.len (ad_cons (ed_ix (ed_call c__law_poured hr (by decide) dvs0 runF_len (ad_cons (ed_var 4) ad_nil)) (ed_var 2)) ad_nil)) ed_int) B.range) (by first | decide | with_unfolding_all rfl) (by decide) (fun _ _ _ _ _ => (gd_name (i := 5) sc__law_ways.nd rfl (by first | exact .inl rfl | exact .inr rfl))) (fun _ _ _ _ _ => ptd_nil) (fun _ _ _ _ _ => (ed_op vb_add op_add3 (ed_var 4) (ed_tup (ad_cons (ed_var 5) ad_nil)))))))))
  (ssd_cons (sd_setF 1 sc__law_ways.nd (ed_var 3))
  ssd_nil))))
  (ssd_cons (sd_ret (ed_var 1))
  ssd_nil)))
theorem ok__law_plans (B : Bi mg) (F : FunD K "_law_plans" "_law_plans" (defArgs s__law_plans) (defBody s__law_plans) (defScope s__law_plans) dvs kws f fd) (c__law_nested : Kf P w K mg base 1 "_law_nested" (spD K 1 F__law_nested) []) : FnOk P w K mg base CX0 2 f fd ["_law_size"] (spD K 1 F__law_plans) :=
  fnD F sc__law_plans rfl rfl fun cdv A outer s H E hr => (ssd_cons (sd_setF 1 sc__law_plans.nd (ed_lst (ad_cons (ed_tup ad_nil) ad_nil)))
  (ssd_cons (sd_for rfl PassesOwn.never (id_rng2 ed_int (ed_op vb_add op_add3 (ed_var 0) ed_int) B.range) (gd_name (i := 2) sc__law_plans.nd rfl (by first | exact .inl rfl | exact .inr rfl))
  (ssd_cons (sd_setF 3 sc__law_plans.nd (ed_lst ad_nil))
  (ssd_cons (sd_for rfl PassesOwn.never (id_seq (ed_var 1)) (gd_name (i := 4) sc__law_plans.nd rfl (by first | exact .inl rfl | exact .inr rfl))
  (ssd_one (sd_setF 3 sc__law_plans.nd (ed_op vb_add op_add3 (ed_var 3) (ed_lc (own := [("_law_up", 5)]) rfl sc__law_plans.nd (id_rng1 (ed_var 2) B.range) (by first | decide | with_unfolding_all rfl) (by decide) (fun _ _ _ _ _ => (gd_name (i := 5) sc__law_plans.nd rfl (by first | exact .inl rfl | exact .inr rfl))) (fun _ _ _ _ _ => ptd_nil) (fun _ _ _ _ _ => (ed_op vb_add op_add3 (ed_var 4) (ed_tup (ad_cons (ed_var 5) ad_nil)))))))))
  (ssd_cons (sd_setF 1 sc__law_plans.nd (ed_var 3))
  ssd_nil))))
  (ssd_cons (sd_ret (ed_lc (own := [("_law_way", 4)]) rfl sc__law_plans.nd (id_seq (ed_var 1)) (by first | decide | with_unfolding_all rfl) (by decide) (fun _ _ _ _ _ => (gd_name (i := 4) sc__law_plans.nd rfl (by first | exact .inl rfl | exact .inr rfl))) (fun _ _ _ _ _ => (ptd_one (td_val (ed_call c__law_nested hr (by decide) dvs0 runF_len (ad_cons (ed_var 4) ad_nil))))) (fun _ _ _ _ _ => (ed_var 4))))
  ssd_nil)))
theorem ok__law_steps (B : Bi mg) (F : FunD K "_law_steps" "_law_steps" (defArgs s__law_steps) (defBody s__law_steps) (defScope s__law_steps) dvs kws f fd) (c__law_chain : Kf P w K mg base 1 "_law_chain" (spD K 2 F__law_chain) []) : FnOk P w K mg base CX0 2 f fd ["_law_plan"] (spD K 1 F__law_steps) :=
  fnD F sc__law_steps rfl rfl fun cdv A outer s H E hr => (ssd_cons (sd_set 1 sc__law_steps.nd (ed_lst ad_nil))
  (ssd_cons (sd_for rfl PassesOwn.never (id_rng2 ed_int (ed_op vb_add op_add3 (ed_cb vc_len call_len_seq B.len (ad_cons (ed_var 0) ad_nil)) ed_int) B.range) (gd_name (i := 2) sc__law_steps.nd rfl (by first | exact .inl rfl | exact .inr rfl))
  (ssd_cons (sd_setF 3 sc__law_steps.nd (ed_ix (ed_var 0) (ed_op vb_sub op_sub (ed_var 2) ed_int)))
  (ssd_cons (sd_expr (ed_app 1 (ed_cb vc_len call_len_seq B.len (ad_cons (ed_lc (own := [("_law_run", 4)]) rfl sc__law_steps.nd (id_seq (ed_call c__law_chain hr (by decide) dvs0 runF_len (ad_cons (ed_var 0) (ad_cons (ed_op vb_sub op_sub (ed_var 2) ed_int) ad_nil)))) (by first | decide | with_unfolding_all rfl) (by decide) (fun _ _ _ _ _ => (gd_name (i := 4) sc__law_steps.nd rfl (by first | exact .inl rfl | exact .inr rfl))) (fun _ _ _ _ _ => (ptd_one (td_cmp vq_gt (oq_gt hr.units) (nomark _) (ed_ix (ed_var 4) ed_int) (ed_var 3)))) (fun _ _ _ _ _ => (ed_var 4))) ad_nil))))
  ssd_nil)))
  (ssd_cons (sd_ret (ed_ct vc_tuple call_tuple_of B.tuple (ad_cons (ed_var 1) ad_nil)))
  ssd_nil)))
theorem ok__law_scene (B : Bi mg) (F : FunD K "_law_scene" "_law_scene" (defArgs s__law_scene) (defBody s__law_scene) (defScope s__law_scene) dvs kws f fd) (c__law_poured : Kf P w K mg base 1 "_law_poured" (spD K 1 F__law_poured) []) (c__law_take : Kf P w K mg base 1 "_law_take" (spW K 1 F__law_take) []) : FnOk P w K mg base CX0 2 f fd ["_law_size", "_law_pool_here"] (spWk K 1 1 F__law_scene) :=
  fnWk F sc__law_scene rfl (by decide) rfl fun cdv A outer s H E hr => (ssd_cons (sd_set 2 sc__law_scene.nd (ed_lst ad_nil))
  (ssd_cons (sd_for rfl PassesOwn.never (id_rng1 (ed_var 0) B.range) (gd_name (i := 3) sc__law_scene.nd rfl (by first | exact .inl rfl | exact .inr rfl))
  (ssd_cons (sd_setF 4 sc__law_scene.nd (ed_tfz 2 (ed_cb vc_len call_len_seq B.len (ad_cons (ed_ix (ed_call c__law_poured hr (by decide) dvs0 runF_len (ad_cons (ed_var 2) ad_nil)) (ed_var 3)) ad_nil))))
  (ssd_cons (sd_expr (ed_app 2 (ed_op vb_mod op_mod (ed_ct vc_int call_int1 B.int (ad_cons (ed_op vb_add op_add3 (ed_op vb_div op_fdivW (ed_op vb_add op_add3 (ed_var 3) ed_int) ed_int) (ed_callW 1 c__law_take hr (by decide) runW_len (ad_cons ed_int ad_nil))) ad_nil)) (ed_op vb_add op_add3 (ed_var 4) ed_int))))
  ssd_nil)))
  (ssd_cons (sd_ret (ed_ct vc_tuple call_tuple_of B.tuple (ad_cons (ed_var 2) ad_nil)))
  ssd_nil)))
theorem okx_need (XI : Xi K mg xcs xys xfs xtab) (XT_NotUsable : ExT P w K mg base "NotUsable" ["word", "at"]) (F : FunD K "need" "need" (defArgs s_need) (defBody s_need) (defScope s_need) dvs kws f fd) : FnOk P w K mg base (L2N.CX P w) 3 f fd ["holds", "word"] (spX K mg 2 FY_need) :=
  fnX F sc_need rfl rfl fun cdv A outer s H E hr tk => (ssdx_one (sdx_if (td_not (td_val (ed_var 0)))
  (ssdx_one (sdx_raise XT_NotUsable hr (by decide) rfl tk (ad_cons (ed_var 1) (ad_cons (ed_neg ed_int) ad_nil))))
  ssdx_nil))
theorem ok_need (F : FunD K "need" "need" (defArgs s_need) (defBody s_need) (defScope s_need) dvs kws f fd) : FnOk P w K mg base CX0 3 f fd ["holds", "word"] (spD K 2 F_need) :=
  fnD F sc_need rfl rfl fun cdv A outer s H E hr => (ssd_one (sd_if (td_not (td_val (ed_var 0)))
  (ssd_one sd_never)
  ssd_nil))
theorem ok_is_nested (B : Bi mg) (F : FunD K "is_nested" "is_nested" (defArgs s_is_nested) (defBody s_is_nested) (defScope s_is_nested) dvs kws f fd) (c_is_number : Kf P w K mg base 2 "is_number" (spD K 1 F_is_number) []) : FnOk P w K mg base CX0 3 f fd ["thing"] (spD K 1 F_is_nested) :=
  fnD F sc_is_nested rfl rfl fun cdv A outer s H E hr => (ssd_cons (sd_if (td_not (td_val (ed_isi .tuple (ed_var 0) B.isinstance B.tuple)))
  (ssd_one (sd_ret ed_bl))
  ssd_nil)
  (ssd_cons (sd_set 1 sc_is_nested.nd (ed_lst (ad_cons ed_int ad_nil)))
  (ssd_cons (sd_setF 2 sc_is_nested.nd ed_int)
  (ssd_cons (sd_for rfl PassesOwn.never (id_seq (ed_var 0)) (gd_name (i := 3) sc_is_nested.nd rfl (by first | exact .inl rfl | exact .inr rfl))
  (ssd_cons (sd_aug (fun i j => i + j) ip_add 2 sc_is_nested.nd ed_int)
  (ssd_cons (sd_if (td_not (td_val (ed_call c_is_number hr (by decide) dvs0 runF_len (ad_cons (ed_var 3) ad_nil))))
  (ssd_one (sd_ret ed_bl))
  ssd_nil)
  (ssd_cons (sd_while (fun _ => 300) PassesOwn.never (td_cmp vq_gt (oq_gt hr.units) (nomark _) (ed_ix (ed_var 1) (ed_neg ed_int)) (ed_var 3))
  (ssd_one (sd_expr (ed_pop0 1))))
  (ssd_cons (sd_if (td_cmp vb_ne (op_neD hr.units) (nomark _) (ed_ix (ed_var 1) (ed_neg ed_int)) (ed_var 3))
  (ssd_one (sd_ret ed_bl))
  ssd_nil)
  (ssd_cons (sd_expr (ed_app 1 (ed_var 2)))
  ssd_nil))))))
  (ssd_cons (sd_ret ed_bl)
  ssd_nil)))))
theorem ok_is_pouring (B : Bi mg) (F : FunD K "is_pouring" "is_pouring" (defArgs s_is_pouring) (defBody s_is_pouring) (defScope s_is_pouring) dvs kws f fd) (c_is_number : Kf P w K mg base 2 "is_number" (spD K 1 F_is_number) []) : FnOk P w K mg base CX0 3 f fd ["thing"] (spD K 1 F_is_pouring) :=
  fnD F sc_is_pouring rfl rfl fun cdv A outer s H E hr => (ssd_cons (sd_if (td_not (td_val (ed_isi .tuple (ed_var 0) B.isinstance B.tuple)))
  (ssd_one (sd_ret ed_bl))
  ssd_nil)
  (ssd_cons (sd_setF 1 sc_is_pouring.nd ed_int)
  (ssd_cons (sd_for rfl PassesOwn.never (id_seq (ed_var 0)) (gd_name (i := 2) sc_is_pouring.nd rfl (by first | exact .inl rfl | exact .inr rfl))
  (ssd_cons (sd_if (WD.td (wd_or (td_not (td_val (ed_call c_is_number hr (by decide) dvs0 runF_len (ad_cons (ed_var 2) ad_nil)))) (wd_or1 (td_cmp vq_gt (oq_gt hr.units) (nomark _) (ed_var 2) (ed_var 1)))))
  (ssd_one (sd_ret ed_bl))
  ssd_nil)
  (ssd_cons (sd_setF 1 sc_is_pouring.nd (ed_op vb_add op_add3 (ed_op vb_sub op_sub (ed_var 1) (ed_var 2)) ed_int))
  ssd_nil)))
  (ssd_cons (sd_ret ed_bl)
  ssd_nil))))
theorem okx_need_plan (XI : Xi K mg xcs xys xfs xtab) (XT_NotUsable : ExT P w K mg base "NotUsable" ["word", "at"]) (F : FunD K "need_plan" "need_plan" (defArgs s_need_plan) (defBody s_need_plan) (defScope s_need_plan) dvs kws f fd) (c_is_nested : Kf P w K mg base 3 "is_nested" (spD K 1 F_is_nested) []) : FnOk P w K mg base (L2N.CX P w) 4 f fd ["word", "thing"] (spX K mg 2 FY_need_plan) :=
  fnX F sc_need_plan rfl rfl fun cdv A outer s H E hr tk => (ssdx_one (sdx_if (td_not (td_val (ed_call c_is_nested hr (by decide) dvs0 runF_len (ad_cons (ed_var 1) ad_nil))))
  (ssdx_one (sdx_raise XT_NotUsable hr (by decide) rfl tk (ad_cons (ed_var 0) (ad_cons (ed_neg ed_int) ad_nil))))
  ssdx_nil))
theorem ok_need_plan (F : FunD K "need_plan" "need_plan" (defArgs s_need_plan) (defBody s_need_plan) (defScope s_need_plan) dvs kws f fd) (c_is_nested : Kf P w K mg base 3 "is_nested" (spD K 1 F_is_nested) []) : FnOk P w K mg base CX0 4 f fd ["word", "thing"] (spD K 2 F_need_plan) :=
  fnD F sc_need_plan rfl rfl fun cdv A outer s H E hr => (ssd_one (sd_if (td_not (td_val (ed_call c_is_nested hr (by decide) dvs0 runF_len (ad_cons (ed_var 1) ad_nil))))
  (ssd_one sd_never)
  ssd_nil))
theorem ok_is_line_plan (F : FunD K "is_line_plan" "is_line_plan" (defArgs s_is_line_plan) (defBody s_is_line_plan) (defScope s_is_line_plan) dvs kws f fd) (c_is_nested : Kf P w K mg base 3 "is_nested" (spD K 1 F_is_nested) []) : FnOk P w K mg base CX0 4 f fd ["thing"] (spD K 1 F_is_line_plan) :=
  fnD F sc_is_line_plan rfl rfl fun cdv A outer s H E hr => (ssd_one (sd_ret (ed_call c_is_nested hr (by decide) dvs0 runF_len (ad_cons (ed_var 0) ad_nil))))
theorem okx_plan_poured (B : Bi mg) (F : FunD K "plan_poured" "plan_poured" (defArgs s_plan_poured) (defBody s_plan_poured) (defScope s_plan_poured) dvs kws f fd) (c_Xneed : KfX P w K mg base 3 "need" (spX K mg 2 FX_need) []) (c__poured_on : Kf P w K mg base 1 "_poured_on" (spD K 3 F__poured_on) []) (c_is_pouring : Kf P w K mg base 3 "is_pouring" (spD K 1 F_is_pouring) []) : FnOk P w K mg base (L2N.CX P w) 4 f fd ["pouring"] (spX K mg 1 FY_plan_poured) :=
  fnX F sc_plan_poured rfl rfl fun cdv A outer s H E hr tk => (ssdx_cons (sdx_expr (edx_call c_Xneed hr (by decide) dvs0 (orRx_len runF_len runX_len) tk (ad_cons (ed_call c_is_pouring hr (by decide) dvs0 runF_len (ad_cons (ed_var 0) ad_nil)) (ad_cons ed_str ad_nil))))
  (ssdx_cons (SD.x (sd_setF 1 sc_plan_poured.nd (ed_tup ad_nil)))
  (ssdx_cons (SD.x (sd_set 2 sc_plan_poured.nd (ed_lst ad_nil)))
  (ssdx_cons (SD.x (sd_for rfl (passes_of rfl) (id_enum (ed_var 0) B.enumerate) (gd_tup rfl (gsd_cons (i := 3) sc_plan_poured.nd rfl (by first | exact .inl rfl | exact .inr rfl) (gsd_cons (i := 4) sc_plan_poured.nd rfl (by first | exact .inl rfl | exact .inr rfl) gsd_nil)))
  (ssd_cons (sd_setF 1 sc_plan_poured.nd (ed_call c__poured_on hr (by decide) dvs0 runF_len (ad_cons (ed_var 1) (ad_cons (ed_var 4) (ad_cons (ed_op vb_add op_add3 (ed_var 3) ed_int) ad_nil)))))
  (ssd_cons (sd_expr (ed_app 2 (ed_op vb_sub op_sub (ed_ix (ed_ix (ed_var 1) (ed_neg ed_int)) ed_int) ed_int)))
  ssd_nil))))
  (ssdx_cons (SD.x (sd_ret (ed_ct vc_tuple call_tuple_of B.tuple (ad_cons (ed_var 2) ad_nil))))
  ssdx_nil)))))
theorem ok_plan_poured (B : Bi mg) (F : FunD K "plan_poured" "plan_poured" (defArgs s_plan_poured) (defBody s_plan_poured) (defScope s_plan_poured) dvs kws f fd) (c__poured_on : Kf P w K mg base 1 "_poured_on" (spD K 3 F__poured_on) []) (c_is_pouring : Kf P w K mg base 3 "is_pouring" (spD K 1 F_is_pouring) []) (c_need : Kf P w K mg base 3 "need" (spD K 2 F_need) []) : FnOk P w K mg base CX0 4 f fd ["pouring"] (spD K 1 F_plan_poured) :=
  fnD F sc_plan_poured rfl rfl fun cdv A outer s H E hr => (ssd_cons (sd_expr (ed_call c_need hr (by decide) dvs0 runF_len (ad_cons (ed_call c_is_pouring hr (by decide) dvs0 runF_len (ad_cons (ed_var 0) ad_nil)) (ad_cons ed_str ad_nil))))
  (ssd_cons (sd_setF 1 sc_plan_poured.nd (ed_tup ad_nil))
  (ssd_cons (sd_set 2 sc_plan_poured.nd (ed_lst ad_nil))
  (ssd_cons (sd_for rfl PassesOwn.never (id_enum (ed_var 0) B.enumerate) (gd_tup rfl (gsd_cons (i := 3) sc_plan_poured.nd rfl (by first | exact .inl rfl | exact .inr rfl) (gsd_cons (i := 4) sc_plan_poured.nd rfl (by first | exact .inl rfl | exact .inr rfl) gsd_nil)))
  (ssd_cons (sd_setF 1 sc_plan_poured.nd (ed_call c__poured_on hr (by decide) dvs0 runF_len (ad_cons (ed_var 1) (ad_cons (ed_var 4) (ad_cons (ed_op vb_add op_add3 (ed_var 3) ed_int) ad_nil)))))
  (ssd_cons (sd_expr (ed_app 2 (ed_op vb_sub op_sub (ed_ix (ed_ix (ed_var 1) (ed_neg ed_int)) ed_int) ed_int)))
  ssd_nil)))
  (ssd_cons (sd_ret (ed_ct vc_tuple call_tuple_of B.tuple (ad_cons (ed_var 2) ad_nil)))
  ssd_nil)))))
theorem okx_standing_after (B : Bi mg) (F : FunD K "standing_after" "standing_after" (defArgs s_standing_after) (defBody s_standing_after) (defScope s_standing_after) dvs kws f fd) (c_Xneed : KfX P w K mg base 3 "need" (spX K mg 2 FX_need) []) (c__poured_on : Kf P w K mg base 1 "_poured_on" (spD K 3 F__poured_on) []) (c_is_number : Kf P w K mg base 2 "is_number" (spD K 1 F_is_number) []) (c_is_pouring : Kf P w K mg base 3 "is_pouring" (spD K 1 F_is_pouring) []) : FnOk P w K mg base (L2N.CX P w) 4 f fd ["pouring", "number"] (spX K mg 2 FY_standing_after) :=
  fnX F sc_standing_after rfl rfl fun cdv A outer s H E hr tk => (ssdx_cons (sdx_expr (edx_call c_Xneed hr (by decide) dvs0 (orRx_len runF_len runX_len) tk (ad_cons (ed_call c_is_pouring hr (by decide) dvs0 runF_len (ad_cons (ed_var 0) ad_nil)) (ad_cons ed_str ad_nil))))
  (ssdx_cons (sdx_expr (edx_call c_Xneed hr (by decide) dvs0 (orRx_len runF_len runX_len) tk (ad_cons (ed_and (ed_call c_is_number hr (by decide) dvs0 runF_len (ad_cons (ed_var 1) ad_nil)) (ed_one (ed_cmp vq_le (oq_le hr.units) (nomark _) (ed_var 1) (ed_cb vc_len call_len_seq B.len (ad_cons (ed_var 0) ad_nil))))) (ad_cons ed_str ad_nil))))
  (ssdx_cons (SD.x (sd_setF 2 sc_standing_after.nd (ed_tup ad_nil)))
  (ssdx_cons (SD.x (sd_for rfl (passes_of rfl) (id_rng1 (ed_var 1) B.range) (gd_name (i := 3) sc_standing_after.nd rfl (by first | exact .inl rfl | exact .inr rfl))
  (ssd_one (sd_setF 2 sc_standing_after.nd (ed_call c__poured_on hr (by decide) dvs0 runF_len (ad_cons (ed_var 2) (ad_cons (ed_ix (ed_var 0) (ed_var 3)) (ad_cons (ed_op vb_add op_add3 (ed_var 3) ed_int) ad_nil))))))))
  (ssdx_cons (SD.x (sd_ret (ed_var 2)))
  ssdx_nil)))))
theorem ok_standing_after (B : Bi mg) (F : FunD K "standing_after" "standing_after" (defArgs s_standing_after) (defBody s_standing_after) (defScope s_standing_after) dvs kws f fd) (c__poured_on : Kf P w K mg base 1 "_poured_on" (spD K 3 F__poured_on) []) (c_is_number : Kf P w K mg base 2 "is_number" (spD K 1 F_is_number) []) (c_is_pouring : Kf P w K mg base 3 "is_pouring" (spD K 1 F_is_pouring) []) (c_need : Kf P w K mg base 3 "need" (spD K 2 F_need) []) : FnOk P w K mg base CX0 4 f fd ["pouring", "number"] (spD K 2 F_standing_after) :=
  fnD F sc_standing_after rfl rfl fun cdv A outer s H E hr => (ssd_cons (sd_expr (ed_call c_need hr (by decide) dvs0 runF_len (ad_cons (ed_call c_is_pouring hr (by decide) dvs0 runF_len (ad_cons (ed_var 0) ad_nil)) (ad_cons ed_str ad_nil))))
  (ssd_cons (sd_expr (ed_call c_need hr (by decide) dvs0 runF_len (ad_cons (ed_and (ed_call c_is_number hr (by decide) dvs0 runF_len (ad_cons (ed_var 1) ad_nil)) (ed_one (ed_cmp vq_le (oq_le hr.units) (nomark _) (ed_var 1) (ed_cb vc_len call_len_seq B.len (ad_cons (ed_var 0) ad_nil))))) (ad_cons ed_str ad_nil))))
  (ssd_cons (sd_setF 2 sc_standing_after.nd (ed_tup ad_nil))
  (ssd_cons (sd_for rfl PassesOwn.never (id_rng1 (ed_var 1) B.range) (gd_name (i := 3) sc_standing_after.nd rfl (by first | exact .inl rfl | exact .inr rfl))
  (ssd_one (sd_setF 2 sc_standing_after.nd (ed_call c__poured_on hr (by decide) dvs0 runF_len (ad_cons (ed_var 2) (ad_cons (ed_ix (ed_var 0) (ed_var 3)) (ad_cons (ed_op vb_add op_add3 (ed_var 3) ed_int) ad_nil)))))))
  (ssd_cons (sd_ret (ed_var 2))
  ssd_nil)))))
theorem okx_line_reads (B : Bi mg) (F : FunD K "line_reads" "line_reads" (defArgs s_line_reads) (defBody s_line_reads) (defScope s_line_reads) dvs kws f fd) (c_Xneed_plan : KfX P w K mg base 4 "need_plan" (spX K mg 2 FX_need_plan) []) : FnOk P w K mg base (L2N.CX P w) 5 f fd ["bases"] (spX K mg 1 FY_line_reads) :=
  fnX F sc_line_reads rfl rfl fun cdv A outer s H E hr tk => (ssdx_cons (sdx_expr (edx_call c_Xneed_plan hr (by decide) dvs0 (orRx_len runF_len runX_len) tk (ad_cons ed_str (ad_cons (ed_var 0) ad_nil))))
  (ssdx_cons (SD.x (sd_set 1 sc_line_reads.nd (ed_lst (ad_cons ed_int ad_nil))))
  (ssdx_cons (SD.x (sd_for rfl (passes_of rfl) (id_seq (ed_var 0)) (gd_name (i := 2) sc_line_reads.nd rfl (by first | exact .inl rfl | exact .inr rfl))
  (ssd_one (sd_expr (ed_app 1 (ed_op vb_add op_add3 (ed_ix (ed_var 1) (ed_var 2)) ed_int))))))
  (ssdx_cons (SD.x (sd_ret (ed_ct vc_tuple call_tuple_of B.tuple (ad_cons (ed_var 1) ad_nil))))
  ssdx_nil))))
theorem ok_line_reads (B : Bi mg) (F : FunD K "line_reads" "line_reads" (defArgs s_line_reads) (defBody s_line_reads) (defScope s_line_reads) dvs kws f fd) (c_need_plan : Kf P w K mg base 4 "need_plan" (spD K 2 F_need_plan) []) : FnOk P w K mg base CX0 5 f fd ["bases"] (spD K 1 F_line_reads) :=
  fnD F sc_line_reads rfl rfl fun cdv A outer s H E hr => (ssd_cons (sd_expr (ed_call c_need_plan hr (by decide) dvs0 runF_len (ad_cons ed_str (ad_cons (ed_var 0) ad_nil))))
  (ssd_cons (sd_set 1 sc_line_reads.nd (ed_lst (ad_cons ed_int ad_nil)))
  (ssd_cons (sd_for rfl PassesOwn.never (id_seq (ed_var 0)) (gd_name (i := 2) sc_line_reads.nd rfl (by first | exact .inl rfl | exact .inr rfl))
  (ssd_one (sd_expr (ed_app 1 (ed_op vb_add op_add3 (ed_ix (ed_var 1) (ed_var 2)) ed_int)))))
  (ssd_cons (sd_ret (ed_ct vc_tuple call_tuple_of B.tuple (ad_cons (ed_var 1) ad_nil)))
  ssd_nil))))
theorem okx_line_writes (B : Bi mg) (F : FunD K "line_writes" "line_writes" (defArgs s_line_writes) (defBody s_line_writes) (defScope s_line_writes) dvs kws f fd) (c_Xneed_plan : KfX P w K mg base 4 "need_plan" (spX K mg 2 FX_need_plan) []) : FnOk P w K mg base (L2N.CX P w) 5 f fd ["bases"] (spX K mg 1 FY_line_writes) :=
  fnX F sc_line_writes rfl rfl fun cdv A outer s H E hr tk => (ssdx_cons (sdx_expr (edx_call c_Xneed_plan hr (by decide) dvs0 (orRx_len runF_len runX_len) tk (ad_cons ed_str (ad_cons (ed_var 0) ad_nil))))
  (ssdx_cons (SD.x (by first | exact sd_setLc 1 (own := [("_", 5)]) rfl sc_line_writes.nd (id_seq (ed_var 0)) (by first | decide | with_unfolding_all rfl) (by decide) (fun _ _ _ _ _ => (gd_name (i := 5) sc_line_writes.nd rfl (by first | exact .inl rfl | exact .inr rfl))) (fun _ _ _ _ _ => ptd_nil) (fun _ _ _ _ _ => ed_int) | exact sd_set 1 sc_line_writes.nd (ed_lc (own := [("_", 5)]) rfl sc_line_writes.nd (id_seq (ed_var 0)) (by first | decide | with_unfolding_all rfl) (by decide) (fun _ _ _ _ _ => (gd_name (i := 5) sc_line_writes.nd rfl (by first | exact .inl rfl | exact .inr rfl))) (fun _ _ _ _ _ => ptd_nil) (fun _ _ _ _ _ => ed_int))))
  (ssdx_cons (SD.x (sd_for rfl (passes_of rfl) (id_enumF (ed_var 0) B.enumerate) (gd_tup rfl (gsd_cons (i := 2) sc_line_writes.nd rfl (by first | exact .inl rfl | exact .inr rfl) (gsd_cons (i := 3) sc_line_writes.nd rfl (by first | exact .inl rfl | exact .inr rfl) gsd_nil)))
  (ssd_one (sd_for rfl (passes_of rfl) (id_rng2 (ed_var 3) (ed_var 2) B.range) (gd_name (i := 4) sc_line_writes.nd rfl (by first | exact .inl rfl | exact .inr rfl))
  (ssd_one (sd_augI (fun i j => i + j) ip_add 1 (ed_var 4) ed_int))))))
  (ssdx_cons (SD.x (sd_ret (ed_ct vc_tuple call_tuple_of B.tuple (ad_cons (ed_var 1) ad_nil))))
  ssdx_nil))))
theorem ok_line_writes (B : Bi mg) (F : FunD K "line_writes" "line_writes" (defArgs s_line_writes) (defBody s_line_writes) (defScope s_line_writes) dvs kws f fd) (c_need_plan : Kf P w K mg base 4 "need_plan" (spD K 2 F_need_plan) []) : FnOk P w K mg base CX0 5 f fd ["bases"] (spD K 1 F_line_writes) :=
  fnD F sc_line_writes rfl rfl fun cdv A outer s H E hr => (ssd_cons (sd_expr (ed_call c_need_plan hr (by decide) dvs0 runF_len (ad_cons ed_str (ad_cons (ed_var 0) ad_nil))))
  (ssd_cons (by first | exact sd_setLc 1 (own := [("_", 5)]) rfl sc_line_writes.nd (id_seq (ed_var 0)) (by first | decide | with_unfolding_all rfl) (by decide) (fun _ _ _ _ _ => (gd_name (i := 5) sc_line_writes.nd rfl (by first | exact .inl rfl | exact .inr rfl))) (fun _ _ _ _ _ => ptd_nil) (fun _ _ _ _ _ => ed_int) | exact sd_set 1 sc_line_writes.nd (ed_lc (own := [("_", 5)]) rfl sc_line_writes.nd (id_seq (ed_var 0)) (by first | decide | with_unfolding_all rfl) (by decide) (fun _ _ _ _ _ => (gd_name (i := 5) sc_line_writes.nd rfl (by first | exact .inl rfl | exact .inr rfl))) (fun _ _ _ _ _ => ptd_nil) (fun _ _ _ _ _ => ed_int)))
  (ssd_cons (sd_for rfl PassesOwn.never (id_enumF (ed_var 0) B.enumerate) (gd_tup rfl (gsd_cons (i := 2) sc_line_writes.nd rfl (by first | exact .inl rfl | exact .inr rfl) (gsd_cons (i := 3) sc_line_writes.nd rfl (by first | exact .inl rfl | exact .inr rfl) gsd_nil)))
  (ssd_one (sd_for rfl PassesOwn.never (id_rng2 (ed_var 3) (ed_var 2) B.range) (gd_name (i := 4) sc_line_writes.nd rfl (by first | exact .inl rfl | exact .inr rfl))
  (ssd_one (sd_augI (fun i j => i + j) ip_add 1 (ed_var 4) ed_int)))))
  (ssd_cons (sd_ret (ed_ct vc_tuple call_tuple_of B.tuple (ad_cons (ed_var 1) ad_nil)))
  ssd_nil))))
theorem okx_pouring_of (B : Bi mg) (F : FunD K "pouring_of" "pouring_of" (defArgs s_pouring_of) (defBody s_pouring_of) (defScope s_pouring_of) dvs kws f fd) (c_Xline_reads : KfX P w K mg base 5 "line_reads" (spX K mg 1 FX_line_reads) []) (c_Xneed : KfX P w K mg base 3 "need" (spX K mg 2 FX_need) []) (c_is_line_plan : Kf P w K mg base 4 "is_line_plan" (spD K 1 F_is_line_plan) []) : FnOk P w K mg base (L2N.CX P w) 6 f fd ["bases"] (spX K mg 1 FY_pouring_of) :=
  fnX F sc_pouring_of rfl rfl fun cdv A outer s H E hr tk => (ssdx_cons (sdx_expr (edx_call c_Xneed hr (by decide) dvs0 (orRx_len runF_len runX_len) tk (ad_cons (ed_call c_is_line_plan hr (by decide) dvs0 runF_len (ad_cons (ed_var 0) ad_nil)) (ad_cons ed_str ad_nil))))
  (ssdx_cons (sdx_set 1 sc_pouring_of.nd (edx_call c_Xline_reads hr (by decide) dvs0 (orRx_len runF_len runX_len) tk (ad_cons (ed_var 0) ad_nil)))
  (ssdx_cons (SD.x (sd_ret (ed_ct vc_tuple call_tuple_of B.tuple (ad_cons (ed_lc (own := [("at", 2), ("base", 3)]) rfl sc_pouring_of.nd (id_enum (ed_var 0) B.enumerate) (by first | decide | with_unfolding_all rfl) (by decide) (fun _ _ _ _ _ => (gd_tup rfl (gsd_cons (i := 2) sc_pouring_of.nd rfl (by first | exact .inl rfl | exact .inr rfl) (gsd_cons (i := 3) sc_pouring_of.nd rfl (by first | exact .inl rfl | exact .inr rfl) gsd_nil)))) (fun _ _ _ _ _ => ptd_nil) (fun _ _ _ _ _ => (ed_op vb_sub op_sub (ed_ix (ed_var 1) (ed_var 2)) (ed_ix (ed_var 1) (ed_var 3))))) ad_nil))))
  ssdx_nil)))
theorem ok_pouring_of (B : Bi mg) (F : FunD K "pouring_of" "pouring_of" (defArgs s_pouring_of) (defBody s_pouring_of) (defScope s_pouring_of) dvs kws f fd) (c_is_line_plan : Kf P w K mg base 4 "is_line_plan" (spD K 1 F_is_line_plan) []) (c_line_reads : Kf P w K mg base 5 "line_reads" (spD K 1 F_line_reads) []) (c_need : Kf P w K mg base 3 "need" (spD K 2 F_need) []) : FnOk P w K mg base CX0 6 f fd ["bases"] (spD K 1 F_pouring_of) :=
  fnD F sc_pouring_of rfl rfl fun cdv A outer s H E hr => (ssd_cons (sd_expr (ed_call c_need hr (by decide) dvs0 runF_len (ad_cons (ed_call c_is_line_plan hr (by decide) dvs0 runF_len (ad_cons (ed_var 0) ad_nil)) (ad_cons ed_str ad_nil))))
  (ssd_cons (sd_setF 1 sc_pouring_of.nd (ed_call c_line_reads hr (by decide) dvs0 runF_len (ad_cons (ed_var 0) ad_nil)))
  (ssd_cons (sd_ret (ed_ct vc_tuple call_tuple_of B.tuple (ad_cons (ed_lc (own := [("at", 2), ("base", 3)]) rfl sc_pouring_of.nd (id_enum (ed_var 0) B.enumerate) (by first | decide | with_unfolding_all rfl) (by decide) (fun _ _ _ _ _ => (gd_tup rfl (gsd_cons (i := 2) sc_pouring_of.nd rfl (by first | exact .inl rfl | exact .inr rfl) (gsd_cons (i := 3) sc_pouring_of.nd rfl (by first | exact .inl rfl | exact .inr rfl) gsd_nil)))) (fun _ _ _ _ _ => ptd_nil) (fun _ _ _ _ _ => (ed_op vb_sub op_sub (ed_ix (ed_var 1) (ed_var 2)) (ed_ix (ed_var 1) (ed_var 3))))) ad_nil)))
  ssd_nil)))
theorem okx_poured_counts (F : FunD K "poured_counts" "poured_counts" (defArgs s_poured_counts) (defBody s_poured_counts) (defScope s_poured_counts) dvs kws f fd) (c_Xline_writes : KfX P w K mg base 5 "line_writes" (spX K mg 1 FX_line_writes) []) (c_Xplan_poured : KfX P w K mg base 4 "plan_poured" (spX K mg 1 FX_plan_poured) []) : FnOk P w K mg base (L2N.CX P w) 6 f fd ["pouring"] (spX K mg 1 FY_poured_counts) :=
  fnX F sc_poured_counts rfl rfl fun cdv A outer s H E hr tk => (ssdx_one (sdx_ret (edx_callX c_Xline_writes hr (by decide) dvs0 (orRx_len runF_len runX_len) tk (adx_cons (edx_call c_Xplan_poured hr (by decide) dvs0 (orRx_len runF_len runX_len) tk (ad_cons (ed_var 0) ad_nil)) (AD.x ad_nil)))))
theorem ok_poured_counts (F : FunD K "poured_counts" "poured_counts" (defArgs s_poured_counts) (defBody s_poured_counts) (defScope s_poured_counts) dvs kws f fd) (c_line_writes : Kf P w K mg base 5 "line_writes" (spD K 1 F_line_writes) []) (c_plan_poured : Kf P w K mg base 4 "plan_poured" (spD K 1 F_plan_poured) []) : FnOk P w K mg base CX0 6 f fd ["pouring"] (spD K 1 F_poured_counts) :=
  fnD F sc_poured_counts rfl rfl fun cdv A outer s H E hr => (ssd_one (sd_ret (ed_call c_line_writes hr (by decide) dvs0 runF_len (ad_cons (ed_call c_plan_poured hr (by decide) dvs0 runF_len (ad_cons (ed_var 0) ad_nil)) ad_nil))))
theorem okh__law_same (B : Bi mg) (F : FunD K "_law_same" "_law_same" (defArgs s__law_same) (defBody s__law_same) (defScope s__law_same) dvs kws f fd) (hc : ∀ {k : Nat} {sp : Sp}, L2H.FnH P w K mg base CX0 k f fd ["_law_one", "_law_other"] sp → KfH P w K mg base k "_law_same" sp) : ∀ N, L2H.FnH P w K mg base CX0 (1 + N) f fd ["_law_one", "_law_other"] (spD K 2 (R__law_same N)) := by
  intro N
  induction N with
  | zero => exact fnH_void
  | succ N ih =>
    have c__law_same := hc ih
    exact fnDH F sc__law_same rfl rfl fun cdv A outer s H E p hr hot => (ssd_cons (sd_if (WD.td (wd_and (td_val (ed_isi .tuple (ed_var 0) B.isinstance B.tuple)) (wd_and1 (td_val (ed_isi .tuple (ed_var 1) B.isinstance B.tuple)))))
  (ssd_cons (sd_if (td_cmp vb_ne (op_neD hr.units) (nomark _) (ed_cb vc_len call_len_seq B.len (ad_cons (ed_var 0) ad_nil)) (ed_cb vc_len call_len_seq B.len (ad_cons (ed_var 1) ad_nil)))
  (ssd_one (sd_ret ed_bl))
  ssd_nil)
  (ssd_cons (sd_forH hot PassesOwn.never (ed_cb vc_len call_len_seq B.len (ad_cons (ed_var 0) ad_nil)) B.range (gd_name (i := 2) sc__law_same.nd rfl (by first | exact .inl rfl | exact .inr rfl))
  (ssd_one (sd_if (td_not (td_val (ed_callH c__law_same hr hot (Nat.le_refl _) (len__law_same N) (ad_cons (ed_ix (ed_var 0) (ed_var 2)) (ad_cons (ed_ix (ed_var 1) (ed_var 2)) ad_nil)))))
  (ssd_one (sd_ret ed_bl))
  ssd_nil)))
  (ssd_cons (sd_ret ed_bl)
  ssd_nil)))
  ssd_nil)
  (ssd_cons (sd_ret (ed_and (ed_cmp vb_eq (op_eqD hr.units) (nomark _) (ed_isi .bool (ed_var 0) B.isinstance B.bool) (ed_isi .bool (ed_var 1) B.isinstance B.bool)) (ed_one (ed_cmp vb_eq (op_eqD hr.units) (nomark _) (ed_var 0) (ed_var 1)))))
  ssd_nil))
theorem ok__law_same (B : Bi mg) (F : FunD K "_law_same" "_law_same" (defArgs s__law_same) (defBody s__law_same) (defScope s__law_same) dvs kws f fd) (hc : ∀ {k : Nat} {sp : Sp}, FnOk P w K mg base CX0 k f fd ["_law_one", "_law_other"] sp → Kf P w K mg base k "_law_same" sp []) : ∀ N, FnOk P w K mg base CX0 (1 + N) f fd ["_law_one", "_law_other"] (spD K 2 (R__law_same N)) := by
  intro N
  induction N with
  | zero => exact fn_void
  | succ N ih =>
    have c__law_same := hc ih
    exact fnD F sc__law_same rfl rfl fun cdv A outer s H E hr => (ssd_cons (sd_if (WD.td (wd_and (td_val (ed_isi .tuple (ed_var 0) B.isinstance B.tuple)) (wd_and1 (td_val (ed_isi .tuple (ed_var 1) B.isinstance B.tuple)))))
  (ssd_cons (sd_if (td_cmp vb_ne (op_neD hr.units) (nomark _) (ed_cb vc_len call_len_seq B.len (ad_cons (ed_var 0) ad_nil)) (ed_cb vc_len call_len_seq B.len (ad_cons (ed_var 1) ad_nil)))
  (ssd_one (sd_ret ed_bl))
  ssd_nil)
  (ssd_cons (sd_for rfl PassesOwn.never (id_rng1 (ed_cb vc_len call_len_seq B.len (ad_cons (ed_var 0) ad_nil)) B.range) (gd_name (i := 2) sc__law_same.nd rfl (by first | exact .inl rfl | exact .inr rfl))
  (ssd_one (sd_if (td_not (td_val (ed_call c__law_same hr (Nat.le_refl _) dvs0 (len__law_same N) (ad_cons (ed_ix (ed_var 0) (ed_var 2)) (ad_cons (ed_ix (ed_var 1) (ed_var 2)) ad_nil)))))
  (ssd_one (sd_ret ed_bl))
  ssd_nil)))
  (ssd_cons (sd_ret ed_bl)
  ssd_nil)))
  ssd_nil)
  (ssd_cons (sd_ret (ed_and (ed_cmp vb_eq (op_eqD hr.units) (nomark _) (ed_isi .bool (ed_var 0) B.isinstance B.bool) (ed_isi .bool (ed_var 1) B.isinstance B.bool)) (ed_one (ed_cmp vb_eq (op_eqD hr.units) (nomark _) (ed_var 0) (ed_var 1)))))
  ssd_nil))
theorem ok__law_all (B : Bi mg) (F : FunD K "_law_all" "_law_all" (defArgs s__law_all) (defBody s__law_all) (defScope s__law_all) dvs kws f fd) (c__law_is_line_plan : Kf P w K mg base 2 "_law_is_line_plan" (spD K 2 F__law_is_line_plan) []) (c__law_plans : Kf P w K mg base 2 "_law_plans" (spD K 1 F__law_plans) []) (c__law_same : Kf P w K mg base 15 "_law_same" (spD K 2 F__law_same) []) (c__law_ways : Kf P w K mg base 2 "_law_ways" (spD K 1 F__law_ways) []) (c__law_writes : Kf P w K mg base 1 "_law_writes" (spD K 1 F__law_writes) []) (c_plan_poured : Kf P w K mg base 4 "plan_poured" (spD K 1 F_plan_poured) []) (c_poured_counts : Kf P w K mg base 6 "poured_counts" (spD K 1 F_poured_counts) []) (c_pouring_of : Kf P w K mg base 6 "pouring_of" (spD K 1 F_pouring_of) []) : FnOk P w K mg base CX0 16 f fd ["_law_size"] (spD K 1 F__law_all) :=
  fnD F sc__law_all rfl rfl fun cdv A outer s H E hr => (ssd_cons (sd_setF 1 sc__law_all.nd (ed_call c__law_ways hr (by decide) dvs0 runF_len (ad_cons (ed_var 0) ad_nil)))
  (ssd_cons (sd_setF 2 sc__law_all.nd (ed_call c__law_plans hr (by decide) dvs0 runF_len (ad_cons (ed_var 0) ad_nil)))
  (ssd_cons (sd_set 3 sc__law_all.nd (ed_lst ad_nil))
  (ssd_cons (sd_for rfl PassesOwn.never (id_seq (ed_var 1)) (gd_name (i := 4) sc__law_all.nd rfl (by first | exact .inl rfl | exact .inr rfl))
  (ssd_cons (sd_setF 5 sc__law_all.nd (ed_call c_plan_poured hr (by decide) dvs0 runF_len (ad_cons (ed_var 4) ad_nil)))
  (ssd_cons (sd_if (WD.td (wd_or (td_not (td_val (ed_call c__law_is_line_plan hr (by decide) dvs0 runF_len (ad_cons (ed_var 5) (ad_cons (ed_var 0) ad_nil))))) (wd_or (td_cmp vb_inQ (op_inD (u65 hr)) (by with_unfolding_all rfl) (ed_var 5) (ed_var 3)) (wd_or1 (td_not (td_val (ed_call c__law_same hr (by decide) dvs0 (len__law_same 14) (ad_cons (ed_call c_pouring_of hr (by decide) dvs0 runF_len (ad_cons (ed_var 5) ad_nil)) (ad_cons (ed_var 4) ad_nil)))))))))
  (ssd_one (sd_ret ed_bl))
  ssd_nil)
  (ssd_cons (sd_if (td_not (td_val (ed_call c__law_same hr (by decide) dvs0 (len__law_same 14) (ad_cons (ed_call c_poured_counts hr (by decide) dvs0 runF_len (ad_cons (ed_var 4) ad_nil)) (ad_cons (ed_call c__law_writes hr (by decide) dvs0 runF_len (ad_cons (ed_var 5) ad_nil)) ad_nil)))))
  (ssd_one (sd_ret ed_bl))
  ssd_nil)
  (ssd_cons (sd_expr (ed_app 3 (ed_var 5)))
  ssd_nil)))))
  (ssd_cons (sd_ret (ed_and (ed_cmp vb_eq (op_eqD hr.units) (nomark _) (ed_cb vc_sortedB (cr_sortedB hr.units) B.sorted (ad_cons (ed_var 3) ad_nil)) (ed_cb vc_sortedB (cr_sortedB hr.units) B.sorted (ad_cons (ed_var 2) ad_nil))) (ed_one (ed_cmp vb_eq (op_eqD hr.units) (nomark _) (ed_cb vc_len call_len_seq B.len (ad_cons (ed_var 3) ad_nil)) (ed_ix (ed_tup (ad_cons ed_int (ad_cons ed_int (ad_cons ed_int (ad_cons ed_int (ad_cons ed_int (ad_cons ed_int ad_nil))))))) (ed_var 0))))))
  ssd_nil)))))
theorem ok__law_refusal (XI : Xi K mg xcs xys xfs xtab) (F : FunD K "_law_refusal" "_law_refusal" (defArgs s__law_refusal) (defBody s__law_refusal) (defScope s__law_refusal) dvs kws f fd) (c_H_law_same : KfH P w K mg base 15 "_law_same" (spD K 2 F__law_same)) (c_Xplan_poured : KfX P w K mg base 4 "plan_poured" (spX K mg 1 FX_plan_poured) []) (c_Xpoured_counts : KfX P w K mg base 6 "poured_counts" (spX K mg 1 FX_poured_counts) []) (c_Xpouring_of : KfX P w K mg base 6 "pouring_of" (spX K mg 1 FX_pouring_of) []) (c_Xstanding_after : KfX P w K mg base 4 "standing_after" (spX K mg 2 FX_standing_after) []) : FnOk P w K mg base CX0 16 f fd ["_law_what", "_law_first", "_law_second"] (spD K 3 F__law_refusal) :=
  fnD F sc__law_refusal rfl rfl fun cdv A outer s H E hr => (ssd_cons (sd_tryT rfl rfl sc__law_refusal.nd (i := 3) (XI.sub "NotUsable") (fun W2 pn xe tk hp =>
  (ssdx_one (sdx_if (td_cmp vb_eq (op_eqD hr.units) (nomark _) (ed_var 0) ed_int)
  (ssdx_one (sdx_expr (edx_call c_Xpouring_of hr (by decide) dvs0 (orRx_len runF_len runX_len) tk (ad_cons (ed_var 1) ad_nil))))
  (ssdx_one (sdx_if (td_cmp vb_eq (op_eqD hr.units) (nomark _) (ed_var 0) ed_int)
  (ssdx_one (sdx_expr (edx_call c_Xplan_poured hr (by decide) dvs0 (orRx_len runF_len runX_len) tk (ad_cons (ed_var 1) ad_nil))))
  (ssdx_one (sdx_if (td_cmp vb_eq (op_eqD hr.units) (nomark _) (ed_var 0) ed_int)
  (ssdx_one (sdx_expr (edx_call c_Xstanding_after hr (by decide) dvs0 (orRx_len runF_len runX_len) tk (ad_cons (ed_var 1) (ad_cons (ed_var 2) ad_nil)))))
  (ssdx_one (sdx_expr (edx_call c_Xpoured_counts hr (by decide) dvs0 (orRx_len runF_len runX_len) tk (ad_cons (ed_var 1) ad_nil))))))))))) (fun k C a dd oe pn hk hz hf =>
  (ssd_cons (sd_if (td_not (td_val (ed_callH c_H_law_same (room_suite hr) (hot_suite hz hf) (by decide) (len__law_same 14) (ad_cons (ed_fld (XI.fld "at") hk hz.zc hf) (ad_cons (ed_neg ed_int) ad_nil)))))
  (ssd_one (sd_ret ed_str))
  ssd_nil)
  (ssd_cons (sd_ret (ed_fld (XI.fld "word") hk hz.zc hf))
  ssd_nil))))
  (ssd_cons (sd_ret ed_str)
  ssd_nil))
theorem ok__law_by_hand (B : Bi mg) (F : FunD K "_law_by_hand" "_law_by_hand" (defArgs s__law_by_hand) (defBody s__law_by_hand) (defScope s__law_by_hand) dvs kws f fd) (c__law_same : Kf P w K mg base 15 "_law_same" (spD K 2 F__law_same) []) (c_is_pouring_kw0_0 : KfK P w K mg base 3 "is_pouring" (spD K 1 F_is_pouring) 0 ["thing"] [0]) (c_plan_poured : Kf P w K mg base 4 "plan_poured" (spD K 1 F_plan_poured) []) (c_plan_poured_kw0_0 : KfK P w K mg base 4 "plan_poured" (spD K 1 F_plan_poured) 0 ["pouring"] [0]) (c_poured_counts : Kf P w K mg base 6 "poured_counts" (spD K 1 F_poured_counts) []) (c_poured_counts_kw0_0 : KfK P w K mg base 6 "poured_counts" (spD K 1 F_poured_counts) 0 ["pouring"] [0]) (c_pouring_of : Kf P w K mg base 6 "pouring_of" (spD K 1 F_pouring_of) []) (c_pouring_of_kw0_0 : KfK P w K mg base 6 "pouring_of" (spD K 1 F_pouring_of) 0 ["bases"] [0]) (c_standing_after : Kf P w K mg base 4 "standing_after" (spD K 2 F_standing_after) []) (c_standing_after_kw0_1_0 : KfK P w K mg base 4 "standing_after" (spD K 2 F_standing_after) 0 ["number", "pouring"] [1, 0]) : FnOk P w K mg base CX0 16 f fd [] (spD K 0 F__law_by_hand) :=
  fnD F sc__law_by_hand rfl rfl fun cdv A outer s H E hr => (ssd_cons (sd_setF 0 sc__law_by_hand.nd (ed_tup (ad_cons ed_int (ad_cons ed_int (ad_cons ed_int (ad_cons ed_int (ad_cons ed_int ad_nil)))))))
  (ssd_cons (sd_setF 1 sc__law_by_hand.nd (ed_tup (ad_cons ed_int (ad_cons ed_int (ad_cons ed_int (ad_cons ed_int (ad_cons ed_int ad_nil)))))))
  (ssd_cons (sd_if (td_not (td_val (ed_call c__law_same hr (by decide) dvs0 (len__law_same 14) (ad_cons (ed_tup (ad_cons (ed_call c_pouring_of hr (by decide) dvs0 runF_len (ad_cons (ed_var 0) ad_nil)) (ad_cons (ed_call c_plan_poured hr (by decide) dvs0 runF_len (ad_cons (ed_var 1) ad_nil)) (ad_cons (ed_call c_poured_counts hr (by decide) dvs0 runF_len (ad_cons (ed_var 1) ad_nil)) ad_nil)))) (ad_cons (ed_tup (ad_cons (ed_var 1) (ad_cons (ed_var 0) (ad_cons (ed_tup (ad_cons ed_int (ad_cons ed_int (ad_cons ed_int (ad_cons ed_int (ad_cons ed_int ad_nil)))))) ad_nil)))) ad_nil)))))
  (ssd_one (sd_ret ed_bl))
  ssd_nil)
  (ssd_cons (sd_if (td_not (td_val (ed_call c__law_same hr (by decide) dvs0 (len__law_same 14) (ad_cons (ed_tup (ad_cons (ed_call c_standing_after hr (by decide) dvs0 runF_len (ad_cons (ed_var 1) (ad_cons ed_int ad_nil))) (ad_cons (ed_call c_standing_after hr (by decide) dvs0 runF_len (ad_cons (ed_var 1) (ad_cons ed_int ad_nil))) ad_nil))) (ad_cons (ed_tup (ad_cons (ed_tup (ad_cons (ed_tup (ad_cons ed_int (ad_cons ed_int ad_nil))) (ad_cons (ed_tup (ad_cons ed_int (ad_cons ed_int ad_nil))) ad_nil))) (ad_cons (ed_tup (ad_cons (ed_tup (ad_cons ed_int (ad_cons ed_int ad_nil))) (ad_cons (ed_tup (ad_cons ed_int (ad_cons ed_int ad_nil))) ad_nil))) ad_nil))) ad_nil)))))
  (ssd_one (sd_ret ed_bl))
  ssd_nil)
  (ssd_cons (sd_setF 1 sc__law_by_hand.nd (ed_tup (ad_cons ed_int (ad_cons ed_int (ad_cons ed_int (ad_cons ed_int (ad_cons ed_int ad_nil)))))))
  (ssd_cons (sd_if (td_not (td_val (ed_call c__law_same hr (by decide) dvs0 (len__law_same 14) (ad_cons (ed_callK0 c_plan_poured_kw0_0 hr (by decide) runF_len (kd_cons (ed_var 1) kd_nil) (len_cons len_nil)) (ad_cons (ed_tup (ad_cons ed_int (ad_cons ed_int (ad_cons ed_int (ad_cons ed_int (ad_cons ed_int ad_nil)))))) ad_nil)))))
  (ssd_one (sd_ret ed_bl))
  ssd_nil)
  (ssd_cons (sd_if (td_not (td_val (ed_call c__law_same hr (by decide) dvs0 (len__law_same 14) (ad_cons (ed_callK0 c_poured_counts_kw0_0 hr (by decide) runF_len (kd_cons (ed_var 1) kd_nil) (len_cons len_nil)) (ad_cons (ed_tup (ad_cons ed_int (ad_cons ed_int (ad_cons ed_int (ad_cons ed_int (ad_cons ed_int ad_nil)))))) ad_nil)))))
  (ssd_one (sd_ret ed_bl))
  ssd_nil)
  (ssd_cons (sd_if (td_not (td_val (ed_call c__law_same hr (by decide) dvs0 (len__law_same 14) (ad_cons (ed_callK0 c_standing_after_kw0_1_0 hr (by decide) runF_len (kd_cons ed_int (kd_cons (ed_var 1) kd_nil)) (len_cons (len_cons len_nil))) (ad_cons (ed_tup (ad_cons (ed_tup (ad_cons ed_int (ad_cons ed_int ad_nil))) (ad_cons (ed_tup (ad_cons ed_int (ad_cons ed_int ad_nil))) (ad_cons (ed_tup (ad_cons ed_int (ad_cons ed_int ad_nil))) ad_nil)))) ad_nil)))))
  (ssd_one (sd_ret ed_bl))
  ssd_nil)
  (ssd_cons (sd_if (td_not (td_val (ed_call c__law_same hr (by decide) dvs0 (len__law_same 14) (ad_cons (ed_tup (ad_cons (ed_call c_standing_after hr (by decide) dvs0 runF_len (ad_cons (ed_var 1) (ad_cons ed_int ad_nil))) (ad_cons (ed_call c_standing_after hr (by decide) dvs0 runF_len (ad_cons (ed_var 1) (ad_cons ed_int ad_nil))) ad_nil))) (ad_cons (ed_tup (ad_cons (ed_tup (ad_cons (ed_tup (ad_cons ed_int (ad_cons ed_int ad_nil))) ad_nil)) (ad_cons (ed_tup ad_nil) ad_nil))) ad_nil)))))
  (ssd_one (sd_ret ed_bl))
  ssd_nil)
  (ssd_cons (sd_if (WD.td (wd_or (td_not (td_val (ed_call c__law_same hr (by decide) dvs0 (len__law_same 14) (ad_cons (ed_callK0 c_pouring_of_kw0_0 hr (by decide) runF_len (kd_cons (ed_tup (ad_cons ed_int (ad_cons ed_int (ad_cons ed_int (ad_cons ed_int (ad_cons ed_int (ad_cons ed_int ad_nil))))))) kd_nil) (len_cons len_nil)) (ad_cons (ed_tup (ad_cons ed_int (ad_cons ed_int (ad_cons ed_int (ad_cons ed_int (ad_cons ed_int (ad_cons ed_int ad_nil))))))) ad_nil))))) (wd_or1 (td_cmp vb_isnot op_isnot2 (nomark _) (ed_callK0 c_is_pouring_kw0_0 hr (by decide) runF_len (kd_cons (ed_var 1) kd_nil) (len_cons len_nil)) ed_bl))))
  (ssd_one (sd_ret ed_bl))
  ssd_nil)
  (ssd_cons (sd_setF 2 sc__law_by_hand.nd (ed_op vb_repT op_repB (ed_tup (ad_cons ed_int ad_nil)) ed_int))
  (ssd_cons (sd_setF 3 sc__law_by_hand.nd (ed_ct vc_tuple call_tuple_of B.tuple (ad_cons (ed_lc (own := [("_law_t", 5)]) rfl sc__law_by_hand.nd (id_rng2 ed_int ed_int B.range) (by first | decide | with_unfolding_all rfl) (by decide) (fun _ _ _ _ _ => (gd_name (i := 5) sc__law_by_hand.nd rfl (by first | exact .inl rfl | exact .inr rfl))) (fun _ _ _ _ _ => ptd_nil) (fun _ _ _ _ _ => (ed_tup (ad_cons (ed_var 5) (ad_cons (ed_var 5) ad_nil))))) ad_nil)))
  (ssd_cons (sd_setF 4 sc__law_by_hand.nd (ed_tup (ad_cons (ed_call c_standing_after hr (by decide) dvs0 runF_len (ad_cons (ed_var 2) (ad_cons ed_int ad_nil))) (ad_cons (ed_call c_plan_poured hr (by decide) dvs0 runF_len (ad_cons (ed_var 2) ad_nil)) (ad_cons (ed_call c_poured_counts hr (by decide) dvs0 runF_len (ad_cons (ed_var 2) ad_nil)) (ad_cons (ed_call c_pouring_of hr (by decide) dvs0 runF_len (ad_cons (ed_trg (rgd1 ed_int B.range) rfl B.tuple) ad_nil)) ad_nil))))))
  (ssd_cons (sd_if (td_not (td_val (ed_call c__law_same hr (by decide) dvs0 (len__law_same 14) (ad_cons (ed_var 4) (ad_cons (ed_tup (ad_cons (ed_var 3) (ad_cons (ed_trg (rgd1 ed_int B.range) rfl B.tuple) (ad_cons (ed_op vb_repT op_repB (ed_tup (ad_cons ed_int ad_nil)) ed_int) (ad_cons (ed_var 2) ad_nil))))) ad_nil)))))
  (ssd_one (sd_ret ed_bl))
  ssd_nil)
  (ssd_cons (sd_setF 2 sc__law_by_hand.nd (ed_op vb_add op_add3 (ed_op vb_repT op_repB (ed_tup (ad_cons ed_int ad_nil)) ed_int) (ed_tup (ad_cons ed_int ad_nil))))
  (ssd_cons (sd_setF 4 sc__law_by_hand.nd (ed_tup (ad_cons (ed_call c_standing_after hr (by decide) dvs0 runF_len (ad_cons (ed_var 2) (ad_cons ed_int ad_nil))) (ad_cons (ed_call c_plan_poured hr (by decide) dvs0 runF_len (ad_cons (ed_var 2) ad_nil)) (ad_cons (ed_call c_poured_counts hr (by decide) dvs0 runF_len (ad_cons (ed_var 2) ad_nil)) (ad_cons (ed_call c_standing_after hr (by decide) dvs0 runF_len (ad_cons (ed_var 2) (ad_cons ed_int ad_nil))) ad_nil))))))
  (ssd_cons (sd_if (td_not (td_val (ed_call c__law_same hr (by decide) dvs0 (len__law_same 14) (ad_cons (ed_var 4) (ad_cons (ed_tup (ad_cons (ed_tup (ad_cons (ed_tup (ad_cons ed_int (ad_cons ed_int ad_nil))) ad_nil)) (ad_cons (ed_op vb_add op_add3 (ed_trg (rgd1 ed_int B.range) rfl B.tuple) (ed_tup (ad_cons ed_int ad_nil))) (ad_cons (ed_op vb_add op_add3 (ed_op vb_repT op_repB (ed_tup (ad_cons ed_int ad_nil)) ed_int) (ed_tup (ad_cons ed_int ad_nil))) (ad_cons (ed_sl (ed_var 3) od_no (od_at ed_int)) ad_nil))))) ad_nil)))))
  (ssd_one (sd_ret ed_bl))
  ssd_nil)
  (ssd_cons (sd_ret (ed_call c__law_same hr (by decide) dvs0 (len__law_same 14) (ad_cons (ed_tup (ad_cons (ed_call c_pouring_of hr (by decide) dvs0 runF_len (ad_cons (ed_tup ad_nil) ad_nil)) (ad_cons (ed_call c_plan_poured hr (by decide) dvs0 runF_len (ad_cons (ed_tup ad_nil) ad_nil)) (ad_cons (ed_call c_poured_counts hr (by decide) dvs0 runF_len (ad_cons (ed_tup ad_nil) ad_nil)) (ad_cons (ed_call c_standing_after hr (by decide) dvs0 runF_len (ad_cons (ed_tup ad_nil) (ad_cons ed_int ad_nil))) ad_nil))))) (ad_cons (ed_tup (ad_cons (ed_tup ad_nil) (ad_cons (ed_tup ad_nil) (ad_cons (ed_tup ad_nil) (ad_cons (ed_tup ad_nil) ad_nil))))) ad_nil))))
  ssd_nil))))))))))))))))))
theorem ok__law_refusals (B : Bi mg) (F : FunD K "_law_refusals" "_law_refusals" (defArgs s__law_refusals) (defBody s__law_refusals) (defScope s__law_refusals) dvs kws f fd) (c__law_refusal : Kf P w K mg base 16 "_law_refusal" (spD K 3 F__law_refusal) []) (c_is_pouring : Kf P w K mg base 3 "is_pouring" (spD K 1 F_is_pouring) []) : FnOk P w K mg base CX0 17 f fd [] (spD K 0 F__law_refusals) :=
  fnD F sc__law_refusals rfl rfl fun cdv A outer s H E hr => (ssd_cons (sd_for rfl PassesOwn.never (id_seq (ed_lst (ad_cons (ed_lst (ad_cons ed_int ad_nil)) (ad_cons (ed_tup (ad_cons ed_int ad_nil)) (ad_cons (ed_tup (ad_cons ed_int (ad_cons ed_int ad_nil))) (ad_cons (ed_tup (ad_cons ed_int (ad_cons ed_int (ad_cons ed_int ad_nil)))) (ad_cons (ed_tup (ad_cons ed_bl ad_nil)) (ad_cons (ed_tup (ad_cons ed_int (ad_cons ed_bl ad_nil))) (ad_cons (ed_tup (ad_cons (ed_neg ed_int) ad_nil)) (ad_cons ed_non (ad_cons ed_int (ad_cons (ed_tup (ad_cons (ed_tup (ad_cons ed_int ad_nil)) ad_nil)) (ad_cons (ed_tup (ad_cons ed_str ad_nil)) (ad_cons (ed_tup (ad_cons ed_int (ad_cons ed_int (ad_cons ed_int ad_nil)))) (ad_cons (ed_tup (ad_cons ed_int (ad_cons ed_int (ad_cons ed_int (ad_cons ed_int ad_nil))))) (ad_cons (ed_tup (ad_cons ed_bl ad_nil)) (ad_cons ed_str (ad_cons (ed_tup (ad_cons ed_int (ad_cons ed_int ad_nil))) (ad_cons (ed_tup (ad_cons ed_int (ad_cons ed_non ad_nil))) (ad_cons (ed_lst (ad_cons ed_int (ad_cons ed_int ad_nil))) ad_nil)))))))))))))))))))) (gd_name (i := 0) sc__law_refusals.nd rfl (by first | exact .inl rfl | exact .inr rfl))
  (ssd_cons (sd_if (td_cmp vb_isnot op_isnot2 (nomark _) (ed_call c_is_pouring hr (by decide) dvs0 runF_len (ad_cons (ed_var 0) ad_nil)) ed_bl)
  (ssd_one (sd_ret ed_bl))
  ssd_nil)
  (ssd_cons (sd_for rfl PassesOwn.never (id_rng2 ed_int ed_int B.range) (gd_name (i := 2) sc__law_refusals.nd rfl (by first | exact .inl rfl | exact .inr rfl))
  (ssd_one (sd_if (td_cmp vb_ne (op_neD hr.units) (nomark _) (ed_call c__law_refusal hr (by decide) dvs0 runF_len (ad_cons (ed_var 2) (ad_cons (ed_var 0) (ad_cons (ed_neg ed_int) ad_nil)))) ed_str)
  (ssd_one (sd_ret ed_bl))
  ssd_nil)))
  ssd_nil)))
  (ssd_cons (sd_for rfl PassesOwn.never (id_seq (ed_lst (ad_cons (ed_tup ad_nil) (ad_cons (ed_tup (ad_cons ed_int ad_nil)) (ad_cons (ed_tup (ad_cons ed_int (ad_cons ed_int ad_nil))) (ad_cons (ed_tup (ad_cons ed_int (ad_cons ed_int (ad_cons ed_int ad_nil)))) (ad_cons (ed_tup (ad_cons ed_int (ad_cons ed_int (ad_cons ed_int (ad_cons ed_int ad_nil))))) (ad_cons (ed_tup (ad_cons ed_int (ad_cons ed_int (ad_cons ed_int (ad_cons ed_int (ad_cons ed_int (ad_cons ed_int (ad_cons ed_int ad_nil)))))))) (ad_cons (ed_tup (ad_cons ed_int (ad_cons ed_int (ad_cons ed_int (ad_cons ed_int (ad_cons ed_int ad_nil)))))) ad_nil))))))))) (gd_name (i := 1) sc__law_refusals.nd rfl (by first | exact .inl rfl | exact .inr rfl))
  (ssd_cons (sd_if (WD.td (wd_or (td_cmp vb_isnot op_isnot2 (nomark _) (ed_call c_is_pouring hr (by decide) dvs0 runF_len (ad_cons (ed_var 1) ad_nil)) ed_bl) (wd_or1 (td_cmp vb_ne (op_neD hr.units) (nomark _) (ed_call c__law_refusal hr (by decide) dvs0 runF_len (ad_cons ed_int (ad_cons (ed_var 1) (ad_cons ed_int ad_nil)))) ed_str))))
  (ssd_one (sd_ret ed_bl))
  ssd_nil)
  (ssd_cons (sd_if (td_cmp vb_ne (op_neD hr.units) (nomark _) (ed_call c__law_refusal hr (by decide) dvs0 runF_len (ad_cons ed_int (ad_cons (ed_var 1) (ad_cons (ed_cb vc_len call_len_seq B.len (ad_cons (ed_var 1) ad_nil)) ad_nil)))) ed_str)
  (ssd_one (sd_ret ed_bl))
  ssd_nil)
  (ssd_cons (sd_if (WD.td (wd_or (td_cmp vb_ne (op_neD hr.units) (nomark _) (ed_call c__law_refusal hr (by decide) dvs0 runF_len (ad_cons ed_int (ad_cons (ed_var 1) (ad_cons ed_int ad_nil)))) ed_str) (wd_or1 (td_cmp vb_ne (op_neD hr.units) (nomark _) (ed_call c__law_refusal hr (by decide) dvs0 runF_len (ad_cons ed_int (ad_cons (ed_var 1) (ad_cons ed_int ad_nil)))) ed_str))))
  (ssd_one (sd_ret ed_bl))
  ssd_nil)
  (ssd_cons (sd_for rfl PassesOwn.never (id_seq (ed_lst (ad_cons (ed_op vb_add op_add3 (ed_cb vc_len call_len_seq B.len (ad_cons (ed_var 1) ad_nil)) ed_int) (ad_cons (ed_neg ed_int) (ad_cons ed_bl (ad_cons ed_non (ad_cons ed_str (ad_cons (ed_tup (ad_cons ed_int ad_nil)) (ad_cons ed_bl ad_nil))))))))) (gd_name (i := 0) sc__law_refusals.nd rfl (by first | exact .inl rfl | exact .inr rfl))
  (ssd_one (sd_if (td_cmp vb_ne (op_neD hr.units) (nomark _) (ed_call c__law_refusal hr (by decide) dvs0 runF_len (ad_cons ed_int (ad_cons (ed_var 1) (ad_cons (ed_var 0) ad_nil)))) ed_str)
  (ssd_one (sd_ret ed_bl))
  ssd_nil)))
  ssd_nil)))))
  (ssd_cons (sd_for rfl PassesOwn.never (id_seq (ed_lst (ad_cons (ed_tup (ad_cons ed_int (ad_cons ed_int (ad_cons ed_int ad_nil)))) (ad_cons (ed_tup (ad_cons ed_int ad_nil)) (ad_cons (ed_tup (ad_cons ed_int (ad_cons ed_int ad_nil))) (ad_cons (ed_lst (ad_cons ed_int (ad_cons ed_int ad_nil))) (ad_cons (ed_tup (ad_cons ed_int (ad_cons ed_bl ad_nil))) (ad_cons (ed_tup (ad_cons ed_bl ad_nil)) (ad_cons ed_non (ad_cons ed_int (ad_cons (ed_tup (ad_cons (ed_neg ed_int) ad_nil)) (ad_cons (ed_tup (ad_cons ed_int (ad_cons ed_int (ad_cons ed_int (ad_cons ed_int (ad_cons ed_int ad_nil)))))) (ad_cons (ed_tup (ad_cons ed_str ad_nil)) ad_nil))))))))))))) (gd_name (i := 0) sc__law_refusals.nd rfl (by first | exact .inl rfl | exact .inr rfl))
  (ssd_one (sd_if (td_cmp vb_ne (op_neD hr.units) (nomark _) (ed_call c__law_refusal hr (by decide) dvs0 runF_len (ad_cons ed_int (ad_cons (ed_var 0) (ad_cons ed_int ad_nil)))) ed_str)
  (ssd_one (sd_ret ed_bl))
  ssd_nil)))
  (ssd_cons (sd_for rfl PassesOwn.never (id_seq (ed_lst (ad_cons (ed_tup ad_nil) (ad_cons (ed_tup (ad_cons ed_int ad_nil)) (ad_cons (ed_tup (ad_cons ed_int (ad_cons ed_int ad_nil))) (ad_cons (ed_tup (ad_cons ed_int (ad_cons ed_int ad_nil))) (ad_cons (ed_tup (ad_cons ed_int (ad_cons ed_int (ad_cons ed_int ad_nil)))) (ad_cons (ed_tup (ad_cons ed_int (ad_cons ed_int (ad_cons ed_int (ad_cons ed_int (ad_cons ed_int ad_nil)))))) (ad_cons (ed_tup (ad_cons ed_int (ad_cons ed_int (ad_cons ed_int (ad_cons ed_int (ad_cons ed_int ad_nil)))))) ad_nil))))))))) (gd_name (i := 1) sc__law_refusals.nd rfl (by first | exact .inl rfl | exact .inr rfl))
  (ssd_one (sd_if (td_cmp vb_ne (op_neD hr.units) (nomark _) (ed_call c__law_refusal hr (by decide) dvs0 runF_len (ad_cons ed_int (ad_cons (ed_var 1) (ad_cons ed_int ad_nil)))) ed_str)
  (ssd_one (sd_ret ed_bl))
  ssd_nil)))
  (ssd_cons (sd_if (WD.td (wd_or (td_cmp vb_isnot op_isnot2 (nomark _) (ed_call c_is_pouring hr (by decide) dvs0 runF_len (ad_cons (ed_op vb_repT op_repB (ed_tup (ad_cons ed_int ad_nil)) ed_int) ad_nil)) ed_bl) (wd_or1 (td_cmp vb_isnot op_isnot2 (nomark _) (ed_call c_is_pouring hr (by decide) dvs0 runF_len (ad_cons (ed_op vb_add op_add3 (ed_op vb_repT op_repB (ed_tup (ad_cons ed_int ad_nil)) ed_int) (ed_tup (ad_cons ed_int ad_nil))) ad_nil)) ed_bl))))
  (ssd_one (sd_ret ed_bl))
  ssd_nil)
  (ssd_cons (sd_ret (ed_and (ed_cmp vb_is op_is2 (nomark _) (ed_call c_is_pouring hr (by decide) dvs0 runF_len (ad_cons (ed_op vb_repT op_repB (ed_tup (ad_cons ed_int ad_nil)) ed_int) ad_nil)) ed_bl) (ed_one (ed_cmp vb_is op_is2 (nomark _) (ed_call c_is_pouring hr (by decide) dvs0 runF_len (ad_cons (ed_op vb_add op_add3 (ed_op vb_repT op_repB (ed_tup (ad_cons ed_int ad_nil)) ed_int) (ed_tup (ad_cons ed_int ad_nil))) ad_nil)) ed_bl))))
  ssd_nil))))))
theorem ok_law (B : Bi mg) (F : FunD K "law" "law" (defArgs s_law) (defBody s_law) (defScope s_law) dvs kws f fd) (c__law_all : Kf P w K mg base 16 "_law_all" (spD K 1 F__law_all) []) (c__law_bases : Kf P w K mg base 1 "_law_bases" (spD K 1 F__law_bases) []) (c__law_by_hand : Kf P w K mg base 16 "_law_by_hand" (spD K 0 F__law_by_hand) []) (c__law_cell : Kf P w K mg base 1 "_law_cell" (spD K 2 F__law_cell) []) (c__law_chain : Kf P w K mg base 1 "_law_chain" (spD K 2 F__law_chain) []) (c__law_is_line_plan : Kf P w K mg base 2 "_law_is_line_plan" (spD K 2 F__law_is_line_plan) []) (c__law_pool : Kf P w K mg base 1 "_law_pool" (spNw K 1 F__law_pool) []) (c__law_poured : Kf P w K mg base 1 "_law_poured" (spD K 1 F__law_poured) []) (c__law_refusals : Kf P w K mg base 17 "_law_refusals" (spD K 0 F__law_refusals) []) (c__law_same : Kf P w K mg base 15 "_law_same" (spD K 2 F__law_same) []) (c__law_scene : Kf P w K mg base 2 "_law_scene" (spWk K 1 1 F__law_scene) []) (c__law_steps : Kf P w K mg base 2 "_law_steps" (spD K 1 F__law_steps) []) (c__law_take : Kf P w K mg base 1 "_law_take" (spW K 1 F__law_take) []) (c__law_writes : Kf P w K mg base 1 "_law_writes" (spD K 1 F__law_writes) []) (c_is_pouring : Kf P w K mg base 3 "is_pouring" (spD K 1 F_is_pouring) []) (c_plan_poured : Kf P w K mg base 4 "plan_poured" (spD K 1 F_plan_poured) []) (c_poured_counts : Kf P w K mg base 6 "poured_counts" (spD K 1 F_poured_counts) []) (c_pouring_of : Kf P w K mg base 6 "pouring_of" (spD K 1 F_pouring_of) []) (c_standing_after : Kf P w K mg base 4 "standing_after" (spD K 2 F_standing_after) []) : FnOk P w K mg base CX0 18 f fd ["_law_script"] (spD K 1 F_law) :=
  fnD F sc_law rfl rfl fun cdv A outer s H E hr => (ssd_cons (sd_setF 1 sc_law.nd (ed_op vb_mod op_mod (ed_call c__law_cell hr (by decide) dvs0 runF_len (ad_cons (ed_var 0) (ad_cons ed_int ad_nil))) ed_int))
  (ssd_cons (sd_if (td_cmp vb_eq (op_eqD hr.units) (nomark _) (ed_var 1) ed_int)
  (ssd_one (sd_ret (ed_call0 c__law_by_hand hr (by decide) dvs0 runF_len)))
  ssd_nil)
  (ssd_cons (sd_if (td_cmp vb_eq (op_eqD hr.units) (nomark _) (ed_var 1) ed_int)
  (ssd_one (sd_ret (ed_call0 c__law_refusals hr (by decide) dvs0 runF_len)))
  ssd_nil)
  (ssd_cons (sd_callNw 12 sc_law.nd c__law_pool hr (by decide) runNw_len (ad_cons (ed_var 0) ad_nil))
  (ssd_cons (sd_if (td_cmp vb_eq (op_eqD hr.units) (nomark _) (ed_var 1) ed_int)
  (ssd_one (sd_ret (ed_call c__law_all hr (by decide) dvs0 runF_len (ad_cons (ed_op vb_add op_add3 ed_int (ed_callW 12 c__law_take hr (by decide) runW_len (ad_cons ed_int ad_nil))) ad_nil))))
  ssd_nil)
  (ssd_cons (sd_set 2 sc_law.nd (ed_op vb_add op_add3 ed_int (ed_callW 12 c__law_take hr (by decide) runW_len (ad_cons ed_int ad_nil))))
  (ssd_cons (sd_if (td_cmp vb_eq (op_eqD hr.units) (nomark _) (ed_var 1) ed_int)
  (ssd_one (sd_set 2 sc_law.nd (ed_callW 12 c__law_take hr (by decide) runW_len (ad_cons ed_int ad_nil))))
  ssd_nil)
  (ssd_cons (sd_if (td_cmp vb_eq (op_eqD hr.units) (nomark _) (ed_var 1) ed_int)
  (ssd_one (sd_set 2 sc_law.nd ed_int))
  ssd_nil)
  (ssd_cons (SD.fz 2 (sd_setF 3 sc_law.nd (ed_callWk c__law_scene hr (by decide) runWk_len (ad_cons (ed_var 2) (ad_cons (ed_var 12) ad_nil)))))
  (ssd_cons (sd_setF 4 sc_law.nd (ed_call c__law_poured hr (by decide) dvs0 runF_len (ad_cons (ed_var 3) ad_nil)))
  (ssd_cons (sd_setF 5 sc_law.nd (ed_ct vc_tuple call_tuple_of B.tuple (ad_cons (ed_lc (own := [("_law_t", 6)]) rfl sc_law.nd (id_rng2 ed_int (ed_op vb_add op_add3 (ed_var 2) ed_int) B.range) (by first | decide | with_unfolding_all rfl) (by decide) (fun _ _ _ _ _ => (gd_name (i := 6) sc_law.nd rfl (by first | exact .inl rfl | exact .inr rfl))) (fun _ _ _ _ _ => ptd_nil) (fun _ _ _ _ _ => (ed_op vb_sub op_sub (ed_ix (ed_ix (ed_ix (ed_var 4) (ed_var 6)) (ed_neg ed_int)) ed_int) ed_int))) ad_nil)))
  (ssd_cons (SD.fz 2 (sd_if (WD.td (wd_or (td_cmp vb_isnot op_isnot2 (nomark _) (ed_call c_is_pouring hr (by decide) dvs0 runF_len (ad_cons (ed_var 3) ad_nil)) ed_bl) (wd_or (td_not (td_val (ed_call c__law_same hr (by decide) dvs0 (len__law_same 14) (ad_cons (ed_call c_plan_poured hr (by decide) dvs0 runF_len (ad_cons (ed_var 3) ad_nil)) (ad_cons (ed_var 5) ad_nil))))) (wd_or1 (td_not (td_val (ed_call c__law_is_line_plan hr (by decide) dvs0 runF_len (ad_cons (ed_var 5) (ad_cons (ed_var 2) ad_nil)))))))))
  (ssd_one (sd_ret ed_bl))
  ssd_nil))
  (ssd_cons (sd_if (WD.td (wd_or (td_not (td_val (ed_call c__law_same hr (by decide) dvs0 (len__law_same 14) (ad_cons (ed_call c_pouring_of hr (by decide) dvs0 runF_len (ad_cons (ed_var 5) ad_nil)) (ad_cons (ed_var 3) ad_nil))))) (wd_or1 (td_not (td_val (ed_call c__law_same hr (by decide) dvs0 (len__law_same 14) (ad_cons (ed_call c_poured_counts hr (by decide) dvs0 runF_len (ad_cons (ed_var 3) ad_nil)) (ad_cons (ed_call c__law_writes hr (by decide) dvs0 runF_len (ad_cons (ed_var 5) ad_nil)) ad_nil))))))))
  (ssd_one (sd_ret ed_bl))
  ssd_nil)
  (ssd_cons (sd_for rfl PassesOwn.never (id_rng1 (ed_op vb_add op_add3 (ed_var 2) ed_int) B.range) (gd_name (i := 6) sc_law.nd rfl (by first | exact .inl rfl | exact .inr rfl))
  (ssd_cons (sd_setF 10 sc_law.nd (ed_call c_standing_after hr (by decide) dvs0 runF_len (ad_cons (ed_var 3) (ad_cons (ed_var 6) ad_nil))))
  (ssd_cons (sd_if (WD.td (wd_or (td_not (td_val (ed_call c__law_same hr (by decide) dvs0 (len__law_same 14) (ad_cons (ed_var 10) (ad_cons (ed_ix (ed_var 4) (ed_var 6)) ad_nil))))) (wd_or1 (td_not (td_val (ed_call c__law_same hr (by decide) dvs0 (len__law_same 14) (ad_cons (ed_var 10) (ad_cons (ed_call c__law_chain hr (by decide) dvs0 runF_len (ad_cons (ed_var 5) (ad_cons (ed_var 6) ad_nil))) ad_nil))))))))
  (ssd_one (sd_ret ed_bl))
  ssd_nil)
  ssd_nil)))
  (ssd_cons (sd_setF 7 sc_law.nd (ed_call c__law_bases hr (by decide) dvs0 runF_len (ad_cons (ed_lc (own := [("_law_v", 11)]) rfl sc_law.nd (id_rng2 ed_int (ed_op vb_add op_add3 (ed_var 2) ed_int) B.range) (by first | decide | with_unfolding_all rfl) (by decide) (fun _ _ _ _ _ => (gd_name (i := 11) sc_law.nd rfl (by first | exact .inl rfl | exact .inr rfl))) (fun _ _ _ _ _ => ptd_nil) (fun _ _ _ _ _ => (ed_op vb_add op_add3 ed_int (ed_op vb_mod op_mod (ed_ct vc_int call_int1 B.int (ad_cons (ed_op vb_add op_add3 (ed_op vb_mul op_mul2 ed_int (ed_var 11)) (ed_callW 12 c__law_take hr (by decide) runW_len (ad_cons ed_int ad_nil))) ad_nil)) ed_int)))) ad_nil)))
  (ssd_cons (sd_setF 8 sc_law.nd (ed_call c__law_steps hr (by decide) dvs0 runF_len (ad_cons (ed_var 7) ad_nil)))
  (ssd_cons (sd_if (WD.td (wd_or (td_not (td_val (ed_call c__law_same hr (by decide) dvs0 (len__law_same 14) (ad_cons (ed_call c_pouring_of hr (by decide) dvs0 runF_len (ad_cons (ed_var 7) ad_nil)) (ad_cons (ed_var 8) ad_nil))))) (wd_or1 (td_not (td_val (ed_call c__law_same hr (by decide) dvs0 (len__law_same 14) (ad_cons (ed_call c_plan_poured hr (by decide) dvs0 runF_len (ad_cons (ed_var 8) ad_nil)) (ad_cons (ed_var 7) ad_nil))))))))
  (ssd_one (sd_ret ed_bl))
  ssd_nil)
  (ssd_cons (sd_for rfl PassesOwn.never (id_rng1 (ed_op vb_add op_add3 (ed_var 2) ed_int) B.range) (gd_name (i := 6) sc_law.nd rfl (by first | exact .inl rfl | exact .inr rfl))
  (ssd_one (sd_if (td_not (td_val (ed_call c__law_same hr (by decide) dvs0 (len__law_same 14) (ad_cons (ed_call c_standing_after hr (by decide) dvs0 runF_len (ad_cons (ed_var 8) (ad_cons (ed_var 6) ad_nil))) (ad_cons (ed_call c__law_chain hr (by decide) dvs0 runF_len (ad_cons (ed_var 7) (ad_cons (ed_var 6) ad_nil))) ad_nil)))))
  (ssd_one (sd_ret ed_bl))
  ssd_nil)))
  (ssd_cons (sd_setF 9 sc_law.nd (ed_op vb_add op_add3 (ed_sl (ed_var 3) od_no (od_at (ed_neg ed_int))) (ed_tup (ad_cons (ed_op vb_add op_add3 (ed_cb vc_len call_len_seq B.len (ad_cons (ed_ix (ed_var 4) (ed_cb vc_max2 (call_max2 rfl) B.max (ad_cons ed_int (ad_cons (ed_op vb_sub op_sub (ed_var 2) ed_int) ad_nil)))) ad_nil)) ed_int) ad_nil))))
  (ssd_cons (sd_ret (ed_and (ed_call c__law_same hr (by decide) dvs0 (len__law_same 14) (ad_cons (ed_call c_pouring_of hr (by decide) dvs0 runF_len (ad_cons (ed_var 7) ad_nil)) (ad_cons (ed_var 8) ad_nil))) (ed_one (ed_cmp vb_is op_is2 (nomark _) (ed_call c_is_pouring hr (by decide) dvs0 runF_len (ad_cons (ed_var 9) ad_nil)) ed_bl))))
  ssd_nil))))))))))))))))))))
end
end K44
namespace K44
open PySem PySem.Spec PyProof.Rows L2 DL
noncomputable section
def f_is_integer (thing : Int) : Option Bool :=
  some (true && (!false))
def f_poured_on (runs : (List (Int × Int))) (many : Int) (entry : Int) : Option (List (Int × Int)) :=
  (some ((runs.length : Int) - many)).bind fun kept1 => (some entry).bind fun first2 => if (decide ((0 : Int) < many)) = true then (atI runs kept1).bind fun t4 => (some t4.1).bind fun first5 => (catO (cutD runs none (some kept1)) [(first5, entry)]).bind fun t6 => some t6 else (catO (cutD runs none (some kept1)) [(first2, entry)]).bind fun t7 => some t7
def f_w_cell (script : (List Int)) (k_ : Int) : Option Int :=
  if (decide (k_ < (script.length : Int))) = true then (atI script k_).bind fun t2 => some t2 else some (0 : Int)
def f_w_pool (script : (List Int)) : Option (List Ot) := F__law_pool [(ls PyData.int) script]
def f_w_take (pool : (List Ot)) (bound : Int) : Option (Int × List Ot) := chW PyData.int (F__law_take (.lst pool) [PyData.int bound])
def f_w_poured_L2 (steps : PyData) (stands : (List (List (Int × Int)))) (t_ : Int) (x_2 : Int) (runs_ : (List (Int × Int))) (low_ : Int) : Option ((List (Int × Int)) × Int) :=
  (atI runs_ (-1 : Int)).bind fun t13 => (some t13.1).bind fun low14 => (some (cutD runs_ none (some (-1 : Int)))).bind fun runs15 => some (runs15, low14)
def f_w_poured_L1 (steps : PyData) (x_1 : Int) (runs_ : (List (Int × Int))) (stands_ : (List (List (Int × Int)))) : Option ((List (Int × Int)) × (List (List (Int × Int)))) :=
  (some x_1).bind fun low8 => (vD (p_ix steps (PyData.int (x_1 - (1 : Int))))).bind fun t9 => (anI t9).bind fun ai10 => (rng1O ai10).bind fun is11 => (forS (fun x_2 (s_ : (List (Int × Int)) × Int) => f_w_poured_L2 steps stands_ x_1 x_2 s_.1 s_.2) is11 (runs_, low8)).bind fun s20 => (catO s20.1 [(s20.2, x_1)]).bind fun runs23 => (appO stands_ runs23).bind fun stands24 => some (runs23, stands24)
def f_w_poured (steps : PyData) : Option (List (List (Int × Int))) :=
  (some []).bind fun runs1 => (some [[]]).bind fun stands2 => (iD (c_len [steps])).bind fun t3 => (rngO (1 : Int) (t3 + (1 : Int))).bind fun is4 => (forS (fun x_1 (s_ : (List (Int × Int)) × (List (List (Int × Int)))) => f_w_poured_L1 steps x_1 s_.1 s_.2) is4 (runs1, stands2)).bind fun s41 => some s41.2
def f_w_bases_L2 (heights : (List Int)) (out : (List Int)) (v_ : Int) (up_ : Int) : Option (Int) :=
  (some (up_ - (1 : Int))).bind fun up6 => some up6
def f_w_bases_L2c (heights : (List Int)) (out : (List Int)) (v_ : Int) (up_ : Int) : Option Bool :=
  (andO (decide ((0 : Int) < up_)) ((atI heights (up_ - (1 : Int))).bind fun t7 => (atI heights (v_ - (1 : Int))).bind fun t8 => some (decide (t7 ≤ t8)))).bind fun t9 => some t9
def f_w_bases_L1 (heights : (List Int)) (x_1 : Int) (out_ : (List Int)) : Option ((List Int)) :=
  (some (x_1 - (1 : Int))).bind fun up5 => (whS (fun (up_ : Int) => f_w_bases_L2c heights out_ x_1 up_) (fun (up_ : Int) => f_w_bases_L2 heights out_ x_1 up_) 300 up5).bind fun up15 => (appO out_ up15).bind fun out16 => some out16
def f_w_bases (heights : (List Int)) : Option (List Int) :=
  (some []).bind fun out1 => (rngO (1 : Int) ((heights.length : Int) + (1 : Int))).bind fun is2 => (forS (fun x_1 (out_ : (List Int)) => f_w_bases_L1 heights x_1 out_) is2 out1).bind fun out28 => some out28
def f_w_nested_L2 (plan : (List Int)) (z_ : Int) (x_2 : Int) : Option (Lp (Unit) Bool) :=
  (atI plan (x_2 - (1 : Int))).bind fun t7 => (atI plan (z_ - (1 : Int))).bind fun t8 => if (decide (t7 < t8)) = true then some (.rt false) else some (.nx ())
def f_w_nested_L1 (plan : (List Int)) (x_1 : Int) : Option (Lp (Unit) Bool) :=
  (atI plan (x_1 - (1 : Int))).bind fun t4 => (rngO (t4 + (1 : Int)) x_1).bind fun is5 => thenL (forG (fun x_2 (s_ : Unit) => f_w_nested_L2 plan x_1 x_2) is5 ()) (fun r_ => some (.rt r_)) fun s14 => some (.nx ())
def f_w_nested (plan : (List Int)) : Option Bool :=
  (rngO (1 : Int) ((plan.length : Int) + (1 : Int))).bind fun is1 => thenL (forG (fun x_1 (s_ : Unit) => f_w_nested_L1 plan x_1) is1 ()) (fun r_ => some r_) fun s26 => some true
def f_w_chain_L1 (plan : (List Int)) (v__ : Int) (runs_ : (List (Int × Int))) : Option (Int × (List (Int × Int))) :=
  (atI plan (v__ - (1 : Int))).bind fun t2 => (catO [((t2 + (1 : Int)), v__)] runs_).bind fun runs4 => (atI plan (v__ - (1 : Int))).bind fun v_6 => some (v_6, runs4)
def f_w_chain_L1c (plan : (List Int)) (v__ : Int) (runs_ : (List (Int × Int))) : Option Bool :=
  some (decide ((0 : Int) < v__))
def f_w_chain (plan : (List Int)) (v_ : Int) : Option (List (Int × Int)) :=
  (some []).bind fun runs1 => (whS (fun (s_ : Int × (List (Int × Int))) => f_w_chain_L1c plan s_.1 s_.2) (fun (s_ : Int × (List (Int × Int))) => f_w_chain_L1 plan s_.1 s_.2) 300 (v_, runs1)).bind fun s12 => some s12.2
def f_w_writes_L1 (plan : (List Int)) (x_1 : Int) (out_ : (List Int)) : Option ((List Int)) :=
  (rngO x_1 ((plan.length : Int) + (1 : Int))).bind fun is4 => (lcC (fun x5 => (atI plan (x5 - (1 : Int))).bind fun t6 => some (decide (t6 < x_1))) (fun x5 => some x5) is4).bind fun t7 => (appO out_ (t7.length : Int)).bind fun out8 => some out8
def f_w_writes (plan : (List Int)) : Option (List Int) :=
  (some []).bind fun out1 => (rngO (1 : Int) ((plan.length : Int) + (1 : Int))).bind fun is2 => (forS (fun x_1 (out_ : (List Int)) => f_w_writes_L1 plan x_1 out_) is2 out1).bind fun out16 => some out16
def f_is_number (thing : Int) : Option Bool :=
  (f_is_integer thing).bind fun t1 => some (t1 && (decide ((0 : Int) ≤ thing)))
def f_w_is_line_plan_L1 (told : (List Int)) (size : Int) (x_1 : Int) : Option (Lp (Unit) Bool) :=
  (atI told x_1).bind fun t4 => (orO (!true) ((atI told x_1).bind fun t5 => (orO false ((atI told x_1).bind fun t6 => (orO (decide (t6 < (0 : Int))) ((atI told x_1).bind fun t7 => some (decide (x_1 < t7)))).bind fun t8 => some t8)).bind fun t9 => some t9)).bind fun t10 => if t10 = true then some (.rt false) else some (.nx ())
def f_w_is_line_plan (told : (List Int)) (size : Int) : Option Bool :=
  if ((!true) || (!decide ((told.length : Int) = size))) = true then some false else (rng1O size).bind fun is2 => thenL (forG (fun x_1 (s_ : Unit) => f_w_is_line_plan_L1 told size x_1) is2 ()) (fun r_ => some r_) fun s21 => (f_w_nested told).bind fun t23 => some t23
def f_w_ways_L2 (size : Int) (ways : (List (List Int))) (t_ : Int) (x_2 : (List Int)) (longer_ : (List (List Int))) : Option ((List (List Int))) :=
  (f_w_poured ((tp PyData.int) x_2)).bind fun t8 => (atI t8 t_).bind fun t9 => (rng1O ((t9.length : Int) + (1 : Int))).bind fun is10 => (lcC (fun x11 => some true) (fun x11 => (catO x_2 [x11]).bind fun t12 => some t12) is10).bind fun t13 => (catO longer_ t13).bind fun longer15 => some longer15
def f_w_ways_L1 (size : Int) (x_1 : Int) (ways_ : (List (List Int))) : Option ((List (List Int))) :=
  (some []).bind fun longer6 => (forS (fun x_2 (longer_ : (List (List Int))) => f_w_ways_L2 size ways_ x_1 x_2 longer_) ways_ longer6).bind fun longer26 => (some longer26).bind fun ways28 => some ways28
def f_w_ways (size : Int) : Option (List (List Int)) :=
  (some [[]]).bind fun ways1 => (rng1O size).bind fun is2 => (forS (fun x_1 (ways_ : (List (List Int))) => f_w_ways_L1 size x_1 ways_) is2 ways1).bind fun ways47 => some ways47
def f_w_plans_L2 (size : Int) (ways : (List (List Int))) (v_ : Int) (x_2 : (List Int)) (longer_ : (List (List Int))) : Option ((List (List Int))) :=
  (rng1O v_).bind fun is8 => (lcC (fun x9 => some true) (fun x9 => (catO x_2 [x9]).bind fun t10 => some t10) is8).bind fun t11 => (catO longer_ t11).bind fun longer13 => some longer13
def f_w_plans_L1 (size : Int) (x_1 : Int) (ways_ : (List (List Int))) : Option ((List (List Int))) :=
  (some []).bind fun longer6 => (forS (fun x_2 (longer_ : (List (List Int))) => f_w_plans_L2 size ways_ x_1 x_2 longer_) ways_ longer6).bind fun longer22 => (some longer22).bind fun ways24 => some ways24
def f_w_plans (size : Int) : Option (List (List Int)) :=
  (some [[]]).bind fun ways1 => (rngO (1 : Int) (size + (1 : Int))).bind fun is2 => (forS (fun x_1 (ways_ : (List (List Int))) => f_w_plans_L1 size x_1 ways_) is2 ways1).bind fun ways41 => (lcC (fun x45 => (f_w_nested x45).bind fun t46 => some t46) (fun x45 => some x45) ways41).bind fun t47 => some t47
def f_w_steps_L1 (plan : (List Int)) (x_1 : Int) (steps_ : (List Int)) : Option ((List Int)) :=
  (atI plan (x_1 - (1 : Int))).bind fun low6 => (f_w_chain plan (x_1 - (1 : Int))).bind fun t7 => (lcC (fun x8 => some (decide (low6 < x8.1))) (fun x8 => some x8) t7).bind fun t9 => (appO steps_ (t9.length : Int)).bind fun steps10 => some steps10
def f_w_steps (plan : (List Int)) : Option (List Int) :=
  (some []).bind fun steps1 => (rngO (1 : Int) ((plan.length : Int) + (1 : Int))).bind fun is2 => (forS (fun x_1 (steps_ : (List Int)) => f_w_steps_L1 plan x_1 steps_) is2 steps1).bind fun steps20 => some steps20
def f_w_scene_L1 (size : Int) (x_1 : Int) (pool_ : (List Ot)) (steps_ : (List Int)) : Option ((List Ot) × (List Int)) :=
  (f_w_poured ((ls PyData.int) steps_)).bind fun t5 => (atI t5 x_1).bind fun t6 => (some (t6.length : Int)).bind fun many7 => (f_w_take pool_ (4 : Int)).bind fun t8 => (modO (((x_1 + (1 : Int)) / (2 : Int)) + t8.1) (many7 + (1 : Int))).bind fun t9 => (appO steps_ t9).bind fun steps10 => some (t8.2, steps10)
def f_w_scene (size : Int) (pool : (List Ot)) : Option ((List Int) × (List Ot)) :=
  (some []).bind fun steps1 => (rng1O size).bind fun is2 => (forS (fun x_1 (s_ : (List Ot) × (List Int)) => f_w_scene_L1 size x_1 s_.1 s_.2) is2 (pool, steps1)).bind fun s19 => some (s19.2, s19.1)
def f_need (holds : Bool) (word : Str) : Option Unit :=
  if (!holds) = true then none else some ()
def f_is_nested_L2 (thing : (List Int)) (version : Int) (base : Int) (chain_ : (List Int)) : Option ((List Int)) :=
  (popO chain_).bind fun pw8 => some pw8.2
def f_is_nested_L2c (thing : (List Int)) (version : Int) (base : Int) (chain_ : (List Int)) : Option Bool :=
  (atI chain_ (-1 : Int)).bind fun t9 => some (decide (base < t9))
def f_is_nested_L1 (thing : (List Int)) (x_1 : Int) (chain_ : (List Int)) (version_ : Int) : Option (Lp ((List Int) × Int) Bool) :=
  (some (version_ + (1 : Int))).bind fun version5 => (f_is_number x_1).bind fun t6 => if (!t6) = true then some (.rt false) else (whS (fun (chain_ : (List Int)) => f_is_nested_L2c thing version5 x_1 chain_) (fun (chain_ : (List Int)) => f_is_nested_L2 thing version5 x_1 chain_) 300 chain_).bind fun chain13 => (atI chain13 (-1 : Int)).bind fun t14 => if (!decide (t14 = x_1)) = true then some (.rt false) else (appO chain13 version5).bind fun chain16 => some (.nx (chain16, version5))
def f_is_nested (thing : (List Int)) : Option Bool :=
  if (!true) = true then some false else (some [(0 : Int)]).bind fun chain2 => (some (0 : Int)).bind fun version3 => thenL (forG (fun x_1 (s_ : (List Int) × Int) => f_is_nested_L1 thing x_1 s_.1 s_.2) thing (chain2, version3)) (fun r_ => some r_) fun s28 => some true
def f_is_pouring_L1 (thing : (List Int)) (x_1 : Int) (standing_ : Int) : Option (Lp (Int) Bool) :=
  (f_is_number x_1).bind fun t4 => if ((!t4) || (decide (standing_ < x_1))) = true then some (.rt false) else (some ((standing_ - x_1) + (1 : Int))).bind fun standing6 => some (.nx standing6)
def f_is_pouring (thing : (List Int)) : Option Bool :=
  if (!true) = true then some false else (some (0 : Int)).bind fun standing2 => thenL (forG (fun x_1 (standing_ : Int) => f_is_pouring_L1 thing x_1 standing_) thing standing2) (fun r_ => some r_) fun standing12 => some true
def f_need_plan (word : Str) (thing : (List Int)) : Option Unit :=
  (f_is_nested thing).bind fun t1 => if (!t1) = true then none else some ()
def f_is_line_plan (thing : (List Int)) : Option Bool :=
  (f_is_nested thing).bind fun t1 => some t1
def f_plan_poured_L1 (pouring : (List Int)) (x_1 : (Int × Int)) (runs_ : (List (Int × Int))) (bases_ : (List Int)) : Option ((List (Int × Int)) × (List Int)) :=
  (f_poured_on runs_ x_1.2 (x_1.1 + (1 : Int))).bind fun runs8 => (atI runs8 (-1 : Int)).bind fun t9 => (appO bases_ (t9.1 - (1 : Int))).bind fun bases10 => some (runs8, bases10)
def f_plan_poured (pouring : (List Int)) : Option (List Int) :=
  (f_is_pouring pouring).bind fun t1 => (f_need t1 ("pouring" : Str)).bind fun t2 => (some []).bind fun runs3 => (some []).bind fun bases4 => (forS (fun x_1 (s_ : (List (Int × Int)) × (List Int)) => f_plan_poured_L1 pouring x_1 s_.1 s_.2) (enumL pouring) (runs3, bases4)).bind fun s17 => some s17.2
def f_standing_after_L1 (pouring : (List Int)) (number : Int) (x_1 : Int) (runs_ : (List (Int × Int))) : Option ((List (Int × Int))) :=
  (atI pouring x_1).bind fun t8 => (f_poured_on runs_ t8 (x_1 + (1 : Int))).bind fun runs10 => some runs10
def f_standing_after (pouring : (List Int)) (number : Int) : Option (List (Int × Int)) :=
  (f_is_pouring pouring).bind fun t1 => (f_need t1 ("pouring" : Str)).bind fun t2 => (f_is_number number).bind fun t3 => (f_need (t3 && (decide (number ≤ (pouring.length : Int)))) ("number" : Str)).bind fun t4 => (some []).bind fun runs5 => (rng1O number).bind fun is6 => (forS (fun x_1 (runs_ : (List (Int × Int))) => f_standing_after_L1 pouring number x_1 runs_) is6 runs5).bind fun runs16 => some runs16
def f_line_reads_L1 (bases : (List Int)) (x_1 : Int) (reads_ : (List Int)) : Option ((List Int)) :=
  (atI reads_ x_1).bind fun t4 => (appO reads_ (t4 + (1 : Int))).bind fun reads5 => some reads5
def f_line_reads (bases : (List Int)) : Option (List Int) :=
  (f_need_plan ("bases" : Str) bases).bind fun t1 => (some [(0 : Int)]).bind fun reads2 => (forS (fun x_1 (reads_ : (List Int)) => f_line_reads_L1 bases x_1 reads_) bases reads2).bind fun reads10 => some reads10
def f_line_writes_L2 (bases : (List Int)) (version : Int) (base : Int) (x_2 : Int) (writes_ : (List Int)) : Option ((List Int)) :=
  (atI writes_ x_2).bind fun t10 => (putO writes_ x_2 (t10 + (1 : Int))).bind fun writes11 => some writes11
def f_line_writes_L1 (bases : (List Int)) (x_1 : (Int × Int)) (writes_ : (List Int)) : Option ((List Int)) :=
  (rngO x_1.2 x_1.1).bind fun is8 => (forS (fun x_2 (writes_ : (List Int)) => f_line_writes_L2 bases x_1.1 x_1.2 x_2 writes_) is8 writes_).bind fun writes16 => some writes16
def f_line_writes (bases : (List Int)) : Option (List Int) :=
  (f_need_plan ("bases" : Str) bases).bind fun t1 => (lcC (fun x2 => some true) (fun x2 => some (0 : Int)) bases).bind fun writes4 => (forS (fun x_1 (writes_ : (List Int)) => f_line_writes_L1 bases x_1 writes_) (enumL1 bases) writes4).bind fun writes29 => some writes29
def f_pouring_of (bases : (List Int)) : Option (List Int) :=
  (f_is_line_plan bases).bind fun t1 => (f_need t1 ("bases" : Str)).bind fun t2 => (f_line_reads bases).bind fun reads4 => (lcC (fun x5 => some true) (fun x5 => (atI reads4 x5.1).bind fun t6 => (atI reads4 x5.2).bind fun t7 => some (t6 - t7)) (enumL bases)).bind fun t8 => some t8
def f_poured_counts (pouring : (List Int)) : Option (List Int) :=
  (f_plan_poured pouring).bind fun t1 => (f_line_writes t1).bind fun t2 => some t2
def f_w_same_L1 (rec_ : PyData → PyData → Option Bool) (one : PyData) (other : PyData) (x_1 : Int) : Option (Lp (Unit) Bool) :=
  (vD (p_ix one (PyData.int x_1))).bind fun t11 => (vD (p_ix other (PyData.int x_1))).bind fun t12 => (rec_ t11 t12).bind fun t13 => if (!t13) = true then some (.rt false) else some (.nx ())
def f_w_same_B (rec_ : PyData → PyData → Option Bool) (one : PyData) (other : PyData) : Option Bool :=
  (isD .tuple one).bind fun t1 => (andO t1 ((isD .tuple other).bind fun t2 => some t2)).bind fun t3 => if t3 = true then (iD (c_len [one])).bind fun t5 => (iD (c_len [other])).bind fun t6 => if (!decide (t5 = t6)) = true then some false else (iD (c_len [one])).bind fun t8 => (rng1O t8).bind fun is9 => thenL (forG (fun x_1 (s_ : Unit) => f_w_same_L1 rec_ one other x_1) is9 ()) (fun r_ => some r_) fun s20 => some true else (isD .bool one).bind fun t22 => (isD .bool other).bind fun t23 => (andO (decide (t22 = t23)) ((bD (p_eq one other)).bind fun t24 => some t24)).bind fun t25 => some t25
def f_w_same_R : Nat → PyData → PyData → Option Bool
  | 0 => fun _ _ => none
  | N + 1 => f_w_same_B (f_w_same_R N)
def f_w_same (one : PyData) (other : PyData) : Option Bool := f_w_same_R 14 one other
def f_w_all_L1 (size : Int) (ways : (List (List Int))) (plans : (List (List Int))) (x_1 : (List Int)) (made_ : (List (List Int))) : Option (Lp ((List (List Int))) Bool) :=
  (f_plan_poured x_1).bind fun told9 => (f_w_is_line_plan told9 size).bind fun t10 => (orO (!t10) ((orO (decide (told9 ∈ made_)) ((f_pouring_of told9).bind fun t11 => (f_w_same ((tp PyData.int) t11) ((tp PyData.int) x_1)).bind fun t12 => some (!t12))).bind fun t13 => some t13)).bind fun t14 => if t14 = true then some (.rt false) else (f_poured_counts x_1).bind fun t16 => (f_w_writes told9).bind fun t17 => (f_w_same ((tp PyData.int) t16) ((tp PyData.int) t17)).bind fun t18 => if (!t18) = true then some (.rt false) else (appO made_ told9).bind fun made20 => some (.nx made20)
def f_w_all (size : Int) : Option Bool :=
  (f_w_ways size).bind fun ways2 => (f_w_plans size).bind fun plans4 => (some []).bind fun made5 => thenL (forG (fun x_1 (made_ : (List (List Int))) => f_w_all_L1 size ways2 plans4 x_1 made_) ways2 made5) (fun r_ => some r_) fun made37 => (andO (decide ((upT made37) = (upT plans4))) ((atI [(1 : Int), (1 : Int), (2 : Int), (5 : Int), (14 : Int), (42 : Int)] size).bind fun t40 => some (decide ((made37.length : Int) = t40)))).bind fun t41 => some t41
def f_w_by_hand  : Option Bool := chI PyData.bool (F__law_by_hand [])
def f_w_refusals  : Option Bool := chI PyData.bool (F__law_refusals [])
def f_law_L1 (size : Int) (steps : (List Int)) (stands : (List (List (Int × Int)))) (plan : (List Int)) (pool : (List Ot)) (x_1 : Int) : Option (Lp (Unit) Bool) :=
  (f_standing_after steps x_1).bind fun told46 => (atI stands x_1).bind fun t47 => (f_w_same ((tp (p2 PyData.int PyData.int)) told46) ((tp (p2 PyData.int PyData.int)) t47)).bind fun t48 => (orO (!t48) ((f_w_chain plan x_1).bind fun t49 => (f_w_same ((tp (p2 PyData.int PyData.int)) told46) ((tp (p2 PyData.int PyData.int)) t49)).bind fun t50 => some (!t50))).bind fun t51 => if t51 = true then some (.rt false) else some (.nx ())
def f_law_L2 (size : Int) (steps : (List Int)) (stands : (List (List (Int × Int)))) (other : (List Int)) (due : (List Int)) (x_2 : Int) : Option (Lp (Unit) Bool) :=
  (f_standing_after due x_2).bind fun t83 => (f_w_chain other x_2).bind fun t84 => (f_w_same ((tp (p2 PyData.int PyData.int)) t83) ((tp (p2 PyData.int PyData.int)) t84)).bind fun t85 => if (!t85) = true then some (.rt false) else some (.nx ())
def f_law_J2 (pool : (List Ot)) (size_ : Int) : Option (Bool) :=
  (f_w_scene size_ pool).bind fun t18 => (some t18.1).bind fun steps19 => (f_w_poured ((tp PyData.int) steps19)).bind fun stands21 => (rngO (1 : Int) (size_ + (1 : Int))).bind fun is22 => (lcC (fun x23 => some true) (fun x23 => (atI stands21 x23).bind fun t24 => (atI t24 (-1 : Int)).bind fun t25 => some (t25.1 - (1 : Int))) is22).bind fun plan27 => (f_is_pouring steps19).bind fun t28 => (orO (!decide (t28 = true)) ((f_plan_poured steps19).bind fun t29 => (f_w_same ((tp PyData.int) t29) ((tp PyData.int) plan27)).bind fun t30 => (orO (!t30) ((f_w_is_line_plan plan27 size_).bind fun t31 => some (!t31))).bind fun t32 => some t32)).bind fun t33 => if t33 = true then some false else (f_pouring_of plan27).bind fun t35 => (f_w_same ((tp PyData.int) t35) ((tp PyData.int) steps19)).bind fun t36 => (orO (!t36) ((f_poured_counts steps19).bind fun t37 => (f_w_writes plan27).bind fun t38 => (f_w_same ((tp PyData.int) t37) ((tp PyData.int) t38)).bind fun t39 => some (!t39))).bind fun t40 => if t40 = true then some false else (rng1O (size_ + (1 : Int))).bind fun is42 => thenL (forG (fun x_1 (s_ : Unit) => f_law_L1 size_ steps19 stands21 plan27 t18.2 x_1) is42 ()) (fun r_ => some r_) fun s63 => (rngO (1 : Int) (size_ + (1 : Int))).bind fun is66 => (lcCS (fun x67 s68 => (f_w_take s68 (4 : Int)).bind fun t69 => some (((1 : Int) + ((((5 : Int) * x67) + t69.1) % (4 : Int))), t69.2)) is66 t18.2).bind fun t70 => (f_w_bases t70.1).bind fun other72 => (f_w_steps other72).bind fun due74 => (f_pouring_of other72).bind fun t75 => (f_w_same ((tp PyData.int) t75) ((tp PyData.int) due74)).bind fun t76 => (orO (!t76) ((f_plan_poured due74).bind fun t77 => (f_w_same ((tp PyData.int) t77) ((tp PyData.int) other72)).bind fun t78 => some (!t78))).bind fun t79 => if t79 = true then some false else (rng1O (size_ + (1 : Int))).bind fun is81 => thenL (forG (fun x_2 (s_ : Unit) => f_law_L2 size_ steps19 stands21 other72 due74 x_2) is81 ()) (fun r_ => some r_) fun s92 => (atI stands21 (max (0 : Int) (size_ - (1 : Int)))).bind fun t94 => (catO (cutD steps19 none (some (-1 : Int))) [((t94.length : Int) + (1 : Int))]).bind fun broken96 => (f_pouring_of other72).bind fun t97 => (f_w_same ((tp PyData.int) t97) ((tp PyData.int) due74)).bind fun t98 => (andO t98 ((f_is_pouring broken96).bind fun t99 => some (decide (t99 = false)))).bind fun t100 => some t100
def f_law_J1 (mode : Int) (size_ : Int) (pool_ : (List Ot)) : Option (Bool) :=
  if (decide (mode = (7 : Int))) = true then (some (24 : Int)).bind fun size169 => f_law_J2 pool_ size169 else f_law_J2 pool_ size_
def f_law (script : (List Int)) : Option Bool :=
  (f_w_cell script (0 : Int)).bind fun t1 => (some (t1 % (8 : Int))).bind fun mode2 => if (decide (mode2 = (5 : Int))) = true then (f_w_by_hand ).bind fun t4 => some t4 else if (decide (mode2 = (6 : Int))) = true then (f_w_refusals ).bind fun t6 => some t6 else (f_w_pool script).bind fun pool7 => if (decide (mode2 = (2 : Int))) = true then (f_w_take pool7 (2 : Int)).bind fun t9 => (f_w_all ((4 : Int) + t9.1)).bind fun t10 => some t10 else (f_w_take pool7 (5 : Int)).bind fun t11 => (some ((5 : Int) + t11.1)).bind fun size12 => if (decide (mode2 = (3 : Int))) = true then (f_w_take t11.2 (4 : Int)).bind fun t241 => (some t241.1).bind fun size242 => f_law_J1 mode2 size242 t241.2 else f_law_J1 mode2 size12 t11.2
end
end K44
namespace K44
open PySem PySem.Spec PyProof.Rows L2 DL
theorem k_is_integer {thing : Int} {r : Bool} (h : f_is_integer thing = some r) : F_is_integer [PyData.int thing] = some (.im (PyData.bool r)) := by
  unfold f_is_integer at h
  refine t_fnI (enc := PyData.bool) rfl ?_
  show wS _ [im (PyData.int thing)] _
  cases h
  refine (w_ret (andXt (isX (vI rfl) rfl rfl) (notX (isX (vI rfl) rfl rfl))) ?_)
  exact rfl
theorem k__poured_on {runs : (List (Int × Int))} {many : Int} {entry : Int} {r : (List (Int × Int))} (h : f_poured_on runs many entry = some r) : F__poured_on [(tp (p2 PyData.int PyData.int)) runs, PyData.int many, PyData.int entry] = some (.im ((tp (p2 PyData.int PyData.int)) r)) := by
  unfold f_poured_on at h
  refine t_fnI (enc := (tp (p2 PyData.int PyData.int))) rfl ?_
  show wS _ [im ((tp (p2 PyData.int PyData.int)) runs), im (PyData.int many), im (PyData.int entry), none, none] _
  obtain ⟨kept1, h_kept1, h⟩ := bnd h
  refine w_seq ((t_set (f := PyData.int) (v := ((runs.length : Int) - many)) (w := kept1) h_kept1 (binX (cbX (dX (vI rfl) d0 rfl) (o_lenT (f := (p2 PyData.int PyData.int)) (l := runs))) (vI rfl) rfl rfl e_sub) rfl ?_))
  show wS _ [im ((tp (p2 PyData.int PyData.int)) runs), im (PyData.int many), im (PyData.int entry), im (PyData.int kept1), none] _
  obtain ⟨first2, h_first2, h⟩ := bnd h
  refine w_seq ((t_set (f := PyData.int) (v := entry) (w := first2) h_first2 (vI rfl) rfl ?_))
  show wS _ [im ((tp (p2 PyData.int PyData.int)) runs), im (PyData.int many), im (PyData.int entry), im (PyData.int kept1), im (PyData.int first2)] _
  refine w_seq ((w_if (b := (decide ((0 : Int) < many))) (bang (binX (vI rfl) cI rfl rfl e_qgt)) (fun hc3 => ?_) (fun hc3 => ?_)))
  · rw [if1 hc3] at h
    obtain ⟨t4, h_t4, h⟩ := bnd h
    obtain ⟨first5, h_first5, h⟩ := bnd h
    refine (t_set (f := PyData.int) (v := t4.1) (w := first5) h_first5 (binX (binX (vI rfl) (vI rfl) rfl rfl (o_ixT (f := (p2 PyData.int PyData.int)) (l := runs) h_t4)) cI rfl rfl rfl) rfl ?_)
    show wS _ [im ((tp (p2 PyData.int PyData.int)) runs), im (PyData.int many), im (PyData.int entry), im (PyData.int kept1), im (PyData.int first5)] _
    obtain ⟨t6, h_t6, h⟩ := bnd h
    cases h
    refine w_seq ((w_ret (binX (cutTX (f := (p2 PyData.int PyData.int)) (l := runs) (vI rfl) oN (oA (vI rfl))) (tupI (aI (tupI (aI (vI rfl) (aI (vI rfl) a0)) (Nat.le_of_ble_eq_true rfl)) a0) (Nat.le_of_ble_eq_true rfl)) rfl rfl (o_catT (f := (p2 PyData.int PyData.int)) (l := (cutD runs none (some kept1))) (m := [(first5, entry)]) h_t6)) ?_))
    exact rfl
  · rw [if0 hc3] at h
    refine w_nx ?_
    show wS _ [im ((tp (p2 PyData.int PyData.int)) runs), im (PyData.int many), im (PyData.int entry), im (PyData.int kept1), im (PyData.int first2)] _
    obtain ⟨t7, h_t7, h⟩ := bnd h
    cases h
    refine w_seq ((w_ret (binX (cutTX (f := (p2 PyData.int PyData.int)) (l := runs) (vI rfl) oN (oA (vI rfl))) (tupI (aI (tupI (aI (vI rfl) (aI (vI rfl) a0)) (Nat.le_of_ble_eq_true rfl)) a0) (Nat.le_of_ble_eq_true rfl)) rfl rfl (o_catT (f := (p2 PyData.int PyData.int)) (l := (cutD runs none (some kept1))) (m := [(first2, entry)]) h_t7)) ?_))
    exact rfl
theorem k__law_cell {script : (List Int)} {k_ : Int} {r : Int} (h : f_w_cell script k_ = some r) : F__law_cell [(ls PyData.int) script, PyData.int k_] = some (.im (PyData.int r)) := by
  unfold f_w_cell at h
  refine t_fnI (enc := PyData.int) rfl ?_
  show wS _ [im ((ls PyData.int) script), im (PyData.int k_)] _
  refine w_seq ((w_if (b := (decide (k_ < (script.length : Int)))) (bang (binX (vI rfl) (cbX (dX (vI rfl) d0 rfl) (o_lenL (f := PyData.int) (l := script))) rfl rfl e_qlt)) (fun hc1 => ?_) (fun hc1 => ?_)))
  · rw [if1 hc1] at h
    obtain ⟨t2, h_t2, h⟩ := bnd h
    cases h
    refine (w_ret (cbX (dX (binX (vI rfl) (vI rfl) rfl rfl (o_ixL (f := PyData.int) (l := script) h_t2)) d0 rfl) o_int) ?_)
    exact rfl
  · rw [if0 hc1] at h
    refine w_nx ?_
    show wS _ [im ((ls PyData.int) script), im (PyData.int k_)] _
    cases h
    refine w_seq ((w_ret cI ?_))
    exact rfl
theorem k__law_pool {script : (List Int)} {r : List Ot} (h : f_w_pool script = some r) : F__law_pool [(ls PyData.int) script] = some r := h
theorem k__law_take {pool : (List Ot)} {bound : Int} {r : Int × List Ot} (h : f_w_take pool bound = some r) : F__law_take (.lst pool) [PyData.int bound] = some (PyData.int r.1, .lst r.2) := chW_ok h
theorem k__law_poured {steps : PyData} {r : (List (List (Int × Int)))} (h : f_w_poured steps = some r) : F__law_poured [idD steps] = some (.ac (r.map (tp (p2 PyData.int PyData.int)))) := by
  unfold f_w_poured at h
  refine t_fnA (enc := (tp (p2 PyData.int PyData.int))) rfl ?_
  show wS _ [im (idD steps), none, none, none, none, none] _
  obtain ⟨runs1, h_runs1, h⟩ := bnd h
  refine w_seq ((t_setL (f := (p2 PyData.int PyData.int)) (v := []) (w := runs1) h_runs1 (lstX a0 (Nat.le_of_ble_eq_true rfl)) rfl ?_))
  show wS _ [im (idD steps), im ((ls (p2 PyData.int PyData.int)) runs1), none, none, none, none] _
  obtain ⟨stands2, h_stands2, h⟩ := bnd h
  refine w_seq ((t_setA (f := (tp (p2 PyData.int PyData.int))) (v := [[]]) (w := stands2) h_stands2 (lstX (aI (tupI a0 (Nat.le_of_ble_eq_true rfl)) a0) (Nat.le_of_ble_eq_true rfl)) rfl ?_))
  show wS _ [im (idD steps), im ((ls (p2 PyData.int PyData.int)) runs1), ac (stands2.map (tp (p2 PyData.int PyData.int))), none, none, none] _
  obtain ⟨t3, h_t3, h⟩ := bnd h
  obtain ⟨is4, h_is4, h⟩ := bnd h
  obtain ⟨s41, hl, h⟩ := bnd h
  refine w_seq ((t_forS PyData.int is4 (fun x_1 (s_ : (List (Int × Int)) × (List (List (Int × Int)))) => f_w_poured_L1 steps x_1 s_.1 s_.2) (fun (s_ : (List (Int × Int)) × (List (List (Int × Int)))) e => ∃ (o25 : Option PyData) (o26 : Option PyData) (o27 : Option PyData), e = [im (idD steps), im ((ls (p2 PyData.int PyData.int)) s_.1), ac (s_.2.map (tp (p2 PyData.int PyData.int))), imo o25, imo o26, imo o27]) (rng2I cI (binX (cbX (dX (vI rfl) d0 rfl) (iD_ok h_t3)) cI rfl rfl e_add) h_is4) ⟨none, none, none, rfl⟩ hl (fun x_1 s_ s2_ h e he => ?_) (fun e he => ?_)))
  · obtain ⟨o25, o26, o27, rfl⟩ := he
    obtain ⟨runs_, stands_⟩ := s_
    refine ⟨rfl, _, rfl, ?_⟩
    show wS _ [im (idD steps), im ((ls (p2 PyData.int PyData.int)) runs_), ac (stands_.map (tp (p2 PyData.int PyData.int))), im (PyData.int x_1), imo o26, imo o27] _
    replace h : f_w_poured_L1 steps x_1 runs_ stands_ = some s2_ := h
    unfold f_w_poured_L1 at h
    obtain ⟨low28, h_low28, h⟩ := bnd h
    refine w_seq ((t_set (f := PyData.int) (v := x_1) (w := low28) h_low28 (vI rfl) rfl ?_))
    show wS _ [im (idD steps), im ((ls (p2 PyData.int PyData.int)) runs_), ac (stands_.map (tp (p2 PyData.int PyData.int))), im (PyData.int x_1), im (PyData.int low28), imo o27] _
    obtain ⟨t29, h_t29, h⟩ := bnd h
    obtain ⟨ai30, h_ai30, h⟩ := bnd h
    obtain ⟨is31, h_is31, h⟩ := bnd h
    obtain ⟨s36, hl, h⟩ := bnd h
    refine w_seq ((t_forS PyData.int is31 (fun x_2 (s_ : (List (Int × Int)) × Int) => f_w_poured_L2 steps stands_ x_1 x_2 s_.1 s_.2) (fun (s_ : (List (Int × Int)) × Int) e => ∃ (o32 : Option PyData), e = [im (idD steps), im ((ls (p2 PyData.int PyData.int)) s_.1), ac (stands_.map (tp (p2 PyData.int PyData.int))), im (PyData.int x_1), im (PyData.int s_.2), imo o32]) (rng1I (anIX (d := t29) (binX (vI rfl) (binX (vI rfl) cI rfl rfl e_sub) rfl rfl (vD_ok h_t29)) h_ai30) h_is31) ⟨o27, rfl⟩ hl (fun x_2 s_ s2_ h e he => ?_) (fun e he => ?_)))
    · obtain ⟨o32, rfl⟩ := he
      obtain ⟨runs_, low_⟩ := s_
      refine ⟨rfl, _, rfl, ?_⟩
      show wS _ [im (idD steps), im ((ls (p2 PyData.int PyData.int)) runs_), ac (stands_.map (tp (p2 PyData.int PyData.int))), im (PyData.int x_1), im (PyData.int low_), im (PyData.int x_2)] _
      replace h : f_w_poured_L2 steps stands_ x_1 x_2 runs_ low_ = some s2_ := h
      unfold f_w_poured_L2 at h
      obtain ⟨t33, h_t33, h⟩ := bnd h
      obtain ⟨low34, h_low34, h⟩ := bnd h
      refine w_seq ((t_set (f := PyData.int) (v := t33.1) (w := low34) h_low34 (binX (binX (vI rfl) (negI cI) rfl rfl (o_ixL (f := (p2 PyData.int PyData.int)) (l := runs_) h_t33)) cI rfl rfl rfl) rfl ?_))
      show wS _ [im (idD steps), im ((ls (p2 PyData.int PyData.int)) runs_), ac (stands_.map (tp (p2 PyData.int PyData.int))), im (PyData.int x_1), im (PyData.int low34), im (PyData.int x_2)] _
      obtain ⟨runs35, h_runs35, h⟩ := bnd h
      refine w_seq ((t_setL (f := (p2 PyData.int PyData.int)) (v := (cutD runs_ none (some (-1 : Int)))) (w := runs35) h_runs35 (cutLX (f := (p2 PyData.int PyData.int)) (l := runs_) (vI rfl) oN (oA (negI cI)) rfl) rfl ?_))
      show wS _ [im (idD steps), im ((ls (p2 PyData.int PyData.int)) runs35), ac (stands_.map (tp (p2 PyData.int PyData.int))), im (PyData.int x_1), im (PyData.int low34), im (PyData.int x_2)] _
      refine w_nx ?_
      cases h
      exact ⟨some (PyData.int x_2), rfl⟩
    · obtain ⟨o37, rfl⟩ := he
      show wS _ [im (idD steps), im ((ls (p2 PyData.int PyData.int)) s36.1), ac (stands_.map (tp (p2 PyData.int PyData.int))), im (PyData.int x_1), im (PyData.int s36.2), imo o37] _
      obtain ⟨runs39, h_t38, h⟩ := bnd h
      refine w_seq ((t_setL (f := (p2 PyData.int PyData.int)) (v := runs39) (w := runs39) rfl (binX (vI rfl) (lstX (aI (tupI (aI (vI rfl) (aI (vI rfl) a0)) (Nat.le_of_ble_eq_true rfl)) a0) (Nat.le_of_ble_eq_true rfl)) rfl rfl (o_catL (f := (p2 PyData.int PyData.int)) (l := s36.1) (m := [(s36.2, x_1)]) h_t38)) rfl ?_))
      show wS _ [im (idD steps), im ((ls (p2 PyData.int PyData.int)) runs39), ac (stands_.map (tp (p2 PyData.int PyData.int))), im (PyData.int x_1), im (PyData.int s36.2), imo o37] _
      obtain ⟨stands40, h_stands40, h⟩ := bnd h
      refine w_seq ((t_app (f := (tp (p2 PyData.int PyData.int))) (l := stands_) (a := runs39) h_stands40 ⟨_, (cbX (dX (vI rfl) d0 rfl) rfl), rfl⟩ rfl rfl ?_))
      show wS _ [im (idD steps), im ((ls (p2 PyData.int PyData.int)) runs39), ac (stands40.map (tp (p2 PyData.int PyData.int))), im (PyData.int x_1), im (PyData.int s36.2), imo o37] _
      refine w_nx ?_
      cases h
      exact ⟨some (PyData.int x_1), some (PyData.int s36.2), o37, rfl⟩
  · obtain ⟨o42, o43, o44, rfl⟩ := he
    show wS _ [im (idD steps), im ((ls (p2 PyData.int PyData.int)) s41.1), ac (s41.2.map (tp (p2 PyData.int PyData.int))), imo o42, imo o43, imo o44] _
    cases h
    refine w_seq ((w_ret (vB rfl) ?_))
    exact rfl
theorem k__law_bases {heights : (List Int)} {r : (List Int)} (h : f_w_bases heights = some r) : F__law_bases [(ls PyData.int) heights] = some (.im ((tp PyData.int) r)) := by
  unfold f_w_bases at h
  refine t_fnI (enc := (tp PyData.int)) rfl ?_
  show wS _ [im ((ls PyData.int) heights), none, none, none] _
  obtain ⟨out1, h_out1, h⟩ := bnd h
  refine w_seq ((t_setA (f := PyData.int) (v := []) (w := out1) h_out1 (lstX a0 (Nat.le_of_ble_eq_true rfl)) rfl ?_))
  show wS _ [im ((ls PyData.int) heights), ac (out1.map PyData.int), none, none] _
  obtain ⟨is2, h_is2, h⟩ := bnd h
  obtain ⟨out28, hl, h⟩ := bnd h
  refine w_seq ((t_forS PyData.int is2 (fun x_1 (out_ : (List Int)) => f_w_bases_L1 heights x_1 out_) (fun (out_ : (List Int)) e => ∃ (o17 : Option PyData) (o18 : Option PyData), e = [im ((ls PyData.int) heights), ac (out_.map PyData.int), imo o17, imo o18]) (rng2I cI (binX (cbX (dX (vI rfl) d0 rfl) (o_lenL (f := PyData.int) (l := heights))) cI rfl rfl e_add) h_is2) ⟨none, none, rfl⟩ hl (fun x_1 out_ s2_ h e he => ?_) (fun e he => ?_)))
  · obtain ⟨o17, o18, rfl⟩ := he
    refine ⟨rfl, _, rfl, ?_⟩
    show wS _ [im ((ls PyData.int) heights), ac (out_.map PyData.int), im (PyData.int x_1), imo o18] _
    replace h : f_w_bases_L1 heights x_1 out_ = some s2_ := h
    unfold f_w_bases_L1 at h
    obtain ⟨up19, h_up19, h⟩ := bnd h
    refine w_seq ((t_set (f := PyData.int) (v := (x_1 - (1 : Int))) (w := up19) h_up19 (binX (vI rfl) cI rfl rfl e_sub) rfl ?_))
    show wS _ [im ((ls PyData.int) heights), ac (out_.map PyData.int), im (PyData.int x_1), im (PyData.int up19)] _
    obtain ⟨up25, hl, h⟩ := bnd h
    refine w_seq ((t_whS (fun (up_ : Int) => f_w_bases_L2c heights out_ x_1 up_) (fun (up_ : Int) => f_w_bases_L2 heights out_ x_1 up_) (fun (up_ : Int) e => e = [im ((ls PyData.int) heights), ac (out_.map PyData.int), im (PyData.int x_1), im (PyData.int up_)]) (N := 300) rfl rfl hl (fun up_ b_ h e he => ?_) (fun up_ s2_ h e he => ?_) (fun e he => ?_)))
    · subst he
      replace h : f_w_bases_L2c heights out_ x_1 up_ = some b_ := h
      unfold f_w_bases_L2c at h
      obtain ⟨t23, h_t23, h⟩ := bnd h
      cases h
      exact (tandX (bang (binX (vI rfl) cI rfl rfl e_qgt)) h_t23 (fun _ _ hq => (by obtain ⟨t21, h_t21, hq⟩ := bnd hq; obtain ⟨t22, h_t22, hq⟩ := bnd hq; have hq := Option.some.inj hq; subst hq; exact (bang (binX (binX (vI rfl) (binX (vI rfl) cI rfl rfl e_sub) rfl rfl (o_ixL (f := PyData.int) (l := heights) h_t21)) (binX (vI rfl) (binX (vI rfl) cI rfl rfl e_sub) rfl rfl (o_ixL (f := PyData.int) (l := heights) h_t22)) rfl rfl e_qle)))))
    · subst he
      show wS _ [im ((ls PyData.int) heights), ac (out_.map PyData.int), im (PyData.int x_1), im (PyData.int up_)] _
      replace h : f_w_bases_L2 heights out_ x_1 up_ = some s2_ := h
      unfold f_w_bases_L2 at h
      obtain ⟨up20, h_up20, h⟩ := bnd h
      refine (t_set (f := PyData.int) (v := (up_ - (1 : Int))) (w := up20) h_up20 (binX (vI rfl) cI rfl rfl e_sub) rfl ?_)
      cases h
      exact rfl
    · subst he
      show wS _ [im ((ls PyData.int) heights), ac (out_.map PyData.int), im (PyData.int x_1), im (PyData.int up25)] _
      obtain ⟨out26, h_out26, h⟩ := bnd h
      refine w_seq ((t_app (f := PyData.int) (l := out_) (a := up25) h_out26 ⟨_, (vI rfl), rfl⟩ rfl rfl ?_))
      show wS _ [im ((ls PyData.int) heights), ac (out26.map PyData.int), im (PyData.int x_1), im (PyData.int up25)] _
      refine w_nx ?_
      cases h
      exact ⟨some (PyData.int x_1), some (PyData.int up25), rfl⟩
  · obtain ⟨o29, o30, rfl⟩ := he
    show wS _ [im ((ls PyData.int) heights), ac (out28.map PyData.int), imo o29, imo o30] _
    cases h
    refine w_seq ((w_ret (cbX (dX (vB rfl) d0 rfl) rfl) ?_))
    exact rfl
theorem k__law_nested {plan : (List Int)} {r : Bool} (h : f_w_nested plan = some r) : F__law_nested [(tp PyData.int) plan] = some (.im (PyData.bool r)) := by
  unfold f_w_nested at h
  refine t_fnI (enc := PyData.bool) rfl ?_
  show wS _ [im ((tp PyData.int) plan), none, none] _
  obtain ⟨is1, h_is1, h⟩ := bnd h
  obtain ⟨l_, hl, h⟩ := bnd h
  refine w_seq ((t_forG PyData.int is1 (fun x_1 (s_ : Unit) => f_w_nested_L1 plan x_1) (fun (s_ : Unit) e => ∃ (o16 : Option PyData) (o17 : Option PyData), e = [im ((tp PyData.int) plan), imo o16, imo o17]) (rtI PyData.bool) (rng2I cI (binX (cbX (dX (vI rfl) d0 rfl) (o_lenT (f := PyData.int) (l := plan))) cI rfl rfl e_add) h_is1) ⟨none, none, rfl⟩ hl (fun x_1 s_ l2_ h e he => ?_) (fun s26 hs e he => ?_) (fun r_ hs r2_ e hr => ?_)))
  · obtain ⟨o16, o17, rfl⟩ := he
    refine ⟨rfl, _, rfl, ?_⟩
    show wS _ [im ((tp PyData.int) plan), im (PyData.int x_1), imo o17] _
    replace h : f_w_nested_L1 plan x_1 = some l2_ := h
    unfold f_w_nested_L1 at h
    obtain ⟨t18, h_t18, h⟩ := bnd h
    obtain ⟨is19, h_is19, h⟩ := bnd h
    obtain ⟨l_, hl, h⟩ := bnd h
    refine (t_forG PyData.int is19 (fun x_2 (s_ : Unit) => f_w_nested_L2 plan x_1 x_2) (fun (s_ : Unit) e => ∃ (o20 : Option PyData), e = [im ((tp PyData.int) plan), im (PyData.int x_1), imo o20]) (rtI PyData.bool) (rng2I (binX (binX (vI rfl) (binX (vI rfl) cI rfl rfl e_sub) rfl rfl (o_ixT (f := PyData.int) (l := plan) h_t18)) cI rfl rfl e_add) (vI rfl) h_is19) ⟨o17, rfl⟩ hl (fun x_2 s_ l2_ h e he => ?_) (fun s24 hs e he => ?_) (fun r_ hs r2_ e hr => ?_))
    · obtain ⟨o20, rfl⟩ := he
      refine ⟨rfl, _, rfl, ?_⟩
      show wS _ [im ((tp PyData.int) plan), im (PyData.int x_1), im (PyData.int x_2)] _
      replace h : f_w_nested_L2 plan x_1 x_2 = some l2_ := h
      unfold f_w_nested_L2 at h
      obtain ⟨t21, h_t21, h⟩ := bnd h
      obtain ⟨t22, h_t22, h⟩ := bnd h
      refine (w_if (b := (decide (t21 < t22))) (bang (binX (binX (vI rfl) (binX (vI rfl) cI rfl rfl e_sub) rfl rfl (o_ixT (f := PyData.int) (l := plan) h_t21)) (binX (vI rfl) (binX (vI rfl) cI rfl rfl e_sub) rfl rfl (o_ixT (f := PyData.int) (l := plan) h_t22)) rfl rfl e_qlt)) (fun hc23 => ?_) (fun hc23 => ?_))
      · rw [if1 hc23] at h
        cases h
        refine (w_ret cI ?_)
        exact rfl
      · rw [if0 hc23] at h
        refine w_nx ?_
        cases h
        exact ⟨some (PyData.int x_2), rfl⟩
    · subst hs
      replace h : _ = some l2_ := h
      dsimp only at h
      obtain ⟨o25, rfl⟩ := he
      cases h
      exact ⟨some (PyData.int x_1), o25, rfl⟩
    · subst hs
      cases h
      exact hr
  · subst hs
    replace h : _ = some r := h
    dsimp only at h
    obtain ⟨o27, o28, rfl⟩ := he
    show wS _ [im ((tp PyData.int) plan), imo o27, imo o28] _
    cases h
    refine w_seq ((w_ret cI ?_))
    exact rfl
  · subst hs
    cases h
    exact hr
theorem k__law_chain {plan : (List Int)} {v_ : Int} {r : (List (Int × Int))} (h : f_w_chain plan v_ = some r) : F__law_chain [(tp PyData.int) plan, PyData.int v_] = some (.im ((tp (p2 PyData.int PyData.int)) r)) := by
  unfold f_w_chain at h
  refine t_fnI (enc := (tp (p2 PyData.int PyData.int))) rfl ?_
  show wS _ [im ((tp PyData.int) plan), im (PyData.int v_), none] _
  obtain ⟨runs1, h_runs1, h⟩ := bnd h
  refine w_seq ((t_setL (f := (p2 PyData.int PyData.int)) (v := []) (w := runs1) h_runs1 (lstX a0 (Nat.le_of_ble_eq_true rfl)) rfl ?_))
  show wS _ [im ((tp PyData.int) plan), im (PyData.int v_), im ((ls (p2 PyData.int PyData.int)) runs1)] _
  obtain ⟨s12, hl, h⟩ := bnd h
  refine w_seq ((t_whS (fun (s_ : Int × (List (Int × Int))) => f_w_chain_L1c plan s_.1 s_.2) (fun (s_ : Int × (List (Int × Int))) => f_w_chain_L1 plan s_.1 s_.2) (fun (s_ : Int × (List (Int × Int))) e => e = [im ((tp PyData.int) plan), im (PyData.int s_.1), im ((ls (p2 PyData.int PyData.int)) s_.2)]) (N := 300) rfl rfl hl (fun s_ b_ h e he => ?_) (fun s_ s2_ h e he => ?_) (fun e he => ?_)))
  · subst he
    obtain ⟨v__, runs_⟩ := s_
    replace h : f_w_chain_L1c plan v__ runs_ = some b_ := h
    unfold f_w_chain_L1c at h
    cases h
    exact (bang (binX (vI rfl) cI rfl rfl e_qgt))
  · subst he
    obtain ⟨v__, runs_⟩ := s_
    show wS _ [im ((tp PyData.int) plan), im (PyData.int v__), im ((ls (p2 PyData.int PyData.int)) runs_)] _
    replace h : f_w_chain_L1 plan v__ runs_ = some s2_ := h
    unfold f_w_chain_L1 at h
    obtain ⟨t7, h_t7, h⟩ := bnd h
    obtain ⟨runs9, h_t8, h⟩ := bnd h
    refine w_seq ((t_setL (f := (p2 PyData.int PyData.int)) (v := runs9) (w := runs9) rfl (binX (lstX (aI (tupI (aI (binX (binX (vI rfl) (binX (vI rfl) cI rfl rfl e_sub) rfl rfl (o_ixT (f := PyData.int) (l := plan) h_t7)) cI rfl rfl e_add) (aI (vI rfl) a0)) (Nat.le_of_ble_eq_true rfl)) a0) (Nat.le_of_ble_eq_true rfl)) (vI rfl) rfl rfl (o_catL (f := (p2 PyData.int PyData.int)) (l := [((t7 + (1 : Int)), v__)]) (m := runs_) h_t8)) rfl ?_))
    show wS _ [im ((tp PyData.int) plan), im (PyData.int v__), im ((ls (p2 PyData.int PyData.int)) runs9)] _
    obtain ⟨v_11, h_t10, h⟩ := bnd h
    refine w_seq ((t_set (f := PyData.int) (v := v_11) (w := v_11) rfl (binX (vI rfl) (binX (vI rfl) cI rfl rfl e_sub) rfl rfl (o_ixT (f := PyData.int) (l := plan) h_t10)) rfl ?_))
    show wS _ [im ((tp PyData.int) plan), im (PyData.int v_11), im ((ls (p2 PyData.int PyData.int)) runs9)] _
    refine w_nx ?_
    cases h
    exact rfl
  · subst he
    show wS _ [im ((tp PyData.int) plan), im (PyData.int s12.1), im ((ls (p2 PyData.int PyData.int)) s12.2)] _
    cases h
    refine w_seq ((w_ret (cbX (dX (vI rfl) d0 rfl) rfl) ?_))
    exact rfl
theorem k__law_writes {plan : (List Int)} {r : (List Int)} (h : f_w_writes plan = some r) : F__law_writes [(tp PyData.int) plan] = some (.im ((tp PyData.int) r)) := by
  unfold f_w_writes at h
  refine t_fnI (enc := (tp PyData.int)) rfl ?_
  show wS _ [im ((tp PyData.int) plan), none, none, none] _
  obtain ⟨out1, h_out1, h⟩ := bnd h
  refine w_seq ((t_setA (f := PyData.int) (v := []) (w := out1) h_out1 (lstX a0 (Nat.le_of_ble_eq_true rfl)) rfl ?_))
  show wS _ [im ((tp PyData.int) plan), ac (out1.map PyData.int), none, none] _
  obtain ⟨is2, h_is2, h⟩ := bnd h
  obtain ⟨out16, hl, h⟩ := bnd h
  refine w_seq ((t_forS PyData.int is2 (fun x_1 (out_ : (List Int)) => f_w_writes_L1 plan x_1 out_) (fun (out_ : (List Int)) e => ∃ (o9 : Option PyData), e = [im ((tp PyData.int) plan), ac (out_.map PyData.int), imo o9, none]) (rng2I cI (binX (cbX (dX (vI rfl) d0 rfl) (o_lenT (f := PyData.int) (l := plan))) cI rfl rfl e_add) h_is2) ⟨none, rfl⟩ hl (fun x_1 out_ s2_ h e he => ?_) (fun e he => ?_)))
  · obtain ⟨o9, rfl⟩ := he
    refine ⟨rfl, _, rfl, ?_⟩
    show wS _ [im ((tp PyData.int) plan), ac (out_.map PyData.int), im (PyData.int x_1), none] _
    replace h : f_w_writes_L1 plan x_1 out_ = some s2_ := h
    unfold f_w_writes_L1 at h
    obtain ⟨is10, h_is10, h⟩ := bnd h
    obtain ⟨t13, h_t13, h⟩ := bnd h
    obtain ⟨out14, h_out14, h⟩ := bnd h
    refine (t_app (f := PyData.int) (l := out_) (a := (t13.length : Int)) h_out14 ⟨_, (cbX (dX (lcX (enc := PyData.int) (encB := PyData.int) h_t13 (rng2I (vI rfl) (binX (cbX (dX (vI rfl) d0 rfl) (o_lenT (f := PyData.int) (l := plan))) cI rfl rfl e_add) h_is10) rfl (fun x11 _ => ⟨_, rfl, rfl, fun _ hq => (by obtain ⟨t12, h_t12, hq⟩ := bnd hq; have hq := Option.some.inj hq; subst hq; exact (bang (binX (binX (vI rfl) (binX (vI rfl) cI rfl rfl e_sub) rfl rfl (o_ixT (f := PyData.int) (l := plan) h_t12)) (vI rfl) rfl rfl e_qlt))), fun _ _ hq => (by have hq := Option.some.inj hq; subst hq; exact ⟨_, (vI rfl), rfl, rfl⟩)⟩)) d0 rfl) (o_lenL (f := PyData.int) (l := t13))), rfl⟩ rfl rfl ?_)
    cases h
    exact ⟨some (PyData.int x_1), rfl⟩
  · obtain ⟨o17, rfl⟩ := he
    show wS _ [im ((tp PyData.int) plan), ac (out16.map PyData.int), imo o17, none] _
    cases h
    refine w_seq ((w_ret (cbX (dX (vB rfl) d0 rfl) rfl) ?_))
    exact rfl
theorem k_is_number {thing : Int} {r : Bool} (h : f_is_number thing = some r) : F_is_number [PyData.int thing] = some (.im (PyData.bool r)) := by
  unfold f_is_number at h
  refine t_fnI (enc := PyData.bool) rfl ?_
  show wS _ [im (PyData.int thing)] _
  obtain ⟨t1, h_t1, h⟩ := bnd h
  cases h
  refine (w_ret (andXt (callI (aI (vI rfl) a0) rfl (k_is_integer h_t1)) (binX (vI rfl) cI rfl rfl e_qge)) ?_)
  exact rfl
theorem k__law_is_line_plan {told : (List Int)} {size : Int} {r : Bool} (h : f_w_is_line_plan told size = some r) : F__law_is_line_plan [(tp PyData.int) told, PyData.int size] = some (.im (PyData.bool r)) := by
  unfold f_w_is_line_plan at h
  refine t_fnI (enc := PyData.bool) rfl ?_
  show wS _ [im ((tp PyData.int) told), im (PyData.int size), none] _
  refine w_seq ((w_if (b := ((!true) || (!decide ((told.length : Int) = size)))) (torXt (tnot (bang (isX (vI rfl) rfl rfl))) (bang (binX (cbX (dX (vI rfl) d0 rfl) (o_lenT (f := PyData.int) (l := told))) (vI rfl) rfl rfl e_ne))) (fun hc1 => ?_) (fun hc1 => ?_)))
  · rw [if1 hc1] at h
    cases h
    refine (w_ret cI ?_)
    exact rfl
  · rw [if0 hc1] at h
    refine w_nx ?_
    show wS _ [im ((tp PyData.int) told), im (PyData.int size), none] _
    obtain ⟨is2, h_is2, h⟩ := bnd h
    obtain ⟨l_, hl, h⟩ := bnd h
    refine w_seq ((t_forG PyData.int is2 (fun x_1 (s_ : Unit) => f_w_is_line_plan_L1 told size x_1) (fun (s_ : Unit) e => ∃ (o12 : Option PyData), e = [im ((tp PyData.int) told), im (PyData.int size), imo o12]) (rtI PyData.bool) (rng1I (vI rfl) h_is2) ⟨none, rfl⟩ hl (fun x_1 s_ l2_ h e he => ?_) (fun s21 hs e he => ?_) (fun r_ hs r2_ e hr => ?_)))
    · obtain ⟨o12, rfl⟩ := he
      refine ⟨rfl, _, rfl, ?_⟩
      show wS _ [im ((tp PyData.int) told), im (PyData.int size), im (PyData.int x_1)] _
      replace h : f_w_is_line_plan_L1 told size x_1 = some l2_ := h
      unfold f_w_is_line_plan_L1 at h
      obtain ⟨t13, h_t13, h⟩ := bnd h
      obtain ⟨t19, h_t19, h⟩ := bnd h
      refine (w_if (b := t19) (torX (tnot (bang (isX (binX (vI rfl) (vI rfl) rfl rfl (o_ixT (f := PyData.int) (l := told) h_t13)) rfl rfl))) h_t19 (fun _ _ hq => (by obtain ⟨t14, h_t14, hq⟩ := bnd hq; obtain ⟨t18, h_t18, hq⟩ := bnd hq; have hq := Option.some.inj hq; subst hq; exact (torX (bang (isX (binX (vI rfl) (vI rfl) rfl rfl (o_ixT (f := PyData.int) (l := told) h_t14)) rfl rfl)) h_t18 (fun _ _ hq => (by obtain ⟨t15, h_t15, hq⟩ := bnd hq; obtain ⟨t17, h_t17, hq⟩ := bnd hq; have hq := Option.some.inj hq; subst hq; exact (torX (bang (binX (binX (vI rfl) (vI rfl) rfl rfl (o_ixT (f := PyData.int) (l := told) h_t15)) cI rfl rfl e_qlt)) h_t17 (fun _ _ hq => (by obtain ⟨t16, h_t16, hq⟩ := bnd hq; have hq := Option.some.inj hq; subst hq; exact (bang (binX (binX (vI rfl) (vI rfl) rfl rfl (o_ixT (f := PyData.int) (l := told) h_t16)) (vI rfl) rfl rfl e_qgt))))))))))) (fun hc20 => ?_) (fun hc20 => ?_))
      · rw [if1 hc20] at h
        cases h
        refine (w_ret cI ?_)
        exact rfl
      · rw [if0 hc20] at h
        refine w_nx ?_
        cases h
        exact ⟨some (PyData.int x_1), rfl⟩
    · subst hs
      replace h : _ = some r := h
      dsimp only at h
      obtain ⟨o22, rfl⟩ := he
      show wS _ [im ((tp PyData.int) told), im (PyData.int size), imo o22] _
      obtain ⟨t23, h_t23, h⟩ := bnd h
      cases h
      refine w_seq ((w_ret (callI (aI (vI rfl) a0) rfl (k__law_nested h_t23)) ?_))
      exact rfl
    · subst hs
      cases h
      exact hr
theorem k__law_ways {size : Int} {r : (List (List Int))} (h : f_w_ways size = some r) : F__law_ways [PyData.int size] = some (.im ((ls (tp PyData.int)) r)) := by
  unfold f_w_ways at h
  refine t_fnI (enc := (ls (tp PyData.int))) rfl ?_
  show wS _ [im (PyData.int size), none, none, none, none, none] _
  obtain ⟨ways1, h_ways1, h⟩ := bnd h
  refine w_seq ((t_setL (f := (tp PyData.int)) (v := [[]]) (w := ways1) h_ways1 (lstX (aI (tupI a0 (Nat.le_of_ble_eq_true rfl)) a0) (Nat.le_of_ble_eq_true rfl)) rfl ?_))
  show wS _ [im (PyData.int size), im ((ls (tp PyData.int)) ways1), none, none, none, none] _
  obtain ⟨is2, h_is2, h⟩ := bnd h
  obtain ⟨ways47, hl, h⟩ := bnd h
  refine w_seq ((t_forS PyData.int is2 (fun x_1 (ways_ : (List (List Int))) => f_w_ways_L1 size x_1 ways_) (fun (ways_ : (List (List Int))) e => ∃ (o29 : Option PyData) (o30 : Option PyData) (o31 : Option PyData), e = [im (PyData.int size), im ((ls (tp PyData.int)) ways_), imo o29, imo o30, imo o31, none]) (rng1I (vI rfl) h_is2) ⟨none, none, none, rfl⟩ hl (fun x_1 ways_ s2_ h e he => ?_) (fun e he => ?_)))
  · obtain ⟨o29, o30, o31, rfl⟩ := he
    refine ⟨rfl, _, rfl, ?_⟩
    show wS _ [im (PyData.int size), im ((ls (tp PyData.int)) ways_), im (PyData.int x_1), imo o30, imo o31, none] _
    replace h : f_w_ways_L1 size x_1 ways_ = some s2_ := h
    unfold f_w_ways_L1 at h
    obtain ⟨longer32, h_longer32, h⟩ := bnd h
    refine w_seq ((t_setL (f := (tp PyData.int)) (v := []) (w := longer32) h_longer32 (lstX a0 (Nat.le_of_ble_eq_true rfl)) rfl ?_))
    show wS _ [im (PyData.int size), im ((ls (tp PyData.int)) ways_), im (PyData.int x_1), im ((ls (tp PyData.int)) longer32), imo o31, none] _
    obtain ⟨longer43, hl, h⟩ := bnd h
    refine w_seq ((t_forS (tp PyData.int) ways_ (fun x_2 (longer_ : (List (List Int))) => f_w_ways_L2 size ways_ x_1 x_2 longer_) (fun (longer_ : (List (List Int))) e => ∃ (o33 : Option PyData), e = [im (PyData.int size), im ((ls (tp PyData.int)) ways_), im (PyData.int x_1), im ((ls (tp PyData.int)) longer_), imo o33, none]) (seqLX (f := (tp PyData.int)) (l := ways_) (vI rfl)) ⟨o31, rfl⟩ hl (fun x_2 longer_ s2_ h e he => ?_) (fun e he => ?_)))
    · obtain ⟨o33, rfl⟩ := he
      refine ⟨rfl, _, rfl, ?_⟩
      show wS _ [im (PyData.int size), im ((ls (tp PyData.int)) ways_), im (PyData.int x_1), im ((ls (tp PyData.int)) longer_), im ((tp PyData.int) x_2), none] _
      replace h : f_w_ways_L2 size ways_ x_1 x_2 longer_ = some s2_ := h
      unfold f_w_ways_L2 at h
      obtain ⟨t34, h_t34, h⟩ := bnd h
      obtain ⟨t35, h_t35, h⟩ := bnd h
      obtain ⟨is36, h_is36, h⟩ := bnd h
      obtain ⟨t39, h_t39, h⟩ := bnd h
      obtain ⟨longer41, h_t40, h⟩ := bnd h
      refine (t_setL (f := (tp PyData.int)) (v := longer41) (w := longer41) rfl (binX (vI rfl) (lcX (enc := PyData.int) (encB := (tp PyData.int)) h_t39 (rng1I (binX (cbX (dX (binX (callA (aI (vI rfl) a0) rfl (k__law_poured h_t34)) (vI rfl) rfl rfl (o_ixL (f := (tp (p2 PyData.int PyData.int))) (l := t34) h_t35)) d0 rfl) (o_lenT (f := (p2 PyData.int PyData.int)) (l := t35))) cI rfl rfl e_add) h_is36) rfl (fun x37 _ => ⟨_, rfl, rfl, fun _ hq => (by have hq := Option.some.inj hq; subst hq; rfl), fun _ _ hq => (by obtain ⟨t38, h_t38, hq⟩ := bnd hq; have hq := Option.some.inj hq; subst hq; exact ⟨_, (binX (vI rfl) (tupI (aI (vI rfl) a0) (Nat.le_of_ble_eq_true rfl)) rfl rfl (o_catT (f := PyData.int) (l := x_2) (m := [x37]) h_t38)), rfl, rfl⟩)⟩)) rfl rfl (o_catL (f := (tp PyData.int)) (l := longer_) (m := t39) h_t40)) rfl ?_)
      cases h
      exact ⟨some ((tp PyData.int) x_2), rfl⟩
    · obtain ⟨o44, rfl⟩ := he
      show wS _ [im (PyData.int size), im ((ls (tp PyData.int)) ways_), im (PyData.int x_1), im ((ls (tp PyData.int)) longer43), imo o44, none] _
      obtain ⟨ways45, h_ways45, h⟩ := bnd h
      refine w_seq ((t_set (f := (ls (tp PyData.int))) (v := longer43) (w := ways45) h_ways45 (vI rfl) rfl ?_))
      show wS _ [im (PyData.int size), im ((ls (tp PyData.int)) ways45), im (PyData.int x_1), im ((ls (tp PyData.int)) longer43), imo o44, none] _
      refine w_nx ?_
      cases h
      exact ⟨some (PyData.int x_1), some ((ls (tp PyData.int)) longer43), o44, rfl⟩
  · obtain ⟨o48, o49, o50, rfl⟩ := he
    show wS _ [im (PyData.int size), im ((ls (tp PyData.int)) ways47), imo o48, imo o49, imo o50, none] _
    cases h
    refine w_seq ((w_ret (vI rfl) ?_))
    exact rfl
theorem k__law_plans {size : Int} {r : (List (List Int))} (h : f_w_plans size = some r) : F__law_plans [PyData.int size] = some (.ac (r.map (tp PyData.int))) := by
  unfold f_w_plans at h
  refine t_fnA (enc := (tp PyData.int)) rfl ?_
  show wS _ [im (PyData.int size), none, none, none, none, none] _
  obtain ⟨ways1, h_ways1, h⟩ := bnd h
  refine w_seq ((t_setL (f := (tp PyData.int)) (v := [[]]) (w := ways1) h_ways1 (lstX (aI (tupI a0 (Nat.le_of_ble_eq_true rfl)) a0) (Nat.le_of_ble_eq_true rfl)) rfl ?_))
  show wS _ [im (PyData.int size), im ((ls (tp PyData.int)) ways1), none, none, none, none] _
  obtain ⟨is2, h_is2, h⟩ := bnd h
  obtain ⟨ways41, hl, h⟩ := bnd h
  refine w_seq ((t_forS PyData.int is2 (fun x_1 (ways_ : (List (List Int))) => f_w_plans_L1 size x_1 ways_) (fun (ways_ : (List (List Int))) e => ∃ (o25 : Option PyData) (o26 : Option PyData) (o27 : Option PyData), e = [im (PyData.int size), im ((ls (tp PyData.int)) ways_), imo o25, imo o26, imo o27, none]) (rng2I cI (binX (vI rfl) cI rfl rfl e_add) h_is2) ⟨none, none, none, rfl⟩ hl (fun x_1 ways_ s2_ h e he => ?_) (fun e he => ?_)))
  · obtain ⟨o25, o26, o27, rfl⟩ := he
    refine ⟨rfl, _, rfl, ?_⟩
    show wS _ [im (PyData.int size), im ((ls (tp PyData.int)) ways_), im (PyData.int x_1), imo o26, imo o27, none] _
    replace h : f_w_plans_L1 size x_1 ways_ = some s2_ := h
    unfold f_w_plans_L1 at h
    obtain ⟨longer28, h_longer28, h⟩ := bnd h
    refine w_seq ((t_setL (f := (tp PyData.int)) (v := []) (w := longer28) h_longer28 (lstX a0 (Nat.le_of_ble_eq_true rfl)) rfl ?_))
    show wS _ [im (PyData.int size), im ((ls (tp PyData.int)) ways_), im (PyData.int x_1), im ((ls (tp PyData.int)) longer28), imo o27, none] _
    obtain ⟨longer37, hl, h⟩ := bnd h
    refine w_seq ((t_forS (tp PyData.int) ways_ (fun x_2 (longer_ : (List (List Int))) => f_w_plans_L2 size ways_ x_1 x_2 longer_) (fun (longer_ : (List (List Int))) e => ∃ (o29 : Option PyData), e = [im (PyData.int size), im ((ls (tp PyData.int)) ways_), im (PyData.int x_1), im ((ls (tp PyData.int)) longer_), imo o29, none]) (seqLX (f := (tp PyData.int)) (l := ways_) (vI rfl)) ⟨o27, rfl⟩ hl (fun x_2 longer_ s2_ h e he => ?_) (fun e he => ?_)))
    · obtain ⟨o29, rfl⟩ := he
      refine ⟨rfl, _, rfl, ?_⟩
      show wS _ [im (PyData.int size), im ((ls (tp PyData.int)) ways_), im (PyData.int x_1), im ((ls (tp PyData.int)) longer_), im ((tp PyData.int) x_2), none] _
      replace h : f_w_plans_L2 size ways_ x_1 x_2 longer_ = some s2_ := h
      unfold f_w_plans_L2 at h
      obtain ⟨is30, h_is30, h⟩ := bnd h
      obtain ⟨t33, h_t33, h⟩ := bnd h
      obtain ⟨longer35, h_t34, h⟩ := bnd h
      refine (t_setL (f := (tp PyData.int)) (v := longer35) (w := longer35) rfl (binX (vI rfl) (lcX (enc := PyData.int) (encB := (tp PyData.int)) h_t33 (rng1I (vI rfl) h_is30) rfl (fun x31 _ => ⟨_, rfl, rfl, fun _ hq => (by have hq := Option.some.inj hq; subst hq; rfl), fun _ _ hq => (by obtain ⟨t32, h_t32, hq⟩ := bnd hq; have hq := Option.some.inj hq; subst hq; exact ⟨_, (binX (vI rfl) (tupI (aI (vI rfl) a0) (Nat.le_of_ble_eq_true rfl)) rfl rfl (o_catT (f := PyData.int) (l := x_2) (m := [x31]) h_t32)), rfl, rfl⟩)⟩)) rfl rfl (o_catL (f := (tp PyData.int)) (l := longer_) (m := t33) h_t34)) rfl ?_)
      cases h
      exact ⟨some ((tp PyData.int) x_2), rfl⟩
    · obtain ⟨o38, rfl⟩ := he
      show wS _ [im (PyData.int size), im ((ls (tp PyData.int)) ways_), im (PyData.int x_1), im ((ls (tp PyData.int)) longer37), imo o38, none] _
      obtain ⟨ways39, h_ways39, h⟩ := bnd h
      refine w_seq ((t_set (f := (ls (tp PyData.int))) (v := longer37) (w := ways39) h_ways39 (vI rfl) rfl ?_))
      show wS _ [im (PyData.int size), im ((ls (tp PyData.int)) ways39), im (PyData.int x_1), im ((ls (tp PyData.int)) longer37), imo o38, none] _
      refine w_nx ?_
      cases h
      exact ⟨some (PyData.int x_1), some ((ls (tp PyData.int)) longer37), o38, rfl⟩
  · obtain ⟨o42, o43, o44, rfl⟩ := he
    show wS _ [im (PyData.int size), im ((ls (tp PyData.int)) ways41), imo o42, imo o43, imo o44, none] _
    obtain ⟨t47, h_t47, h⟩ := bnd h
    cases h
    refine w_seq ((w_ret (lcX (enc := (tp PyData.int)) (encB := (tp PyData.int)) h_t47 (seqLX (f := (tp PyData.int)) (l := ways41) (vI rfl)) (by cases o44 <;> rfl) (fun x45 _ => ⟨_, rfl, rfl, fun _ hq => (by obtain ⟨t46, h_t46, hq⟩ := bnd hq; have hq := Option.some.inj hq; subst hq; exact (bang (callI (aI (vI rfl) a0) rfl (k__law_nested h_t46)))), fun _ _ hq => (by have hq := Option.some.inj hq; subst hq; exact ⟨_, (vI rfl), rfl, rfl⟩)⟩)) ?_))
    exact rfl
theorem k__law_steps {plan : (List Int)} {r : (List Int)} (h : f_w_steps plan = some r) : F__law_steps [(tp PyData.int) plan] = some (.im ((tp PyData.int) r)) := by
  unfold f_w_steps at h
  refine t_fnI (enc := (tp PyData.int)) rfl ?_
  show wS _ [im ((tp PyData.int) plan), none, none, none, none] _
  obtain ⟨steps1, h_steps1, h⟩ := bnd h
  refine w_seq ((t_setA (f := PyData.int) (v := []) (w := steps1) h_steps1 (lstX a0 (Nat.le_of_ble_eq_true rfl)) rfl ?_))
  show wS _ [im ((tp PyData.int) plan), ac (steps1.map PyData.int), none, none, none] _
  obtain ⟨is2, h_is2, h⟩ := bnd h
  obtain ⟨steps20, hl, h⟩ := bnd h
  refine w_seq ((t_forS PyData.int is2 (fun x_1 (steps_ : (List Int)) => f_w_steps_L1 plan x_1 steps_) (fun (steps_ : (List Int)) e => ∃ (o11 : Option PyData) (o12 : Option PyData), e = [im ((tp PyData.int) plan), ac (steps_.map PyData.int), imo o11, imo o12, none]) (rng2I cI (binX (cbX (dX (vI rfl) d0 rfl) (o_lenT (f := PyData.int) (l := plan))) cI rfl rfl e_add) h_is2) ⟨none, none, rfl⟩ hl (fun x_1 steps_ s2_ h e he => ?_) (fun e he => ?_)))
  · obtain ⟨o11, o12, rfl⟩ := he
    refine ⟨rfl, _, rfl, ?_⟩
    show wS _ [im ((tp PyData.int) plan), ac (steps_.map PyData.int), im (PyData.int x_1), imo o12, none] _
    replace h : f_w_steps_L1 plan x_1 steps_ = some s2_ := h
    unfold f_w_steps_L1 at h
    obtain ⟨low14, h_t13, h⟩ := bnd h
    refine w_seq ((t_set (f := PyData.int) (v := low14) (w := low14) rfl (binX (vI rfl) (binX (vI rfl) cI rfl rfl e_sub) rfl rfl (o_ixT (f := PyData.int) (l := plan) h_t13)) rfl ?_))
    show wS _ [im ((tp PyData.int) plan), ac (steps_.map PyData.int), im (PyData.int x_1), im (PyData.int low14), none] _
    obtain ⟨t15, h_t15, h⟩ := bnd h
    obtain ⟨t17, h_t17, h⟩ := bnd h
    obtain ⟨steps18, h_steps18, h⟩ := bnd h
    refine w_seq ((t_app (f := PyData.int) (l := steps_) (a := (t17.length : Int)) h_steps18 ⟨_, (cbX (dX (lcX (enc := (p2 PyData.int PyData.int)) (encB := (p2 PyData.int PyData.int)) h_t17 (seqTX (f := (p2 PyData.int PyData.int)) (l := t15) (callI (aI (vI rfl) (aI (binX (vI rfl) cI rfl rfl e_sub) a0)) rfl (k__law_chain h_t15))) rfl (fun x16 _ => ⟨_, rfl, rfl, fun _ hq => (by have hq := Option.some.inj hq; subst hq; exact (bang (binX (binX (vI rfl) cI rfl rfl rfl) (vI rfl) rfl rfl e_qgt))), fun _ _ hq => (by have hq := Option.some.inj hq; subst hq; exact ⟨_, (vI rfl), rfl, rfl⟩)⟩)) d0 rfl) (o_lenL (f := (p2 PyData.int PyData.int)) (l := t17))), rfl⟩ rfl rfl ?_))
    show wS _ [im ((tp PyData.int) plan), ac (steps18.map PyData.int), im (PyData.int x_1), im (PyData.int low14), none] _
    refine w_nx ?_
    cases h
    exact ⟨some (PyData.int x_1), some (PyData.int low14), rfl⟩
  · obtain ⟨o21, o22, rfl⟩ := he
    show wS _ [im ((tp PyData.int) plan), ac (steps20.map PyData.int), imo o21, imo o22, none] _
    cases h
    refine w_seq ((w_ret (cbX (dX (vB rfl) d0 rfl) rfl) ?_))
    exact rfl
theorem k__law_scene {size : Int} {pool : (List Ot)} {r : ((List Int) × (List Ot))} (h : f_w_scene size pool = some r) : F__law_scene (.lst pool) [PyData.int size] = some ((tp PyData.int) r.1, .lst r.2) := by
  unfold f_w_scene at h
  refine t_fnWk (enc := (tp PyData.int)) (ds := [PyData.int size]) (ds2 := []) rfl rfl ?_
  show wS _ [im (PyData.int size), some (.ow (.lst pool)), none, none, none] _
  obtain ⟨steps1, h_steps1, h⟩ := bnd h
  refine w_seq ((t_setA (f := PyData.int) (v := []) (w := steps1) h_steps1 (lstX a0 (Nat.le_of_ble_eq_true rfl)) rfl ?_))
  show wS _ [im (PyData.int size), some (.ow (.lst pool)), ac (steps1.map PyData.int), none, none] _
  obtain ⟨is2, h_is2, h⟩ := bnd h
  obtain ⟨s19, hl, h⟩ := bnd h
  refine w_seq ((t_forS PyData.int is2 (fun x_1 (s_ : (List Ot) × (List Int)) => f_w_scene_L1 size x_1 s_.1 s_.2) (fun (s_ : (List Ot) × (List Int)) e => ∃ (o11 : Option PyData) (o12 : Option PyData), e = [im (PyData.int size), some (.ow (.lst s_.1)), ac (s_.2.map PyData.int), imo o11, imo o12]) (rng1I (vI rfl) h_is2) ⟨none, none, rfl⟩ hl (fun x_1 s_ s2_ h e he => ?_) (fun e he => ?_)))
  · obtain ⟨o11, o12, rfl⟩ := he
    obtain ⟨pool_, steps_⟩ := s_
    refine ⟨rfl, _, rfl, ?_⟩
    show wS _ [im (PyData.int size), some (.ow (.lst pool_)), ac (steps_.map PyData.int), im (PyData.int x_1), imo o12] _
    replace h : f_w_scene_L1 size x_1 pool_ steps_ = some s2_ := h
    unfold f_w_scene_L1 at h
    obtain ⟨t13, h_t13, h⟩ := bnd h
    obtain ⟨t14, h_t14, h⟩ := bnd h
    obtain ⟨many15, h_many15, h⟩ := bnd h
    refine w_seq ((t_set (f := PyData.int) (v := (t14.length : Int)) (w := many15) h_many15 (tfzX rfl (cbX (dX (binX (callA (aI (vI rfl) a0) rfl (k__law_poured h_t13)) (vI rfl) rfl rfl (o_ixL (f := (tp (p2 PyData.int PyData.int))) (l := t13) h_t14)) d0 rfl) (o_lenT (f := (p2 PyData.int PyData.int)) (l := t14))) rfl) rfl ?_))
    show wS _ [im (PyData.int size), some (.ow (.lst pool_)), ac (steps_.map PyData.int), im (PyData.int x_1), im (PyData.int many15)] _
    obtain ⟨t16, h_t16, h⟩ := bnd h
    obtain ⟨t17, h_t17, h⟩ := bnd h
    obtain ⟨steps18, h_steps18, h⟩ := bnd h
    refine w_seq ((t_app (f := PyData.int) (l := steps_) (a := t17) h_steps18 ⟨_, (binX (cbX (dX (binX (binX (binX (vI rfl) cI rfl rfl e_add) cI rfl rfl (e_div (by decide) (by decide))) (wI (t := .lst pool_) rfl (aI cI a0) (na_im (na_ow (na_ac (na_im (na_im na_nil))))) rfl (k__law_take h_t16)) rfl rfl e_add) d0 rfl) o_int) (binX (vI rfl) cI rfl rfl e_add) rfl rfl (o_mod h_t17)), rfl⟩ rfl rfl ?_))
    show wS _ [im (PyData.int size), some (.ow (.lst t16.2)), ac (steps18.map PyData.int), im (PyData.int x_1), im (PyData.int many15)] _
    refine w_nx ?_
    cases h
    exact ⟨some (PyData.int x_1), some (PyData.int many15), rfl⟩
  · obtain ⟨o20, o21, rfl⟩ := he
    show wS _ [im (PyData.int size), some (.ow (.lst s19.1)), ac (s19.2.map PyData.int), imo o20, imo o21] _
    cases h
    refine w_seq ((w_ret (cbX (dX (vB rfl) d0 rfl) rfl) ?_))
    exact ⟨rfl, rfl⟩
theorem k_need {holds : Bool} {word : Str} {r : Unit} (h : f_need holds word = some r) : F_need [PyData.bool holds, PyData.str word] = some (.im (nn r)) := by
  unfold f_need at h
  refine t_fnI (enc := nn) rfl ?_
  show wS _ [im (PyData.bool holds), im (PyData.str word)] _
  refine (w_if (b := (!holds)) (tnot (bang (vI rfl))) (fun hc1 => ?_) (fun hc1 => ?_))
  · rw [if1 hc1] at h
    cases h
  · rw [if0 hc1] at h
    refine w_nx ?_
    cases h
    exact rfl
theorem k_is_nested {thing : (List Int)} {r : Bool} (h : f_is_nested thing = some r) : F_is_nested [(tp PyData.int) thing] = some (.im (PyData.bool r)) := by
  unfold f_is_nested at h
  refine t_fnI (enc := PyData.bool) rfl ?_
  show wS _ [im ((tp PyData.int) thing), none, none, none] _
  refine w_seq ((w_if (b := (!true)) (tnot (bang (isX (vI rfl) rfl rfl))) (fun hc1 => ?_) (fun hc1 => ?_)))
  · rw [if1 hc1] at h
    cases h
    refine (w_ret cI ?_)
    exact rfl
  · rw [if0 hc1] at h
    refine w_nx ?_
    show wS _ [im ((tp PyData.int) thing), none, none, none] _
    obtain ⟨chain2, h_chain2, h⟩ := bnd h
    refine w_seq ((t_setA (f := PyData.int) (v := [(0 : Int)]) (w := chain2) h_chain2 (lstX (aI cI a0) (Nat.le_of_ble_eq_true rfl)) rfl ?_))
    show wS _ [im ((tp PyData.int) thing), ac (chain2.map PyData.int), none, none] _
    obtain ⟨version3, h_version3, h⟩ := bnd h
    refine w_seq ((t_set (f := PyData.int) (v := (0 : Int)) (w := version3) h_version3 cI rfl ?_))
    show wS _ [im ((tp PyData.int) thing), ac (chain2.map PyData.int), im (PyData.int version3), none] _
    obtain ⟨l_, hl, h⟩ := bnd h
    refine w_seq ((t_forG PyData.int thing (fun x_1 (s_ : (List Int) × Int) => f_is_nested_L1 thing x_1 s_.1 s_.2) (fun (s_ : (List Int) × Int) e => ∃ (o17 : Option PyData), e = [im ((tp PyData.int) thing), ac (s_.1.map PyData.int), im (PyData.int s_.2), imo o17]) (rtI PyData.bool) (seqTX (f := PyData.int) (l := thing) (vI rfl)) ⟨none, rfl⟩ hl (fun x_1 s_ l2_ h e he => ?_) (fun s28 hs e he => ?_) (fun r_ hs r2_ e hr => ?_)))
    · obtain ⟨o17, rfl⟩ := he
      obtain ⟨chain_, version_⟩ := s_
      refine ⟨rfl, _, rfl, ?_⟩
      show wS _ [im ((tp PyData.int) thing), ac (chain_.map PyData.int), im (PyData.int version_), im (PyData.int x_1)] _
      replace h : f_is_nested_L1 thing x_1 chain_ version_ = some l2_ := h
      unfold f_is_nested_L1 at h
      obtain ⟨version18, h_version18, h⟩ := bnd h
      refine w_seq ((t_aug (a := version_) (b := (1 : Int)) h_version18 rfl cI rfl ?_))
      show wS _ [im ((tp PyData.int) thing), ac (chain_.map PyData.int), im (PyData.int version18), im (PyData.int x_1)] _
      obtain ⟨t19, h_t19, h⟩ := bnd h
      refine w_seq ((w_if (b := (!t19)) (tnot (bang (callI (aI (vI rfl) a0) rfl (k_is_number h_t19)))) (fun hc20 => ?_) (fun hc20 => ?_)))
      · rw [if1 hc20] at h
        cases h
        refine (w_ret cI ?_)
        exact rfl
      · rw [if0 hc20] at h
        refine w_nx ?_
        show wS _ [im ((tp PyData.int) thing), ac (chain_.map PyData.int), im (PyData.int version18), im (PyData.int x_1)] _
        obtain ⟨chain24, hl, h⟩ := bnd h
        refine w_seq ((t_whS (fun (chain_ : (List Int)) => f_is_nested_L2c thing version18 x_1 chain_) (fun (chain_ : (List Int)) => f_is_nested_L2 thing version18 x_1 chain_) (fun (chain_ : (List Int)) e => e = [im ((tp PyData.int) thing), ac (chain_.map PyData.int), im (PyData.int version18), im (PyData.int x_1)]) (N := 300) rfl rfl hl (fun chain_ b_ h e he => ?_) (fun chain_ s2_ h e he => ?_) (fun e he => ?_)))
        · subst he
          replace h : f_is_nested_L2c thing version18 x_1 chain_ = some b_ := h
          unfold f_is_nested_L2c at h
          obtain ⟨t22, h_t22, h⟩ := bnd h
          cases h
          exact (bang (binX (binX (vB rfl) (negI cI) rfl rfl (o_ixL (f := PyData.int) (l := chain_) h_t22)) (vI rfl) rfl rfl e_qgt))
        · subst he
          show wS _ [im ((tp PyData.int) thing), ac (chain_.map PyData.int), im (PyData.int version18), im (PyData.int x_1)] _
          replace h : f_is_nested_L2 thing version18 x_1 chain_ = some s2_ := h
          unfold f_is_nested_L2 at h
          obtain ⟨pw21, h_pw21, h⟩ := bnd h
          refine (w_drop (popX (f := PyData.int) (l := chain_) h_pw21 rfl) ?_)
          cases h
          exact rfl
        · subst he
          show wS _ [im ((tp PyData.int) thing), ac (chain24.map PyData.int), im (PyData.int version18), im (PyData.int x_1)] _
          obtain ⟨t25, h_t25, h⟩ := bnd h
          refine w_seq ((w_if (b := (!decide (t25 = x_1))) (bang (binX (binX (vB rfl) (negI cI) rfl rfl (o_ixL (f := PyData.int) (l := chain24) h_t25)) (vI rfl) rfl rfl e_ne)) (fun hc26 => ?_) (fun hc26 => ?_)))
          · rw [if1 hc26] at h
            cases h
            refine (w_ret cI ?_)
            exact rfl
          · rw [if0 hc26] at h
            refine w_nx ?_
            show wS _ [im ((tp PyData.int) thing), ac (chain24.map PyData.int), im (PyData.int version18), im (PyData.int x_1)] _
            obtain ⟨chain27, h_chain27, h⟩ := bnd h
            refine w_seq ((t_app (f := PyData.int) (l := chain24) (a := version18) h_chain27 ⟨_, (vI rfl), rfl⟩ rfl rfl ?_))
            show wS _ [im ((tp PyData.int) thing), ac (chain27.map PyData.int), im (PyData.int version18), im (PyData.int x_1)] _
            refine w_nx ?_
            cases h
            exact ⟨some (PyData.int x_1), rfl⟩
    · subst hs
      replace h : _ = some r := h
      dsimp only at h
      obtain ⟨o29, rfl⟩ := he
      show wS _ [im ((tp PyData.int) thing), ac (s28.1.map PyData.int), im (PyData.int s28.2), imo o29] _
      cases h
      refine w_seq ((w_ret cI ?_))
      exact rfl
    · subst hs
      cases h
      exact hr
theorem k_is_pouring {thing : (List Int)} {r : Bool} (h : f_is_pouring thing = some r) : F_is_pouring [(tp PyData.int) thing] = some (.im (PyData.bool r)) := by
  unfold f_is_pouring at h
  refine t_fnI (enc := PyData.bool) rfl ?_
  show wS _ [im ((tp PyData.int) thing), none, none] _
  refine w_seq ((w_if (b := (!true)) (tnot (bang (isX (vI rfl) rfl rfl))) (fun hc1 => ?_) (fun hc1 => ?_)))
  · rw [if1 hc1] at h
    cases h
    refine (w_ret cI ?_)
    exact rfl
  · rw [if0 hc1] at h
    refine w_nx ?_
    show wS _ [im ((tp PyData.int) thing), none, none] _
    obtain ⟨standing2, h_standing2, h⟩ := bnd h
    refine w_seq ((t_set (f := PyData.int) (v := (0 : Int)) (w := standing2) h_standing2 cI rfl ?_))
    show wS _ [im ((tp PyData.int) thing), im (PyData.int standing2), none] _
    obtain ⟨l_, hl, h⟩ := bnd h
    refine w_seq ((t_forG PyData.int thing (fun x_1 (standing_ : Int) => f_is_pouring_L1 thing x_1 standing_) (fun (standing_ : Int) e => ∃ (o7 : Option PyData), e = [im ((tp PyData.int) thing), im (PyData.int standing_), imo o7]) (rtI PyData.bool) (seqTX (f := PyData.int) (l := thing) (vI rfl)) ⟨none, rfl⟩ hl (fun x_1 standing_ l2_ h e he => ?_) (fun standing12 hs e he => ?_) (fun r_ hs r2_ e hr => ?_)))
    · obtain ⟨o7, rfl⟩ := he
      refine ⟨rfl, _, rfl, ?_⟩
      show wS _ [im ((tp PyData.int) thing), im (PyData.int standing_), im (PyData.int x_1)] _
      replace h : f_is_pouring_L1 thing x_1 standing_ = some l2_ := h
      unfold f_is_pouring_L1 at h
      obtain ⟨t8, h_t8, h⟩ := bnd h
      refine w_seq ((w_if (b := ((!t8) || (decide (standing_ < x_1)))) (torXt (tnot (bang (callI (aI (vI rfl) a0) rfl (k_is_number h_t8)))) (bang (binX (vI rfl) (vI rfl) rfl rfl e_qgt))) (fun hc9 => ?_) (fun hc9 => ?_)))
      · rw [if1 hc9] at h
        cases h
        refine (w_ret cI ?_)
        exact rfl
      · rw [if0 hc9] at h
        refine w_nx ?_
        show wS _ [im ((tp PyData.int) thing), im (PyData.int standing_), im (PyData.int x_1)] _
        obtain ⟨standing10, h_standing10, h⟩ := bnd h
        refine w_seq ((t_set (f := PyData.int) (v := ((standing_ - x_1) + (1 : Int))) (w := standing10) h_standing10 (binX (binX (vI rfl) (vI rfl) rfl rfl e_sub) cI rfl rfl e_add) rfl ?_))
        show wS _ [im ((tp PyData.int) thing), im (PyData.int standing10), im (PyData.int x_1)] _
        refine w_nx ?_
        cases h
        exact ⟨some (PyData.int x_1), rfl⟩
    · subst hs
      replace h : _ = some r := h
      dsimp only at h
      obtain ⟨o13, rfl⟩ := he
      show wS _ [im ((tp PyData.int) thing), im (PyData.int standing12), imo o13] _
      cases h
      refine w_seq ((w_ret cI ?_))
      exact rfl
    · subst hs
      cases h
      exact hr
theorem k_need_plan {word : Str} {thing : (List Int)} {r : Unit} (h : f_need_plan word thing = some r) : F_need_plan [PyData.str word, (tp PyData.int) thing] = some (.im (nn r)) := by
  unfold f_need_plan at h
  refine t_fnI (enc := nn) rfl ?_
  show wS _ [im (PyData.str word), im ((tp PyData.int) thing)] _
  obtain ⟨t1, h_t1, h⟩ := bnd h
  refine (w_if (b := (!t1)) (tnot (bang (callI (aI (vI rfl) a0) rfl (k_is_nested h_t1)))) (fun hc2 => ?_) (fun hc2 => ?_))
  · rw [if1 hc2] at h
    cases h
  · rw [if0 hc2] at h
    refine w_nx ?_
    cases h
    exact rfl
theorem k_is_line_plan {thing : (List Int)} {r : Bool} (h : f_is_line_plan thing = some r) : F_is_line_plan [(tp PyData.int) thing] = some (.im (PyData.bool r)) := by
  unfold f_is_line_plan at h
  refine t_fnI (enc := PyData.bool) rfl ?_
  show wS _ [im ((tp PyData.int) thing)] _
  obtain ⟨t1, h_t1, h⟩ := bnd h
  cases h
  refine (w_ret (callI (aI (vI rfl) a0) rfl (k_is_nested h_t1)) ?_)
  exact rfl
theorem k_plan_poured {pouring : (List Int)} {r : (List Int)} (h : f_plan_poured pouring = some r) : F_plan_poured [(tp PyData.int) pouring] = some (.im ((tp PyData.int) r)) := by
  unfold f_plan_poured at h
  refine t_fnI (enc := (tp PyData.int)) rfl ?_
  show wS _ [im ((tp PyData.int) pouring), none, none, none, none] _
  obtain ⟨t1, h_t1, h⟩ := bnd h
  obtain ⟨t2, h_t2, h⟩ := bnd h
  refine w_seq ((w_drop (callI (aI (callI (aI (vI rfl) a0) rfl (k_is_pouring h_t1)) (aI cI a0)) rfl (k_need h_t2)) ?_))
  show wS _ [im ((tp PyData.int) pouring), none, none, none, none] _
  obtain ⟨runs3, h_runs3, h⟩ := bnd h
  refine w_seq ((t_set (f := (tp (p2 PyData.int PyData.int))) (v := []) (w := runs3) h_runs3 (tupI a0 (Nat.le_of_ble_eq_true rfl)) rfl ?_))
  show wS _ [im ((tp PyData.int) pouring), im ((tp (p2 PyData.int PyData.int)) runs3), none, none, none] _
  obtain ⟨bases4, h_bases4, h⟩ := bnd h
  refine w_seq ((t_setA (f := PyData.int) (v := []) (w := bases4) h_bases4 (lstX a0 (Nat.le_of_ble_eq_true rfl)) rfl ?_))
  show wS _ [im ((tp PyData.int) pouring), im ((tp (p2 PyData.int PyData.int)) runs3), ac (bases4.map PyData.int), none, none] _
  obtain ⟨s17, hl, h⟩ := bnd h
  refine w_seq ((t_forS (p2 PyData.int PyData.int) (enumL pouring) (fun x_1 (s_ : (List (Int × Int)) × (List Int)) => f_plan_poured_L1 pouring x_1 s_.1 s_.2) (fun (s_ : (List (Int × Int)) × (List Int)) e => ∃ (o11 : Option PyData) (o12 : Option PyData), e = [im ((tp PyData.int) pouring), im ((tp (p2 PyData.int PyData.int)) s_.1), ac (s_.2.map PyData.int), imo o11, imo o12]) (enumI (f := PyData.int) (l := pouring) (seqTX (f := PyData.int) (l := pouring) (vI rfl))) ⟨none, none, rfl⟩ hl (fun x_1 s_ s2_ h e he => ?_) (fun e he => ?_)))
  · obtain ⟨o11, o12, rfl⟩ := he
    obtain ⟨runs_, bases_⟩ := s_
    refine ⟨rfl, _, rfl, ?_⟩
    show wS _ [im ((tp PyData.int) pouring), im ((tp (p2 PyData.int PyData.int)) runs_), ac (bases_.map PyData.int), im (PyData.int x_1.1), im (PyData.int x_1.2)] _
    replace h : f_plan_poured_L1 pouring x_1 runs_ bases_ = some s2_ := h
    unfold f_plan_poured_L1 at h
    obtain ⟨runs14, h_t13, h⟩ := bnd h
    refine w_seq ((t_set (f := (tp (p2 PyData.int PyData.int))) (v := runs14) (w := runs14) rfl (callI (aI (vI rfl) (aI (vI rfl) (aI (binX (vI rfl) cI rfl rfl e_add) a0))) rfl (k__poured_on h_t13)) rfl ?_))
    show wS _ [im ((tp PyData.int) pouring), im ((tp (p2 PyData.int PyData.int)) runs14), ac (bases_.map PyData.int), im (PyData.int x_1.1), im (PyData.int x_1.2)] _
    obtain ⟨t15, h_t15, h⟩ := bnd h
    obtain ⟨bases16, h_bases16, h⟩ := bnd h
    refine w_seq ((t_app (f := PyData.int) (l := bases_) (a := (t15.1 - (1 : Int))) h_bases16 ⟨_, (binX (binX (binX (vI rfl) (negI cI) rfl rfl (o_ixT (f := (p2 PyData.int PyData.int)) (l := runs14) h_t15)) cI rfl rfl rfl) cI rfl rfl e_sub), rfl⟩ rfl rfl ?_))
    show wS _ [im ((tp PyData.int) pouring), im ((tp (p2 PyData.int PyData.int)) runs14), ac (bases16.map PyData.int), im (PyData.int x_1.1), im (PyData.int x_1.2)] _
    refine w_nx ?_
    cases h
    exact ⟨some (PyData.int x_1.1), some (PyData.int x_1.2), rfl⟩
  · obtain ⟨o18, o19, rfl⟩ := he
    show wS _ [im ((tp PyData.int) pouring), im ((tp (p2 PyData.int PyData.int)) s17.1), ac (s17.2.map PyData.int), imo o18, imo o19] _
    cases h
    refine w_seq ((w_ret (cbX (dX (vB rfl) d0 rfl) rfl) ?_))
    exact rfl
theorem k_standing_after {pouring : (List Int)} {number : Int} {r : (List (Int × Int))} (h : f_standing_after pouring number = some r) : F_standing_after [(tp PyData.int) pouring, PyData.int number] = some (.im ((tp (p2 PyData.int PyData.int)) r)) := by
  unfold f_standing_after at h
  refine t_fnI (enc := (tp (p2 PyData.int PyData.int))) rfl ?_
  show wS _ [im ((tp PyData.int) pouring), im (PyData.int number), none, none] _
  obtain ⟨t1, h_t1, h⟩ := bnd h
  obtain ⟨t2, h_t2, h⟩ := bnd h
  refine w_seq ((w_drop (callI (aI (callI (aI (vI rfl) a0) rfl (k_is_pouring h_t1)) (aI cI a0)) rfl (k_need h_t2)) ?_))
  show wS _ [im ((tp PyData.int) pouring), im (PyData.int number), none, none] _
  obtain ⟨t3, h_t3, h⟩ := bnd h
  obtain ⟨t4, h_t4, h⟩ := bnd h
  refine w_seq ((w_drop (callI (aI (andXt (callI (aI (vI rfl) a0) rfl (k_is_number h_t3)) (binX (vI rfl) (cbX (dX (vI rfl) d0 rfl) (o_lenT (f := PyData.int) (l := pouring))) rfl rfl e_qle)) (aI cI a0)) rfl (k_need h_t4)) ?_))
  show wS _ [im ((tp PyData.int) pouring), im (PyData.int number), none, none] _
  obtain ⟨runs5, h_runs5, h⟩ := bnd h
  refine w_seq ((t_set (f := (tp (p2 PyData.int PyData.int))) (v := []) (w := runs5) h_runs5 (tupI a0 (Nat.le_of_ble_eq_true rfl)) rfl ?_))
  show wS _ [im ((tp PyData.int) pouring), im (PyData.int number), im ((tp (p2 PyData.int PyData.int)) runs5), none] _
  obtain ⟨is6, h_is6, h⟩ := bnd h
  obtain ⟨runs16, hl, h⟩ := bnd h
  refine w_seq ((t_forS PyData.int is6 (fun x_1 (runs_ : (List (Int × Int))) => f_standing_after_L1 pouring number x_1 runs_) (fun (runs_ : (List (Int × Int))) e => ∃ (o11 : Option PyData), e = [im ((tp PyData.int) pouring), im (PyData.int number), im ((tp (p2 PyData.int PyData.int)) runs_), imo o11]) (rng1I (vI rfl) h_is6) ⟨none, rfl⟩ hl (fun x_1 runs_ s2_ h e he => ?_) (fun e he => ?_)))
  · obtain ⟨o11, rfl⟩ := he
    refine ⟨rfl, _, rfl, ?_⟩
    show wS _ [im ((tp PyData.int) pouring), im (PyData.int number), im ((tp (p2 PyData.int PyData.int)) runs_), im (PyData.int x_1)] _
    replace h : f_standing_after_L1 pouring number x_1 runs_ = some s2_ := h
    unfold f_standing_after_L1 at h
    obtain ⟨t12, h_t12, h⟩ := bnd h
    obtain ⟨runs14, h_t13, h⟩ := bnd h
    refine (t_set (f := (tp (p2 PyData.int PyData.int))) (v := runs14) (w := runs14) rfl (callI (aI (vI rfl) (aI (binX (vI rfl) (vI rfl) rfl rfl (o_ixT (f := PyData.int) (l := pouring) h_t12)) (aI (binX (vI rfl) cI rfl rfl e_add) a0))) rfl (k__poured_on h_t13)) rfl ?_)
    cases h
    exact ⟨some (PyData.int x_1), rfl⟩
  · obtain ⟨o17, rfl⟩ := he
    show wS _ [im ((tp PyData.int) pouring), im (PyData.int number), im ((tp (p2 PyData.int PyData.int)) runs16), imo o17] _
    cases h
    refine w_seq ((w_ret (vI rfl) ?_))
    exact rfl
theorem k_line_reads {bases : (List Int)} {r : (List Int)} (h : f_line_reads bases = some r) : F_line_reads [(tp PyData.int) bases] = some (.im ((tp PyData.int) r)) := by
  unfold f_line_reads at h
  refine t_fnI (enc := (tp PyData.int)) rfl ?_
  show wS _ [im ((tp PyData.int) bases), none, none] _
  obtain ⟨t1, h_t1, h⟩ := bnd h
  refine w_seq ((w_drop (callI (aI cI (aI (vI rfl) a0)) rfl (k_need_plan h_t1)) ?_))
  show wS _ [im ((tp PyData.int) bases), none, none] _
  obtain ⟨reads2, h_reads2, h⟩ := bnd h
  refine w_seq ((t_setA (f := PyData.int) (v := [(0 : Int)]) (w := reads2) h_reads2 (lstX (aI cI a0) (Nat.le_of_ble_eq_true rfl)) rfl ?_))
  show wS _ [im ((tp PyData.int) bases), ac (reads2.map PyData.int), none] _
  obtain ⟨reads10, hl, h⟩ := bnd h
  refine w_seq ((t_forS PyData.int bases (fun x_1 (reads_ : (List Int)) => f_line_reads_L1 bases x_1 reads_) (fun (reads_ : (List Int)) e => ∃ (o6 : Option PyData), e = [im ((tp PyData.int) bases), ac (reads_.map PyData.int), imo o6]) (seqTX (f := PyData.int) (l := bases) (vI rfl)) ⟨none, rfl⟩ hl (fun x_1 reads_ s2_ h e he => ?_) (fun e he => ?_)))
  · obtain ⟨o6, rfl⟩ := he
    refine ⟨rfl, _, rfl, ?_⟩
    show wS _ [im ((tp PyData.int) bases), ac (reads_.map PyData.int), im (PyData.int x_1)] _
    replace h : f_line_reads_L1 bases x_1 reads_ = some s2_ := h
    unfold f_line_reads_L1 at h
    obtain ⟨t7, h_t7, h⟩ := bnd h
    obtain ⟨reads8, h_reads8, h⟩ := bnd h
    refine (t_app (f := PyData.int) (l := reads_) (a := (t7 + (1 : Int))) h_reads8 ⟨_, (binX (binX (vB rfl) (vI rfl) rfl rfl (o_ixL (f := PyData.int) (l := reads_) h_t7)) cI rfl rfl e_add), rfl⟩ rfl rfl ?_)
    cases h
    exact ⟨some (PyData.int x_1), rfl⟩
  · obtain ⟨o11, rfl⟩ := he
    show wS _ [im ((tp PyData.int) bases), ac (reads10.map PyData.int), imo o11] _
    cases h
    refine w_seq ((w_ret (cbX (dX (vB rfl) d0 rfl) rfl) ?_))
    exact rfl
theorem k_line_writes {bases : (List Int)} {r : (List Int)} (h : f_line_writes bases = some r) : F_line_writes [(tp PyData.int) bases] = some (.im ((tp PyData.int) r)) := by
  unfold f_line_writes at h
  refine t_fnI (enc := (tp PyData.int)) rfl ?_
  show wS _ [im ((tp PyData.int) bases), none, none, none, none, none] _
  obtain ⟨t1, h_t1, h⟩ := bnd h
  refine w_seq ((w_drop (callI (aI cI (aI (vI rfl) a0)) rfl (k_need_plan h_t1)) ?_))
  show wS _ [im ((tp PyData.int) bases), none, none, none, none, none] _
  obtain ⟨writes4, h_t3, h⟩ := bnd h
  refine w_seq ((t_setA (f := PyData.int) (v := writes4) (w := writes4) rfl (lcX (enc := PyData.int) (encB := PyData.int) h_t3 (seqTX (f := PyData.int) (l := bases) (vI rfl)) rfl (fun x2 _ => ⟨_, rfl, rfl, fun _ hq => (by have hq := Option.some.inj hq; subst hq; rfl), fun _ _ hq => (by have hq := Option.some.inj hq; subst hq; exact ⟨_, cI, rfl, rfl⟩)⟩)) rfl ?_))
  show wS _ [im ((tp PyData.int) bases), ac (writes4.map PyData.int), none, none, none, none] _
  obtain ⟨writes29, hl, h⟩ := bnd h
  refine w_seq ((t_forS (p2 PyData.int PyData.int) (enumL1 bases) (fun x_1 (writes_ : (List Int)) => f_line_writes_L1 bases x_1 writes_) (fun (writes_ : (List Int)) e => ∃ (o18 : Option PyData) (o19 : Option PyData) (o20 : Option PyData), e = [im ((tp PyData.int) bases), ac (writes_.map PyData.int), imo o18, imo o19, imo o20, none]) (enumFI (f := PyData.int) (l := bases) (vI rfl)) ⟨none, none, none, rfl⟩ hl (fun x_1 writes_ s2_ h e he => ?_) (fun e he => ?_)))
  · obtain ⟨o18, o19, o20, rfl⟩ := he
    refine ⟨rfl, _, rfl, ?_⟩
    show wS _ [im ((tp PyData.int) bases), ac (writes_.map PyData.int), im (PyData.int x_1.1), im (PyData.int x_1.2), imo o20, none] _
    replace h : f_line_writes_L1 bases x_1 writes_ = some s2_ := h
    unfold f_line_writes_L1 at h
    obtain ⟨is21, h_is21, h⟩ := bnd h
    obtain ⟨writes26, hl, h⟩ := bnd h
    refine (t_forS PyData.int is21 (fun x_2 (writes_ : (List Int)) => f_line_writes_L2 bases x_1.1 x_1.2 x_2 writes_) (fun (writes_ : (List Int)) e => ∃ (o22 : Option PyData), e = [im ((tp PyData.int) bases), ac (writes_.map PyData.int), im (PyData.int x_1.1), im (PyData.int x_1.2), imo o22, none]) (rng2I (vI rfl) (vI rfl) h_is21) ⟨o20, rfl⟩ hl (fun x_2 writes_ s2_ h e he => ?_) (fun e he => ?_))
    · obtain ⟨o22, rfl⟩ := he
      refine ⟨rfl, _, rfl, ?_⟩
      show wS _ [im ((tp PyData.int) bases), ac (writes_.map PyData.int), im (PyData.int x_1.1), im (PyData.int x_1.2), im (PyData.int x_2), none] _
      replace h : f_line_writes_L2 bases x_1.1 x_1.2 x_2 writes_ = some s2_ := h
      unfold f_line_writes_L2 at h
      obtain ⟨t23, h_t23, h⟩ := bnd h
      obtain ⟨writes24, h_writes24, h⟩ := bnd h
      refine (t_augI (l := writes_) h_t23 h_writes24 rfl (vI rfl) rfl cI rfl ?_)
      cases h
      exact ⟨some (PyData.int x_2), rfl⟩
    · obtain ⟨o27, rfl⟩ := he
      cases h
      exact ⟨some (PyData.int x_1.1), some (PyData.int x_1.2), o27, rfl⟩
  · obtain ⟨o30, o31, o32, rfl⟩ := he
    show wS _ [im ((tp PyData.int) bases), ac (writes29.map PyData.int), imo o30, imo o31, imo o32, none] _
    cases h
    refine w_seq ((w_ret (cbX (dX (vB rfl) d0 rfl) rfl) ?_))
    exact rfl
theorem k_pouring_of {bases : (List Int)} {r : (List Int)} (h : f_pouring_of bases = some r) : F_pouring_of [(tp PyData.int) bases] = some (.im ((tp PyData.int) r)) := by
  unfold f_pouring_of at h
  refine t_fnI (enc := (tp PyData.int)) rfl ?_
  show wS _ [im ((tp PyData.int) bases), none, none, none] _
  obtain ⟨t1, h_t1, h⟩ := bnd h
  obtain ⟨t2, h_t2, h⟩ := bnd h
  refine w_seq ((w_drop (callI (aI (callI (aI (vI rfl) a0) rfl (k_is_line_plan h_t1)) (aI cI a0)) rfl (k_need h_t2)) ?_))
  show wS _ [im ((tp PyData.int) bases), none, none, none] _
  obtain ⟨reads4, h_t3, h⟩ := bnd h
  refine w_seq ((t_set (f := (tp PyData.int)) (v := reads4) (w := reads4) rfl (callI (aI (vI rfl) a0) rfl (k_line_reads h_t3)) rfl ?_))
  show wS _ [im ((tp PyData.int) bases), im ((tp PyData.int) reads4), none, none] _
  obtain ⟨t8, h_t8, h⟩ := bnd h
  cases h
  refine w_seq ((w_ret (cbX (dX (lcX (enc := (p2 PyData.int PyData.int)) (encB := PyData.int) h_t8 (enumI (f := PyData.int) (l := bases) (seqTX (f := PyData.int) (l := bases) (vI rfl))) rfl (fun x5 _ => ⟨_, rfl, rfl, fun _ hq => (by have hq := Option.some.inj hq; subst hq; rfl), fun _ _ hq => (by obtain ⟨t6, h_t6, hq⟩ := bnd hq; obtain ⟨t7, h_t7, hq⟩ := bnd hq; have hq := Option.some.inj hq; subst hq; exact ⟨_, (binX (binX (vI rfl) (vI rfl) rfl rfl (o_ixT (f := PyData.int) (l := reads4) h_t6)) (binX (vI rfl) (vI rfl) rfl rfl (o_ixT (f := PyData.int) (l := reads4) h_t7)) rfl rfl e_sub), rfl, rfl⟩)⟩)) d0 rfl) rfl) ?_))
  exact rfl
theorem k_poured_counts {pouring : (List Int)} {r : (List Int)} (h : f_poured_counts pouring = some r) : F_poured_counts [(tp PyData.int) pouring] = some (.im ((tp PyData.int) r)) := by
  unfold f_poured_counts at h
  refine t_fnI (enc := (tp PyData.int)) rfl ?_
  show wS _ [im ((tp PyData.int) pouring)] _
  obtain ⟨t1, h_t1, h⟩ := bnd h
  obtain ⟨t2, h_t2, h⟩ := bnd h
  cases h
  refine (w_ret (callI (aI (callI (aI (vI rfl) a0) rfl (k_plan_poured h_t1)) a0) rfl (k_line_writes h_t2)) ?_)
  exact rfl
theorem kB__law_same {N : Nat} {rec_ : PyData → PyData → Option Bool} (hrec : ∀ {one : PyData} {other : PyData} {r : Bool}, rec_ one other = some r → R__law_same N [idD one, idD other] = some (.im (PyData.bool r))) {one : PyData} {other : PyData} {r : Bool} (h : f_w_same_B rec_ one other = some r) : R__law_same (N + 1) [idD one, idD other] = some (.im (PyData.bool r)) := by
  unfold f_w_same_B at h
  refine t_fnI (enc := PyData.bool) rfl ?_
  show wS _ [im (idD one), im (idD other), none] _
  obtain ⟨t1, h_t1, h⟩ := bnd h
  obtain ⟨t3, h_t3, h⟩ := bnd h
  refine w_seq ((w_if (b := t3) (tandX (bang (isX (vI rfl) rfl h_t1)) h_t3 (fun _ _ hq => (by obtain ⟨t2, h_t2, hq⟩ := bnd hq; have hq := Option.some.inj hq; subst hq; exact (bang (isX (vI rfl) rfl h_t2))))) (fun hc4 => ?_) (fun hc4 => ?_)))
  · rw [if1 hc4] at h
    obtain ⟨t5, h_t5, h⟩ := bnd h
    obtain ⟨t6, h_t6, h⟩ := bnd h
    refine w_seq ((w_if (b := (!decide (t5 = t6))) (bang (binX (cbX (dX (vI rfl) d0 rfl) (iD_ok h_t5)) (cbX (dX (vI rfl) d0 rfl) (iD_ok h_t6)) rfl rfl e_ne)) (fun hc7 => ?_) (fun hc7 => ?_)))
    · rw [if1 hc7] at h
      cases h
      refine (w_ret cI ?_)
      exact rfl
    · rw [if0 hc7] at h
      refine w_nx ?_
      show wS _ [im (idD one), im (idD other), none] _
      obtain ⟨t8, h_t8, h⟩ := bnd h
      obtain ⟨is9, h_is9, h⟩ := bnd h
      obtain ⟨l_, hl, h⟩ := bnd h
      refine w_seq ((t_forG PyData.int is9 (fun x_1 (s_ : Unit) => f_w_same_L1 rec_ one other x_1) (fun (s_ : Unit) e => ∃ (o15 : Option PyData), e = [im (idD one), im (idD other), imo o15]) (rtI PyData.bool) (rng1I (cbX (dX (vI rfl) d0 rfl) (iD_ok h_t8)) h_is9) ⟨none, rfl⟩ hl (fun x_1 s_ l2_ h e he => ?_) (fun s20 hs e he => ?_) (fun r_ hs r2_ e hr => ?_)))
      · obtain ⟨o15, rfl⟩ := he
        refine ⟨rfl, _, rfl, ?_⟩
        show wS _ [im (idD one), im (idD other), im (PyData.int x_1)] _
        replace h : f_w_same_L1 rec_ one other x_1 = some l2_ := h
        unfold f_w_same_L1 at h
        obtain ⟨t16, h_t16, h⟩ := bnd h
        obtain ⟨t17, h_t17, h⟩ := bnd h
        obtain ⟨t18, h_t18, h⟩ := bnd h
        refine (w_if (b := (!t18)) (tnot (bang (callI (aI (binX (vI rfl) (vI rfl) rfl rfl (vD_ok h_t16)) (aI (binX (vI rfl) (vI rfl) rfl rfl (vD_ok h_t17)) a0)) rfl (hrec h_t18)))) (fun hc19 => ?_) (fun hc19 => ?_))
        · rw [if1 hc19] at h
          cases h
          refine (w_ret cI ?_)
          exact rfl
        · rw [if0 hc19] at h
          refine w_nx ?_
          cases h
          exact ⟨some (PyData.int x_1), rfl⟩
      · subst hs
        replace h : _ = some r := h
        dsimp only at h
        obtain ⟨o21, rfl⟩ := he
        show wS _ [im (idD one), im (idD other), imo o21] _
        cases h
        refine w_seq ((w_ret cI ?_))
        exact rfl
      · subst hs
        cases h
        exact hr
  · rw [if0 hc4] at h
    refine w_nx ?_
    show wS _ [im (idD one), im (idD other), none] _
    obtain ⟨t22, h_t22, h⟩ := bnd h
    obtain ⟨t23, h_t23, h⟩ := bnd h
    obtain ⟨t25, h_t25, h⟩ := bnd h
    cases h
    refine w_seq ((w_ret (andX (binX (isX (vI rfl) rfl h_t22) (isX (vI rfl) rfl h_t23) rfl rfl e_eqB) h_t25 (fun _ _ hq => (by obtain ⟨t24, h_t24, hq⟩ := bnd hq; have hq := Option.some.inj hq; subst hq; exact (binX (vI rfl) (vI rfl) rfl rfl (bD_ok h_t24))))) ?_))
    exact rfl
theorem kR__law_same : ∀ (N : Nat) {one : PyData} {other : PyData} {r : Bool}, f_w_same_R N one other = some r → R__law_same N [idD one, idD other] = some (.im (PyData.bool r))
  | 0, _, _, _, h => by cases h
  | N + 1, _, _, _, h => kB__law_same (fun h => kR__law_same N h) h
theorem k__law_same {one : PyData} {other : PyData} {r : Bool} (h : f_w_same one other = some r) : F__law_same [idD one, idD other] = some (.im (PyData.bool r)) := kR__law_same 14 h
theorem k__law_all {size : Int} {r : Bool} (h : f_w_all size = some r) : F__law_all [PyData.int size] = some (.im (PyData.bool r)) := by
  unfold f_w_all at h
  refine t_fnI (enc := PyData.bool) rfl ?_
  show wS _ [im (PyData.int size), none, none, none, none, none] _
  obtain ⟨ways2, h_t1, h⟩ := bnd h
  refine w_seq ((t_set (f := (ls (tp PyData.int))) (v := ways2) (w := ways2) rfl (callI (aI (vI rfl) a0) rfl (k__law_ways h_t1)) rfl ?_))
  show wS _ [im (PyData.int size), im ((ls (tp PyData.int)) ways2), none, none, none, none] _
  obtain ⟨plans4, h_t3, h⟩ := bnd h
  refine w_seq ((t_setL (f := (tp PyData.int)) (v := plans4) (w := plans4) rfl (callA (aI (vI rfl) a0) rfl (k__law_plans h_t3)) rfl ?_))
  show wS _ [im (PyData.int size), im ((ls (tp PyData.int)) ways2), im ((ls (tp PyData.int)) plans4), none, none, none] _
  obtain ⟨made5, h_made5, h⟩ := bnd h
  refine w_seq ((t_setA (f := (tp PyData.int)) (v := []) (w := made5) h_made5 (lstX a0 (Nat.le_of_ble_eq_true rfl)) rfl ?_))
  show wS _ [im (PyData.int size), im ((ls (tp PyData.int)) ways2), im ((ls (tp PyData.int)) plans4), ac (made5.map (tp PyData.int)), none, none] _
  obtain ⟨l_, hl, h⟩ := bnd h
  refine w_seq ((t_forG (tp PyData.int) ways2 (fun x_1 (made_ : (List (List Int))) => f_w_all_L1 size ways2 plans4 x_1 made_) (fun (made_ : (List (List Int))) e => ∃ (o21 : Option PyData) (o22 : Option PyData), e = [im (PyData.int size), im ((ls (tp PyData.int)) ways2), im ((ls (tp PyData.int)) plans4), ac (made_.map (tp PyData.int)), imo o21, imo o22]) (rtI PyData.bool) (seqLX (f := (tp PyData.int)) (l := ways2) (vI rfl)) ⟨none, none, rfl⟩ hl (fun x_1 made_ l2_ h e he => ?_) (fun made37 hs e he => ?_) (fun r_ hs r2_ e hr => ?_)))
  · obtain ⟨o21, o22, rfl⟩ := he
    refine ⟨rfl, _, rfl, ?_⟩
    show wS _ [im (PyData.int size), im ((ls (tp PyData.int)) ways2), im ((ls (tp PyData.int)) plans4), ac (made_.map (tp PyData.int)), im ((tp PyData.int) x_1), imo o22] _
    replace h : f_w_all_L1 size ways2 plans4 x_1 made_ = some l2_ := h
    unfold f_w_all_L1 at h
    obtain ⟨told24, h_t23, h⟩ := bnd h
    refine w_seq ((t_set (f := (tp PyData.int)) (v := told24) (w := told24) rfl (callI (aI (vI rfl) a0) rfl (k_plan_poured h_t23)) rfl ?_))
    show wS _ [im (PyData.int size), im ((ls (tp PyData.int)) ways2), im ((ls (tp PyData.int)) plans4), ac (made_.map (tp PyData.int)), im ((tp PyData.int) x_1), im ((tp PyData.int) told24)] _
    obtain ⟨t25, h_t25, h⟩ := bnd h
    obtain ⟨t29, h_t29, h⟩ := bnd h
    refine w_seq ((w_if (b := t29) (torX (tnot (bang (callI (aI (vI rfl) (aI (vI rfl) a0)) rfl (k__law_is_line_plan h_t25)))) h_t29 (fun _ _ hq => (by obtain ⟨t28, h_t28, hq⟩ := bnd hq; have hq := Option.some.inj hq; subst hq; exact (torX (bang (binX (vI rfl) (vB rfl) rfl rfl (o_inQ (f := (tp PyData.int)) (by decide) (by decide) (x := told24) (l := made_)))) h_t28 (fun _ _ hq => (by obtain ⟨t26, h_t26, hq⟩ := bnd hq; obtain ⟨t27, h_t27, hq⟩ := bnd hq; have hq := Option.some.inj hq; subst hq; exact (tnot (bang (callI (aI (callI (aI (vI rfl) a0) rfl (k_pouring_of h_t26)) (aI (vI rfl) a0)) rfl (k__law_same h_t27)))))))))) (fun hc30 => ?_) (fun hc30 => ?_)))
    · rw [if1 hc30] at h
      cases h
      refine (w_ret cI ?_)
      exact rfl
    · rw [if0 hc30] at h
      refine w_nx ?_
      show wS _ [im (PyData.int size), im ((ls (tp PyData.int)) ways2), im ((ls (tp PyData.int)) plans4), ac (made_.map (tp PyData.int)), im ((tp PyData.int) x_1), im ((tp PyData.int) told24)] _
      obtain ⟨t31, h_t31, h⟩ := bnd h
      obtain ⟨t32, h_t32, h⟩ := bnd h
      obtain ⟨t33, h_t33, h⟩ := bnd h
      refine w_seq ((w_if (b := (!t33)) (tnot (bang (callI (aI (callI (aI (vI rfl) a0) rfl (k_poured_counts h_t31)) (aI (callI (aI (vI rfl) a0) rfl (k__law_writes h_t32)) a0)) rfl (k__law_same h_t33)))) (fun hc34 => ?_) (fun hc34 => ?_)))
      · rw [if1 hc34] at h
        cases h
        refine (w_ret cI ?_)
        exact rfl
      · rw [if0 hc34] at h
        refine w_nx ?_
        show wS _ [im (PyData.int size), im ((ls (tp PyData.int)) ways2), im ((ls (tp PyData.int)) plans4), ac (made_.map (tp PyData.int)), im ((tp PyData.int) x_1), im ((tp PyData.int) told24)] _
        obtain ⟨made35, h_made35, h⟩ := bnd h
        refine w_seq ((t_app (f := (tp PyData.int)) (l := made_) (a := told24) h_made35 ⟨_, (vI rfl), rfl⟩ rfl rfl ?_))
        show wS _ [im (PyData.int size), im ((ls (tp PyData.int)) ways2), im ((ls (tp PyData.int)) plans4), ac (made35.map (tp PyData.int)), im ((tp PyData.int) x_1), im ((tp PyData.int) told24)] _
        refine w_nx ?_
        cases h
        exact ⟨some ((tp PyData.int) x_1), some ((tp PyData.int) told24), rfl⟩
  · subst hs
    replace h : _ = some r := h
    dsimp only at h
    obtain ⟨o38, o39, rfl⟩ := he
    show wS _ [im (PyData.int size), im ((ls (tp PyData.int)) ways2), im ((ls (tp PyData.int)) plans4), ac (made37.map (tp PyData.int)), imo o38, imo o39] _
    obtain ⟨t41, h_t41, h⟩ := bnd h
    cases h
    refine w_seq ((w_ret (andX (binX (cbX (dX (vB rfl) d0 rfl) (o_sortedBT (l := made37))) (cbX (dX (vI rfl) d0 rfl) (o_sortedBT (l := plans4))) rfl rfl (o_eq (f := (ls (tp PyData.int))) (by decide) (upT made37) (upT plans4))) h_t41 (fun _ _ hq => (by obtain ⟨t40, h_t40, hq⟩ := bnd hq; have hq := Option.some.inj hq; subst hq; exact (binX (cbX (dX (vB rfl) d0 rfl) (o_lenL (f := (tp PyData.int)) (l := made37))) (binX (tupI (aI cI (aI cI (aI cI (aI cI (aI cI (aI cI a0)))))) (Nat.le_of_ble_eq_true rfl)) (vI rfl) rfl rfl (o_ixT (f := PyData.int) (l := [(1 : Int), (1 : Int), (2 : Int), (5 : Int), (14 : Int), (42 : Int)]) h_t40)) rfl rfl e_eq)))) ?_))
    exact rfl
  · subst hs
    cases h
    exact hr
theorem k__law_by_hand  {r : Bool} (h : f_w_by_hand  = some r) : F__law_by_hand [] = some (.im (PyData.bool r)) := chI_ok h
theorem k__law_refusals  {r : Bool} (h : f_w_refusals  = some r) : F__law_refusals [] = some (.im (PyData.bool r)) := chI_ok h
theorem k_law {script : (List Int)} {r : Bool} (h : f_law script = some r) : F_law [(ls PyData.int) script] = some (.im (PyData.bool r)) := by
  unfold f_law at h
  refine t_fnI (enc := PyData.bool) rfl ?_
  show wS _ [im ((ls PyData.int) script), none, none, none, none, none, none, none, none, none, none, none, none] _
  obtain ⟨t1, h_t1, h⟩ := bnd h
  obtain ⟨mode2, h_mode2, h⟩ := bnd h
  refine w_seq ((t_set (f := PyData.int) (v := (t1 % (8 : Int))) (w := mode2) h_mode2 (binX (callI (aI (vI rfl) (aI cI a0)) rfl (k__law_cell h_t1)) cI rfl rfl (e_mod (by decide))) rfl ?_))
  show wS _ [im ((ls PyData.int) script), im (PyData.int mode2), none, none, none, none, none, none, none, none, none, none, none] _
  refine w_seq ((w_if (b := (decide (mode2 = (5 : Int)))) (bang (binX (vI rfl) cI rfl rfl e_eq)) (fun hc3 => ?_) (fun hc3 => ?_)))
  · rw [if1 hc3] at h
    obtain ⟨t4, h_t4, h⟩ := bnd h
    cases h
    refine (w_ret (callI a0 rfl (k__law_by_hand h_t4)) ?_)
    exact rfl
  · rw [if0 hc3] at h
    refine w_nx ?_
    show wS _ [im ((ls PyData.int) script), im (PyData.int mode2), none, none, none, none, none, none, none, none, none, none, none] _
    refine w_seq ((w_if (b := (decide (mode2 = (6 : Int)))) (bang (binX (vI rfl) cI rfl rfl e_eq)) (fun hc5 => ?_) (fun hc5 => ?_)))
    · rw [if1 hc5] at h
      obtain ⟨t6, h_t6, h⟩ := bnd h
      cases h
      refine (w_ret (callI a0 rfl (k__law_refusals h_t6)) ?_)
      exact rfl
    · rw [if0 hc5] at h
      refine w_nx ?_
      show wS _ [im ((ls PyData.int) script), im (PyData.int mode2), none, none, none, none, none, none, none, none, none, none, none] _
      obtain ⟨pool7, h_pool7, h⟩ := bnd h
      refine w_seq ((t_callN (k__law_pool h_pool7) (aI (vI rfl) a0) (na_im (na_im (na_none (na_none (na_none (na_none (na_none (na_none (na_none (na_none (na_none (na_none (na_none na_nil))))))))))))) rfl rfl ?_))
      show wS _ [im ((ls PyData.int) script), im (PyData.int mode2), none, none, none, none, none, none, none, none, none, none, some (.ow (.lst pool7))] _
      refine w_seq ((w_if (b := (decide (mode2 = (2 : Int)))) (bang (binX (vI rfl) cI rfl rfl e_eq)) (fun hc8 => ?_) (fun hc8 => ?_)))
      · rw [if1 hc8] at h
        obtain ⟨t9, h_t9, h⟩ := bnd h
        obtain ⟨t10, h_t10, h⟩ := bnd h
        cases h
        refine (w_ret (callI (aI (binX cI (wI (t := .lst pool7) rfl (aI cI a0) (na_im (na_im (na_none (na_none (na_none (na_none (na_none (na_none (na_none (na_none (na_none (na_none (na_ow na_nil))))))))))))) rfl (k__law_take h_t9)) rfl rfl e_add) a0) rfl (k__law_all h_t10)) ?_)
        exact rfl
      · rw [if0 hc8] at h
        refine w_nx ?_
        show wS _ [im ((ls PyData.int) script), im (PyData.int mode2), none, none, none, none, none, none, none, none, none, none, some (.ow (.lst pool7))] _
        obtain ⟨t11, h_t11, h⟩ := bnd h
        obtain ⟨size12, h_size12, h⟩ := bnd h
        refine w_seq ((t_setB (f := PyData.int) (v := ((5 : Int) + t11.1)) (w := size12) h_size12 (binX cI (wI (t := .lst pool7) rfl (aI cI a0) (na_im (na_im (na_none (na_none (na_none (na_none (na_none (na_none (na_none (na_none (na_none (na_none (na_ow na_nil))))))))))))) rfl (k__law_take h_t11)) rfl rfl e_add) rfl ?_))
        show wS _ [im ((ls PyData.int) script), im (PyData.int mode2), im (PyData.int size12), none, none, none, none, none, none, none, none, none, some (.ow (.lst t11.2))] _
        refine t_join (fun (s_ : Int × (List Ot)) e => e = [im ((ls PyData.int) script), im (PyData.int mode2), im (PyData.int s_.1), none, none, none, none, none, none, none, none, none, some (.ow (.lst s_.2))]) (fun (s_ : Int × (List Ot)) => f_law_J1 mode2 s_.1 s_.2) (t := r) (fun s_ e he h => ?_) ?_
        · subst he
          obtain ⟨size_, pool_⟩ := s_
          replace h : f_law_J1 mode2 size_ pool_ = some r := h
          unfold f_law_J1 at h
          show wS _ [im ((ls PyData.int) script), im (PyData.int mode2), im (PyData.int size_), none, none, none, none, none, none, none, none, none, some (.ow (.lst pool_))] _
          refine t_join (fun (size_ : Int) e => e = [im ((ls PyData.int) script), im (PyData.int mode2), im (PyData.int size_), none, none, none, none, none, none, none, none, none, some (.ow (.lst pool_))]) (fun (size_ : Int) => f_law_J2 pool_ size_) (t := r) (fun size_ e he h => ?_) ?_
          · subst he
            replace h : f_law_J2 pool_ size_ = some r := h
            unfold f_law_J2 at h
            show wS _ [im ((ls PyData.int) script), im (PyData.int mode2), im (PyData.int size_), none, none, none, none, none, none, none, none, none, some (.ow (.lst pool_))] _
            obtain ⟨t172, h_t172, h⟩ := bnd h
            obtain ⟨steps173, h_steps173, h⟩ := bnd h
            refine w_seq ((w_fz (t_set (f := (tp PyData.int)) (v := t172.1) (w := steps173) h_steps173 (wkI (t := .lst pool_) (acX (vI rfl) (acX (vB2 rfl) ac0)) (na_im (na_im (na_im (na_none (na_none (na_none (na_none (na_none (na_none (na_none (na_none (na_none (na_ow na_nil))))))))))))) rfl rfl rfl rfl (k__law_scene h_t172)) rfl ?_)))
            show wS _ [im ((ls PyData.int) script), im (PyData.int mode2), im (PyData.int size_), im ((tp PyData.int) steps173), none, none, none, none, none, none, none, none, some (.ow (.lst t172.2))] _
            obtain ⟨stands175, h_t174, h⟩ := bnd h
            refine w_seq ((t_setL (f := (tp (p2 PyData.int PyData.int))) (v := stands175) (w := stands175) rfl (callA (aI (vI rfl) a0) rfl (k__law_poured h_t174)) rfl ?_))
            show wS _ [im ((ls PyData.int) script), im (PyData.int mode2), im (PyData.int size_), im ((tp PyData.int) steps173), im ((ls (tp (p2 PyData.int PyData.int))) stands175), none, none, none, none, none, none, none, some (.ow (.lst t172.2))] _
            obtain ⟨is176, h_is176, h⟩ := bnd h
            obtain ⟨plan181, h_t180, h⟩ := bnd h
            refine w_seq ((t_set (f := (tp PyData.int)) (v := plan181) (w := plan181) rfl (cbX (dX (lcX (enc := PyData.int) (encB := PyData.int) h_t180 (rng2I cI (binX (vI rfl) cI rfl rfl e_add) h_is176) rfl (fun x177 _ => ⟨_, rfl, rfl, fun _ hq => (by have hq := Option.some.inj hq; subst hq; rfl), fun _ _ hq => (by obtain ⟨t178, h_t178, hq⟩ := bnd hq; obtain ⟨t179, h_t179, hq⟩ := bnd hq; have hq := Option.some.inj hq; subst hq; exact ⟨_, (binX (binX (binX (binX (vI rfl) (vI rfl) rfl rfl (o_ixL (f := (tp (p2 PyData.int PyData.int))) (l := stands175) h_t178)) (negI cI) rfl rfl (o_ixT (f := (p2 PyData.int PyData.int)) (l := t178) h_t179)) cI rfl rfl rfl) cI rfl rfl e_sub), rfl, rfl⟩)⟩)) d0 rfl) rfl) rfl ?_))
            show wS _ [im ((ls PyData.int) script), im (PyData.int mode2), im (PyData.int size_), im ((tp PyData.int) steps173), im ((ls (tp (p2 PyData.int PyData.int))) stands175), im ((tp PyData.int) plan181), none, none, none, none, none, none, some (.ow (.lst t172.2))] _
            obtain ⟨t182, h_t182, h⟩ := bnd h
            obtain ⟨t187, h_t187, h⟩ := bnd h
            refine w_seq ((w_fz (w_if (b := t187) (torX (bang (binX (callI (aI (vI rfl) a0) rfl (k_is_pouring h_t182)) cI rfl rfl e_isnotB)) h_t187 (fun _ _ hq => (by obtain ⟨t183, h_t183, hq⟩ := bnd hq; obtain ⟨t184, h_t184, hq⟩ := bnd hq; obtain ⟨t186, h_t186, hq⟩ := bnd hq; have hq := Option.some.inj hq; subst hq; exact (torX (tnot (bang (callI (aI (callI (aI (vI rfl) a0) rfl (k_plan_poured h_t183)) (aI (vI rfl) a0)) rfl (k__law_same h_t184)))) h_t186 (fun _ _ hq => (by obtain ⟨t185, h_t185, hq⟩ := bnd hq; have hq := Option.some.inj hq; subst hq; exact (tnot (bang (callI (aI (vI rfl) (aI (vI rfl) a0)) rfl (k__law_is_line_plan h_t185)))))))))) (fun hc188 => ?_) (fun hc188 => ?_))))
            · rw [if1 hc188] at h
              cases h
              refine (w_ret cI ?_)
              exact rfl
            · rw [if0 hc188] at h
              refine w_nx ?_
              show wS _ [im ((ls PyData.int) script), im (PyData.int mode2), im (PyData.int size_), im ((tp PyData.int) steps173), im ((ls (tp (p2 PyData.int PyData.int))) stands175), im ((tp PyData.int) plan181), none, none, none, none, none, none, some (.ow (.lst t172.2))] _
              obtain ⟨t189, h_t189, h⟩ := bnd h
              obtain ⟨t190, h_t190, h⟩ := bnd h
              obtain ⟨t194, h_t194, h⟩ := bnd h
              refine w_seq ((w_if (b := t194) (torX (tnot (bang (callI (aI (callI (aI (vI rfl) a0) rfl (k_pouring_of h_t189)) (aI (vI rfl) a0)) rfl (k__law_same h_t190)))) h_t194 (fun _ _ hq => (by obtain ⟨t191, h_t191, hq⟩ := bnd hq; obtain ⟨t192, h_t192, hq⟩ := bnd hq; obtain ⟨t193, h_t193, hq⟩ := bnd hq; have hq := Option.some.inj hq; subst hq; exact (tnot (bang (callI (aI (callI (aI (vI rfl) a0) rfl (k_poured_counts h_t191)) (aI (callI (aI (vI rfl) a0) rfl (k__law_writes h_t192)) a0)) rfl (k__law_same h_t193))))))) (fun hc195 => ?_) (fun hc195 => ?_)))
              · rw [if1 hc195] at h
                cases h
                refine (w_ret cI ?_)
                exact rfl
              · rw [if0 hc195] at h
                refine w_nx ?_
                show wS _ [im ((ls PyData.int) script), im (PyData.int mode2), im (PyData.int size_), im ((tp PyData.int) steps173), im ((ls (tp (p2 PyData.int PyData.int))) stands175), im ((tp PyData.int) plan181), none, none, none, none, none, none, some (.ow (.lst t172.2))] _
                obtain ⟨is196, h_is196, h⟩ := bnd h
                obtain ⟨l_, hl, h⟩ := bnd h
                refine w_seq ((t_forG PyData.int is196 (fun x_1 (s_ : Unit) => f_law_L1 size_ steps173 stands175 plan181 t172.2 x_1) (fun (s_ : Unit) e => ∃ (o197 : Option PyData) (o198 : Option PyData), e = [im ((ls PyData.int) script), im (PyData.int mode2), im (PyData.int size_), im ((tp PyData.int) steps173), im ((ls (tp (p2 PyData.int PyData.int))) stands175), im ((tp PyData.int) plan181), imo o197, none, none, none, imo o198, none, some (.ow (.lst t172.2))]) (rtI PyData.bool) (rng1I (binX (vI rfl) cI rfl rfl e_add) h_is196) ⟨none, none, rfl⟩ hl (fun x_1 s_ l2_ h e he => ?_) (fun s207 hs e he => ?_) (fun r_ hs r2_ e hr => ?_)))
                · obtain ⟨o197, o198, rfl⟩ := he
                  refine ⟨rfl, _, rfl, ?_⟩
                  show wS _ [im ((ls PyData.int) script), im (PyData.int mode2), im (PyData.int size_), im ((tp PyData.int) steps173), im ((ls (tp (p2 PyData.int PyData.int))) stands175), im ((tp PyData.int) plan181), im (PyData.int x_1), none, none, none, imo o198, none, some (.ow (.lst t172.2))] _
                  replace h : f_law_L1 size_ steps173 stands175 plan181 t172.2 x_1 = some l2_ := h
                  unfold f_law_L1 at h
                  obtain ⟨told200, h_t199, h⟩ := bnd h
                  refine w_seq ((t_set (f := (tp (p2 PyData.int PyData.int))) (v := told200) (w := told200) rfl (callI (aI (vI rfl) (aI (vI rfl) a0)) rfl (k_standing_after h_t199)) rfl ?_))
                  show wS _ [im ((ls PyData.int) script), im (PyData.int mode2), im (PyData.int size_), im ((tp PyData.int) steps173), im ((ls (tp (p2 PyData.int PyData.int))) stands175), im ((tp PyData.int) plan181), im (PyData.int x_1), none, none, none, im ((tp (p2 PyData.int PyData.int)) told200), none, some (.ow (.lst t172.2))] _
                  obtain ⟨t201, h_t201, h⟩ := bnd h
                  obtain ⟨t202, h_t202, h⟩ := bnd h
                  obtain ⟨t205, h_t205, h⟩ := bnd h
                  refine w_seq ((w_if (b := t205) (torX (tnot (bang (callI (aI (vI rfl) (aI (binX (vI rfl) (vI rfl) rfl rfl (o_ixL (f := (tp (p2 PyData.int PyData.int))) (l := stands175) h_t201)) a0)) rfl (k__law_same h_t202)))) h_t205 (fun _ _ hq => (by obtain ⟨t203, h_t203, hq⟩ := bnd hq; obtain ⟨t204, h_t204, hq⟩ := bnd hq; have hq := Option.some.inj hq; subst hq; exact (tnot (bang (callI (aI (vI rfl) (aI (callI (aI (vI rfl) (aI (vI rfl) a0)) rfl (k__law_chain h_t203)) a0)) rfl (k__law_same h_t204))))))) (fun hc206 => ?_) (fun hc206 => ?_)))
                  · rw [if1 hc206] at h
                    cases h
                    refine (w_ret cI ?_)
                    exact rfl
                  · rw [if0 hc206] at h
                    refine w_nx ?_
                    show wS _ [im ((ls PyData.int) script), im (PyData.int mode2), im (PyData.int size_), im ((tp PyData.int) steps173), im ((ls (tp (p2 PyData.int PyData.int))) stands175), im ((tp PyData.int) plan181), im (PyData.int x_1), none, none, none, im ((tp (p2 PyData.int PyData.int)) told200), none, some (.ow (.lst t172.2))] _
                    refine w_nx ?_
                    cases h
                    exact ⟨some (PyData.int x_1), some ((tp (p2 PyData.int PyData.int)) told200), rfl⟩
                · subst hs
                  replace h : _ = some r := h
                  dsimp only at h
                  obtain ⟨o208, o209, rfl⟩ := he
                  show wS _ [im ((ls PyData.int) script), im (PyData.int mode2), im (PyData.int size_), im ((tp PyData.int) steps173), im ((ls (tp (p2 PyData.int PyData.int))) stands175), im ((tp PyData.int) plan181), imo o208, none, none, none, imo o209, none, some (.ow (.lst t172.2))] _
                  obtain ⟨is210, h_is210, h⟩ := bnd h
                  obtain ⟨t214, h_t214, h⟩ := bnd h
                  obtain ⟨other216, h_t215, h⟩ := bnd h
                  refine w_seq ((t_set (f := (tp PyData.int)) (v := other216) (w := other216) rfl (callI (aA (lcSX (enc := PyData.int) (encB := PyData.int) (fun s_ => [im ((ls PyData.int) script), im (PyData.int mode2), im (PyData.int size_), im ((tp PyData.int) steps173), im ((ls (tp (p2 PyData.int PyData.int))) stands175), im ((tp PyData.int) plan181), imo o208, none, none, none, imo o209, none, some (.ow (.lst s_))]) (t := t214.2) (out := t214.1) h_t214 (rng2I cI (binX (vI rfl) cI rfl rfl e_add) h_is210) rfl rfl rfl (fun x211 _ s212 _ _ hq => (by obtain ⟨t213, h_t213, hq⟩ := bnd hq; obtain ⟨hq, hq2⟩ := Prod.mk.inj (Option.some.inj hq); subst hq; subst hq2; exact ⟨_, rfl, _, (binX cI (binX (cbX (dX (binX (binX cI (vI rfl) rfl rfl (e_mul (.inl (by decide)))) (wI (t := .lst s212) rfl (aI cI a0) (na_im (na_im (na_im (na_im (na_im (na_im (na_imo (na_none (na_none (na_none (na_imo (na_im (na_ow na_nil))))))))))))) rfl (k__law_take h_t213)) rfl rfl e_add) d0 rfl) o_int) cI rfl rfl (e_mod (by decide))) rfl rfl e_add), rfl, rfl⟩))) a0) rfl (k__law_bases h_t215)) rfl ?_))
                  show wS _ [im ((ls PyData.int) script), im (PyData.int mode2), im (PyData.int size_), im ((tp PyData.int) steps173), im ((ls (tp (p2 PyData.int PyData.int))) stands175), im ((tp PyData.int) plan181), imo o208, im ((tp PyData.int) other216), none, none, imo o209, none, some (.ow (.lst t214.2))] _
                  obtain ⟨due218, h_t217, h⟩ := bnd h
                  refine w_seq ((t_set (f := (tp PyData.int)) (v := due218) (w := due218) rfl (callI (aI (vI rfl) a0) rfl (k__law_steps h_t217)) rfl ?_))
                  show wS _ [im ((ls PyData.int) script), im (PyData.int mode2), im (PyData.int size_), im ((tp PyData.int) steps173), im ((ls (tp (p2 PyData.int PyData.int))) stands175), im ((tp PyData.int) plan181), imo o208, im ((tp PyData.int) other216), im ((tp PyData.int) due218), none, imo o209, none, some (.ow (.lst t214.2))] _
                  obtain ⟨t219, h_t219, h⟩ := bnd h
                  obtain ⟨t220, h_t220, h⟩ := bnd h
                  obtain ⟨t223, h_t223, h⟩ := bnd h
                  refine w_seq ((w_if (b := t223) (torX (tnot (bang (callI (aI (callI (aI (vI rfl) a0) rfl (k_pouring_of h_t219)) (aI (vI rfl) a0)) rfl (k__law_same h_t220)))) h_t223 (fun _ _ hq => (by obtain ⟨t221, h_t221, hq⟩ := bnd hq; obtain ⟨t222, h_t222, hq⟩ := bnd hq; have hq := Option.some.inj hq; subst hq; exact (tnot (bang (callI (aI (callI (aI (vI rfl) a0) rfl (k_plan_poured h_t221)) (aI (vI rfl) a0)) rfl (k__law_same h_t222))))))) (fun hc224 => ?_) (fun hc224 => ?_)))
                  · rw [if1 hc224] at h
                    cases h
                    refine (w_ret cI ?_)
                    exact rfl
                  · rw [if0 hc224] at h
                    refine w_nx ?_
                    show wS _ [im ((ls PyData.int) script), im (PyData.int mode2), im (PyData.int size_), im ((tp PyData.int) steps173), im ((ls (tp (p2 PyData.int PyData.int))) stands175), im ((tp PyData.int) plan181), imo o208, im ((tp PyData.int) other216), im ((tp PyData.int) due218), none, imo o209, none, some (.ow (.lst t214.2))] _
                    obtain ⟨is225, h_is225, h⟩ := bnd h
                    obtain ⟨l_, hl, h⟩ := bnd h
                    refine w_seq ((t_forG PyData.int is225 (fun x_2 (s_ : Unit) => f_law_L2 size_ steps173 stands175 other216 due218 x_2) (fun (s_ : Unit) e => ∃ (o226 : Option PyData), e = [im ((ls PyData.int) script), im (PyData.int mode2), im (PyData.int size_), im ((tp PyData.int) steps173), im ((ls (tp (p2 PyData.int PyData.int))) stands175), im ((tp PyData.int) plan181), imo o226, im ((tp PyData.int) other216), im ((tp PyData.int) due218), none, imo o209, none, some (.ow (.lst t214.2))]) (rtI PyData.bool) (rng1I (binX (vI rfl) cI rfl rfl e_add) h_is225) ⟨o208, rfl⟩ hl (fun x_2 s_ l2_ h e he => ?_) (fun s231 hs e he => ?_) (fun r_ hs r2_ e hr => ?_)))
                    · obtain ⟨o226, rfl⟩ := he
                      refine ⟨rfl, _, rfl, ?_⟩
                      show wS _ [im ((ls PyData.int) script), im (PyData.int mode2), im (PyData.int size_), im ((tp PyData.int) steps173), im ((ls (tp (p2 PyData.int PyData.int))) stands175), im ((tp PyData.int) plan181), im (PyData.int x_2), im ((tp PyData.int) other216), im ((tp PyData.int) due218), none, imo o209, none, some (.ow (.lst t214.2))] _
                      replace h : f_law_L2 size_ steps173 stands175 other216 due218 x_2 = some l2_ := h
                      unfold f_law_L2 at h
                      obtain ⟨t227, h_t227, h⟩ := bnd h
                      obtain ⟨t228, h_t228, h⟩ := bnd h
                      obtain ⟨t229, h_t229, h⟩ := bnd h
                      refine (w_if (b := (!t229)) (tnot (bang (callI (aI (callI (aI (vI rfl) (aI (vI rfl) a0)) rfl (k_standing_after h_t227)) (aI (callI (aI (vI rfl) (aI (vI rfl) a0)) rfl (k__law_chain h_t228)) a0)) rfl (k__law_same h_t229)))) (fun hc230 => ?_) (fun hc230 => ?_))
                      · rw [if1 hc230] at h
                        cases h
                        refine (w_ret cI ?_)
                        exact rfl
                      · rw [if0 hc230] at h
                        refine w_nx ?_
                        cases h
                        exact ⟨some (PyData.int x_2), rfl⟩
                    · subst hs
                      replace h : _ = some r := h
                      dsimp only at h
                      obtain ⟨o232, rfl⟩ := he
                      show wS _ [im ((ls PyData.int) script), im (PyData.int mode2), im (PyData.int size_), im ((tp PyData.int) steps173), im ((ls (tp (p2 PyData.int PyData.int))) stands175), im ((tp PyData.int) plan181), imo o232, im ((tp PyData.int) other216), im ((tp PyData.int) due218), none, imo o209, none, some (.ow (.lst t214.2))] _
                      obtain ⟨t233, h_t233, h⟩ := bnd h
                      obtain ⟨broken235, h_t234, h⟩ := bnd h
                      refine w_seq ((t_set (f := (tp PyData.int)) (v := broken235) (w := broken235) rfl (binX (cutTX (f := PyData.int) (l := steps173) (vI rfl) oN (oA (negI cI))) (tupI (aI (binX (cbX (dX (binX (vI rfl) (cbX (dX cI (dX (binX (vI rfl) cI rfl rfl e_sub) d0 rfl) rfl) o_max2) rfl rfl (o_ixL (f := (tp (p2 PyData.int PyData.int))) (l := stands175) h_t233)) d0 rfl) (o_lenT (f := (p2 PyData.int PyData.int)) (l := t233))) cI rfl rfl e_add) a0) (Nat.le_of_ble_eq_true rfl)) rfl rfl (o_catT (f := PyData.int) (l := (cutD steps173 none (some (-1 : Int)))) (m := [((t233.length : Int) + (1 : Int))]) h_t234)) rfl ?_))
                      show wS _ [im ((ls PyData.int) script), im (PyData.int mode2), im (PyData.int size_), im ((tp PyData.int) steps173), im ((ls (tp (p2 PyData.int PyData.int))) stands175), im ((tp PyData.int) plan181), imo o232, im ((tp PyData.int) other216), im ((tp PyData.int) due218), im ((tp PyData.int) broken235), imo o209, none, some (.ow (.lst t214.2))] _
                      obtain ⟨t236, h_t236, h⟩ := bnd h
                      obtain ⟨t237, h_t237, h⟩ := bnd h
                      obtain ⟨t239, h_t239, h⟩ := bnd h
                      cases h
                      refine w_seq ((w_ret (andX (callI (aI (callI (aI (vI rfl) a0) rfl (k_pouring_of h_t236)) (aI (vI rfl) a0)) rfl (k__law_same h_t237)) h_t239 (fun _ _ hq => (by obtain ⟨t238, h_t238, hq⟩ := bnd hq; have hq := Option.some.inj hq; subst hq; exact (binX (callI (aI (vI rfl) a0) rfl (k_is_pouring h_t238)) cI rfl rfl e_isB)))) ?_))
                      exact rfl
                    · subst hs
                      cases h
                      exact hr
                · subst hs
                  cases h
                  exact hr
          · refine ((w_if (b := (decide (mode2 = (7 : Int)))) (bang (binX (vI rfl) cI rfl rfl e_eq)) (fun hc170 => ?_) (fun hc170 => ?_)))
            · rw [if1 hc170] at h
              obtain ⟨size240, h_size240, h⟩ := bnd h
              refine (t_setB (f := PyData.int) (v := (24 : Int)) (w := size240) h_size240 cI rfl ?_)
              exact ⟨size240, rfl, h⟩
            · rw [if0 hc170] at h
              refine w_nx ?_
              exact ⟨size_, rfl, h⟩
        · refine ((w_if (b := (decide (mode2 = (3 : Int)))) (bang (binX (vI rfl) cI rfl rfl e_eq)) (fun hc13 => ?_) (fun hc13 => ?_)))
          · rw [if1 hc13] at h
            obtain ⟨t241, h_t241, h⟩ := bnd h
            obtain ⟨size242, h_size242, h⟩ := bnd h
            refine (t_setB (f := PyData.int) (v := t241.1) (w := size242) h_size242 (wI (t := .lst t11.2) rfl (aI cI a0) (na_im (na_im (na_im (na_none (na_none (na_none (na_none (na_none (na_none (na_none (na_none (na_none (na_ow na_nil))))))))))))) rfl (k__law_take h_t241)) rfl ?_)
            exact ⟨(size242, t241.2), rfl, h⟩
          · rw [if0 hc13] at h
            refine w_nx ?_
            exact ⟨(size12, t11.2), rfl, h⟩
end K44
namespace DL
open PySem PySem.Spec PyProof.Rows L2
def sh (w : Nat) (f : Int) (row : List Int) : Int := if w ≤ row.length ∧ f ≤ gv row w then gv row w + 1 else f
def srow (w : Nat) (f : Int) (row : List Int) : List Int := (row.filter fun m => decide (sh w f row ≤ m)) ++ [sh w f row]
section
variable (W : Nat → Nat) (F : Nat → Int) (p : Nat → Nat) (n : Nat)
def rwo (v : Nat) (mem : List Int) : List Int := srow (W v) (F v) (downI mem)
/-- what lies below u once k versions are gone through, from the last one on -/
def bl : Nat → Nat → List Int
  | 0, _ => []
  | k + 1, u => if u = p (n - k) then bl k u ++ rwo W F (n - k) (bl k (n - k)) else bl k u
def row (v : Nat) : List Int := rwo W F v (bl W F p n (n - v) v)
end
end DL
namespace DL
open PySem PySem.Spec PyProof.Rows L2
def lx : List Int → List Int → Prop
  | [], _ => True
  | _ :: _, [] => False
  | x :: xs, y :: ys => x < y ∨ (x = y ∧ lx xs ys)
def ins (x : Int) : List Int → List Int
  | [] => [x]
  | y :: ys => if y ≤ x then x :: y :: ys else y :: ins x ys
end DL
namespace DL
open PySem PySem.Spec PyProof.Rows L2
abbrev Par (p : Nat → Nat) (n : Nat) : Prop := ∀ v, 1 ≤ v → v ≤ n → p v < v
section
variable (p : Nat → Nat) (h : Nat → Int)
/-- from u up to v nobody is higher than t -/
def opB (v : Nat) (t : Int) : Nat → Nat → Bool
  | 0, u => u == v
  | k + 1, u => u == v || (decide (v < u) && (decide (h (p u) ≤ t) && opB v t k (p u)))
def op (v : Nat) (t : Int) (u : Nat) : Bool := opB p h v t u u
end
section
variable {p : Nat → Nat} {h : Nat → Int} {n : Nat} (hp : Par p n)
include hp
theorem opB_more {v : Nat} {t : Int} : ∀ (u k : Nat), u ≤ n → u ≤ k → opB p h v t k u = opB p h v t u u := by
  intro u
  induction u using Nat.strongRecOn with
  | ind u ih =>
    intro k hu hk
    by_cases z : u = 0
    · subst z
      cases k with
      | zero => rfl
      | succ k =>
        show ((0 == v) || (decide (v < 0) && _)) = (0 == v)
        simp
    · obtain ⟨k, rfl⟩ : ∃ j, k = j + 1 := ⟨k - 1, by omega⟩
      obtain ⟨u, rfl⟩ : ∃ j, u = j + 1 := ⟨u - 1, by omega⟩
      have l := hp (u + 1) (by omega) hu
      show (_ || (_ && (_ && opB p h v t k (p (u + 1))))) = (_ || (_ && (_ && opB p h v t u (p (u + 1)))))
      rw [ih (p (u + 1)) l k (by omega) (by omega), ih (p (u + 1)) l u (by omega) (by omega)]
theorem op_eq {v u : Nat} {t : Int} (h1 : 1 ≤ u) (h2 : u ≤ n) : op p h v t u = (u == v || (decide (v < u) && (decide (h (p u) ≤ t) && op p h v t (p u)))) := by
  obtain ⟨u, rfl⟩ : ∃ j, u = j + 1 := ⟨u - 1, by omega⟩
  have l := hp (u + 1) (by omega) h2
  unfold op
  rw [← opB_more hp (h := h) (v := v) (t := t) (p (u + 1)) u (by omega) (by omega)]
  rfl
theorem op_ge {v t} : ∀ u, u ≤ n → op p h v t u = true → v ≤ u := by
  intro u
  cases u with
  | zero =>
    intro _ z
    have e : (0 == v) = true := z
    have := eq_of_beq e
    omega
  | succ u =>
    intro hu z
    rw [op_eq hp (by omega) hu, Bool.or_eq_true, Bool.and_eq_true] at z
    rcases z with z | z
    · have := eq_of_beq z
      omega
    · have := of_decide_eq_true z.1
      omega
end
end DL
namespace DL
open PySem PySem.Spec PyProof.Rows L2
end DL
namespace DL
open PySem PySem.Spec PyProof.Rows L2
section
variable {α β γ σ ρ τ X : Type}
theorem bs {o : Option α} {k : α → Option β} {a : α} {b : Option β} (h : o = some a) (q : k a = b) : o.bind k = b := by rw [h]; exact q
theorem iT {c : Bool} {a b r : α} (h : c = true) (q : a = r) : (if c = true then a else b) = r := by rw [if_pos h]; exact q
theorem iF {c : Bool} {a b r : α} (h : c = false) (q : b = r) : (if c = true then a else b) = r := by rw [if_neg (by rw [h]; exact Bool.false_ne_true)]; exact q
/-- both tests fail -/
theorem orFF {p : Bool} {o : Option Bool} (h1 : p = false) (h : o = some false) : orO p o = some false := by rw [h1]; exact h
theorem andTT {p : Bool} {o : Option Bool} (h1 : p = true) (h : o = some true) : andO p o = some true := by rw [h1]; exact h
theorem ne_no {α : Type} [DecidableEq α] {a b : α} (h : a = b) : (!decide (a = b)) = false := by rw [decide_eq_true h]; rfl
theorem atI_nn {l : List α} {k : Nat} : atI l (k : Int) = l[k]? := atI_nat l k
theorem atI_gv [Inhabited α] {l : List α} {v : Nat} (h1 : 1 ≤ v) (h2 : v ≤ l.length) : atI l ((v : Int) - 1) = some (gv l v) := by
  rw [show ((v : Int) - 1) = ((v - 1 : Nat) : Int) by omega, atI_nn, gv_get (by omega), Nat.sub_add_cancel h1]
theorem atI_at [Inhabited α] {l : List α} {k : Nat} (h : k < l.length) : atI l (k : Int) = some (gv l (k + 1)) := by
  rw [atI_nn, gv_get h]
theorem atI_rg {f : Nat → α} {n k : Nat} (h : k < n) : atI ((List.range n).map f) (k : Int) = some (f k) := by
  rw [atI_nn, List.getElem?_map, List.getElem?_range h]
  rfl
theorem putO_at {l : List α} {k : Nat} {a : α} (h : k < l.length) : putO l (k : Int) a = some (l.set k a) := by
  unfold putO
  rw [ixN_nat h]
  rfl
theorem appO_ok {l : List α} {a : α} (h : l.length + 1 ≤ 16777216) : appO l a = some (l ++ [a]) := if_pos h
theorem catO_ok {l m : List α} (h : l.length + m.length ≤ 16777216) : catO l m = some (l ++ m) := if_pos h
theorem rgC_n {m : Int} (h : 0 ≤ m) (h2 : m ≤ 1000001) : rgC m = true := decide_eq_true (by omega)
theorem rngO_v {v n : Nat} (h : n ≤ 1000000) (hv : v ≤ 1000000) : rngO (v : Int) ((n : Int) + 1) = some ((List.range (n + 1 - v)).map fun k => ((v + k : Nat) : Int)) := by
  unfold rngO
  rw [rgC_n (by omega) (by omega), rgC_n (by omega) (by omega), if_pos (show (true && true) = true from rfl), show ((n : Int) + 1 - (v : Int)).toNat = n + 1 - v by omega]
  congr 1
theorem rngO_1 {n : Nat} (h : n ≤ 1000000) : rngO 1 ((n : Int) + 1) = some ((List.range n).map fun k => ((k + 1 : Nat) : Int)) := by
  unfold rngO
  rw [rgC_n (m := 1) (by omega) (by omega), rgC_n (m := (n : Int) + 1) (by omega) (by omega), if_pos (show (true && true) = true from rfl), show ((n : Int) + 1 - 1).toNat = n by omega]
  congr 1
  refine List.map_congr_left fun k _ => ?_
  omega
theorem rng1O_n {n : Nat} (h : n ≤ 1000000) : rng1O (n : Int) = some ((List.range n).map fun (k : Nat) => (k : Int)) := by
  unfold rng1O
  rw [rgC_n (by omega) (by omega), if_pos rfl]
  rfl
theorem forS_n {n : Nat} {f : Nat → X} {S : Nat → σ} {body : X → σ → Option σ} (h : ∀ k, k < n → body (f k) (S k) = some (S (k + 1))) : forS body ((List.range n).map f) (S 0) = some (S n) := by
  have go : ∀ (m a : Nat), a + m = n → forS body ((List.range' a m).map f) (S a) = some (S n) := by
    intro m
    induction m with
    | zero => intro a ha; rw [show a = n by omega]; rfl
    | succ m ih =>
      intro a ha
      rw [List.range'_succ, List.map_cons]
      show (body (f a) (S a)).bind _ = _
      rw [h a (by omega)]
      exact ih (a + 1) (by omega)
  rw [List.range_eq_range']
  exact go n 0 (by omega)
theorem forS_J {n : Nat} {f : Nat → X} (J : Nat → σ → Prop) {body : X → σ → Option σ} {s : σ} (h0 : J 0 s) (h : ∀ k, k < n → ∀ s, J k s → ∃ s', body (f k) s = some s' ∧ J (k + 1) s') : ∃ s', forS body ((List.range n).map f) s = some s' ∧ J n s' := by
  have go : ∀ (m a : Nat) (s : σ), a + m = n → J a s → ∃ s', forS body ((List.range' a m).map f) s = some s' ∧ J n s' := by
    intro m
    induction m with
    | zero => intro a s ha hs; rw [show n = a by omega]; exact ⟨s, rfl, hs⟩
    | succ m ih =>
      intro a s ha hs
      obtain ⟨s1, h1, h2⟩ := h a (by omega) s hs
      obtain ⟨s2, h3, h4⟩ := ih (a + 1) s1 (by omega) h2
      rw [List.range'_succ, List.map_cons]
      refine ⟨s2, ?_, h4⟩
      show (body (f a) s).bind _ = _
      rw [h1]
      exact h3
  rw [List.range_eq_range']
  exact go n 0 s (by omega) h0
theorem forG_all {l : List X} {body : X → Unit → Option (Lp Unit ρ)} (h : ∀ x ∈ l, body x () = some (.nx ())) : forG body l () = some (.nx ()) := by
  induction l with
  | nil => rfl
  | cons a l ih =>
    show (body a ()).bind _ = _
    rw [h a List.mem_cons_self]
    exact ih fun x m => h x (List.mem_cons_of_mem _ m)
theorem thenA {l : List X} {body : X → Unit → Option (Lp Unit ρ)} {rt : ρ → Option τ} {k : Unit → Option τ} {b : Option τ} (h : ∀ x ∈ l, body x () = some (.nx ())) (q : k () = b) : thenL (forG body l ()) rt k = b := by
  rw [thenL_nx (forG_all h)]
  exact q
theorem thenR {n : Nat} {f : Nat → X} {body : X → Unit → Option (Lp Unit ρ)} {rt : ρ → Option τ} {k : Unit → Option τ} {b : Option τ} (h : ∀ k, k < n → body (f k) () = some (.nx ())) (q : k () = b) : thenL (forG body ((List.range n).map f) ()) rt k = b :=
  thenA (fun x m => by
    obtain ⟨k, hk, rfl⟩ := List.mem_map.mp m
    exact h k (List.mem_range.mp hk)) q
theorem whT {c : σ → Option Bool} {body : σ → Option σ} {N : Nat} {s s' : σ} {r : Option σ} (h : c s = some true) (h2 : body s = some s') (q : whS c body N s' = r) : whS c body (N + 1) s = r := by
  show (c s).bind _ = _
  rw [h]
  show (body s).bind _ = _
  rw [h2]
  exact q
theorem whF {c : σ → Option Bool} {body : σ → Option σ} {N : Nat} {s : σ} (h : c s = some false) : whS c body (N + 1) s = some s := by
  show (c s).bind _ = _
  rw [h]
  rfl
theorem lcO_fm {p : X → Option Bool} {g : X → Option β} {p' : X → Bool} {g' : X → β} : ∀ {l : List X}, (∀ a ∈ l, p a = some (p' a)) → (∀ a ∈ l, p' a = true → g a = some (g' a)) → lcO p g l = some ((l.filter p').map g')
  | [], _, _ => rfl
  | a :: l, h1, h2 => by
    have ih := lcO_fm (l := l) (fun x m => h1 x (List.mem_cons_of_mem _ m)) fun x m => h2 x (List.mem_cons_of_mem _ m)
    show (p a).bind _ = _
    rw [h1 a List.mem_cons_self]
    show (if p' a = true then _ else _) = _
    by_cases z : p' a = true
    · rw [if_pos z, h2 a List.mem_cons_self z, List.filter_cons_of_pos z]
      show (lcO p g l).bind _ = _
      rw [ih]
      rfl
    · rw [if_neg z, List.filter_cons_of_neg z]
      exact ih
theorem lcC_fm {p : X → Option Bool} {g : X → Option β} {p' : X → Bool} {g' : X → β} {l : List X} (hl : l.length ≤ 16777216) (h1 : ∀ a ∈ l, p a = some (p' a)) (h2 : ∀ a ∈ l, p' a = true → g a = some (g' a)) : lcC p g l = some ((l.filter p').map g') := by
  unfold lcC
  rw [if_pos hl, lcO_fm h1 h2]
theorem lcC_map {g : X → Option β} {g' : X → β} {l : List X} (hl : l.length ≤ 16777216) (h : ∀ a ∈ l, g a = some (g' a)) : lcC (fun _ => some true) g l = some (l.map g') := by
  rw [lcC_fm (p' := fun _ => true) (g' := g') hl (fun _ _ => rfl) (fun a m _ => h a m), List.filter_eq_self.mpr fun _ _ => rfl]
theorem lcC_rg {n : Nat} {f : Nat → X} {g : X → Option β} {g' : Nat → β} (hl : n ≤ 16777216) (h : ∀ k, k < n → g (f k) = some (g' k)) : lcC (fun _ => some true) g ((List.range n).map f) = some ((List.range n).map g') := by
  unfold lcC
  rw [if_pos (by rw [List.length_map, List.length_range]; exact hl)]
  have go : ∀ l : List Nat, (∀ k ∈ l, k < n) → lcO (fun _ => some true) g (l.map f) = some (l.map g') := by
    intro l
    induction l with
    | nil => intro _; rfl
    | cons a l ih =>
      intro hm
      show (g (f a)).bind _ = _
      rw [h a (hm a List.mem_cons_self)]
      show (lcO _ g (l.map f)).bind _ = _
      rw [ih fun k m => hm k (List.mem_cons_of_mem _ m)]
      rfl
  exact go _ fun k m => List.mem_range.mp m
theorem lcC_fl {p : X → Option Bool} {p' : X → Bool} {l : List X} (hl : l.length ≤ 16777216) (h1 : ∀ a ∈ l, p a = some (p' a)) : lcC p (fun x => some x) l = some (l.filter p') := by
  have z := lcC_fm (g := fun x => some x) (g' := id) hl h1 (fun _ _ _ => rfl)
  rw [List.map_id] at z
  exact z
theorem cut_to {l : List α} {v : Nat} (h : v ≤ l.length) : cutD l none (some (v : Int)) = l.take v := by
  unfold cutD
  rw [HT.sIx_nat, HT.sIx_none, show min v l.length = v by omega, List.drop_zero, Nat.sub_zero]
end
end DL
namespace DL
open PySem PySem.Spec PyProof.Rows L2
end DL
namespace DL
open PySem PySem.Spec PyProof.Rows L2
end DL
namespace DL
open PySem PySem.Spec PyProof.Rows L2
theorem andTT' {p q : Bool} {o : Option Bool} (h1 : p = true) (h : o = some q) : andO p o = some q := by rw [h1]; exact h
end DL
namespace DL
open PySem PySem.Spec PyProof.Rows L2
structure OkB (n : Nat) (R : Int) (ws : List (Nat × Int)) : Prop where
  r1 : 1 ≤ R
  r2 : R ≤ 999
  len : ws.length = n
  all : ∀ x ∈ ws, 1 ≤ x.1 ∧ x.1 ≤ 999 ∧ 1 ≤ x.2 ∧ x.2 ≤ R
section
variable {P : List Nat} {R : Int} {ws : List (Nat × Int)} (O : OkB P.length R ws) (few : P.length ≤ 100)
include O few
theorem OkB.w {v : Nat} (h1 : 1 ≤ v) (h2 : v ≤ P.length) : 1 ≤ (gv ws v).1 ∧ (gv ws v).1 ≤ 999 := by
  have := O.all _ (gv_mem (l := ws) h1 (by rw [O.len]; exact h2))
  exact ⟨this.1, this.2.1⟩
end
end DL
namespace DL
open PySem PySem.Spec PyProof.Rows L2
end DL
namespace DL
open PySem
def bn : Nat → Nat → Nat
  | _, 0 => 1
  | 0, _ + 1 => 0
  | n + 1, k + 1 => bn n k + bn n (k + 1)
theorem bn_zero (n : Nat) : bn n 0 = 1 := by cases n <;> rfl
theorem bn_succ (n k : Nat) : bn (n + 1) (k + 1) = bn n k + bn n (k + 1) := rfl
theorem bn_gt : ∀ {n k : Nat}, n < k → bn n k = 0
  | 0, k + 1, _ => rfl
  | n + 1, k + 1, h => by
    rw [bn_succ, bn_gt (by omega), bn_gt (by omega)]
theorem bn_self : ∀ n : Nat, bn n n = 1
  | 0 => rfl
  | n + 1 => by
    rw [bn_succ, bn_self n, bn_gt (by omega)]
theorem bn_pos : ∀ {n k : Nat}, k ≤ n → 0 < bn n k
  | n, 0, _ => by
    rw [bn_zero]
    exact Nat.one_pos
  | n + 1, k + 1, h => by
    rw [bn_succ]
    have := bn_pos (show k ≤ n by omega)
    omega
end DL
namespace DL
/-- falling, from x to 1 -/
def Fw : Nat → List Nat → Prop
  | _, [] => True
  | x, y :: ys => 1 ≤ y ∧ y ≤ x ∧ Fw y ys
theorem Fw.le : ∀ {x z : Nat} {m : List Nat}, Fw x m → x ≤ z → Fw z m
  | _, _, [], _, _ => True.intro
  | _, _, _ :: _, ⟨a, b, c⟩, h => ⟨a, Nat.le_trans b h, c⟩
def aftL : List Nat → Nat → List Nat
  | [], _ => [1]
  | _ :: _, 0 => []
  | x :: xs, u + 1 => if xs = List.replicate u x then [x + 1] else x :: aftL xs u
abbrev aft (u : Nat) (m : List Nat) : List Nat := aftL m u
end DL
namespace DL
open PySem PySem.Spec PyProof.Rows L2
end DL
namespace DL
open PySem PySem.Spec PyProof.Rows L2
end DL
namespace DL
open PySem PySem.Spec PyProof.Rows L2
theorem divO_ok {i j : Int} (h : 0 < j) (h2 : j < 1073741824) : divO i j = some (i / j) := if_pos ⟨h, log_few h h2⟩
end DL
namespace DL
open PySem PySem.Spec PyProof.Rows L2
section
variable {X σ γ : Type}
theorem lcSO_P {g : X → σ → Option (γ × σ)} (P : σ → Prop) (R : γ → Prop) : ∀ {l : List X} {s : σ}, P s → (∀ x ∈ l, ∀ s, P s → ∃ c, g x s = some c ∧ R c.1 ∧ P c.2) → ∃ o, lcSO g l s = some o ∧ o.1.length = l.length ∧ (∀ c ∈ o.1, R c) ∧ P o.2
  | [], s, h0, _ => ⟨([], s), rfl, rfl, fun _ h => (by cases h), h0⟩
  | x :: l, s, h0, h => by
    obtain ⟨c, h1, h2, h3⟩ := h x (List.mem_cons_self ..) s h0
    obtain ⟨o, h4, h5, h6, h7⟩ := lcSO_P P R (l := l) h3 fun y hy => h y (List.mem_cons_of_mem _ hy)
    refine ⟨(c.1 :: o.1, o.2), ?_, by rw [List.length_cons, List.length_cons, h5], fun d hd => ?_, h7⟩
    · show (g x s).bind _ = _
      rw [h1]
      show (lcSO g l c.2).bind _ = _
      rw [h4]
      rfl
    · rcases List.mem_cons.mp hd with z | z
      · rw [z]; exact h2
      · exact h6 d z
theorem lcCS_P {g : X → σ → Option (γ × σ)} (P : σ → Prop) (R : γ → Prop) {l : List X} {s : σ} (hl : l.length ≤ 16777216) (h0 : P s) (h : ∀ x ∈ l, ∀ s, P s → ∃ c, g x s = some c ∧ R c.1 ∧ P c.2) : ∃ o, lcCS g l s = some o ∧ o.1.length = l.length ∧ (∀ c ∈ o.1, R c) ∧ P o.2 := by
  unfold lcCS
  rw [if_pos hl]
  exact lcSO_P P R h0 h
end
theorem ix_tup {l : List PyData} {k : Nat} (h : k < l.length) : vD (p_ix (.tuple l) (.int (k : Int))) = some l[k] := by
  have q := o_ixT (f := idD) (l := l) (i := (k : Int)) (a := l[k]) (by rw [atI_nn]; exact List.getElem?_eq_getElem h)
  have e : tp idD l = .tuple l := congrArg PyData.tuple (List.map_id' l)
  rw [e] at q
  rw [q]
  rfl
theorem len_tup (l : List PyData) : iD (c_len [.tuple l]) = some (l.length : Int) := rfl
theorem modO_ok {i j : Int} (h : 0 < j) : modO i j = some (i % j) := if_pos h
end DL
namespace DL
open PySem PySem.Spec PyProof.Rows L2
end DL
namespace DL
open PySem
inductive Tr where
  | lf
  | nd (a b : Tr)
def Tr.sz : Tr → Nat
  | .lf => 0
  | .nd a b => a.sz + b.sz + 1
def Tr.cut (a : Tr) : Int := (a.sz : Int) + 1
/-- the plan -/
def Tr.pl : Tr → List Int
  | .lf => []
  | .nd a b => a.pl ++ 0 :: b.pl.map fun x => a.cut + x
/-- the turns to the left, to the right, of the buds -/
def Tr.lf' : Tr → List Int
  | .lf => [0]
  | .nd a b => a.lf'.map (· + 1) ++ b.lf'
def Tr.rg' : Tr → List Int
  | .lf => [0]
  | .nd a b => a.rg' ++ b.rg'.map (· + 1)
/-- the chain of the last version, from 0 up -/
def Tr.ch : Tr → List Int
  | .lf => [0]
  | .nd a b => 0 :: b.ch.map fun x => a.cut + x
/-- one more version -/
def Tr.app : Tr → Nat → Tr
  | t, 0 => .nd t .lf
  | .nd a b, i + 1 => .nd a (b.app i)
  | .lf, _ + 1 => .lf
theorem Tr.cut_pos (a : Tr) : 0 < a.cut := by unfold Tr.cut; omega
theorem Tr.pl_len : ∀ t : Tr, t.pl.length = t.sz
  | .lf => rfl
  | .nd a b => by
    show (a.pl ++ 0 :: b.pl.map _).length = a.sz + b.sz + 1
    rw [List.length_append, List.length_cons, List.length_map, pl_len a, pl_len b]
    omega
theorem Tr.lf_len : ∀ t : Tr, t.lf'.length = t.sz + 1
  | .lf => rfl
  | .nd a b => by
    show (a.lf'.map _ ++ b.lf').length = a.sz + b.sz + 1 + 1
    rw [List.length_append, List.length_map, lf_len a, lf_len b]
    omega
theorem Tr.rg_len : ∀ t : Tr, t.rg'.length = t.sz + 1
  | .lf => rfl
  | .nd a b => by
    show (a.rg' ++ b.rg'.map _).length = a.sz + b.sz + 1 + 1
    rw [List.length_append, List.length_map, rg_len a, rg_len b]
    omega
theorem Tr.lf_nn : ∀ (t : Tr), ∀ x ∈ t.lf', 0 ≤ x
  | .lf, x, h => by
    have : x = 0 := by simpa [Tr.lf'] using h
    omega
  | .nd a b, x, h => by
    rcases List.mem_append.mp (show x ∈ a.lf'.map (· + 1) ++ b.lf' from h) with h | h
    · obtain ⟨y, hy, rfl⟩ := List.mem_map.mp h
      have := lf_nn a y hy
      omega
    · exact lf_nn b x h
theorem Tr.rg_nn : ∀ (t : Tr), ∀ x ∈ t.rg', 0 ≤ x
  | .lf, x, h => by
    have : x = 0 := by simpa [Tr.rg'] using h
    omega
  | .nd a b, x, h => by
    rcases List.mem_append.mp (show x ∈ a.rg' ++ b.rg'.map (· + 1) from h) with h | h
    · exact rg_nn a x h
    · obtain ⟨y, hy, rfl⟩ := List.mem_map.mp h
      have := rg_nn b y hy
      omega
theorem Tr.pl_nn : ∀ (t : Tr), ∀ x ∈ t.pl, 0 ≤ x
  | .lf, x, h => by cases h
  | .nd a b, x, h => by
    rcases List.mem_append.mp (show x ∈ a.pl ++ 0 :: b.pl.map _ from h) with h | h
    · exact pl_nn a x h
    · rcases List.mem_cons.mp h with h | h
      · omega
      · obtain ⟨y, hy, rfl⟩ := List.mem_map.mp h
        have := pl_nn b y hy
        have := a.cut_pos
        omega
theorem Tr.ch_zero : ∀ t : Tr, t.ch[0]? = some 0
  | .lf => rfl
  | .nd a b => rfl
/-- the chain ends with the last version -/
theorem Tr.ch_last : ∀ t : Tr, t.ch.getLast? = some (t.sz : Int)
  | .lf => rfl
  | .nd a b => by
    show (0 :: b.ch.map fun x => a.cut + x).getLast? = _
    have h := ch_last b
    rw [List.getLast?_cons, List.getLast?_map, h]
    show some (a.cut + (b.sz : Int)) = some (((a.sz + b.sz + 1 : Nat)) : Int)
    unfold Tr.cut
    congr 1
    omega
/-- each member of the chain reads the one ahead of it -/
theorem Tr.ch_step : ∀ (t : Tr) (i : Nat) (x : Int), t.ch[i + 1]? = some x → 1 ≤ x ∧ x ≤ t.sz ∧ t.pl[(x - 1).toNat]? = t.ch[i]?
  | .lf, i, x, h => by cases h
  | .nd a b, 0, x, h => by
    have h0 : (0 :: b.ch.map fun x => a.cut + x)[0 + 1]? = some x := h
    rw [List.getElem?_cons_succ, List.getElem?_map, ch_zero b] at h0
    have e : x = a.cut := by
      have : a.cut + 0 = x := Option.some.inj h0
      omega
    subst e
    refine ⟨by have := a.cut_pos; omega, by show a.cut ≤ ((a.sz + b.sz + 1 : Nat) : Int); unfold Tr.cut; omega, ?_⟩
    show (a.pl ++ 0 :: b.pl.map _)[(a.cut - 1).toNat]? = some 0
    have e2 : (a.cut - 1).toNat = a.pl.length := by rw [pl_len]; unfold Tr.cut; omega
    rw [e2, List.getElem?_append_right (Nat.le_refl _), Nat.sub_self]
    rfl
  | .nd a b, i + 1, x, h => by
    have h0 : (0 :: b.ch.map fun x => a.cut + x)[i + 1 + 1]? = some x := h
    rw [List.getElem?_cons_succ, List.getElem?_map] at h0
    cases hy : b.ch[i + 1]? with
    | none => rw [hy] at h0; cases h0
    | some y =>
      rw [hy] at h0
      cases h0
      obtain ⟨h1, h2, h3⟩ := ch_step b i y hy
      refine ⟨by have := a.cut_pos; show 1 ≤ a.cut + y; omega, by show a.cut + y ≤ ((a.sz + b.sz + 1 : Nat) : Int); unfold Tr.cut; omega, ?_⟩
      show (a.pl ++ 0 :: b.pl.map _)[(a.cut + y - 1).toNat]? = (0 :: b.ch.map fun x => a.cut + x)[i + 1]?
      have e2 : (a.cut + y - 1).toNat = a.pl.length + ((y - 1).toNat + 1) := by rw [pl_len]; unfold Tr.cut; omega
      rw [e2, List.getElem?_append_right (Nat.le_add_right _ _), Nat.add_sub_cancel_left, List.getElem?_cons_succ, List.getElem?_cons_succ, List.getElem?_map, List.getElem?_map, h3]
theorem Tr.ch_lt : ∀ (t : Tr) (i : Nat) (x : Int), t.ch[i]? = some x → 0 ≤ x ∧ x ≤ t.sz := fun t i x h => by
  cases i with
  | zero =>
    rw [ch_zero] at h
    cases h
    omega
  | succ i =>
    have := ch_step t i x h
    omega
theorem Tr.app_sz : ∀ (t : Tr) (i : Nat), i < t.ch.length → (t.app i).sz = t.sz + 1
  | .lf, 0, _ => rfl
  | .nd a b, 0, _ => by
    show (Tr.nd (.nd a b) .lf).sz = _
    show (Tr.nd a b).sz + 0 + 1 = _
    omega
  | .lf, i + 1, h => by
    have : i + 1 < 1 := h
    omega
  | .nd a b, i + 1, h => by
    have h2 : i < b.ch.length := by
      have : i + 1 < (0 :: b.ch.map fun x => a.cut + x).length := h
      rw [List.length_cons, List.length_map] at this
      omega
    show a.sz + (b.app i).sz + 1 = a.sz + b.sz + 1 + 1
    rw [app_sz b i h2]
    omega
theorem Tr.app_pl : ∀ (t : Tr) (i : Nat) (x : Int), t.ch[i]? = some x → (t.app i).pl = t.pl ++ [x]
  | .lf, 0, x, h => by
    cases h
    rfl
  | .nd a b, 0, x, h => by
    cases h
    rfl
  | .lf, i + 1, x, h => by cases h
  | .nd a b, i + 1, x, h => by
    have h0 : (0 :: b.ch.map fun x => a.cut + x)[i + 1]? = some x := h
    rw [List.getElem?_cons_succ, List.getElem?_map] at h0
    cases hy : b.ch[i]? with
    | none => rw [hy] at h0; cases h0
    | some y =>
      rw [hy] at h0
      cases h0
      show a.pl ++ 0 :: (b.app i).pl.map _ = (a.pl ++ 0 :: b.pl.map _) ++ [a.cut + y]
      rw [app_pl b i y hy, List.map_append, List.append_assoc]
      rfl
def leN (w : Int) (l : List Int) : Nat := (l.filter fun x => decide (x ≤ w)).length
theorem leN_app (w : Int) (a b : List Int) : leN w (a ++ b) = leN w a + leN w b := by
  unfold leN
  rw [List.filter_append, List.length_append]
theorem leN_s (w : Int) (a : List Int) : leN w (a.map (· + 1)) = leN (w - 1) a := by
  unfold leN
  rw [List.filter_map, List.length_map]
  congr 2
  funext x
  show decide (x + 1 ≤ w) = decide (x ≤ w - 1)
  exact decide_eq_decide.mpr ⟨fun h => by omega, fun h => by omega⟩
theorem leN_neg {w : Int} {a : List Int} (h : w < 0) (k : ∀ x ∈ a, 0 ≤ x) : leN w a = 0 := by
  unfold leN
  rw [List.length_eq_zero_iff, List.filter_eq_nil_iff]
  intro x hx
  have := k x hx
  simp
  omega
/-- so many buds at most -/
theorem Tr.few : ∀ (t : Tr) (w q : Nat), (∀ x ∈ t.rg', x ≤ (q : Int)) → leN w t.lf' ≤ bn (w + q) q
  | .lf, w, q, _ => by
    have h : leN (w : Int) [0] ≤ [0].length := List.length_filter_le _ _
    have := bn_pos (show q ≤ w + q by omega)
    show leN (w : Int) [0] ≤ _
    exact Nat.le_trans h (by show 1 ≤ _; omega)
  | .nd a b, w, q, h => by
    show leN (w : Int) (a.lf'.map (· + 1) ++ b.lf') ≤ _
    have ha : ∀ x ∈ a.rg', x ≤ (q : Int) := fun x hx => h x (List.mem_append_left _ hx)
    have hb : ∀ x ∈ b.rg', x + 1 ≤ (q : Int) := fun x hx => h (x + 1) (List.mem_append_right _ (List.mem_map.mpr ⟨x, hx, rfl⟩))
    obtain ⟨q', rfl⟩ : ∃ q', q = q' + 1 := by
      obtain ⟨x, hx⟩ : ∃ x, x ∈ b.rg' := by
        have : 0 < b.rg'.length := by rw [rg_len]; omega
        exact ⟨_, List.getElem_mem this⟩
      have h1 := hb x hx
      have h2 := rg_nn b x hx
      exact ⟨q - 1, by omega⟩
    have kb := few b w q' fun x hx => by
      have := hb x hx
      omega
    rw [leN_app, leN_s]
    cases w with
    | zero =>
      rw [leN_neg (by omega) (lf_nn a)]
      have : bn (0 + q') q' ≤ bn (0 + (q' + 1)) (q' + 1) := by
        rw [Nat.zero_add, Nat.zero_add, bn_self, bn_self]
        exact Nat.le_refl _
      omega
    | succ w =>
      have ka := few a w (q' + 1) ha
      rw [show (((w + 1 : Nat)) : Int) - 1 = (w : Int) by omega]
      have e : bn (w + 1 + (q' + 1)) (q' + 1) = bn (w + 1 + q') q' + bn (w + (q' + 1)) (q' + 1) := by
        rw [show w + 1 + (q' + 1) = (w + 1 + q') + 1 by omega, bn_succ, show w + 1 + q' = w + (q' + 1) by omega]
      omega
end DL
namespace DL
open PySem PySem.Spec PyProof.Rows L2
section
variable {X Y σ ρ : Type}
theorem forS_app {body : X → σ → Option σ} : ∀ (l m : List X) (s : σ), forS body (l ++ m) s = (forS body l s).bind fun s' => forS body m s'
  | [], m, s => rfl
  | a :: l, m, s => by
    show (body a s).bind _ = ((body a s).bind _).bind _
    cases body a s with
    | none => rfl
    | some s' => exact forS_app l m s'
theorem forS_to {body : X → σ → Option σ} {l m : List X} {s s' r : σ} (h : forS body l s = some s') (k : forS body m s' = some r) : forS body (l ++ m) s = some r := by
  rw [forS_app, h]
  exact k
theorem forS_cons {body : X → σ → Option σ} {a : X} {l : List X} {s s' r : σ} (h : body a s = some s') (k : forS body l s' = some r) : forS body (a :: l) s = some r := by
  show (body a s).bind _ = _
  rw [h]
  exact k
/-- a body that never breaks, never returns -/
def nxO (body : X → σ → Option (Lp σ ρ)) : X → σ → Option σ := fun x s => match body x s with
  | some (.nx s') => some s'
  | _ => none
theorem nxO_ok {body : X → σ → Option (Lp σ ρ)} {x : X} {s s' : σ} (h : body x s = some (.nx s')) : nxO body x s = some s' := by
  unfold nxO
  rw [h]
theorem forG_of {body : X → σ → Option (Lp σ ρ)} : ∀ {l : List X} {s s' : σ}, forS (nxO body) l s = some s' → forG body l s = some (.nx s')
  | [], s, s', h => by
    cases h
    rfl
  | a :: l, s, s', h => by
    change (nxO body a s).bind _ = _ at h
    show (body a s).bind _ = _
    unfold nxO at h
    cases h1 : body a s with
    | none => rw [h1] at h; cases h
    | some q =>
      rw [h1] at h
      cases q with
      | nx s1 => exact forG_of (l := l) (s := s1) h
      | bk s1 => cases h
      | rt r => cases h
end
theorem atI_end {α : Type} (l : List α) (x : α) : atI (l ++ [x]) (-1 : Int) = some x := by
  unfold atI L2.ixN
  rw [List.length_append, List.length_singleton, if_neg (by omega), if_pos (by omega)]
  show (l ++ [x])[((-1 : Int) + ((l.length + 1 : Nat) : Int)).toNat]? = some x
  rw [show ((-1 : Int) + ((l.length + 1 : Nat) : Int)).toNat = l.length by omega, List.getElem?_append_right (Nat.le_refl _), Nat.sub_self]
  rfl
theorem Tr.ch_tail : ∀ t : Tr, ∃ R : List Int, t.ch = 0 :: R ∧ (∀ x ∈ R, 1 ≤ x) ∧ R.length ≤ t.sz
  | .lf => ⟨[], rfl, (fun _ h => by cases h), Nat.le_refl _⟩
  | .nd a b => by
    obtain ⟨R, h1, h2, h3⟩ := ch_tail b
    refine ⟨b.ch.map fun x => a.cut + x, rfl, fun x m => ?_, ?_⟩
    · obtain ⟨y, hy, rfl⟩ := List.mem_map.mp m
      have hc := a.cut_pos
      have : 0 ≤ y := by
        rw [h1] at hy
        rcases List.mem_cons.mp hy with h | h
        · omega
        · have := h2 y h
          omega
      show 1 ≤ a.cut + y
      omega
    · rw [List.length_map, h1, List.length_cons]
      show _ ≤ a.sz + b.sz + 1
      omega
end DL
namespace DL
open PySem PySem.Spec PyProof.Rows L2
def ltN (e : Int) (l : List Int) : Nat := (l.filter fun x => decide (x < e)).length
theorem ltN_cons (w a : Int) (l : List Int) : ltN w (a :: l) = (if a < w then 1 else 0) + ltN w l := by
  unfold ltN
  rw [List.filter_cons]
  by_cases c : a < w
  · rw [if_pos (decide_eq_true c), if_pos c, List.length_cons]
    omega
  · rw [if_neg (by rw [decide_eq_false c]; exact Bool.false_ne_true), if_neg c]
    omega
theorem ltN_app (w : Int) (a b : List Int) : ltN w (a ++ b) = ltN w a + ltN w b := by
  unfold ltN
  rw [List.filter_append, List.length_append]
theorem ltN_shift (c e : Int) (l : List Int) : ltN e (l.map fun x => c + x) = ltN (e - c) l := by
  unfold ltN
  rw [List.filter_map, List.length_map]
  congr 2
  funext x
  exact decide_eq_decide.mpr ⟨fun h => by have h : c + x < e := h; omega, fun h => by show c + x < e; omega⟩
theorem ltN_no {e : Int} {l : List Int} (h : ∀ x ∈ l, e ≤ x) : ltN e l = 0 := by
  unfold ltN
  rw [List.length_eq_zero_iff, List.filter_eq_nil_iff]
  intro x hx
  have := h x hx
  simp
  omega
theorem Tr.lf_last : ∀ t : Tr, t.lf'[t.sz]? = some 0
  | .lf => rfl
  | .nd a b => by
    show (a.lf'.map (· + 1) ++ b.lf')[a.sz + b.sz + 1]? = some 0
    rw [List.getElem?_append_right (by rw [List.length_map, lf_len]; omega), List.length_map, lf_len, show a.sz + b.sz + 1 - (a.sz + 1) = b.sz by omega]
    exact lf_last b
theorem Tr.rg_head : ∀ t : Tr, t.rg'[0]? = some 0
  | .lf => rfl
  | .nd a b => by
    show (a.rg' ++ b.rg'.map (· + 1))[0]? = some 0
    rw [List.getElem?_append_left (by rw [rg_len]; omega)]
    exact rg_head a
theorem Tr.wr : ∀ (t : Tr) (i : Nat) (x : Int), t.lf'[i]? = some x → i < t.sz → (ltN ((i : Int) + 1) (t.pl.drop i) : Int) = x
  | .lf, i, x, _, h => by cases h
  | .nd a b, i, x, h, hi => by
    have hz : (Tr.nd a b).sz = a.sz + b.sz + 1 := rfl
    have h : (a.lf'.map (· + 1) ++ b.lf')[i]? = some x := h
    show (ltN ((i : Int) + 1) ((a.pl ++ 0 :: b.pl.map fun x => a.cut + x).drop i) : Int) = x
    have la := a.pl_len
    by_cases c : i < a.sz + 1
    · rw [List.getElem?_append_left (by rw [List.length_map, lf_len]; exact c), List.getElem?_map] at h
      cases hy : a.lf'[i]? with
      | none => rw [hy] at h; cases h
      | some y =>
        rw [hy] at h
        cases h
        rw [List.drop_append_of_le_length (by omega), ltN_app]
        have z : ltN ((i : Int) + 1) (0 :: b.pl.map fun x => a.cut + x) = 1 := by
          rw [ltN_cons, ltN_no (l := b.pl.map _)]
          · rw [if_pos (by omega)]
          · intro x hx
            obtain ⟨y, hy, rfl⟩ := List.mem_map.mp hx
            have := b.pl_nn y hy
            show (i : Int) + 1 ≤ a.cut + y
            unfold Tr.cut
            omega
        rw [z]
        by_cases d : i < a.sz
        · have := wr a i y hy d
          show ((ltN ((i : Int) + 1) (a.pl.drop i) + 1 : Nat) : Int) = y + 1
          omega
        · have e : i = a.sz := by omega
          subst e
          rw [lf_last] at hy
          cases hy
          rw [List.drop_eq_nil_of_le (by omega)]
          rfl
    · rw [List.getElem?_append_right (by rw [List.length_map, lf_len]; omega), List.length_map, lf_len] at h
      have := wr b (i - (a.sz + 1)) x h (by omega)
      rw [List.drop_append, List.drop_eq_nil_of_le (by omega), List.nil_append, la]
      obtain ⟨j, hj⟩ : ∃ j, i - a.sz = j + 1 := ⟨i - a.sz - 1, by omega⟩
      rw [hj, List.drop_succ_cons, ← List.map_drop, ltN_shift]
      rw [show i - (a.sz + 1) = j by omega] at this
      rw [← this]
      congr 2
      unfold Tr.cut
      omega
theorem Tr.wrs (t : Tr) : ((List.range t.sz).map fun (k : Nat) => (ltN ((k : Int) + 1) (t.pl.drop k) : Int)) = t.lf'.take t.sz := by
  apply List.ext_getElem?
  intro i
  by_cases h : i < t.sz
  · rw [List.getElem?_map, List.getElem?_range h, List.getElem?_take_of_lt h]
    have hl : i < t.lf'.length := by rw [lf_len]; omega
    rw [List.getElem?_eq_getElem hl]
    exact congrArg some (t.wr i _ (List.getElem?_eq_getElem hl) h)
  · rw [List.getElem?_eq_none (by rw [List.length_map, List.length_range]; omega), List.getElem?_eq_none (by rw [List.length_take]; omega)]
def cap (w q : Nat) : Nat := bn (w + q) q
structure Due (q n : Nat) (l : List Int) : Prop where
  len : l.length = n
  at_ : ∀ k, k < n → ∃ w : Nat, l[k]? = some (w : Int) ∧ 1 ≤ w ∧ k + 1 < cap w q ∧ cap (w - 1) q ≤ k + 1
theorem Due.app {q n : Nat} {l : List Int} {w : Nat} (a : Due q n l) (h1 : 1 ≤ w) (h2 : n + 1 < cap w q) (h3 : cap (w - 1) q ≤ n + 1) : Due q (n + 1) (l ++ [(w : Int)]) := by
  refine ⟨by rw [List.length_append, a.len]; rfl, fun k hk => ?_⟩
  by_cases c : k < n
  · obtain ⟨v, k1, k2⟩ := a.at_ k c
    exact ⟨v, by rw [List.getElem?_append_left (by rw [a.len]; exact c)]; exact k1, k2⟩
  · have e : k = n := by omega
    subst e
    exact ⟨w, by rw [List.getElem?_append_right (by rw [a.len]; omega), a.len, Nat.sub_self]; rfl, h1, h2, h3⟩
theorem Due.nil {q : Nat} : Due q 0 [] := ⟨rfl, fun k h => absurd h (Nat.not_lt_zero _)⟩
end DL
namespace DL
open PySem PySem.Spec PyProof.Rows L2
theorem Tr.ch_len : ∀ t : Tr, 1 ≤ t.ch.length ∧ t.ch.length ≤ t.sz + 1
  | .lf => ⟨Nat.le_refl _, Nat.le_refl _⟩
  | .nd a b => by
    have := ch_len b
    show 1 ≤ (0 :: b.ch.map _).length ∧ (0 :: b.ch.map _).length ≤ a.sz + b.sz + 1 + 1
    rw [List.length_cons, List.length_map]
    omega
theorem Tr.ch_app : ∀ (t : Tr) (i : Nat), i < t.ch.length → (t.app i).ch = t.ch.take (i + 1) ++ [(t.sz : Int) + 1]
  | .lf, 0, _ => rfl
  | .nd a b, 0, _ => by
    show (0 : Int) :: [(Tr.nd a b).cut + 0] = [0] ++ [((Tr.nd a b).sz : Int) + 1]
    rw [Int.add_zero]
    rfl
  | .lf, i + 1, h => by
    have : i + 1 < 1 := h
    omega
  | .nd a b, i + 1, h => by
    have h2 : i < b.ch.length := by
      have : i + 1 < (0 :: b.ch.map fun x => a.cut + x).length := h
      rw [List.length_cons, List.length_map] at this
      omega
    show (0 : Int) :: (b.app i).ch.map (fun x => a.cut + x) = (0 :: b.ch.map fun x => a.cut + x).take (i + 1 + 1) ++ _
    rw [ch_app b i h2, List.take_succ_cons, List.map_append, List.map_take]
    show 0 :: (_ ++ [a.cut + ((b.sz : Int) + 1)]) = 0 :: (_ ++ [((a.sz + b.sz + 1 : Nat) : Int) + 1])
    congr 2
    unfold Tr.cut
    congr 1
    omega
theorem Tr.ch_nn (t : Tr) : ∀ x ∈ t.ch, 0 ≤ x := fun x m => by
  obtain ⟨i, h⟩ := List.mem_iff_getElem?.mp m
  exact (t.ch_lt i x h).1
theorem Tr.ch_pw : ∀ t : Tr, t.ch.Pairwise (· < ·)
  | .lf => List.pairwise_singleton _ _
  | .nd a b => by
    refine List.pairwise_cons.mpr ⟨fun x m => ?_, List.pairwise_map.mpr ((ch_pw b).imp fun h => by omega)⟩
    obtain ⟨y, hy, rfl⟩ := List.mem_map.mp m
    have := b.ch_nn y hy
    have := a.cut_pos
    show 0 < a.cut + y
    omega
/-- who stands in a chain -/
theorem Tr.ch_iff : ∀ (t : Tr) (x : Int), x ∈ t.ch ↔ 0 ≤ x ∧ x ≤ t.sz ∧ ∀ (v : Nat) (y : Int), x ≤ (v : Int) → t.pl[v]? = some y → x ≤ y
  | .lf, x => by
    constructor
    · intro m
      have e : x = 0 := by simpa [Tr.ch] using m
      subst e
      exact ⟨Int.le_refl _, Int.le_refl _, fun v y _ h => by cases h⟩
    · rintro ⟨h1, h2, _⟩
      have h2 : x ≤ 0 := h2
      have e : x = 0 := by omega
      subst e
      exact List.mem_singleton.mpr rfl
  | .nd a b, x => by
    have la := a.pl_len
    have lb := b.pl_len
    have hp : ∀ v : Nat, (Tr.nd a b).pl[v]? = (a.pl ++ 0 :: b.pl.map fun x => a.cut + x)[v]? := fun v => rfl
    have hz : ((Tr.nd a b).sz : Int) = a.cut + (b.sz : Int) := by
      show ((a.sz + b.sz + 1 : Nat) : Int) = _
      unfold Tr.cut
      omega
    have cp := a.cut_pos
    have ce : a.cut = (a.sz : Int) + 1 := rfl
    constructor
    · intro m
      rcases List.mem_cons.mp (show x ∈ 0 :: b.ch.map fun x => a.cut + x from m) with m | m
      · subst m
        refine ⟨Int.le_refl _, by omega, fun v y _ h => ?_⟩
        exact Tr.pl_nn (.nd a b) y (List.mem_of_getElem? h)
      · obtain ⟨z, mz, rfl⟩ := List.mem_map.mp m
        obtain ⟨h1, h2, h3⟩ := (ch_iff b z).mp mz
        refine ⟨by omega, by show a.cut + z ≤ _; omega, fun v y hv h => ?_⟩
        have hv : a.cut + z ≤ (v : Int) := hv
        rw [hp, List.getElem?_append_right (by omega), la] at h
        obtain ⟨k, hk⟩ : ∃ k, v - a.sz = k + 1 := ⟨v - a.sz - 1, by omega⟩
        rw [hk, List.getElem?_cons_succ, List.getElem?_map] at h
        cases hy : b.pl[k]? with
        | none => rw [hy] at h; cases h
        | some w =>
          rw [hy] at h
          cases h
          have := h3 k w (by omega) hy
          show a.cut + z ≤ a.cut + w
          omega
    · rintro ⟨h1, h2, h3⟩
      show x ∈ 0 :: b.ch.map fun x => a.cut + x
      by_cases c0 : x = 0
      · rw [c0]
        exact List.mem_cons_self
      · refine List.mem_cons_of_mem _ ?_
        have c1 : a.cut ≤ x := by
          apply Int.not_lt.mp
          intro c
          have := h3 a.sz 0 (by omega) (by rw [hp, List.getElem?_append_right (by omega), la, Nat.sub_self]; rfl)
          omega
        refine List.mem_map.mpr ⟨x - a.cut, (ch_iff b (x - a.cut)).mpr ⟨by omega, by omega, fun v y hv h => ?_⟩, by omega⟩
        have := h3 (a.sz + 1 + v) (a.cut + y) (by omega) (by
          rw [hp, List.getElem?_append_right (by omega), la, show a.sz + 1 + v - a.sz = v + 1 by omega, List.getElem?_cons_succ, List.getElem?_map, h]
          rfl)
        omega
/-- the nearest version with less reads -/
theorem Tr.near : ∀ (t : Tr) (v : Nat), 1 ≤ v → v ≤ t.sz → ∃ (b : Nat) (rb rv : Int), t.pl[v - 1]? = some (b : Int) ∧ b < v ∧ t.rg'[b]? = some rb ∧ t.rg'[v]? = some rv ∧ rb + 1 = rv ∧ ∀ (x : Nat) (r : Int), b < x → x < v → t.rg'[x]? = some r → rv ≤ r
  | .lf, v, h1, h2 => by
    have : v ≤ 0 := h2
    omega
  | .nd a b, v, h1, h2 => by
    have la := a.pl_len
    have ra := a.rg_len
    have hp : ∀ k : Nat, (Tr.nd a b).pl[k]? = (a.pl ++ 0 :: b.pl.map fun x => a.cut + x)[k]? := fun k => rfl
    have hr : ∀ k : Nat, (Tr.nd a b).rg'[k]? = (a.rg' ++ b.rg'.map (· + 1))[k]? := fun k => rfl
    have hz : (Tr.nd a b).sz = a.sz + b.sz + 1 := rfl
    have left : ∀ k, k ≤ a.sz → (Tr.nd a b).rg'[k]? = a.rg'[k]? := fun k hk => by rw [hr, List.getElem?_append_left (by omega)]
    have right : ∀ k, (Tr.nd a b).rg'[a.sz + 1 + k]? = (b.rg'[k]?).map (· + 1) := fun k => by
      rw [hr, List.getElem?_append_right (by omega), ra, Nat.add_sub_cancel_left, List.getElem?_map]
    by_cases c : v ≤ a.sz
    · obtain ⟨β, rb, rv, k1, k2, k3, k4, k5, k6⟩ := near a v h1 c
      refine ⟨β, rb, rv, by rw [hp, List.getElem?_append_left (by omega)]; exact k1, k2, by rw [left β (by omega)]; exact k3, by rw [left v c]; exact k4, k5, fun x r x1 x2 x3 => ?_⟩
      rw [left x (by omega)] at x3
      exact k6 x r x1 x2 x3
    · obtain ⟨w, rfl⟩ : ∃ w, v = a.sz + 1 + w := ⟨v - (a.sz + 1), by omega⟩
      cases w with
      | zero =>
        refine ⟨0, 0, 1, ?_, by omega, by rw [left 0 (by omega)]; exact a.rg_head, by rw [right 0, b.rg_head]; rfl, by omega, fun x r x1 x2 x3 => ?_⟩
        · rw [hp, List.getElem?_append_right (by omega), show a.sz + 1 + 0 - 1 - a.pl.length = 0 by omega]
          rfl
        · rw [left x (by omega)] at x3
          obtain ⟨β, rb, rv, k1, k2, k3, k4, k5, k6⟩ := near a x (by omega) (by omega)
          rw [k4] at x3
          cases x3
          have := a.rg_nn rb (List.mem_of_getElem? k3)
          omega
      | succ w =>
        obtain ⟨β, rb, rv, k1, k2, k3, k4, k5, k6⟩ := near b (w + 1) (by omega) (by omega)
        refine ⟨a.sz + 1 + β, rb + 1, rv + 1, ?_, by omega, by rw [right, k3]; rfl, by rw [right, k4]; rfl, by omega, fun x r x1 x2 x3 => ?_⟩
        · rw [hp, List.getElem?_append_right (by omega), show a.sz + 1 + (w + 1) - 1 - a.pl.length = w + 1 by omega, List.getElem?_cons_succ, List.getElem?_map]
          rw [Nat.add_sub_cancel] at k1
          rw [k1]
          exact congrArg some (show a.cut + (β : Int) = ((a.sz + 1 + β : Nat) : Int) by unfold Tr.cut; omega)
        · obtain ⟨y, rfl⟩ : ∃ y, x = a.sz + 1 + y := ⟨x - (a.sz + 1), by omega⟩
          rw [right] at x3
          cases hy : b.rg'[y]? with
          | none => rw [hy] at x3; cases x3
          | some z =>
            rw [hy] at x3
            cases x3
            have := k6 y z (by omega) (by omega) hy
            show rv + 1 ≤ z + 1
            omega
end DL
namespace DL
open PySem
theorem forG_pre {X σ ρ : Type} {f : Nat → X} {S : Nat → σ} {body : X → σ → Option (Lp σ ρ)} : ∀ (m : Nat) {t : List X}, (∀ k, k < m → body (f k) (S k) = some (.nx (S (k + 1)))) → forG body ((List.range m).map f ++ t) (S 0) = forG body t (S m)
  | 0, _, _ => rfl
  | m + 1, t, h => by
    rw [List.range_succ, List.map_append, List.map_singleton, List.append_assoc, forG_pre m fun k hk => h k (by omega)]
    show forG body (f m :: t) (S m) = _
    conv => lhs; unfold forG
    rw [h m (by omega)]
    rfl
theorem cut_m1 {α : Type} (l : List α) : cutD l none (some (-1 : Int)) = l.take (l.length - 1) := by
  have e : HT.sIx l.length l.length (some (-1 : Int)) = l.length - 1 := by
    show (if (-1 : Int) < 0 then ((-1 : Int) + (l.length : Int)).toNat else min (-1 : Int).toNat l.length) = _
    rw [if_pos (by omega)]
    omega
  unfold DL.cutD
  rw [e, HT.sIx_none, List.drop_zero, Nat.sub_zero]
theorem ix_lst {l : List PyData} {k : Nat} (h : k < l.length) : vD (p_ix (.list l) (.int (k : Int))) = some l[k] := by
  have q := o_ixL (f := idD) (l := l) (i := (k : Int)) (a := l[k]) (by rw [atI_nn]; exact List.getElem?_eq_getElem h)
  have e : ls idD l = .list l := congrArg PyData.list (List.map_id' l)
  rw [e] at q
  rw [q]
  rfl
def rn : List Int → List (Int × Int)
  | a :: b :: l => (a + 1, b) :: rn (b :: l)
  | _ => []
theorem rn_len : ∀ c : List Int, (rn c).length = c.length - 1
  | [] => rfl
  | [_] => rfl
  | a :: b :: l => by
    show (rn (b :: l)).length + 1 = l.length + 1 + 1 - 1
    rw [rn_len (b :: l), List.length_cons]
    omega
theorem rn_at : ∀ {c : List Int} {i : Nat} {a b : Int}, c[i]? = some a → c[i + 1]? = some b → (rn c)[i]? = some (a + 1, b)
  | [], _, _, _, h, _ => by simp at h
  | [_], i, _, _, _, k => by simp at k
  | x :: y :: l, 0, a, b, h, k => by
    cases h
    cases k
    rfl
  | x :: y :: l, i + 1, a, b, h, k => rn_at (c := y :: l) (i := i) h k
theorem rn_take : ∀ (c : List Int) (i : Nat), rn (c.take (i + 1)) = (rn c).take i
  | [], i => by simp [rn]
  | [x], i => by simp [rn]
  | x :: y :: l, 0 => rfl
  | x :: y :: l, i + 1 => by
    show (x + 1, y) :: rn ((y :: l).take (i + 1)) = (x + 1, y) :: (rn (y :: l)).take i
    rw [rn_take (y :: l) i]
theorem rn_app : ∀ {c : List Int} {a : Int} (b : Int), c.getLast? = some a → rn (c ++ [b]) = rn c ++ [(a + 1, b)]
  | [], _, _, h => by simp at h
  | [x], a, b, h => by
    cases h
    rfl
  | x :: y :: l, a, b, h => by
    show (x + 1, y) :: rn ((y :: l) ++ [b]) = (x + 1, y) :: (rn (y :: l) ++ [(a + 1, b)])
    rw [rn_app (c := y :: l) b (by rw [← h]; exact (List.getLast?_cons_cons).symm)]
structure Gw (n : Nat) (U : Nat → Tr) (I : Nat → Nat) : Prop where
  z : U 0 = .lf
  lt : ∀ v, v < n → I v < (U v).ch.length
  nx : ∀ v, v < n → U (v + 1) = (U v).app (I v)
/-- the base of version v + 1 -/
def bsU (U : Nat → Tr) (I : Nat → Nat) (v : Nat) : Int := ((U v).ch[I v]?).getD 0
/-- how many runs are poured with entry v + 1 -/
def stU (U : Nat → Tr) (I : Nat → Nat) (v : Nat) : Nat := (U v).ch.length - 1 - I v
section
variable {n : Nat} {U : Nat → Tr} {I : Nat → Nat}
theorem Gw.le (G : Gw n U I) {m : Nat} (h : m ≤ n) : Gw m U I := ⟨G.z, fun v hv => G.lt v (by omega), fun v hv => G.nx v (by omega)⟩
theorem Gw.sz (G : Gw n U I) : ∀ v, v ≤ n → (U v).sz = v
  | 0, _ => by rw [G.z]; rfl
  | v + 1, h => by rw [G.nx v (by omega), Tr.app_sz _ _ (G.lt v (by omega)), G.sz v (by omega)]
theorem Gw.bs (G : Gw n U I) {v : Nat} (h : v < n) : (U v).ch[I v]? = some (bsU U I v) := by
  unfold bsU
  rw [List.getElem?_eq_getElem (G.lt v h)]
  rfl
theorem Gw.ch (G : Gw n U I) {v : Nat} (h : v < n) : (U (v + 1)).ch = (U v).ch.take (I v + 1) ++ [((v + 1 : Nat) : Int)] := by
  rw [G.nx v h, Tr.ch_app _ _ (G.lt v h), G.sz v (by omega)]
  rfl
theorem Gw.pl (G : Gw n U I) : ∀ v, v ≤ n → (U v).pl = (List.range v).map (bsU U I)
  | 0, _ => by rw [G.z]; rfl
  | v + 1, h => by rw [G.nx v (by omega), Tr.app_pl _ _ _ (G.bs (by omega)), G.pl v (by omega), List.range_succ, List.map_append]; rfl
theorem Gw.len (G : Gw n U I) {v : Nat} (h : v ≤ n) : 1 ≤ (U v).ch.length ∧ (U v).ch.length ≤ v + 1 := by
  have := (U v).ch_len
  rw [G.sz v h] at this
  exact this
theorem Gw.last (G : Gw n U I) {v : Nat} (h : v ≤ n) : (U v).ch[(U v).ch.length - 1]? = some (v : Int) := by
  have := (U v).ch_last
  rw [G.sz v h, List.getLast?_eq_getElem?] at this
  exact this
/-- the chain of a version of a chain -/
theorem Gw.up (G : Gw n U I) : ∀ (v : Nat), v ≤ n → ∀ (i : Nat) (x : Int), (U v).ch[i]? = some x → ∃ w, w ≤ v ∧ x = (w : Int) ∧ (U w).ch = (U v).ch.take (i + 1)
  | 0, _, i, x, h => by
    rw [G.z] at h
    have hi : i = 0 := by
      have := (List.getElem?_eq_some_iff.mp h).1
      have e : Tr.lf.ch.length = 1 := rfl
      omega
    subst hi
    cases h
    refine ⟨0, Nat.le_refl _, rfl, ?_⟩
    rw [G.z]
    rfl
  | v + 1, hv, i, x, h => by
    have c := G.ch (v := v) (by omega)
    have lt := G.lt v (by omega)
    have tl : ((U v).ch.take (I v + 1)).length = I v + 1 := by rw [List.length_take]; omega
    by_cases hi : i < I v + 1
    · have h2 : (U v).ch[i]? = some x := by
        rw [c, List.getElem?_append_left (by omega), List.getElem?_take_of_lt hi] at h
        exact h
      obtain ⟨w, w1, w2, w3⟩ := G.up v (by omega) i x h2
      refine ⟨w, by omega, w2, ?_⟩
      rw [w3, c, List.take_append_of_le_length (by omega), List.take_take, Nat.min_eq_left (by omega)]
    · have li := (List.getElem?_eq_some_iff.mp h).1
      rw [c, List.length_append, tl, List.length_singleton] at li
      have e : i = I v + 1 := by omega
      rw [c, List.getElem?_append_right (by omega), e, tl, Nat.sub_self] at h
      cases h
      refine ⟨v + 1, Nat.le_refl _, rfl, ?_⟩
      rw [List.take_of_length_le]
      rw [c, List.length_append, tl, List.length_singleton]
      omega
theorem Gw.base (G : Gw n U I) {v : Nat} (h : v < n) : ∃ w, w ≤ v ∧ bsU U I v = (w : Int) ∧ (U w).ch = (U v).ch.take (I v + 1) := G.up v (by omega) _ _ (G.bs h)
theorem Gw.more (G : Gw n U I) {i : Nat} (h : i < (U n).ch.length) : ∃ U' I', Gw (n + 1) U' I' ∧ (∀ v, v ≤ n → U' v = U v) ∧ (∀ v, v < n → I' v = I v) ∧ I' n = i := by
  refine ⟨fun v => if v ≤ n then U v else (U n).app i, fun v => if v < n then I v else i, ⟨?_, fun v hv => ?_, fun v hv => ?_⟩, fun v hv => if_pos hv, fun v hv => if_pos hv, if_neg (Nat.lt_irrefl n)⟩
  · show (if 0 ≤ n then U 0 else _) = _
    rw [if_pos (Nat.zero_le _), G.z]
  · show (if v < n then I v else i) < (if v ≤ n then U v else _).ch.length
    rw [if_pos (show v ≤ n by omega)]
    by_cases c : v < n
    · rw [if_pos c]
      exact G.lt v c
    · rw [if_neg c, show v = n by omega]
      exact h
  · show (if v + 1 ≤ n then U (v + 1) else (U n).app i) = (if v ≤ n then U v else (U n).app i).app (if v < n then I v else i)
    rw [if_pos (show v ≤ n by omega)]
    by_cases c : v < n
    · rw [if_pos c, if_pos (show v + 1 ≤ n by omega)]
      exact G.nx v c
    · rw [if_neg c, if_neg (show ¬ v + 1 ≤ n by omega), show v = n by omega]
theorem gw_congr {U' : Nat → Tr} {I' : Nat → Nat} {k : Nat} (h1 : ∀ v, v < k → U' v = U v) (h2 : ∀ v, v < k → I' v = I v) : (List.range k).map (bsU U' I') = (List.range k).map (bsU U I) ∧ (List.range k).map (fun v => ((stU U' I' v : Nat) : Int)) = (List.range k).map (fun v => ((stU U I v : Nat) : Int)) := by
  constructor
  · refine List.map_congr_left fun v hv => ?_
    have hv := List.mem_range.mp hv
    unfold bsU
    rw [h1 v hv, h2 v hv]
  · refine List.map_congr_left fun v hv => ?_
    have hv := List.mem_range.mp hv
    unfold stU
    rw [h1 v hv, h2 v hv]
/-- the runs with one more entry -/
theorem Gw.runs (G : Gw n U I) {v : Nat} (h : v < n) : rn (U (v + 1)).ch = (rn (U v).ch).take (I v) ++ [(bsU U I v + 1, ((v + 1 : Nat) : Int))] := by
  have lt := G.lt v h
  rw [G.ch h, rn_app (a := bsU U I v), rn_take]
  rw [List.getLast?_eq_getElem?, List.length_take, Nat.min_eq_left (by omega), Nat.add_sub_cancel, List.getElem?_take_of_lt (by omega)]
  exact G.bs h
theorem Gw.runs_len (G : Gw n U I) {v : Nat} : (rn (U v).ch).length = (U v).ch.length - 1 := rn_len _
theorem Gw.st_le (G : Gw n U I) {v : Nat} (h : v < n) : stU U I v + I v = (U v).ch.length - 1 := by
  have := G.lt v h
  unfold stU
  omega
theorem Gw.rd (G : Gw n U I) {v : Nat} (h : v < n) : (U (v + 1)).ch.length = I v + 2 := by
  have := G.lt v h
  rw [G.ch h, List.length_append, List.length_take, List.length_singleton]
  omega
end
section
variable {n : Nat} {U : Nat → Tr} {I : Nat → Nat}
/-- how many a version reads -/
theorem Gw.rg (G : Gw n U I) : ∀ v, v ≤ n → ((U n).rg')[v]? = some (((U v).ch.length : Int) - 1) := by
  have e : ∀ (t : Tr) (i : Nat), i < t.ch.length → (t.app i).rg' = t.rg' ++ [(i : Int) + 1] := fun t => by
    induction t with
    | lf =>
      intro i h
      have : i = 0 := by
        have e : Tr.lf.ch.length = 1 := rfl
        omega
      subst this
      rfl
    | nd a b _ ih =>
      intro i h
      cases i with
      | zero => rfl
      | succ i =>
        have h2 : i < b.ch.length := by
          have e : (Tr.nd a b).ch.length = b.ch.length + 1 := by
            show (0 :: b.ch.map _).length = _
            rw [List.length_cons, List.length_map]
          omega
        show a.rg' ++ (b.app i).rg'.map (· + 1) = (a.rg' ++ b.rg'.map (· + 1)) ++ [((i + 1 : Nat) : Int) + 1]
        rw [ih i h2, List.map_append, List.append_assoc]
        rfl
  have go : ∀ k v, v ≤ k → k ≤ n → ((U k).rg')[v]? = some (((U v).ch.length : Int) - 1) := fun k => by
    induction k with
    | zero =>
      intro v h _
      have : v = 0 := by omega
      subst this
      rw [G.z]
      rfl
    | succ k ih =>
      intro v h hk
      rw [G.nx k (by omega), e _ _ (G.lt k (by omega))]
      have l : (U k).rg'.length = k + 1 := by rw [Tr.rg_len, G.sz k (by omega)]
      by_cases c : v ≤ k
      · rw [List.getElem?_append_left (by omega)]
        exact ih v c (by omega)
      · have : v = k + 1 := by omega
        subst this
        rw [List.getElem?_append_right (by omega), l, Nat.sub_self, G.rd (by omega)]
        show some _ = some _
        congr 1
        omega
  exact fun v h => go n v h (Nat.le_refl _)
end
end DL
namespace K44
open PySem PySem.Spec PyProof.Rows L2 DL
/-- a pool: its state, the great numbers that are left -/
def plT (st : Int) (gr : List Int) : List Ot := [.im (.int st), .ls (gr.map PyData.int)]
theorem take_read {st : Int} {gr : List Int} {b : Int} (h1 : 0 < b) (h2 : b ≤ 100000) (s1 : 0 ≤ st) (s2 : st < 1000033) :
    ∃ r st' gr', F__law_take (.lst (plT st gr)) [.int b] = some (.int r, .lst (plT st' gr')) ∧ (0 ≤ r ∧ r < b) ∧ 0 ≤ st' ∧ st' < 1000033 := by
  have md : ∀ z : Int, modO z b = some (z % b) := fun z => by
    unfold modO
    rw [if_pos h1]
  have rg : ∀ z : Int, 0 ≤ z % b ∧ z % b < b := fun z => ⟨Int.emod_nonneg _ (by omega), Int.emod_lt_of_pos _ h1⟩
  cases gr with
  | nil =>
    refine ⟨(((st * 5333) % 1000033) / 4) % b, (st * 5333) % 1000033, [], ?_, rg _, Int.emod_nonneg _ (by omega), Int.emod_lt_of_pos _ (by omega)⟩
    refine t_fnW (enc := PyData.int) (r := ((((st * 5333) % 1000033) / 4) % b, plT ((st * 5333) % 1000033) [])) rfl ?_
    show wS _ [some (.ow (.lst (plT st []))), im (.int b), none, none] _
    refine w_seq (w_al rfl rfl rfl rfl ?_)
    show wS _ [some (.ow (.lst (plT st []))), im (.int b), some (.ow (.al 0 1)), none] _
    refine w_seq (w_if (b := false) (bang (binX (cbX (dX (vB2 rfl) d0 rfl) (o_lenL (f := PyData.int) (l := []))) cI rfl rfl e_qgt)) (fun hc => by cases hc) (fun _ => ?_))
    refine w_nx ?_
    show wS _ [some (.ow (.lst (plT st []))), im (.int b), some (.ow (.al 0 1)), none] _
    refine w_seq (w_owS (d := .int ((st * 5333) % 1000033)) (binX (cbX (dX (binX (owI rfl cI rfl rfl rfl) cI rfl rfl (e_mul (.inr (by decide)))) d0 rfl) o_int) cI rfl rfl (e_mod (by decide))) rfl rfl cI rfl rfl rfl ?_)
    show wS _ [some (.ow (.lst (plT ((st * 5333) % 1000033) []))), im (.int b), some (.ow (.al 0 1)), none] _
    refine w_seq (w_ret (binX (cbX (dX (binX (owI rfl cI rfl rfl rfl) cI rfl rfl (e_div (by decide) (by decide))) d0 rfl) o_int) (vI rfl) rfl rfl (o_mod (md _))) ?_)
    exact ⟨rfl, _, rfl⟩
  | cons g rest =>
    have goal : ∀ {gr' : List Int}, wS g__law_take (envW (.lst (plT st (g :: rest))) [.int b] 2) (RK (rtW PyData.int) (g % b, plT st gr')) → ∃ r st' gr', F__law_take (.lst (plT st (g :: rest))) [.int b] = some (.int r, .lst (plT st' gr')) ∧ (0 ≤ r ∧ r < b) ∧ 0 ≤ st' ∧ st' < 1000033 := fun {gr'} w => ⟨g % b, st, gr', t_fnW (enc := PyData.int) (r := (g % b, plT st gr')) rfl w, rg g, s1, s2⟩
    have ix0 : ixN ((g :: rest).map PyData.int).length 0 = some 0 := by
      exact ixN_nat (j := 0) (by rw [List.length_map, List.length_cons]; omega)
    have sx0 : seqIndex? 0 ((g / b :: rest).map PyData.int).length = some 0 := by
      simp [seqIndex?]
    have pre : ∀ {Q : Fl → Prop}, (g / b = 0 → Q (.rt (.im (.int (g % b))) [some (.ow (.lst (plT st rest))), im (.int b), some (.ow (.al 0 1)), im (.int g)])) → (¬ g / b = 0 → Q (.rt (.im (.int (g % b))) [some (.ow (.lst (plT st (g / b :: rest)))), im (.int b), some (.ow (.al 0 1)), im (.int g)])) → wS g__law_take (envW (.lst (plT st (g :: rest))) [.int b] 2) Q := by
      intro Q q1 q2
      show wS _ [some (.ow (.lst (plT st (g :: rest)))), im (.int b), none, none] _
      refine w_seq (w_al rfl rfl rfl rfl ?_)
      show wS _ [some (.ow (.lst (plT st (g :: rest)))), im (.int b), some (.ow (.al 0 1)), none] _
      refine w_seq (w_if (b := decide ((0 : Int) < ((g :: rest).length : Int))) (bang (binX (cbX (dX (vB2 rfl) d0 rfl) (o_lenL (f := PyData.int) (l := g :: rest))) cI rfl rfl e_qgt)) (fun hc => ?_) (fun hc => ?_))
      · refine w_seq (t_set (f := PyData.int) (v := g) (w := g) rfl (binX (vB2 rfl) cI rfl rfl (o_ixL (f := PyData.int) (l := g :: rest) (atI_nn (k := 0)))) rfl ?_)
        show wS _ [some (.ow (.lst (plT st (g :: rest)))), im (.int b), some (.ow (.al 0 1)), im (.int g)] _
        refine w_seq (w_alS (m := 0) (d := .int (g / b)) (z := (0 : Int)) (l := 0) (i := 0) (k := 1) (ts := plT st (g :: rest)) (ds := (g :: rest).map PyData.int) (binX (vI rfl) (vI rfl) rfl rfl (o_div (k := g / b) (divO_ok h1 (by omega)))) rfl rfl cI (alD_of rfl rfl rfl) ix0 ?_)
        show wS _ [some (.ow (.lst (plT st (g / b :: rest)))), im (.int b), some (.ow (.al 0 1)), im (.int g)] _
        refine w_seq (w_if (b := decide (g / b = 0)) (bang (binX (binX (vB2 rfl) cI rfl rfl (o_ixL (f := PyData.int) (l := g / b :: rest) (atI_nn (k := 0)))) cI rfl rfl e_eq)) (fun hc => ?_) (fun hc => ?_))
        · refine w_drop (alP rfl cI (alD_of rfl rfl rfl) (by omega) sx0 rfl) ?_
          show wS _ [some (.ow (.lst (plT st rest))), im (.int b), some (.ow (.al 0 1)), im (.int g)] _
          refine w_seq (w_ret (binX (cbX (dX (vI rfl) d0 rfl) o_int) (vI rfl) rfl rfl (o_mod (md _))) ?_)
          exact q1 (of_decide_eq_true hc)
        · refine w_nx ?_
          show wS _ [some (.ow (.lst (plT st (g / b :: rest)))), im (.int b), some (.ow (.al 0 1)), im (.int g)] _
          refine w_seq (w_ret (binX (cbX (dX (vI rfl) d0 rfl) o_int) (vI rfl) rfl rfl (o_mod (md _))) ?_)
          exact q2 (of_decide_eq_false hc)
      · exact absurd (of_decide_eq_false hc) (by rw [List.length_cons]; omega)
    by_cases c : g / b = 0
    · exact goal (gr' := rest) (pre (fun _ => ⟨rfl, _, rfl⟩) fun n => absurd c n)
    · exact goal (gr' := g / b :: rest) (pre (fun y => absurd y c) fun _ => ⟨rfl, _, rfl⟩)
theorem owc {f : Fs} {g : Ev → Option (List Ot)} {e e1 : Ev} {r : Option (List Ot)} (h : f e = some (.nx e1)) (k : g e1 = r) : ow_cons f g e = r := by
  unfold ow_cons
  rw [h]
  exact k
theorem pool_read (ns : List Int) (hl : ns.length ≤ 63) : ∃ st gr, F__law_pool [.list (ns.map PyData.int)] = some (plT st gr) ∧ 0 ≤ st ∧ st < 1000033 := by
  obtain ⟨S, S0, Sn⟩ : ∃ S : Nat → Int, S 0 = 0 ∧ ∀ k, S (k + 1) = (S k * 41 + gv ns (k + 1) % 6007 + 13) % 1000033 := ⟨fun k => Nat.rec 0 (fun k s => (s * 41 + gv ns (k + 1) % 6007 + 13) % 1000033) k, rfl, fun _ => rfl⟩
  obtain ⟨O, O0, On⟩ : ∃ O : Nat → Option Sl, O 0 = none ∧ ∀ k, O (k + 1) = im (.int (gv ns (k + 1))) := ⟨fun k => Nat.rec none (fun k _ => im (.int (gv ns (k + 1)))) k, rfl, fun _ => rfl⟩
  have bnd : ∀ k, 0 ≤ S k ∧ S k < 1000033 := fun k => by
    cases k with
    | zero =>
      rw [S0]
      omega
    | succ k =>
      rw [Sn]
      exact ⟨Int.emod_nonneg _ (by omega), Int.emod_lt_of_pos _ (by omega)⟩
  have Ok : ∀ k, O k = none ∨ ∃ z : Int, O k = im (.int z) := fun k => by
    cases k with
    | zero => exact .inl O0
    | succ k => exact .inr ⟨_, On k⟩
  have run := forGo_nx (γ := g_name 2) (S := [2]) (fb := s_set 1 (x_bin p_mod (x_bin p_add (x_bin p_add (x_bin p_mul (x_var 1) (x_c (.int 41))) (x_bin p_mod (x_cb c_int (a_cons (x_var 2) a_nil)) (x_c (.int 6007)))) (x_c (.int 13))) (x_c (.int 1000033)))) (ns.map PyData.int) (fun k => [im (.list (ns.map PyData.int)), im (.int (S k)), O k]) fun i d h => by
    have hi : i < ns.length := by
      have := (List.getElem?_eq_some_iff.mp h).1
      rw [List.length_map] at this
      exact this
    rw [List.getElem?_map, gv_get hi] at h
    cases h
    refine ⟨?_, [im (.list (ns.map PyData.int)), im (.int (S i)), im (.int (gv ns (i + 1)))], ?_, .inl ?_⟩
    · rcases Ok i with o | ⟨z, o⟩ <;> rw [o] <;> rfl
    · rfl
    · rw [Sn, On]
      exact setX (binX (binX (binX (binX (vI rfl) cI rfl rfl (e_mul (.inr (by decide)))) (binX (cbX (dX (vI rfl) d0 rfl) o_int) cI rfl rfl (e_mod (by decide))) rfl rfl e_add) cI rfl rfl e_add) cI rfl rfl (e_mod (by decide))) rfl rfl
  rw [List.length_map] at run
  rw [S0, O0] at run
  obtain ⟨gr, hg⟩ : ∃ gr, gr = ((ns.filter fun c => decide ((10 : Int) ^ 18 ≤ if c < 0 then -c else c)).map fun c => if c < 0 then -c else c) := ⟨_, rfl⟩
  have h1 : lcC (fun c : Int => some (decide ((10 : Int) ^ 18 ≤ if c < 0 then -c else c))) (fun c : Int => some (if c < 0 then -c else c)) ns = some gr := by
    rw [hg]
    exact lcC_fm (by omega) (fun _ _ => rfl) fun _ _ _ => rfl
  refine ⟨S ns.length, gr, ?_, bnd _⟩
  show g__law_pool [im (.list (ns.map PyData.int)), none, none] = _
  unfold g__law_pool
  have e0 : s_set 1 (x_c (.int 0)) [im (.list (ns.map PyData.int)), none, none] = some (.nx [im (.list (ns.map PyData.int)), im (.int 0), none]) := setX cI rfl rfl
  refine owc e0 ?_
  have e1 : s_for (i_seq (x_var 0)) (g_name 2) [2] (s_set 1 (x_bin p_mod (x_bin p_add (x_bin p_add (x_bin p_mul (x_var 1) (x_c (.int 41))) (x_bin p_mod (x_cb c_int (a_cons (x_var 2) a_nil)) (x_c (.int 6007)))) (x_c (.int 13))) (x_c (.int 1000033)))) [im (.list (ns.map PyData.int)), im (.int 0), none] = some (.nx [im (.list (ns.map PyData.int)), im (.int (S ns.length)), O ns.length]) := by
    rw [r_s_for, seqLX (f := PyData.int) (l := ns) (vI rfl)]
    exact run
  refine owc e1 ?_
  have h2 : x_lc (i_seq (x_var 0)) (g_name 2) (t_of (x_bin q_ge (x_cb c_abs (a_cons (x_cb c_int (a_cons (x_var 2) a_nil)) a_nil)) (x_bin p_pow (x_c (.int 10)) (x_c (.int 18))))) (x_cb c_abs (a_cons (x_cb c_int (a_cons (x_var 2) a_nil)) a_nil)) [2] [im (.list (ns.map PyData.int)), im (.int (S ns.length)), O ns.length] = some (.ac (gr.map PyData.int), [im (.list (ns.map PyData.int)), im (.int (S ns.length)), O ns.length]) := by
    have no : noAc [im (.list (ns.map PyData.int)), im (.int (S ns.length)), O ns.length] [2] = true := by
      rcases Ok ns.length with o | ⟨z, o⟩ <;> rw [o] <;> rfl
    exact lcX (enc := PyData.int) (encB := PyData.int) h1 (seqLX (f := PyData.int) (l := ns) (vI rfl)) no (fun x _ => ⟨_, rfl, rfl, fun _ hq => (by have hq := Option.some.inj hq; subst hq; exact bang (binX (cbX (dX (cbX (dX (vI rfl) d0 rfl) o_int) d0 rfl) o_abs) (binX cI cI rfl rfl (o_pow (k := (10 : Int) ^ 18) (by decide +kernel))) rfl rfl e_qge)), fun _ _ hq => (by have hq := Option.some.inj hq; subst hq; exact ⟨_, cbX (dX (cbX (dX (vI rfl) d0 rfl) o_int) d0 rfl) o_abs, rfl, rfl⟩)⟩)
  have h4 : b_cons (x_var 1) (b_cons (x_lc (i_seq (x_var 0)) (g_name 2) (t_of (x_bin q_ge (x_cb c_abs (a_cons (x_cb c_int (a_cons (x_var 2) a_nil)) a_nil)) (x_bin p_pow (x_c (.int 10)) (x_c (.int 18))))) (x_cb c_abs (a_cons (x_cb c_int (a_cons (x_var 2) a_nil)) a_nil)) [2]) a_nil) [im (.list (ns.map PyData.int)), im (.int (S ns.length)), O ns.length] = some ([.im (.int (S ns.length)), .ac (gr.map PyData.int)], [im (.list (ns.map PyData.int)), im (.int (S ns.length)), O ns.length]) :=
    bcX (vI rfl) (bcX h2 rfl)
  show ow_ret _ _ = _
  unfold ow_ret
  rw [h4]
  rfl
end K44
namespace K44
open PySem PySem.Spec PyProof.Rows L2 DL
def gT__law_refusal : Fs :=
  (s_seq (noX (x_tryT (x_ifS (t_of (x_bin p_eq (x_var 0) (x_c (.int 0))))
  (x_drop (x_callX FX_pouring_of [] (a_cons (x_var 1) a_nil)))
  (x_ifS (t_of (x_bin p_eq (x_var 0) (x_c (.int 1))))
  (x_drop (x_callX FX_plan_poured [] (a_cons (x_var 1) a_nil)))
  (x_ifS (t_of (x_bin p_eq (x_var 0) (x_c (.int 2))))
  (x_drop (x_callX FX_standing_after [] (a_cons (x_var 1) (a_cons (x_var 2) a_nil))))
  (x_drop (x_callX FX_poured_counts [] (a_cons (x_var 1) a_nil)))))) (tabF xtab "NotUsable") 3 (fun k fs =>
  (s_seq (s_if (t_not (t_of (x_call F__law_same [] (a_cons (x_fldT xok k fs "at") (a_cons (x_neg (x_c (.int 1))) a_nil)))))
  (s_ret (x_c (.str "no")))
  s_nx)
  (s_seq (s_ret (x_fldT xok k fs "word"))
  s_nx)))))
  (s_seq (s_ret (x_c (.str "let")))
  s_nx))
def FT__law_refusal : List PyData → Option Rs := runF 3 1 gT__law_refusal
theorem tw__law_refusal : ∀ ds r, FT__law_refusal ds = some r → F__law_refusal ds = some r := by
  refine DL.le_runF ?_
  unfold gT__law_refusal g__law_refusal
  repeat' (first
    | (with_reducible exact DL.le_refl)
    | (with_reducible apply DL.le_seq)
    | (with_reducible apply DL.le_if)
    | (with_reducible apply DL.le_for)
    | (with_reducible apply DL.le_iseq)
    | (with_reducible apply DL.le_ret)
    | (with_reducible apply DL.le_drop)
    | (with_reducible apply DL.le_setF)
    | (with_reducible apply DL.le_set)
    | (with_reducible apply DL.le_fz)
    | (with_reducible apply DL.le_noX)
    | (with_reducible apply DL.le_tof)
    | (with_reducible apply DL.le_tnot)
    | (with_reducible apply DL.le_tor)
    | (with_reducible apply DL.le_tand)
    | (with_reducible apply DL.le_bin)
    | (with_reducible apply DL.le_cb)
    | (with_reducible apply DL.le_cons)
    | (with_reducible apply DL.le_tup)
    | (with_reducible apply DL.le_lst)
    | (with_reducible apply DL.le_xnot)
    | (with_reducible apply DL.le_xand)
    | (with_reducible apply DL.le_xor)
    | (with_reducible apply DL.le_call (fun _ _ h => h))
    | (with_reducible refine DL.le_try fun k a dd fs ds => ?_)
    | (with_reducible exact DL.sm_c)
    | (with_reducible exact DL.sm_nil)
    | (with_reducible exact DL.sm_nx)
    | (with_reducible exact DL.sm_fld)
    | (with_reducible exact DL.sm_var)
    | (with_reducible apply DL.sm_seq)
    | (with_reducible apply DL.sm_if)
    | (with_reducible apply DL.sm_ret)
    | (with_reducible apply DL.sm_tof)
    | (with_reducible apply DL.sm_tnot)
    | (with_reducible apply DL.sm_tor)
    | (with_reducible apply DL.sm_tand)
    | (with_reducible apply DL.sm_bin)
    | (with_reducible apply DL.sm_cons)
    | (with_reducible apply DL.sm_tup)
    | (with_reducible apply DL.sm_call)
    | (with_reducible apply DL.sm_neg))
def gT__law_refusals : Fs :=
  (s_seq (s_for (i_seq (x_lst (a_cons (x_lst (a_cons (x_c (.int 0)) a_nil)) (a_cons (x_tup (a_cons (x_c (.int 1)) a_nil)) (a_cons (x_tup (a_cons (x_c (.int 0)) (a_cons (x_c (.int 2)) a_nil))) (a_cons (x_tup (a_cons (x_c (.int 0)) (a_cons (x_c (.int 1)) (a_cons (x_c (.int 2)) a_nil)))) (a_cons (x_tup (a_cons (x_c (.bool true)) a_nil)) (a_cons (x_tup (a_cons (x_c (.int 0)) (a_cons (x_c (.bool true)) a_nil))) (a_cons (x_tup (a_cons (x_neg (x_c (.int 1))) a_nil)) (a_cons (x_c .none) (a_cons (x_c (.int 0)) (a_cons (x_tup (a_cons (x_tup (a_cons (x_c (.int 0)) a_nil)) a_nil)) (a_cons (x_tup (a_cons (x_c (.str "0")) a_nil)) (a_cons (x_tup (a_cons (x_c (.int 0)) (a_cons (x_c (.int 0)) (a_cons (x_c (.int 3)) a_nil)))) (a_cons (x_tup (a_cons (x_c (.int 0)) (a_cons (x_c (.int 0)) (a_cons (x_c (.int 2)) (a_cons (x_c (.int 2)) a_nil))))) (a_cons (x_tup (a_cons (x_c (.bool false)) a_nil)) (a_cons (x_c (.str "0")) (a_cons (x_tup (a_cons (x_c (.int 0)) (a_cons (x_c (.int 1234567890123456789)) a_nil))) (a_cons (x_tup (a_cons (x_c (.int 0)) (a_cons (x_c .none) a_nil))) (a_cons (x_lst (a_cons (x_c (.int 0)) (a_cons (x_c (.int 1)) a_nil))) a_nil)))))))))))))))))))) (g_name 0) [0]
  (s_seq (s_if (t_of (x_bin p_isnot (x_call F_is_pouring [] (a_cons (x_var 0) a_nil)) (x_c (.bool false))))
  (s_ret (x_c (.bool false)))
  s_nx)
  (s_seq (s_for (i_rng2 (x_c (.int 1)) (x_c (.int 4))) (g_name 2) [2]
  (s_if (t_of (x_bin p_ne (x_call FT__law_refusal [] (a_cons (x_var 2) (a_cons (x_var 0) (a_cons (x_neg (x_c (.int 1))) a_nil)))) (x_c (.str "pouring"))))
  (s_ret (x_c (.bool false)))
  s_nx))
  s_nx)))
  (s_seq (s_for (i_seq (x_lst (a_cons (x_tup a_nil) (a_cons (x_tup (a_cons (x_c (.int 0)) a_nil)) (a_cons (x_tup (a_cons (x_c (.int 0)) (a_cons (x_c (.int 1)) a_nil))) (a_cons (x_tup (a_cons (x_c (.int 0)) (a_cons (x_c (.int 1)) (a_cons (x_c (.int 1)) a_nil)))) (a_cons (x_tup (a_cons (x_c (.int 0)) (a_cons (x_c (.int 0)) (a_cons (x_c (.int 2)) (a_cons (x_c (.int 1)) a_nil))))) (a_cons (x_tup (a_cons (x_c (.int 0)) (a_cons (x_c (.int 0)) (a_cons (x_c (.int 0)) (a_cons (x_c (.int 3)) (a_cons (x_c (.int 1)) (a_cons (x_c (.int 0)) (a_cons (x_c (.int 2)) a_nil)))))))) (a_cons (x_tup (a_cons (x_c (.int 0)) (a_cons (x_c (.int 0)) (a_cons (x_c (.int 0)) (a_cons (x_c (.int 0)) (a_cons (x_c (.int 4)) a_nil)))))) a_nil))))))))) (g_name 1) [1]
  (s_seq (s_if (t_or (t_of (x_bin p_isnot (x_call F_is_pouring [] (a_cons (x_var 1) a_nil)) (x_c (.bool true)))) (t_of (x_bin p_ne (x_call FT__law_refusal [] (a_cons (x_c (.int 1)) (a_cons (x_var 1) (a_cons (x_c (.int 0)) a_nil)))) (x_c (.str "let")))))
  (s_ret (x_c (.bool false)))
  s_nx)
  (s_seq (s_if (t_of (x_bin p_ne (x_call FT__law_refusal [] (a_cons (x_c (.int 2)) (a_cons (x_var 1) (a_cons (x_cb c_len (a_cons (x_var 1) a_nil)) a_nil)))) (x_c (.str "let"))))
  (s_ret (x_c (.bool false)))
  s_nx)
  (s_seq (s_if (t_or (t_of (x_bin p_ne (x_call FT__law_refusal [] (a_cons (x_c (.int 3)) (a_cons (x_var 1) (a_cons (x_c (.int 0)) a_nil)))) (x_c (.str "let")))) (t_of (x_bin p_ne (x_call FT__law_refusal [] (a_cons (x_c (.int 2)) (a_cons (x_var 1) (a_cons (x_c (.int 0)) a_nil)))) (x_c (.str "let")))))
  (s_ret (x_c (.bool false)))
  s_nx)
  (s_seq (s_for (i_seq (x_lst (a_cons (x_bin p_add (x_cb c_len (a_cons (x_var 1) a_nil)) (x_c (.int 1))) (a_cons (x_neg (x_c (.int 1))) (a_cons (x_c (.bool true)) (a_cons (x_c .none) (a_cons (x_c (.str "0")) (a_cons (x_tup (a_cons (x_c (.int 0)) a_nil)) (a_cons (x_c (.bool false)) a_nil))))))))) (g_name 0) [0]
  (s_if (t_of (x_bin p_ne (x_call FT__law_refusal [] (a_cons (x_c (.int 2)) (a_cons (x_var 1) (a_cons (x_var 0) a_nil)))) (x_c (.str "number"))))
  (s_ret (x_c (.bool false)))
  s_nx))
  s_nx)))))
  (s_seq (s_for (i_seq (x_lst (a_cons (x_tup (a_cons (x_c (.int 0)) (a_cons (x_c (.int 0)) (a_cons (x_c (.int 1)) a_nil)))) (a_cons (x_tup (a_cons (x_c (.int 1)) a_nil)) (a_cons (x_tup (a_cons (x_c (.int 0)) (a_cons (x_c (.int 2)) a_nil))) (a_cons (x_lst (a_cons (x_c (.int 0)) (a_cons (x_c (.int 1)) a_nil))) (a_cons (x_tup (a_cons (x_c (.int 0)) (a_cons (x_c (.bool true)) a_nil))) (a_cons (x_tup (a_cons (x_c (.bool false)) a_nil)) (a_cons (x_c .none) (a_cons (x_c (.int 0)) (a_cons (x_tup (a_cons (x_neg (x_c (.int 1))) a_nil)) (a_cons (x_tup (a_cons (x_c (.int 0)) (a_cons (x_c (.int 1)) (a_cons (x_c (.int 2)) (a_cons (x_c (.int 1)) (a_cons (x_c (.int 2)) a_nil)))))) (a_cons (x_tup (a_cons (x_c (.str "0")) a_nil)) a_nil))))))))))))) (g_name 0) [0]
  (s_if (t_of (x_bin p_ne (x_call FT__law_refusal [] (a_cons (x_c (.int 0)) (a_cons (x_var 0) (a_cons (x_c (.int 0)) a_nil)))) (x_c (.str "bases"))))
  (s_ret (x_c (.bool false)))
  s_nx))
  (s_seq (s_for (i_seq (x_lst (a_cons (x_tup a_nil) (a_cons (x_tup (a_cons (x_c (.int 0)) a_nil)) (a_cons (x_tup (a_cons (x_c (.int 0)) (a_cons (x_c (.int 0)) a_nil))) (a_cons (x_tup (a_cons (x_c (.int 0)) (a_cons (x_c (.int 1)) a_nil))) (a_cons (x_tup (a_cons (x_c (.int 0)) (a_cons (x_c (.int 1)) (a_cons (x_c (.int 1)) a_nil)))) (a_cons (x_tup (a_cons (x_c (.int 0)) (a_cons (x_c (.int 1)) (a_cons (x_c (.int 0)) (a_cons (x_c (.int 3)) (a_cons (x_c (.int 3)) a_nil)))))) (a_cons (x_tup (a_cons (x_c (.int 0)) (a_cons (x_c (.int 1)) (a_cons (x_c (.int 2)) (a_cons (x_c (.int 1)) (a_cons (x_c (.int 1)) a_nil)))))) a_nil))))))))) (g_name 1) [1]
  (s_if (t_of (x_bin p_ne (x_call FT__law_refusal [] (a_cons (x_c (.int 0)) (a_cons (x_var 1) (a_cons (x_c (.int 0)) a_nil)))) (x_c (.str "let"))))
  (s_ret (x_c (.bool false)))
  s_nx))
  (s_seq (s_if (t_or (t_of (x_bin p_isnot (x_call F_is_pouring [] (a_cons (x_bin p_repT (x_tup (a_cons (x_c (.int 0)) a_nil)) (x_c (.int 20))) a_nil)) (x_c (.bool true)))) (t_of (x_bin p_isnot (x_call F_is_pouring [] (a_cons (x_bin p_add (x_bin p_repT (x_tup (a_cons (x_c (.int 0)) a_nil)) (x_c (.int 19))) (x_tup (a_cons (x_c (.int 20)) a_nil))) a_nil)) (x_c (.bool false)))))
  (s_ret (x_c (.bool false)))
  s_nx)
  (s_seq (s_ret (x_and (x_bin p_is (x_call F_is_pouring [] (a_cons (x_bin p_repT (x_tup (a_cons (x_c (.int 0)) a_nil)) (x_c (.int 60))) a_nil)) (x_c (.bool true))) (x_bin p_is (x_call F_is_pouring [] (a_cons (x_bin p_add (x_bin p_repT (x_tup (a_cons (x_c (.int 0)) a_nil)) (x_c (.int 59))) (x_tup (a_cons (x_c (.int 60)) a_nil))) a_nil)) (x_c (.bool false)))))
  s_nx))))))
def FT__law_refusals : List PyData → Option Rs := runF 0 3 gT__law_refusals
theorem tw__law_refusals : ∀ ds r, FT__law_refusals ds = some r → F__law_refusals ds = some r := by
  refine DL.le_runF ?_
  unfold gT__law_refusals g__law_refusals
  repeat' (first
    | (with_reducible exact DL.le_refl)
    | (with_reducible apply DL.le_call tw__law_refusal)
    | (with_reducible apply DL.le_seq)
    | (with_reducible apply DL.le_if)
    | (with_reducible apply DL.le_for)
    | (with_reducible apply DL.le_iseq)
    | (with_reducible apply DL.le_ret)
    | (with_reducible apply DL.le_drop)
    | (with_reducible apply DL.le_setF)
    | (with_reducible apply DL.le_set)
    | (with_reducible apply DL.le_fz)
    | (with_reducible apply DL.le_noX)
    | (with_reducible apply DL.le_tof)
    | (with_reducible apply DL.le_tnot)
    | (with_reducible apply DL.le_tor)
    | (with_reducible apply DL.le_tand)
    | (with_reducible apply DL.le_bin)
    | (with_reducible apply DL.le_cb)
    | (with_reducible apply DL.le_cons)
    | (with_reducible apply DL.le_tup)
    | (with_reducible apply DL.le_lst)
    | (with_reducible apply DL.le_xnot)
    | (with_reducible apply DL.le_xand)
    | (with_reducible apply DL.le_xor)
    | (with_reducible apply DL.le_call (fun _ _ h => h))
    | (with_reducible refine DL.le_try fun k a dd fs ds => ?_)
    | (with_reducible exact DL.sm_c)
    | (with_reducible exact DL.sm_nil)
    | (with_reducible exact DL.sm_nx)
    | (with_reducible exact DL.sm_fld)
    | (with_reducible exact DL.sm_var)
    | (with_reducible apply DL.sm_seq)
    | (with_reducible apply DL.sm_if)
    | (with_reducible apply DL.sm_ret)
    | (with_reducible apply DL.sm_tof)
    | (with_reducible apply DL.sm_tnot)
    | (with_reducible apply DL.sm_tor)
    | (with_reducible apply DL.sm_tand)
    | (with_reducible apply DL.sm_bin)
    | (with_reducible apply DL.sm_cons)
    | (with_reducible apply DL.sm_tup)
    | (with_reducible apply DL.sm_call)
    | (with_reducible apply DL.sm_neg))
end K44
namespace K44
open PySem PySem.Spec PyProof.Rows L2 DL
theorem refusals_read : F__law_refusals [] = some (.im (.bool true)) := tw__law_refusals _ _ (by kernel_rfl)
end K44
namespace K44
open PySem PySem.Spec PyProof.Rows L2 DL
theorem is_num {i : Int} (h : 0 ≤ i) : f_is_number i = some true := by
  unfold f_is_number f_is_integer
  show some (true && decide ((0 : Int) ≤ i)) = _
  rw [decide_eq_true h]
  rfl
theorem pops (thing : List Int) (version base : Int) : ∀ (n : Nat) (R : List Int) (Q : List Int) (N : Nat), R.length = n → (∀ x ∈ R, base < x) → R.length < N →
    whS (fun (chain_ : List Int) => f_is_nested_L2c thing version base chain_) (fun (chain_ : List Int) => f_is_nested_L2 thing version base chain_) N (Q ++ [base] ++ R) = some (Q ++ [base])
  | 0, R, Q, N, hl, _, hN => by
    have : R = [] := List.length_eq_zero_iff.mp hl
    subst this
    obtain ⟨M, rfl⟩ : ∃ M, N = M + 1 := ⟨N - 1, by simp at hN; omega⟩
    rw [List.append_nil]
    refine whF ?_
    unfold f_is_nested_L2c
    refine bs (atI_end Q base) ?_
    rw [decide_eq_false (by omega)]
  | n + 1, R, Q, N, hl, h, hN => by
    rcases List.eq_nil_or_concat R with h0 | ⟨R', x, h0⟩
    · rw [h0] at hl
      cases hl
    · rw [List.concat_eq_append] at h0
      rw [h0, List.length_append, List.length_singleton] at hl hN
      subst h0
      obtain ⟨M, rfl⟩ : ∃ M, N = M + 1 := ⟨N - 1, by omega⟩
      rw [← List.append_assoc]
      refine whT ?_ ?_ (pops thing version base n R' Q M (by omega) (fun y m => h y (List.mem_append_left _ m)) (by omega))
      · unfold f_is_nested_L2c
        refine bs (atI_end _ x) ?_
        rw [decide_eq_true (h x (List.mem_append_right _ (List.mem_singleton.mpr rfl)))]
      · unfold f_is_nested_L2
        exact bs (popO_ok _ _) rfl
theorem nest (thing : List Int) : ∀ (t : Tr) (P : List Int) (s : Nat), P.length + t.sz ≤ 1000000 → t.sz ≤ 250 →
    forS (nxO fun x_1 (s_ : List Int × Int) => f_is_nested_L1 thing x_1 s_.1 s_.2) (t.pl.map fun x => (s : Int) + x) (P ++ [(s : Int)], (s : Int)) = some (P ++ t.ch.map (fun x => (s : Int) + x), ((s + t.sz : Nat) : Int))
  | .lf, P, s, _, _ => by
    show some (P ++ [(s : Int)], (s : Int)) = some (P ++ [(s : Int) + 0], ((s + 0 : Nat) : Int))
    rw [Int.add_zero, Nat.add_zero]
  | .nd a b, P, s, h, h2 => by
    have hz : (Tr.nd a b).sz = a.sz + b.sz + 1 := rfl
    rw [hz] at h h2
    have e : (Tr.nd a b).pl.map (fun x => (s : Int) + x) = a.pl.map (fun x => (s : Int) + x) ++ (s : Int) :: b.pl.map (fun x => ((s + a.sz + 1 : Nat) : Int) + x) := by
      show (a.pl ++ 0 :: b.pl.map fun x => a.cut + x).map _ = _
      rw [List.map_append, List.map_cons, List.map_map, Int.add_zero]
      congr 2
      refine List.map_congr_left fun x _ => ?_
      show (s : Int) + (a.cut + x) = _
      unfold Tr.cut
      omega
    rw [e]
    refine forS_to (nest thing a P s (by omega) (by omega)) (forS_cons (s' := ((P ++ [(s : Int)]) ++ [((s + a.sz + 1 : Nat) : Int)], ((s + a.sz + 1 : Nat) : Int))) ?_ ?_)
    · refine nxO_ok ?_
      obtain ⟨R, hR, hp, hl⟩ := a.ch_tail
      have e2 : P ++ a.ch.map (fun x => (s : Int) + x) = P ++ [(s : Int)] ++ R.map (fun x => (s : Int) + x) := by
        rw [hR, List.map_cons, Int.add_zero, List.append_assoc]
        rfl
      unfold f_is_nested_L1
      refine bs rfl (bs (is_num (by omega)) (iF rfl (bs (a := P ++ [(s : Int)]) ?_ (bs (atI_end P _) (iF (ne_no rfl) (bs (appO_ok ?_) ?_))))))
      · dsimp only
        rw [e2]
        refine pops thing _ _ _ _ _ _ rfl (fun x m => ?_) (by rw [List.length_map]; omega)
        obtain ⟨y, hy, rfl⟩ := List.mem_map.mp m
        have := hp y hy
        show (s : Int) < (s : Int) + y
        omega
      · rw [List.length_append, List.length_singleton]
        omega
      · show some (Lp.nx (P ++ [(s : Int)] ++ [((s + a.sz : Nat) : Int) + 1], ((s + a.sz : Nat) : Int) + 1)) = _
        rw [show ((s + a.sz : Nat) : Int) + 1 = ((s + a.sz + 1 : Nat) : Int) by omega]
    · have k := nest thing b (P ++ [(s : Int)]) (s + a.sz + 1) (by rw [List.length_append, List.length_singleton]; omega) (by omega)
      rw [k]
      congr 1
      refine Prod.ext ?_ ?_
      · show P ++ [(s : Int)] ++ b.ch.map _ = P ++ (0 :: b.ch.map fun x => a.cut + x).map _
        rw [List.map_cons, Int.add_zero, List.map_map, List.append_assoc]
        congr 1
        show (s : Int) :: b.ch.map _ = _
        congr 1
        refine List.map_congr_left fun x _ => ?_
        show ((s + a.sz + 1 : Nat) : Int) + x = (s : Int) + (a.cut + x)
        unfold Tr.cut
        omega
      · show ((s + a.sz + 1 + b.sz : Nat) : Int) = ((s + (Tr.nd a b).sz : Nat) : Int)
        rw [hz]
        omega
theorem is_nest {t : Tr} (h : t.sz ≤ 250) : f_is_nested t.pl = some true := by
  unfold f_is_nested
  have k := nest t.pl t [] 0 (by simp; omega) h
  rw [show t.pl.map (fun x => ((0 : Nat) : Int) + x) = t.pl from by
    rw [show (fun x : Int => ((0 : Nat) : Int) + x) = fun x => x from by funext x; omega]
    exact List.map_id' _] at k
  refine iF rfl (bs rfl (bs rfl ?_))
  exact (thenL_nx (forG_of k)).trans rfl
theorem n_plan {w : Str} {t : Tr} (h : t.sz ≤ 250) : f_need_plan w t.pl = some () := by
  unfold f_need_plan
  exact bs (is_nest h) (iF rfl rfl)
theorem rd_go {body : Int → List Int → Option (List Int)} (hb : ∀ x r, body x r = (atI r x).bind fun t3 => (appO r (t3 + (1 : Int))).bind fun r4 => some r4) : ∀ (t : Tr) (P : List Int) (r0 : Int), P.length + t.sz ≤ 1000000 →
    forS body (t.pl.map fun x => (P.length : Int) + x) (P ++ [r0]) = some (P ++ t.rg'.map fun x => r0 + x)
  | .lf, P, r0, _ => by
    show some (P ++ [r0]) = some (P ++ [r0 + 0])
    rw [Int.add_zero]
  | .nd a b, P, r0, h => by
    have hz : (Tr.nd a b).sz = a.sz + b.sz + 1 := rfl
    rw [hz] at h
    have e : (Tr.nd a b).pl.map (fun x => (P.length : Int) + x) = a.pl.map (fun x => (P.length : Int) + x) ++ (P.length : Int) :: b.pl.map (fun x => ((P ++ a.rg'.map fun x => r0 + x).length : Int) + x) := by
      show (a.pl ++ 0 :: b.pl.map fun x => a.cut + x).map _ = _
      rw [List.map_append, List.map_cons, List.map_map, Int.add_zero, List.length_append, List.length_map, a.rg_len]
      congr 2
      refine List.map_congr_left fun x _ => ?_
      show (P.length : Int) + (a.cut + x) = _
      unfold Tr.cut
      omega
    rw [e]
    refine forS_to (rd_go hb a P r0 (by omega)) (forS_cons (s' := (P ++ a.rg'.map fun x => r0 + x) ++ [r0 + 1]) ?_ ?_)
    · rw [hb]
      refine bs (a := r0) ?_ (bs (appO_ok ?_) rfl)
      · rw [atI_nn, List.getElem?_append_right (Nat.le_refl _), Nat.sub_self, List.getElem?_map, a.rg_head]
        show some (r0 + 0) = some r0
        rw [Int.add_zero]
      · rw [List.length_append, List.length_map, a.rg_len]
        omega
    · rw [rd_go hb b (P ++ a.rg'.map fun x => r0 + x) (r0 + 1) (by rw [List.length_append, List.length_map, a.rg_len]; omega), List.append_assoc]
      congr 2
      show _ = (a.rg' ++ b.rg'.map (· + 1)).map _
      rw [List.map_append, List.map_map]
      congr 1
      refine List.map_congr_left fun x _ => ?_
      show r0 + 1 + x = r0 + (x + 1)
      omega
theorem rd_all {body : Int → List Int → Option (List Int)} (hb : ∀ x r, body x r = (atI r x).bind fun t3 => (appO r (t3 + (1 : Int))).bind fun r4 => some r4) {t : Tr} (h : t.sz ≤ 100000) : forS body t.pl [(0 : Int)] = some t.rg' := by
  have rd := rd_go hb t [] 0 (by simp; omega)
  rw [show t.pl.map (fun x => (([] : List Int).length : Int) + x) = t.pl from by
      rw [show (fun x : Int => (([] : List Int).length : Int) + x) = fun x => x from by funext x; show ((0 : Nat) : Int) + x = x; omega]
      exact List.map_id' _,
    show t.rg'.map (fun x => (0 : Int) + x) = t.rg' from by
      rw [show (fun x : Int => (0 : Int) + x) = fun x => x from by funext x; omega]
      exact List.map_id' _] at rd
  exact rd
theorem v_reads {t : Tr} (h : t.sz ≤ 250) : f_line_reads t.pl = some t.rg' := by
  unfold f_line_reads
  exact bs (n_plan h) (bs rfl (bs (rd_all (fun x r => rfl) (by omega)) rfl))
def Tr.wrt (t : Tr) : List Int := t.lf'.take t.sz
theorem wrt_len (t : Tr) : (Tr.wrt t).length = t.sz := by
  unfold Tr.wrt
  rw [List.length_take, t.lf_len]
  omega
theorem incr (bases : List Int) (v b : Int) (n : Nat) : ∀ (m lo : Nat) (g : Nat → Int), lo + m ≤ n → forS (fun x_2 (writes_ : List Int) => f_line_writes_L2 bases v b x_2 writes_) ((List.range' lo m).map fun (k : Nat) => (k : Int)) ((List.range n).map g) = some ((List.range n).map fun p => if lo ≤ p ∧ p < lo + m then g p + 1 else g p)
  | 0, lo, g, _ => by
    show some ((List.range n).map g) = _
    congr 1
    refine List.map_congr_left fun p _ => ?_
    rw [if_neg (by omega)]
  | m + 1, lo, g, h => by
    rw [List.range'_succ, List.map_cons]
    refine forS_cons (s' := (List.range n).map fun p => if p = lo then g p + 1 else g p) ?_ ?_
    · unfold f_line_writes_L2
      refine bs (atI_rg (by omega)) (bs (putO_at (by rw [List.length_map, List.length_range]; omega)) ?_)
      congr 1
      apply List.ext_getElem?
      intro i
      rw [List.getElem?_set, List.length_map, List.length_range, List.getElem?_map, List.getElem?_map]
      by_cases hi : i < n
      · rw [List.getElem?_range hi]
        by_cases c : lo = i
        · subst c
          rw [if_pos rfl, if_pos hi]
          show some (g lo + 1) = some (if lo = lo then g lo + 1 else g lo)
          rw [if_pos rfl]
        · rw [if_neg c]
          show some (g i) = some (if i = lo then g i + 1 else g i)
          rw [if_neg (fun z => c z.symm)]
      · rw [List.getElem?_eq_none (l := List.range n) (by rw [List.length_range]; omega)]
        by_cases c : lo = i
        · rw [if_pos c, if_neg (show ¬ lo < n by omega)]
          rfl
        · rw [if_neg c]
          rfl
    · rw [incr bases v b n m (lo + 1) (fun p => if p = lo then g p + 1 else g p) (by omega)]
      congr 1
      refine List.map_congr_left fun p _ => ?_
      by_cases c : p = lo
      · subst c
        rw [if_neg (by omega), if_pos rfl, if_pos (by omega)]
      · rw [if_neg c]
        by_cases d : lo + 1 ≤ p ∧ p < lo + 1 + m
        · rw [if_pos d, if_pos (by omega)]
        · rw [if_neg d, if_neg (by omega)]
theorem v_writes {t : Tr} (h : t.sz ≤ 250) : f_line_writes t.pl = some (Tr.wrt t) := by
  unfold f_line_writes
  have len := t.pl_len
  have e1 : enumL1 t.pl = (List.range t.sz).map fun (k : Nat) => (((k + 1 : Nat) : Int), gv t.pl (k + 1)) := by
    unfold enumL1
    apply List.ext_getElem?
    intro i
    rw [List.getElem?_zipWith, List.getElem?_map, len]
    by_cases hi : i < t.sz
    · rw [List.getElem?_range hi, gv_get (l := t.pl) (by omega)]
      rfl
    · rw [List.getElem?_eq_none (l := List.range t.sz) (by rw [List.length_range]; omega)]
      rfl
  have run := forS_n (n := t.sz) (f := fun (k : Nat) => (((k + 1 : Nat) : Int), gv t.pl (k + 1))) (S := fun k => (List.range t.sz).map fun (p : Nat) => (ltN ((p : Int) + 1) ((t.pl.take k).drop p) : Int)) (body := fun x_1 (writes_ : List Int) => f_line_writes_L1 t.pl x_1 writes_) fun k hk => by
    unfold f_line_writes_L1
    obtain ⟨b, rb, rv, k1, k2, _⟩ := t.near (k + 1) (by omega) (by omega)
    rw [Nat.add_sub_cancel] at k1
    have gb : gv t.pl (k + 1) = (b : Int) := by
      have := gv_get (l := t.pl) (k := k) (by omega)
      rw [k1] at this
      exact (Option.some.inj this).symm
    dsimp only
    rw [gb]
    refine bs (a := (List.range' b (k + 1 - b)).map fun (j : Nat) => (j : Int)) ?_ (bs (incr t.pl _ _ t.sz (k + 1 - b) b _ (by omega)) ?_)
    · have := rngO_v (v := b) (n := k) (by omega) (by omega)
      rw [show ((k : Int) + 1) = ((k + 1 : Nat) : Int) by omega] at this
      rw [this, List.range'_eq_map_range, List.map_map]
      rfl
    · congr 1
      refine List.map_congr_left fun p hp => ?_
      have hp := List.mem_range.mp hp
      have tk : t.pl.take (k + 1) = t.pl.take k ++ [(b : Int)] := by
        rw [List.take_add_one, k1]
        rfl
      rw [tk]
      by_cases c : p ≤ k
      · rw [List.drop_append_of_le_length (by rw [List.length_take]; omega), ltN_app, ltN_cons]
        have z : ltN ((p : Int) + 1) [] = 0 := rfl
        by_cases d : b ≤ p
        · rw [if_pos (by omega), if_pos (by omega), z]
          omega
        · rw [if_neg (by omega), if_neg (by omega), z]
          omega
      · rw [if_neg (by omega), List.drop_eq_nil_of_le (by rw [List.length_take]; omega), List.drop_eq_nil_of_le (by rw [List.length_append, List.length_take, List.length_singleton]; omega)]
  have s0 : ((List.range t.sz).map fun (p : Nat) => (ltN ((p : Int) + 1) ((t.pl.take 0).drop p) : Int)) = t.pl.map fun _ => (0 : Int) := by
    apply List.ext_getElem?
    intro i
    rw [List.getElem?_map, List.getElem?_map, List.take_zero]
    simp only [List.drop_nil]
    by_cases hi : i < t.sz
    · rw [List.getElem?_range hi, List.getElem?_eq_getElem (l := t.pl) (by omega)]
      rfl
    · rw [List.getElem?_eq_none (l := List.range t.sz) (by rw [List.length_range]; omega), List.getElem?_eq_none (l := t.pl) (by omega)]
      rfl
  have sn : ((List.range t.sz).map fun (p : Nat) => (ltN ((p : Int) + 1) ((t.pl.take t.sz).drop p) : Int)) = Tr.wrt t := by
    rw [List.take_of_length_le (by omega)]
    exact t.wrs
  rw [s0, sn] at run
  rw [e1]
  exact bs (n_plan h) (bs (lcC_map (g' := fun _ => (0 : Int)) (by omega) fun _ _ => rfl) (bs run rfl))
theorem same_at (N : Nat) (i : Int) : f_w_same_R (N + 1) (.int i) (.int i) = some true := by
  show f_w_same_B (f_w_same_R N) (.int i) (.int i) = some true
  unfold f_w_same_B
  have e : bD (p_eq (.int i) (.int i)) = some true := by
    rw [bD_eq (f := PyData.int) (by decide), decide_eq_true rfl]
  exact bs (a := false) rfl (bs (a := false) rfl (iF rfl (bs (a := false) rfl (bs (a := false) rfl (bs (a := true) (andTT rfl (bs e rfl)) rfl)))))
theorem same_tup (N : Nat) (l : List PyData) (hl : l.length ≤ 1000000) (hx : ∀ x ∈ l, f_w_same_R N x x = some true) : f_w_same_R (N + 1) (.tuple l) (.tuple l) = some true := by
  show f_w_same_B (f_w_same_R N) (.tuple l) (.tuple l) = some true
  unfold f_w_same_B
  refine bs (a := true) rfl (bs (a := true) (andTT rfl (bs (a := true) rfl rfl)) (iT rfl (bs (len_tup l) (bs (len_tup l) (iF (ne_no rfl) (bs (len_tup l) (bs (rng1O_n hl) (thenR (fun j hj => ?_) rfl))))))))
  unfold f_w_same_L1
  exact bs (ix_tup hj) (bs (ix_tup hj) (bs (hx _ (List.getElem_mem hj)) (iF rfl rfl)))
theorem same_t {l m : List Int} (h : l = m) (hl : l.length ≤ 1000000) : f_w_same ((tp PyData.int) l) ((tp PyData.int) m) = some true := by
  subst h
  refine same_tup 13 _ (by rw [List.length_map]; exact hl) fun x hx => ?_
  obtain ⟨i, _, rfl⟩ := List.mem_map.mp hx
  exact same_at 12 i
theorem same_pairs {l m : List (Int × Int)} (h : l = m) (hl : l.length ≤ 1000000) : f_w_same ((tp (p2 PyData.int PyData.int)) l) ((tp (p2 PyData.int PyData.int)) m) = some true := by
  subst h
  refine same_tup 13 _ (by rw [List.length_map]; exact hl) fun x hx => ?_
  obtain ⟨i, _, rfl⟩ := List.mem_map.mp hx
  refine same_tup 12 _ (by show 2 ≤ 1000000; omega) fun y hy => ?_
  rcases List.mem_cons.mp hy with c | hy
  · rw [c]
    exact same_at 11 _
  · rcases List.mem_cons.mp hy with c | hy
    · rw [c]
      exact same_at 11 _
    · cases hy
section
variable {n : Nat} {U : Nat → Tr} {I : Nat → Nat}
/-- the pouring -/
def stL (U : Nat → Tr) (I : Nat → Nat) (n : Nat) : List Int := (List.range n).map fun v => ((stU U I v : Nat) : Int)
theorem stL_len : (stL U I n).length = n := by simp [stL]
theorem stL_at {v : Nat} (h : v < n) : atI (stL U I n) (v : Int) = some ((stU U I v : Nat) : Int) := atI_rg h
theorem forG_n {X σ ρ : Type} {n : Nat} {f : Nat → X} {S : Nat → σ} {body : X → σ → Option (Lp σ ρ)} (h : ∀ k, k < n → body (f k) (S k) = some (.nx (S (k + 1)))) : forG body ((List.range n).map f) (S 0) = some (.nx (S n)) :=
  forG_of (forS_n fun k hk => nxO_ok (h k hk))
theorem pour_step (G : Gw n U I) (thing : List Int) {v : Nat} (h : v < n) : f_is_pouring_L1 thing ((stU U I v : Nat) : Int) (((U v).ch.length : Int) - 1) = some (.nx (((U (v + 1)).ch.length : Int) - 1)) := by
  have := G.lt v h
  have := G.rd h
  have := G.st_le h
  unfold f_is_pouring_L1
  refine bs (is_num (by omega)) (iF ?_ (bs rfl ?_))
  · rw [decide_eq_false (by omega)]
    rfl
  · congr 2
    omega
theorem v_pour (G : Gw n U I) : f_is_pouring (stL U I n) = some true := by
  unfold f_is_pouring
  refine iF rfl (bs rfl ?_)
  have k := forG_n (n := n) (f := fun v => ((stU U I v : Nat) : Int)) (S := fun v => ((U v).ch.length : Int) - 1) (body := fun x_1 (standing_ : Int) => f_is_pouring_L1 (stL U I n) x_1 standing_) fun v hv => pour_step G _ hv
  rw [G.z] at k
  exact (thenL_nx k).trans rfl
/-- one poured more -/
theorem v_broken (G : Gw n U I) {m : List Int} : f_is_pouring (stL U I n ++ ((U n).ch.length : Int) :: m) = some false := by
  unfold f_is_pouring
  refine iF rfl (bs rfl ?_)
  have k := forG_pre (f := fun v => ((stU U I v : Nat) : Int)) (S := fun v => ((U v).ch.length : Int) - 1) (body := fun x_1 (standing_ : Int) => f_is_pouring_L1 (stL U I n ++ ((U n).ch.length : Int) :: m) x_1 standing_) n (t := ((U n).ch.length : Int) :: m) fun v hv => pour_step G _ hv
  have l := G.len (v := n) (Nat.le_refl _)
  have e : forG (fun x_1 (standing_ : Int) => f_is_pouring_L1 (stL U I n ++ ((U n).ch.length : Int) :: m) x_1 standing_) (((U n).ch.length : Int) :: m) (((U n).ch.length : Int) - 1) = some (.rt false) := by
    show (f_is_pouring_L1 _ _ _).bind _ = _
    refine bs (a := .rt false) ?_ rfl
    unfold f_is_pouring_L1
    refine bs (is_num (by omega)) (iT ?_ rfl)
    rw [decide_eq_true (by omega)]
    rfl
  rw [e, G.z] at k
  exact (thenL_rt k).trans rfl
theorem n_need {b : Bool} {w : Str} (h : b = true) : f_need b w = some () := by
  subst h
  rfl
/-- the runs after one more entry -/
theorem v_on (G : Gw n U I) (hn : n ≤ 1000000) {v : Nat} (h : v < n) : f_poured_on (rn (U v).ch) ((stU U I v : Nat) : Int) ((v : Int) + 1) = some (rn (U (v + 1)).ch) := by
  have lt := G.lt v h
  have st := G.st_le h
  have ln := G.len (v := v) (by omega)
  have rl := G.runs_len (v := v)
  have e : rn (U (v + 1)).ch = (rn (U v).ch).take (I v) ++ [(bsU U I v + 1, (v : Int) + 1)] := by
    rw [G.runs h, show ((v + 1 : Nat) : Int) = (v : Int) + 1 by omega]
  have cl : (rn (U v).ch).length + 1 ≤ 16777216 := by omega
  have kp : cutD (rn (U v).ch) none (some ((I v : Nat) : Int)) = (rn (U v).ch).take (I v) := cut_to (by omega)
  unfold f_poured_on
  refine bs (a := ((I v : Nat) : Int)) (congrArg some (by omega)) (bs rfl ?_)
  by_cases c : 0 < stU U I v
  · obtain ⟨b, hb⟩ : ∃ b, (U v).ch[I v + 1]? = some b := ⟨_, List.getElem?_eq_getElem (by omega)⟩
    refine iT (decide_eq_true (by omega)) (bs (a := (bsU U I v + 1, b)) ?_ (bs rfl (bs (a := rn (U (v + 1)).ch) ?_ rfl)))
    · rw [atI_nn]
      exact rn_at (G.bs h) hb
    · rw [kp, e]
      exact catO_ok (by rw [List.length_take, List.length_singleton]; omega)
  · refine iF (decide_eq_false (by omega)) (bs (a := rn (U (v + 1)).ch) ?_ rfl)
    have z : I v = (U v).ch.length - 1 := by omega
    have y := G.bs h
    rw [z, G.last (by omega)] at y
    rw [kp, e, ← Option.some.inj y]
    exact catO_ok (by rw [List.length_take, List.length_singleton]; omega)
theorem run_last (G : Gw n U I) {v : Nat} (h : v < n) : atI (rn (U (v + 1)).ch) (-1 : Int) = some (bsU U I v + 1, (v : Int) + 1) := by
  rw [G.runs h, atI_end, show ((v + 1 : Nat) : Int) = (v : Int) + 1 by omega]
theorem enumL_rg {α : Type} {n : Nat} (f : Nat → α) : enumL ((List.range n).map f) = (List.range n).map fun (k : Nat) => ((k : Int), f k) := by
  unfold enumL
  apply List.ext_getElem?
  intro i
  rw [List.getElem?_zipWith, List.getElem?_map, List.getElem?_map, List.length_map, List.length_range]
  by_cases hi : i < n
  · rw [List.getElem?_range hi]
    rfl
  · rw [List.getElem?_eq_none (l := List.range n) (by rw [List.length_range]; omega)]
    rfl
theorem v_plan (G : Gw n U I) (hn : n ≤ 1000000) : f_plan_poured (stL U I n) = some (U n).pl := by
  unfold f_plan_poured
  refine bs (v_pour G) (bs (n_need rfl) (bs rfl (bs rfl ?_)))
  have k := forS_n (n := n) (f := fun (v : Nat) => ((v : Int), ((stU U I v : Nat) : Int))) (S := fun v => (rn (U v).ch, (List.range v).map (bsU U I))) (body := fun x_1 (s_ : (List (Int × Int)) × (List Int)) => f_plan_poured_L1 (stL U I n) x_1 s_.1 s_.2) fun v hv => by
    unfold f_plan_poured_L1
    refine bs (v_on G hn hv) (bs (run_last G hv) (bs (appO_ok (by rw [List.length_map, List.length_range]; omega)) ?_))
    dsimp only
    rw [List.range_succ, List.map_append, show bsU U I v + 1 - 1 = bsU U I v by omega]
    rfl
  rw [G.z] at k
  unfold stL
  rw [enumL_rg]
  refine bs k ?_
  rw [G.pl n (Nat.le_refl _)]
theorem v_standing (G : Gw n U I) (hn : n ≤ 1000000) {v : Nat} (h : v ≤ n) : f_standing_after (stL U I n) (v : Int) = some (rn (U v).ch) := by
  unfold f_standing_after
  refine bs (v_pour G) (bs (n_need rfl) (bs (is_num (by omega)) (bs (n_need ?_) (bs rfl (bs (rng1O_n (by omega)) ?_)))))
  · rw [stL_len, decide_eq_true (by omega)]
    rfl
  · have k := forS_n (n := v) (f := fun (w : Nat) => (w : Int)) (S := fun w => rn (U w).ch) (body := fun x_1 (runs_ : (List (Int × Int))) => f_standing_after_L1 (stL U I n) (v : Int) x_1 runs_) fun w hw => by
      unfold f_standing_after_L1
      exact bs (stL_at (by omega)) (bs (v_on G hn (by omega)) rfl)
    rw [G.z] at k
    exact bs k rfl
end
end K44
namespace K44
open PySem PySem.Spec PyProof.Rows L2 DL
section
variable {n : Nat} {U : Nat → Tr} {I : Nat → Nat}
theorem w_poured_at (G : Gw n U I) (hn : n ≤ 1000000) {d : PyData} (hl : iD (c_len [d]) = some (n : Int)) (hd : ∀ v, v < n → vD (p_ix d (PyData.int (v : Int))) = some (.int ((stU U I v : Nat) : Int))) : f_w_poured d = some ((List.range (n + 1)).map fun v => rn (U v).ch) := by
  unfold f_w_poured
  refine bs rfl (bs rfl (bs hl (bs (rngO_1 hn) ?_)))
  have k := forS_n (n := n) (f := fun (v : Nat) => ((v + 1 : Nat) : Int)) (S := fun v => (rn (U v).ch, (List.range (v + 1)).map fun v => rn (U v).ch)) (body := fun x_1 (s_ : (List (Int × Int)) × (List (List (Int × Int)))) => f_w_poured_L1 d x_1 s_.1 s_.2) fun v hv => by
    have lt := G.lt v hv
    have st := G.st_le hv
    have ln := G.len (v := v) (by omega)
    have rl := G.runs_len (v := v)
    unfold f_w_poured_L1
    refine bs rfl (bs (a := .int ((stU U I v : Nat) : Int)) ?_ (bs rfl (bs (rng1O_n (by omega)) (bs (a := ((rn (U v).ch).take (I v), bsU U I v + 1)) ?_ (bs (a := rn (U (v + 1)).ch) ?_ (bs (appO_ok (by rw [List.length_map, List.length_range]; omega)) ?_))))))
    · rw [show ((v + 1 : Nat) : Int) - 1 = (v : Int) by omega]
      exact hd v hv
    · have k2 := forS_n (n := stU U I v) (f := fun (j : Nat) => (j : Int)) (S := fun j => ((rn (U v).ch).take ((rn (U v).ch).length - j), (((U v).ch[(U v).ch.length - 1 - j]?).getD 0) + 1)) (body := fun x_2 (s_ : (List (Int × Int)) × Int) => f_w_poured_L2 d ((List.range (v + 1)).map fun v => rn (U v).ch) ((v + 1 : Nat) : Int) x_2 s_.1 s_.2) fun j hj => by
        unfold f_w_poured_L2
        have q1 : (U v).ch[(U v).ch.length - 1 - (j + 1)]? = some ((U v).ch[(U v).ch.length - 1 - (j + 1)]'(by omega)) := List.getElem?_eq_getElem (by omega)
        have q2 : (U v).ch[(U v).ch.length - 1 - j]? = some ((U v).ch[(U v).ch.length - 1 - j]'(by omega)) := List.getElem?_eq_getElem (by omega)
        have r := rn_at q1 (by rw [show (U v).ch.length - 1 - (j + 1) + 1 = (U v).ch.length - 1 - j by omega]; exact q2)
        have tk : (rn (U v).ch).take ((rn (U v).ch).length - j) = (rn (U v).ch).take ((rn (U v).ch).length - (j + 1)) ++ [(((U v).ch[(U v).ch.length - 1 - (j + 1)]'(by omega)) + 1, (U v).ch[(U v).ch.length - 1 - j]'(by omega))] := by
          have e : (rn (U v).ch).length - j = (rn (U v).ch).length - (j + 1) + 1 := by omega
          rw [e, List.take_add_one, show (rn (U v).ch).length - (j + 1) = (U v).ch.length - 1 - (j + 1) by omega, r]
          rfl
        dsimp only
        rw [tk, q1]
        refine bs (atI_end _ _) (bs rfl (bs (a := (rn (U v).ch).take ((rn (U v).ch).length - (j + 1))) ?_ rfl))
        rw [cut_m1]
        congr 1
        rw [List.length_append, List.length_singleton, Nat.add_sub_cancel, List.take_left']
        rfl
      have e0 : ((rn (U v).ch).take ((rn (U v).ch).length - 0), (((U v).ch[(U v).ch.length - 1 - 0]?).getD 0) + 1) = (rn (U v).ch, ((v + 1 : Nat) : Int)) := by
        rw [Nat.sub_zero, List.take_length, Nat.sub_zero, G.last (by omega)]
        rfl
      have e1 : ((rn (U v).ch).take ((rn (U v).ch).length - stU U I v), (((U v).ch[(U v).ch.length - 1 - stU U I v]?).getD 0) + 1) = ((rn (U v).ch).take (I v), bsU U I v + 1) := by
        rw [show (rn (U v).ch).length - stU U I v = I v by omega, show (U v).ch.length - 1 - stU U I v = I v by omega]
        rfl
      rw [e0, e1] at k2
      exact k2
    · rw [G.runs hv]
      exact catO_ok (by rw [List.length_take, List.length_singleton]; omega)
    · dsimp only
      rw [List.range_succ (n := v + 1), List.map_append]
      rfl
  have e0 : (rn (U 0).ch, (List.range (0 + 1)).map fun v => rn (U v).ch) = (([] : List (Int × Int)), [[]]) := by
    show (rn (U 0).ch, [rn (U 0).ch]) = _
    rw [G.z]
    rfl
  rw [e0] at k
  exact bs k rfl
theorem w_poured (G : Gw n U I) (hn : n ≤ 1000000) : f_w_poured ((tp PyData.int) (stL U I n)) = some ((List.range (n + 1)).map fun v => rn (U v).ch) :=
  w_poured_at G hn (d := .tuple ((stL U I n).map PyData.int)) (by rw [len_tup, List.length_map, stL_len]) fun v hv => by
    rw [ix_tup (by rw [List.length_map, stL_len]; exact hv)]
    congr 1
    rw [List.getElem_map]
    congr 1
    simp [stL]
theorem w_pouredL (G : Gw n U I) (hn : n ≤ 1000000) : f_w_poured ((ls PyData.int) (stL U I n)) = some ((List.range (n + 1)).map fun v => rn (U v).ch) :=
  w_poured_at G hn (d := .list ((stL U I n).map PyData.int)) (by show some (((stL U I n).map PyData.int).length : Int) = _; rw [List.length_map, stL_len]) fun v hv => by
    rw [ix_lst (by rw [List.length_map, stL_len]; exact hv)]
    congr 1
    rw [List.getElem_map]
    congr 1
    simp [stL]
/-- a chain, gone through from its end -/
theorem w_chain (G : Gw n U I) (hn : n ≤ 250) {v : Nat} (h : v ≤ n) : f_w_chain (U n).pl (v : Int) = some (rn (U v).ch) := by
  unfold f_w_chain
  have len := G.len h
  have at_ : ∀ j, j < (U v).ch.length → ∃ w : Nat, (U v).ch[j]? = some (w : Int) ∧ w ≤ v ∧ (0 < j → 1 ≤ w) := fun j hj => by
    have e := List.getElem?_eq_getElem hj
    obtain ⟨w, w1, w2, _⟩ := G.up v h j _ e
    refine ⟨w, by rw [← w2]; exact e, w1, fun h0 => ?_⟩
    have := Tr.ch_step (U v) (j - 1) _ (by rw [show j - 1 + 1 = j by omega]; exact e)
    omega
  have S : ∀ d, d ≤ (U v).ch.length - 1 → ∀ N, (U v).ch.length - 1 - d < N → ∀ w : Nat, (U v).ch[(U v).ch.length - 1 - d]? = some (w : Int) →
      whS (fun (s_ : Int × (List (Int × Int))) => f_w_chain_L1c (U n).pl s_.1 s_.2) (fun (s_ : Int × (List (Int × Int))) => f_w_chain_L1 (U n).pl s_.1 s_.2) N ((w : Int), (rn (U v).ch).drop ((U v).ch.length - 1 - d)) = some (0, rn (U v).ch) := by
    have go : ∀ m, m ≤ (U v).ch.length - 1 → ∀ N, m < N → ∀ w : Nat, (U v).ch[m]? = some (w : Int) → whS (fun (s_ : Int × (List (Int × Int))) => f_w_chain_L1c (U n).pl s_.1 s_.2) (fun (s_ : Int × (List (Int × Int))) => f_w_chain_L1 (U n).pl s_.1 s_.2) N ((w : Int), (rn (U v).ch).drop m) = some (0, rn (U v).ch) := fun m => by
      induction m with
      | zero =>
        intro _ N hN w hw
        obtain ⟨M, rfl⟩ : ∃ M, N = M + 1 := ⟨N - 1, by omega⟩
        rw [Tr.ch_zero] at hw
        have z : (w : Int) = 0 := (Option.some.inj hw).symm
        rw [z]
        exact whF rfl
      | succ m ih =>
        intro hm N hN w hw
        obtain ⟨M, rfl⟩ : ∃ M, N = M + 1 := ⟨N - 1, by omega⟩
        obtain ⟨y, hy, y1, _⟩ := at_ m (by omega)
        obtain ⟨w', hw', w1, w2⟩ := at_ (m + 1) (by omega)
        rw [hw] at hw'
        have ew : w = w' := by
          have := Option.some.inj hw'
          omega
        have w3 := w2 (by omega)
        have cs := Tr.ch_step (U v) m _ hw
        have pv : (U n).pl[w - 1]? = some (y : Int) := by
          rw [G.pl n (Nat.le_refl _), List.getElem?_map, List.getElem?_range (by omega)]
          have e := cs.2.2
          rw [hy, G.pl v h, List.getElem?_map, show ((w : Int) - 1).toNat = w - 1 by omega, List.getElem?_range (by omega)] at e
          exact e
        refine whT (s' := ((y : Int), (rn (U v).ch).drop m)) ?_ ?_ (ih (by omega) M (by omega) y hy)
        · exact congrArg some (decide_eq_true (by omega))
        · unfold f_w_chain_L1
          have a1 : atI (U n).pl ((w : Int) - 1) = some (y : Int) := by
            rw [show (w : Int) - 1 = ((w - 1 : Nat) : Int) by omega, atI_nn]
            exact pv
          refine bs a1 (bs (a := (rn (U v).ch).drop m) ?_ (bs a1 rfl))
          have r := rn_at hy hw
          have rl := rn_len (U v).ch
          have dm : (rn (U v).ch).drop m = ((y : Int) + 1, (w : Int)) :: (rn (U v).ch).drop (m + 1) := by
            obtain ⟨g1, g2⟩ := List.getElem?_eq_some_iff.mp r
            rw [← g2]
            exact List.drop_eq_getElem_cons g1
          dsimp only
          rw [dm]
          exact catO_ok (by rw [List.length_singleton, List.length_drop]; omega)
    intro d hd N hN w hw
    exact go _ (by omega) N hN w hw
  have k := S 0 (Nat.zero_le _) 300 (by omega) v (by rw [Nat.sub_zero]; exact G.last h)
  rw [Nat.sub_zero, List.drop_of_length_le (by rw [rn_len]; exact Nat.le_refl _)] at k
  exact bs rfl (bs k rfl)
/-- what is on a chain is not crossed -/
theorem gw_low (G : Gw n U I) {z v : Nat} (hz : z < n) (h1 : bsU U I z ≤ (v : Int)) (h2 : v < z) : bsU U I z ≤ bsU U I v := by
  have m : bsU U I z ∈ (U z).ch := List.mem_of_getElem? (G.bs hz)
  obtain ⟨_, _, k⟩ := ((U z).ch_iff _).mp m
  refine k v _ h1 ?_
  rw [G.pl z (by omega), List.getElem?_map, List.getElem?_range h2]
  rfl
theorem pl_at (G : Gw n U I) {v : Nat} (h : v < n) : atI (U n).pl (v : Int) = some (bsU U I v) := by
  rw [G.pl n (Nat.le_refl _)]
  exact atI_rg h
theorem pl_len' (G : Gw n U I) : (U n).pl.length = n := by rw [Tr.pl_len, G.sz n (Nat.le_refl _)]
theorem w_nested (G : Gw n U I) (hn : n ≤ 250) : f_w_nested (U n).pl = some true := by
  unfold f_w_nested
  rw [pl_len' G]
  refine bs (rngO_1 (by omega)) (thenR (fun z hz => ?_) rfl)
  unfold f_w_nested_L1
  obtain ⟨w, w1, w2, _⟩ := G.base hz
  have a1 : atI (U n).pl (((z + 1 : Nat) : Int) - 1) = some (bsU U I z) := by
    rw [show ((z + 1 : Nat) : Int) - 1 = (z : Int) by omega]
    exact pl_at G hz
  refine bs a1 (bs (a := (List.range (z + 1 - (w + 1))).map fun k => ((w + 1 + k : Nat) : Int)) ?_ ?_)
  · rw [w2, show ((z + 1 : Nat) : Int) = (z : Int) + 1 by omega, show (w : Int) + 1 = ((w + 1 : Nat) : Int) by omega]
    exact rngO_v (by omega) (by omega)
  · refine thenR (fun k hk => ?_) rfl
    unfold f_w_nested_L2
    refine bs (a := bsU U I (w + k)) ?_ (bs a1 (iF (decide_eq_false ?_) rfl))
    · rw [show ((w + 1 + k : Nat) : Int) - 1 = ((w + k : Nat) : Int) by omega]
      exact pl_at G (by omega)
    · have := gw_low G hz (v := w + k) (by omega) (by omega)
      omega
theorem w_is_plan (G : Gw n U I) (hn : n ≤ 250) : f_w_is_line_plan (U n).pl (n : Int) = some true := by
  unfold f_w_is_line_plan
  rw [pl_len' G]
  refine iF (by rw [decide_eq_true rfl]; rfl) (bs (rng1O_n (by omega)) (thenR (fun z hz => ?_) (bs (w_nested G hn) rfl)))
  unfold f_w_is_line_plan_L1
  obtain ⟨w, w1, w2, _⟩ := G.base hz
  have a1 := pl_at G hz
  refine bs a1 (bs (a := false) (orFF rfl (bs a1 (bs (a := false) (orFF rfl (bs a1 (bs (a := false) (orFF (decide_eq_false (by omega)) (bs a1 ?_)) rfl))) rfl))) (iF rfl rfl))
  rw [decide_eq_false (by omega)]
theorem w_wr (G : Gw n U I) (hn : n ≤ 250) : f_w_writes (U n).pl = some (Tr.wrt (U n)) := by
  unfold f_w_writes
  have sz := G.sz n (Nat.le_refl _)
  rw [pl_len' G]
  refine bs rfl (bs (rngO_1 (by omega)) ?_)
  have k := forS_n (n := n) (f := fun (v : Nat) => ((v + 1 : Nat) : Int)) (S := fun v => (List.range v).map fun (k : Nat) => (ltN ((k : Int) + 1) ((U n).pl.drop k) : Int)) (body := fun x_1 (out_ : (List Int)) => f_w_writes_L1 (U n).pl x_1 out_) fun v hv => by
    unfold f_w_writes_L1
    rw [pl_len' G]
    refine bs (rngO_v (by omega) (by omega)) (bs (a := ((List.range (n + 1 - (v + 1))).map fun k => ((v + 1 + k : Nat) : Int)).filter fun x => decide (((atI (U n).pl (x - 1)).getD 0) < ((v + 1 : Nat) : Int))) (lcC_fl (by rw [List.length_map, List.length_range]; omega) fun a ha => ?_) (bs (appO_ok (by rw [List.length_map, List.length_range]; omega)) ?_))
    · obtain ⟨k, hk, rfl⟩ := List.mem_map.mp ha
      have hk := List.mem_range.mp hk
      have a1 : atI (U n).pl (((v + 1 + k : Nat) : Int) - 1) = some (bsU U I (v + k)) := by
        rw [show ((v + 1 + k : Nat) : Int) - 1 = ((v + k : Nat) : Int) by omega]
        exact pl_at G (by omega)
      refine bs a1 ?_
      rw [a1]
      rfl
    · rw [List.range_succ, List.map_append]
      congr 2
      show [_] = [_]
      congr 2
      rw [List.filter_map, List.length_map]
      unfold ltN
      rw [G.pl n (Nat.le_refl _), ← List.map_drop, List.filter_map, List.length_map]
      have dr : (List.range n).drop v = (List.range (n + 1 - (v + 1))).map (v + ·) := by
        refine List.ext_getElem (by rw [List.length_drop, List.length_map, List.length_range, List.length_range]; omega) fun i h1 h2 => ?_
        simp
      rw [dr, List.filter_map, List.length_map]
      congr 1
      refine List.filter_congr fun k hk => ?_
      have hk := List.mem_range.mp hk
      show decide ((atI ((List.range n).map (bsU U I)) (((v + 1 + k : Nat) : Int) - 1)).getD 0 < _) = decide (bsU U I (v + k) < _)
      rw [show ((v + 1 + k : Nat) : Int) - 1 = ((v + k : Nat) : Int) by omega, atI_rg (f := bsU U I) (by omega)]
      rfl
  refine bs k ?_
  unfold Tr.wrt
  rw [← Tr.wrs, sz]
theorem v_counts (G : Gw n U I) (hn : n ≤ 250) : f_poured_counts (stL U I n) = some (Tr.wrt (U n)) := by
  unfold f_poured_counts
  exact bs (v_plan G (by omega)) (bs (v_writes (by rw [G.sz n (Nat.le_refl _)]; omega)) rfl)
theorem v_of (G : Gw n U I) (hn : n ≤ 250) : f_pouring_of (U n).pl = some (stL U I n) := by
  have hz : (U n).sz ≤ 250 := by rw [G.sz n (Nat.le_refl _)]; exact hn
  unfold f_pouring_of f_is_line_plan
  refine bs (bs (is_nest hz) rfl) (bs (n_need rfl) (bs (v_reads hz) ?_))
  rw [show enumL (U n).pl = (List.range n).map fun (k : Nat) => ((k : Int), bsU U I k) by rw [G.pl n (Nat.le_refl _)]; exact enumL_rg _]
  refine bs (a := stL U I n) (lcC_rg (by omega) fun k hk => ?_) rfl
  obtain ⟨w, w1, w2, w3⟩ := G.base hk
  have lt := G.lt k hk
  have e := congrArg List.length w3
  rw [List.length_take] at e
  refine bs (by rw [atI_nn]; exact G.rg k (by omega)) (bs (a := ((U w).ch.length : Int) - 1) ?_ ?_)
  · dsimp only
    rw [w2, atI_nn]
    exact G.rg w (by omega)
  · congr 1
    unfold stU
    omega
theorem w_steps (G : Gw n U I) (hn : n ≤ 250) : f_w_steps (U n).pl = some (stL U I n) := by
  unfold f_w_steps
  rw [pl_len' G]
  refine bs rfl (bs (rngO_1 (by omega)) ?_)
  have k := forS_n (n := n) (f := fun (v : Nat) => ((v + 1 : Nat) : Int)) (S := fun v => (List.range v).map fun v => ((stU U I v : Nat) : Int)) (body := fun x_1 (steps_ : (List Int)) => f_w_steps_L1 (U n).pl x_1 steps_) fun v hv => by
    unfold f_w_steps_L1
    rw [show ((v + 1 : Nat) : Int) - 1 = (v : Int) by omega]
    have len := G.len (v := v) (by omega)
    refine bs (pl_at G hv) (bs (w_chain G hn (by omega)) (bs (a := (rn (U v).ch).drop (I v)) ?_ (bs (appO_ok (by rw [List.length_map, List.length_range]; omega)) ?_)))
    · rw [lcC_fl (p' := fun (x : Int × Int) => decide (bsU U I v < x.1)) (l := rn (U v).ch) (by rw [rn_len]; omega) fun _ _ => rfl]
      congr 1
      have pw := (U v).ch_pw
      have b := G.bs hv
      have sp : rn (U v).ch = (rn (U v).ch).take (I v) ++ (rn (U v).ch).drop (I v) := (List.take_append_drop _ _).symm
      have at2 : ∀ (j : Nat) (x : Int × Int), (rn (U v).ch)[j]? = some x → ∃ y, (U v).ch[j]? = some y ∧ x.1 = y + 1 := fun j x hx => by
        have jl := (List.getElem?_eq_some_iff.mp hx).1
        rw [rn_len] at jl
        have q1 : (U v).ch[j]? = some ((U v).ch[j]'(by omega)) := List.getElem?_eq_getElem (by omega)
        have q2 : (U v).ch[j + 1]? = some ((U v).ch[j + 1]'(by omega)) := List.getElem?_eq_getElem (by omega)
        have r := rn_at q1 q2
        rw [hx] at r
        exact ⟨_, q1, by rw [Option.some.inj r]⟩
      conv => lhs; rw [sp]
      rw [List.filter_append, List.filter_eq_nil_iff.mpr, List.filter_eq_self.mpr, List.nil_append]
      · intro x hx
        obtain ⟨j, hj⟩ := List.mem_iff_getElem?.mp hx
        rw [List.getElem?_drop] at hj
        obtain ⟨y, y1, y2⟩ := at2 _ _ hj
        obtain ⟨g1, g2⟩ := List.getElem?_eq_some_iff.mp y1
        obtain ⟨i1, i2⟩ := List.getElem?_eq_some_iff.mp b
        refine decide_eq_true ?_
        by_cases c : j = 0
        · subst c
          have y1 : (U v).ch[I v]? = some y := y1
          rw [b] at y1
          have := Option.some.inj y1
          omega
        · have := List.pairwise_iff_getElem.mp pw _ _ i1 g1 (by omega)
          omega
      · intro x hx
        obtain ⟨j, hj⟩ := List.mem_iff_getElem?.mp hx
        have jl := (List.getElem?_eq_some_iff.mp hj).1
        rw [List.length_take] at jl
        rw [List.getElem?_take_of_lt (by omega)] at hj
        obtain ⟨y, y1, y2⟩ := at2 _ _ hj
        obtain ⟨g1, g2⟩ := List.getElem?_eq_some_iff.mp y1
        obtain ⟨i1, i2⟩ := List.getElem?_eq_some_iff.mp b
        have := List.pairwise_iff_getElem.mp pw _ _ g1 i1 (by omega)
        rw [decide_eq_false (by omega)]
        exact Bool.false_ne_true
    · rw [List.range_succ, List.map_append]
      congr 2
      show [_] = [_]
      congr 1
      rw [List.length_drop, rn_len]
      unfold stU
      rfl
  exact bs k rfl
end
end K44
namespace K44
open PySem PySem.Spec PyProof.Rows L2 DL
def GP (p : List Ot) : Prop := ∃ st gr, p = plT st gr ∧ 0 ≤ st ∧ st < 1000033
theorem n_take {p : List Ot} {k : Nat} (h : GP p) (h0 : 1 ≤ k) (hm : k ≤ 1000) : ∃ (x : Nat) (p' : List Ot), f_w_take p (k : Int) = some ((x : Int), p') ∧ x < k ∧ GP p' := by
  obtain ⟨st, gr, rfl, h1, h2⟩ := h
  obtain ⟨r, st', gr', e, ⟨r1, r2⟩, h3, h4⟩ := take_read (st := st) (gr := gr) (b := (k : Int)) (by omega) (by omega) h1 h2
  refine ⟨r.toNat, plT st' gr', ?_, by omega, st', gr', rfl, h3, h4⟩
  rw [show ((r.toNat : Nat) : Int) = r by omega]
  exact chW_of (r := (r, plT st' gr')) (fun _ _ h => PyData.int.inj h) e
theorem v_scene {p : List Ot} {n : Nat} (hp : GP p) (hn : n ≤ 250) : ∃ (U : Nat → Tr) (I : Nat → Nat) (p' : List Ot), f_w_scene (n : Int) p = some (stL U I n, p') ∧ Gw n U I ∧ GP p' := by
  unfold f_w_scene
  obtain ⟨s, s1, U, I, p', rfl, G, g⟩ := forS_J (n := n) (f := fun (k : Nat) => (k : Int)) (fun k (s : List Ot × List Int) => ∃ U I p', s = (p', stL U I k) ∧ Gw k U I ∧ GP p') (body := fun x_1 (s_ : (List Ot) × (List Int)) => f_w_scene_L1 (n : Int) x_1 s_.1 s_.2) (s := (p, [])) ⟨fun _ => .lf, fun _ => 0, p, rfl, ⟨rfl, fun v hv => by omega, fun v hv => by omega⟩, hp⟩ fun k hk s ⟨U, I, p', e, G, g⟩ => by
    subst e
    have ln := G.len (v := k) (Nat.le_refl _)
    have rl := G.runs_len (v := k)
    obtain ⟨x, p2, e2, _, g2⟩ := n_take (k := 4) g (by omega) (by omega)
    obtain ⟨m, hm⟩ : ∃ m : Nat, ((((k : Int) + 1) / 2 + (x : Int)) % (((rn (U k).ch).length : Int) + 1)) = (m : Int) ∧ m < (U k).ch.length := by
      have h1 := Int.emod_nonneg (((k : Int) + 1) / 2 + (x : Int)) (show (((rn (U k).ch).length : Int) + 1) ≠ 0 by omega)
      have h2 := Int.emod_lt_of_pos (((k : Int) + 1) / 2 + (x : Int)) (show (0 : Int) < (((rn (U k).ch).length : Int) + 1) by omega)
      exact ⟨_, (Int.toNat_of_nonneg h1).symm, by omega⟩
    obtain ⟨U', I', G', k1, k2, k3⟩ := G.more (i := (U k).ch.length - 1 - m) (by omega)
    have e3 : stL U' I' (k + 1) = stL U I k ++ [(m : Int)] := by
      unfold stL
      rw [List.range_succ, List.map_append]
      congr 1
      · exact (gw_congr (fun v hv => k1 v (by omega)) k2).2
      · show [((stU U' I' k : Nat) : Int)] = _
        congr 2
        unfold stU
        rw [k1 k (Nat.le_refl _), k3]
        omega
    refine ⟨_, ?_, U', I', p2, rfl, G', g2⟩
    unfold f_w_scene_L1
    refine bs (w_pouredL G (by omega)) (bs (a := rn (U k).ch) (atI_rg (by omega)) (bs rfl (bs e2 (bs (a := (m : Int)) ?_ (bs (appO_ok (by rw [stL_len]; omega)) ?_)))))
    · rw [modO_ok (by omega)]
      exact congrArg some hm.1
    · rw [e3]
  exact ⟨U, I, p', bs rfl (bs (rng1O_n (by omega)) (bs s1 rfl)), G, g⟩
/-- the nearest higher place ahead -/
theorem w_bases {H : List Int} (hn : H.length ≤ 250) : ∃ (U : Nat → Tr) (I : Nat → Nat), f_w_bases H = some (U H.length).pl ∧ Gw H.length U I := by
  unfold f_w_bases
  obtain ⟨s, s1, U, I, rfl, G, hb⟩ := forS_J (n := H.length) (f := fun (k : Nat) => ((k + 1 : Nat) : Int)) (fun k (s : List Int) => ∃ U I, s = (U k).pl ∧ Gw k U I ∧ ∀ v, v < k → ∃ w, w ≤ v ∧ bsU U I v = (w : Int) ∧ (w = 0 ∨ gv H (v + 1) < gv H w) ∧ ∀ x, w < x → x ≤ v → gv H x ≤ gv H (v + 1)) (body := fun x_1 (out_ : (List Int)) => f_w_bases_L1 H x_1 out_) (s := []) ⟨fun _ => .lf, fun _ => 0, rfl, ⟨rfl, fun v hv => by omega, fun v hv => by omega⟩, fun v hv => by omega⟩ fun k hk s ⟨U, I, e, G, hb⟩ => by
    subst e
    have at_ : ∀ x, 1 ≤ x → x ≤ H.length → atI H ((x : Int) - 1) = some (gv H x) := fun x h1 h2 => atI_gv h1 h2
    have go : ∀ (m : Nat) (N : Nat), m ≤ k → m < N → (∀ x, m < x → x ≤ k → gv H x ≤ gv H (k + 1)) → ∃ w, w ≤ m ∧ whS (fun (up_ : Int) => f_w_bases_L2c H (U k).pl ((k + 1 : Nat) : Int) up_) (fun (up_ : Int) => f_w_bases_L2 H (U k).pl ((k + 1 : Nat) : Int) up_) N (m : Int) = some (w : Int) ∧ (w = 0 ∨ gv H (k + 1) < gv H w) ∧ ∀ x, w < x → x ≤ k → gv H x ≤ gv H (k + 1) := fun m => by
      induction m with
      | zero =>
        intro N _ hN hx
        obtain ⟨M, rfl⟩ : ∃ M, N = M + 1 := ⟨N - 1, by omega⟩
        exact ⟨0, Nat.le_refl _, whF rfl, .inl rfl, hx⟩
      | succ m ih =>
        intro N hm hN hx
        obtain ⟨M, rfl⟩ : ∃ M, N = M + 1 := ⟨N - 1, by omega⟩
        have cnd : f_w_bases_L2c H (U k).pl ((k + 1 : Nat) : Int) ((m + 1 : Nat) : Int) = some (decide (gv H (m + 1) ≤ gv H (k + 1))) := by
          unfold f_w_bases_L2c
          exact bs (andTT' (decide_eq_true (by omega)) (bs (at_ _ (by omega) (by omega)) (bs (at_ _ (by omega) (by omega)) rfl))) rfl
        by_cases c : gv H (m + 1) ≤ gv H (k + 1)
        · obtain ⟨w, w1, w2, w3, w4⟩ := ih M (by omega) (by omega) fun x h1 h2 => by
            by_cases e : x = m + 1
            · rw [e]
              exact c
            · exact hx x (by omega) h2
          refine ⟨w, by omega, whT (by rw [cnd, decide_eq_true c]) ?_ w2, w3, w4⟩
          unfold f_w_bases_L2
          exact bs (a := (m : Int)) (congrArg some (by omega)) rfl
        · exact ⟨m + 1, Nat.le_refl _, whF (by rw [cnd, decide_eq_false c]), .inr (by omega), hx⟩
    obtain ⟨w, w1, w2, w3, w4⟩ := go k 300 (Nat.le_refl _) (by omega) fun x _ _ => by omega
    have mem : (w : Int) ∈ (U k).ch := by
      refine ((U k).ch_iff _).mpr ⟨by omega, by rw [G.sz k (Nat.le_refl _)]; omega, fun v y h1 h2 => ?_⟩
      have hv : v < k := by
        have := (List.getElem?_eq_some_iff.mp h2).1
        rw [pl_len' G] at this
        exact this
      rw [G.pl k (Nat.le_refl _), List.getElem?_map, List.getElem?_range hv] at h2
      have h2 : bsU U I v = y := Option.some.inj h2
      obtain ⟨z, z1, z2, z3, z4⟩ := hb v hv
      rw [← h2, z2]
      by_cases c : z < w
      · exfalso
        have a := w4 (v + 1) (by omega) (by omega)
        by_cases d : w = v + 1
        · omega
        · have b := z4 w c (by omega)
          rcases w3 with w3 | w3
          · omega
          · omega
      · omega
    obtain ⟨i, hi⟩ := List.mem_iff_getElem?.mp mem
    have il := (List.getElem?_eq_some_iff.mp hi).1
    obtain ⟨U', I', G', k1, k2, k3⟩ := G.more (i := i) il
    have bk : bsU U' I' k = (w : Int) := by
      have := G'.bs (v := k) (by omega)
      rw [k1 k (Nat.le_refl _), k3, hi] at this
      exact (Option.some.inj this).symm
    have e3 : (U' (k + 1)).pl = (U k).pl ++ [(w : Int)] := by
      rw [G'.pl _ (Nat.le_refl _), G.pl _ (Nat.le_refl _), List.range_succ, List.map_append]
      congr 1
      · exact (gw_congr (fun v hv => k1 v (by omega)) k2).1
      · show [bsU U' I' k] = _
        rw [bk]
    refine ⟨_, ?_, U', I', rfl, G', fun v hv => ?_⟩
    · unfold f_w_bases_L1
      refine bs (a := (k : Int)) (congrArg some (by omega)) (bs w2 (bs (appO_ok (by rw [pl_len' G]; omega)) ?_))
      rw [e3]
    · by_cases c : v < k
      · obtain ⟨z, z1, z2, z3⟩ := hb v c
        refine ⟨z, z1, ?_, z3⟩
        rw [← z2]
        unfold bsU
        rw [k1 v (by omega), k2 v c]
      · have : v = k := by omega
        subst this
        exact ⟨w, w1, bk, w3, w4⟩
  exact ⟨U, I, bs rfl (bs (rngO_1 (by omega)) (bs s1 rfl)), G⟩
end K44
namespace K44
open PySem PySem.Spec PyProof.Rows L2 DL
/-- all ways, all plans, what is made of the ways -/
def wysA (n : Int) : List (List Int) := (f_w_ways n).getD []
def plsA (n : Int) : List (List Int) := (f_w_plans n).getD []
def mdsA (n : Int) : List (List Int) := match forG (fun x_1 (made_ : List (List Int)) => f_w_all_L1 n (wysA n) (plsA n) x_1 made_) (wysA n) [] with
  | some (.nx m) => m
  | _ => []
theorem v_allN {n : Int} (h1 : f_w_ways n = some (wysA n)) (h2 : f_w_plans n = some (plsA n)) (h3 : forG (fun x_1 (made_ : List (List Int)) => f_w_all_L1 n (wysA n) (plsA n) x_1 made_) (wysA n) [] = some (.nx (mdsA n))) (h4 : (mdsA n).isPerm (plsA n) = true)
    (h5 : ((atI [(1 : Int), (1 : Int), (2 : Int), (5 : Int), (14 : Int), (42 : Int)] n).bind fun t40 => some (decide (((mdsA n).length : Int) = t40))) = some true) : f_w_all n = some true := by
  unfold f_w_all
  refine bs h1 (bs h2 (bs rfl ((thenL_nx h3).trans (bs (a := true) (andTT ?_ h5) rfl))))
  exact decide_eq_true (upT_congr (List.isPerm_iff.mp h4))
theorem v_all4 : f_w_all 4 = some true := v_allN (by kernel_rfl) (by kernel_rfl) (by kernel_rfl) (by kernel_rfl) (by kernel_rfl)
theorem v_all5 : f_w_all 5 = some true := v_allN (by kernel_rfl) (by kernel_rfl) (by kernel_rfl) (by kernel_rfl) (by kernel_rfl)
theorem hand_read : F__law_by_hand [] = some (.im (.bool true)) := by kernel_rfl
theorem v_hand : f_w_by_hand = some true := chI_eq (fun _ _ h => PyData.bool.inj h) hand_read
theorem v_refusals : f_w_refusals = some true := chI_eq (fun _ _ h => PyData.bool.inj h) refusals_read
section
variable {n : Nat} {U : Nat → Tr} {I : Nat → Nat}
theorem rn_few (G : Gw n U I) (hn : n ≤ 250) {v : Nat} (h : v ≤ n) : (rn (U v).ch).length ≤ 1000000 := by
  have := G.len h
  rw [rn_len]
  omega
theorem st_few (hn : n ≤ 250) : (stL U I n).length ≤ 1000000 := by rw [stL_len]; omega
theorem pl_few (G : Gw n U I) (hn : n ≤ 250) : (U n).pl.length ≤ 1000000 := by rw [pl_len' G]; omega
theorem wr_few (G : Gw n U I) (hn : n ≤ 250) : (Tr.wrt (U n)).length ≤ 1000000 := by rw [wrt_len, G.sz n (Nat.le_refl _)]; omega
end
theorem v_J2 {p : List Ot} {n : Nat} (hp : GP p) (hn : n ≤ 100) : f_law_J2 p (n : Int) = some true := by
  obtain ⟨U, I, p1, e1, G, g1⟩ := v_scene hp (n := n) (by omega)
  have hN : n ≤ 250 := by omega
  have plan : lcC (fun x23 : Int => some true) (fun x23 => (atI ((List.range (n + 1)).map fun v => rn (U v).ch) x23).bind fun t24 => (atI t24 (-1 : Int)).bind fun t25 => some (t25.1 - (1 : Int))) ((List.range n).map fun k => ((k + 1 : Nat) : Int)) = some (U n).pl := by
    rw [G.pl n (Nat.le_refl _)]
    refine lcC_rg (by omega) fun k hk => ?_
    refine bs (a := rn (U (k + 1)).ch) (atI_rg (by omega)) (bs (run_last G hk) ?_)
    dsimp only
    rw [show bsU U I k + 1 - 1 = bsU U I k by omega]
  unfold f_law_J2
  refine bs e1 (bs rfl (bs (w_poured G (by omega)) (bs (rngO_1 (by omega)) (bs plan (bs (v_pour G) (bs (a := false) (orFF rfl (bs (v_plan G (by omega)) (bs (same_t rfl (pl_few G hN)) (bs (a := false) (orFF rfl (bs (w_is_plan G hN) rfl)) rfl)))) (iF rfl (bs (v_of G hN) (bs (same_t rfl (st_few hN)) (bs (a := false) (orFF rfl (bs (v_counts G hN) (bs (w_wr G hN) (bs (same_t rfl (wr_few G hN)) rfl)))) (iF rfl (bs (a := (List.range (n + 1)).map fun (k : Nat) => (k : Int)) ?_ (thenR (fun v hv => ?_) (bs (rngO_1 (by omega)) ?_))))))))))))))
  · exact rng1O_n (n := n + 1) (by omega)
  · unfold f_law_L1
    exact bs (v_standing G (by omega) (by omega)) (bs (a := rn (U v).ch) (atI_rg (by omega)) (bs (same_pairs rfl (rn_few G hN (by omega))) (bs (a := false) (orFF rfl (bs (w_chain G hN (by omega)) (bs (same_pairs rfl (rn_few G hN (by omega))) rfl))) (iF rfl rfl))))
  · obtain ⟨⟨H, p2⟩, e2, l2, _, g2⟩ := lcCS_P (l := (List.range n).map fun k => ((k + 1 : Nat) : Int)) (s := p1) (g := fun x67 s68 => (f_w_take s68 (4 : Int)).bind fun t69 => some (((1 : Int) + ((((5 : Int) * x67) + t69.1) % (4 : Int))), t69.2)) GP (fun _ => True) (by rw [List.length_map, List.length_range]; omega) g1 fun x _ s hs => by
      obtain ⟨y, p2, e2, _, g2⟩ := n_take (k := 4) hs (by omega) (by omega)
      exact ⟨_, bs e2 rfl, True.intro, g2⟩
    rw [List.length_map, List.length_range] at l2
    have l2 : H.length = n := l2
    obtain ⟨V, J, e3, G2⟩ := w_bases (H := H) (by omega)
    rw [l2] at e3 G2
    have brk : catO (cutD (stL U I n) none (some (-1 : Int))) [((rn (U (n - 1)).ch).length : Int) + 1] = some (stL U I (n - 1) ++ ((U (n - 1)).ch.length : Int) :: []) := by
      have ln := G.len (v := n - 1) (by omega)
      have t1 : (stL U I n).take (n - 1) = stL U I (n - 1) := by
        unfold stL
        rw [← List.map_take, List.take_range, Nat.min_eq_left (by omega)]
      have t2 : (((U (n - 1)).ch.length - 1 : Nat) : Int) + 1 = ((U (n - 1)).ch.length : Int) := by omega
      rw [cut_m1, stL_len, rn_len, t1, t2]
      exact catO_ok (by rw [stL_len, List.length_singleton]; omega)
    refine bs e2 (bs e3 (bs (w_steps G2 hN) (bs (v_of G2 hN) (bs (same_t rfl (st_few hN)) (bs (a := false) (orFF rfl (bs (v_plan G2 (by omega)) (bs (same_t rfl (pl_few G2 hN)) rfl))) (iF rfl (bs (a := (List.range (n + 1)).map fun (k : Nat) => (k : Int)) ?_ (thenR (fun v hv => ?_) (bs (a := rn (U (n - 1)).ch) ?_ (bs brk (bs (v_of G2 hN) (bs (same_t rfl (st_few hN)) (bs (a := true) (andTT rfl (bs (v_broken (G.le (m := n - 1) (by omega))) rfl)) rfl)))))))))))))
    · exact rng1O_n (n := n + 1) (by omega)
    · unfold f_law_L2
      exact bs (v_standing G2 (by omega) (by omega)) (bs (w_chain G2 hN (by omega)) (bs (same_pairs rfl (rn_few G2 hN (by omega))) (iF rfl rfl)))
    · rw [show max (0 : Int) ((n : Int) - 1) = ((n - 1 : Nat) : Int) by omega]
      exact atI_rg (by omega)
theorem v_J1 {p : List Ot} {n : Nat} {m : Int} (hp : GP p) (hn : n ≤ 100) : f_law_J1 m (n : Int) p = some true := by
  unfold f_law_J1
  by_cases c : m = 7
  · exact iT (decide_eq_true c) (bs (a := ((24 : Nat) : Int)) rfl (v_J2 hp (by omega)))
  · exact iF (decide_eq_false c) (v_J2 hp hn)
theorem v_law {ns : List Int} (h : ns.length ≤ 63) : f_law ns = some true := by
  obtain ⟨st, gr, c1, c2, c3⟩ := pool_read ns h
  have g0 : GP (plT st gr) := ⟨st, gr, rfl, c2, c3⟩
  obtain ⟨z, hz⟩ : ∃ z, f_w_cell ns 0 = some z := by
    unfold f_w_cell
    by_cases c : (0 : Int) < (ns.length : Int)
    · exact ⟨_, iT (decide_eq_true c) (bs (atI_at (k := 0) (by omega)) rfl)⟩
    · exact ⟨_, iF (decide_eq_false c) rfl⟩
  unfold f_law
  refine bs hz (bs rfl ?_)
  by_cases m5 : z % 8 = 5
  · exact iT (decide_eq_true m5) (bs v_hand rfl)
  refine iF (decide_eq_false m5) ?_
  by_cases m6 : z % 8 = 6
  · exact iT (decide_eq_true m6) (bs v_refusals rfl)
  refine iF (decide_eq_false m6) (bs (a := plT st gr) c1 ?_)
  by_cases m2 : z % 8 = 2
  · obtain ⟨x, p1, e1, x1, _⟩ := n_take (k := 2) g0 (by omega) (by omega)
    refine iT (decide_eq_true m2) (bs e1 (bs (a := true) ?_ rfl))
    dsimp only
    have : x = 0 ∨ x = 1 := by omega
    rcases this with rfl | rfl
    · exact v_all4
    · exact v_all5
  refine iF (decide_eq_false m2) ?_
  obtain ⟨x, p1, e1, x1, g1⟩ := n_take (k := 5) g0 (by omega) (by omega)
  refine bs e1 (bs (a := ((5 + x : Nat) : Int)) (congrArg some (by omega)) ?_)
  by_cases m3 : z % 8 = 3
  · obtain ⟨y, p2, e2, y1, g2⟩ := n_take (k := 4) g1 (by omega) (by omega)
    exact iT (decide_eq_true m3) (bs e2 (bs rfl (v_J1 g2 (by omega))))
  · exact iF (decide_eq_false m3) (v_J1 g1 (by omega))
theorem law_true (ns : List Int) (h : ns.length ≤ 63) : F_law [.list (ns.map PyData.int)] = some (.im (.bool true)) := k_law (v_law h)
end K44
namespace K44
open PySem PySem.Spec PyProof.Rows L2 DL
def level : Nat := 18
def spLaw (K : PySem.W.Frag) : Sp := fun vs H Q _ => ∃ (a : Addr) (ns : List Int), vs = [.ref a] ∧ SqL K H a (ns.map V.int) ∧ ns.length ≤ 63 ∧ ∀ H', Q (.bl true) H'
theorem law_imp {P : Program} {w : World} {K : PySem.W.Frag} {mg : Str → Option Value} {base : Heap} {f : Addr} {fd : FuncData} (h : FnOk P w K mg base CX0 18 f fd ["_law_script"] (spD K 1 F_law)) : FnOk P w K mg base CX0 level f fd ["_law_script"] (spLaw K) := by
  refine h.imp fun vs H Q E z => ?_
  obtain ⟨a, ns, rfl, hs, hl, q⟩ := z
  refine ⟨H, [.list (ns.map PyData.int)], _, Same.refl H, .cons (.lst hs (dpAll_ints ns)) .nil, rfl, law_true ns hl, fun v G' H' _ _ _ _ d => ?_⟩
  cases d
  exact q H'
theorem facts {P : Program} {w : World} {K : PySem.W.Frag} {h : Heap} {mg : Str → Option Value} {f : Addr} (X : K.In h) (G : h.Ns mainGlobals mg) (hfa : mg ("law" : Str) = some (.ref f)) (cx : SaysX fa fn ex K) :
    ∃ fd : FuncData, (∀ (s : Shared) (v : Value), BindsTo s fd ⟨[v], []⟩ [("_law_script", v)]) ∧ ∀ base : Heap, K.In base → base.Ns mainGlobals mg → FnOk P w K mg base CX0 level f fd ["_law_script"] (spLaw K) := by
  have c := cx.d
  have cxx := (He.ba cx.x).1
  have cxr := (He.ba cx.x).2
  have XI := exB_xi X G cxx
  have cxm := cxr
  have B : Bi mg := ⟨He.free_ok X G (c.fact 34 (f := .free "abs") rfl), He.free_ok X G (c.fact 35 (f := .free "bool") rfl), He.free_ok X G (c.fact 36 (f := .free "enumerate") rfl), He.free_ok X G (c.fact 37 (f := .free "int") rfl), He.free_ok X G (c.fact 38 (f := .free "isinstance") rfl), He.free_ok X G (c.fact 39 (f := .free "len") rfl), He.free_ok X G (c.fact 40 (f := .free "max") rfl), He.free_ok X G (c.fact 41 (f := .free "range") rfl), He.free_ok X G (c.fact 42 (f := .free "sorted") rfl), He.free_ok X G (c.fact 43 (f := .free "tuple") rfl)⟩
  obtain ⟨fd_is_integer, F_is_integer_⟩ := c.def_ 0 (d := d_is_integer) rfl
  obtain ⟨fd__poured_on, F__poured_on_⟩ := c.def_ 10 (d := d__poured_on) rfl
  obtain ⟨fd__law_cell, F__law_cell_⟩ := c.def_ 14 (d := d__law_cell) rfl
  obtain ⟨fd__law_pool, F__law_pool_⟩ := c.def_ 15 (d := d__law_pool) rfl
  obtain ⟨fd__law_take, F__law_take_⟩ := c.def_ 16 (d := d__law_take) rfl
  obtain ⟨fd__law_poured, F__law_poured_⟩ := c.def_ 18 (d := d__law_poured) rfl
  obtain ⟨fd__law_bases, F__law_bases_⟩ := c.def_ 19 (d := d__law_bases) rfl
  obtain ⟨fd__law_nested, F__law_nested_⟩ := c.def_ 20 (d := d__law_nested) rfl
  obtain ⟨fd__law_chain, F__law_chain_⟩ := c.def_ 21 (d := d__law_chain) rfl
  obtain ⟨fd__law_writes, F__law_writes_⟩ := c.def_ 22 (d := d__law_writes) rfl
  obtain ⟨fd_is_number, F_is_number_⟩ := c.def_ 1 (d := d_is_number) rfl
  obtain ⟨fd__law_is_line_plan, F__law_is_line_plan_⟩ := c.def_ 23 (d := d__law_is_line_plan) rfl
  obtain ⟨fd__law_ways, F__law_ways_⟩ := c.def_ 24 (d := d__law_ways) rfl
  obtain ⟨fd__law_plans, F__law_plans_⟩ := c.def_ 25 (d := d__law_plans) rfl
  obtain ⟨fd__law_steps, F__law_steps_⟩ := c.def_ 30 (d := d__law_steps) rfl
  obtain ⟨fd__law_scene, F__law_scene_⟩ := c.def_ 31 (d := d__law_scene) rfl
  obtain ⟨fd_need, F_need_⟩ := c.def_ 2 (d := d_need) rfl
  obtain ⟨fd_is_nested, F_is_nested_⟩ := c.def_ 3 (d := d_is_nested) rfl
  obtain ⟨fd_is_pouring, F_is_pouring_⟩ := c.def_ 8 (d := d_is_pouring) rfl
  obtain ⟨fd_need_plan, F_need_plan_⟩ := c.def_ 4 (d := d_need_plan) rfl
  obtain ⟨fd_is_line_plan, F_is_line_plan_⟩ := c.def_ 7 (d := d_is_line_plan) rfl
  obtain ⟨fd_plan_poured, F_plan_poured_⟩ := c.def_ 11 (d := d_plan_poured) rfl
  obtain ⟨fd_standing_after, F_standing_after_⟩ := c.def_ 12 (d := d_standing_after) rfl
  obtain ⟨fd_line_reads, F_line_reads_⟩ := c.def_ 5 (d := d_line_reads) rfl
  obtain ⟨fd_line_writes, F_line_writes_⟩ := c.def_ 6 (d := d_line_writes) rfl
  obtain ⟨fd_pouring_of, F_pouring_of_⟩ := c.def_ 9 (d := d_pouring_of) rfl
  obtain ⟨fd_poured_counts, F_poured_counts_⟩ := c.def_ 13 (d := d_poured_counts) rfl
  obtain ⟨fd__law_same, F__law_same_⟩ := c.def_ 17 (d := d__law_same) rfl
  obtain ⟨fd__law_all, F__law_all_⟩ := c.def_ 26 (d := d__law_all) rfl
  obtain ⟨fd__law_refusal, F__law_refusal_⟩ := c.def_ 27 (d := d__law_refusal) rfl
  obtain ⟨fd__law_by_hand, F__law_by_hand_⟩ := c.def_ 29 (d := d__law_by_hand) rfl
  obtain ⟨fd__law_refusals, F__law_refusals_⟩ := c.def_ 28 (d := d__law_refusals) rfl
  obtain ⟨fd_law, F_law_⟩ := c.def_ 32 (d := d_law) rfl
  obtain ⟨fd_i_NotUsable, F_i_NotUsable⟩ := c.def_ 33 (d := d_i_NotUsable) rfl
  have e := hfa.symm.trans (He.glo_ok X G (c.fact 32 (f := .glo "law") rfl))
  cases e
  have b := FunD.bindsA (ps := ["_law_script"]) F_law_ fun _ _ _ _ _ _ us hl => match us, hl with | [_], _ => rfl
  refine ⟨fd_law, fun s v => b s [v] rfl, fun base _ _ => ?_⟩
  have XT_NotUsable : ExT P w K mg base "NotUsable" ["word", "at"] := exB_ini X G cxx (x := "NotUsable") (by decide +kernel) (fun C hC xc hf => init2 F_i_NotUsable sc_i_NotUsable rfl xc.ox (hf "word" (by decide +kernel)) (hf "at" (by decide +kernel)) fun cdv A outer s H E => (pss_cons (ps_ost (pe_var (i := 0) rfl (Or.inl rfl) (by decide) (by decide)) (pe_var (i := 1) rfl (Or.inl rfl) (by decide) (by decide))) (pss_cons (ps_ost (pe_var (i := 0) rfl (Or.inl rfl) (by decide) (by decide)) (pe_var (i := 2) rfl (Or.inl rfl) (by decide) (by decide))) pss_nil))) (F_i_NotUsable.bindsN fun _ _ _ _ _ _ us hl => match us, hl with | [_, _, _], _ => rfl)
  have k_is_integer := ok_is_integer (P := P) (w := w) (mg := mg) (base := base) B F_is_integer_
  have c_is_integer := kfN F_is_integer_ k_is_integer (He.glo_ok X G (c.fact 0 (f := .glo "is_integer") rfl)) fun _ _ _ _ _ _ us hl => match us, hl with | [_], _ => rfl
  have k__poured_on := ok__poured_on (P := P) (w := w) (mg := mg) (base := base) B F__poured_on_
  have c__poured_on := kfN F__poured_on_ k__poured_on (He.glo_ok X G (c.fact 10 (f := .glo "_poured_on") rfl)) fun _ _ _ _ _ _ us hl => match us, hl with | [_, _, _], _ => rfl
  have k__law_cell := ok__law_cell (P := P) (w := w) (mg := mg) (base := base) B F__law_cell_
  have c__law_cell := kfN F__law_cell_ k__law_cell (He.glo_ok X G (c.fact 14 (f := .glo "_law_cell") rfl)) fun _ _ _ _ _ _ us hl => match us, hl with | [_, _], _ => rfl
  have k__law_pool := ok__law_pool (P := P) (w := w) (mg := mg) (base := base) B F__law_pool_
  have c__law_pool := kfN F__law_pool_ k__law_pool (He.glo_ok X G (c.fact 15 (f := .glo "_law_pool") rfl)) fun _ _ _ _ _ _ us hl => match us, hl with | [_], _ => rfl
  have k__law_take := ok__law_take (P := P) (w := w) (mg := mg) (base := base) B F__law_take_
  have c__law_take := kfN F__law_take_ k__law_take (He.glo_ok X G (c.fact 16 (f := .glo "_law_take") rfl)) fun _ _ _ _ _ _ us hl => match us, hl with | [_, _], _ => rfl
  have k__law_poured := ok__law_poured (P := P) (w := w) (mg := mg) (base := base) B F__law_poured_
  have c__law_poured := kfN F__law_poured_ k__law_poured (He.glo_ok X G (c.fact 18 (f := .glo "_law_poured") rfl)) fun _ _ _ _ _ _ us hl => match us, hl with | [_], _ => rfl
  have k__law_bases := ok__law_bases (P := P) (w := w) (mg := mg) (base := base) B F__law_bases_
  have c__law_bases := kfN F__law_bases_ k__law_bases (He.glo_ok X G (c.fact 19 (f := .glo "_law_bases") rfl)) fun _ _ _ _ _ _ us hl => match us, hl with | [_], _ => rfl
  have k__law_nested := ok__law_nested (P := P) (w := w) (mg := mg) (base := base) B F__law_nested_
  have c__law_nested := kfN F__law_nested_ k__law_nested (He.glo_ok X G (c.fact 20 (f := .glo "_law_nested") rfl)) fun _ _ _ _ _ _ us hl => match us, hl with | [_], _ => rfl
  have k__law_chain := ok__law_chain (P := P) (w := w) (mg := mg) (base := base) B F__law_chain_
  have c__law_chain := kfN F__law_chain_ k__law_chain (He.glo_ok X G (c.fact 21 (f := .glo "_law_chain") rfl)) fun _ _ _ _ _ _ us hl => match us, hl with | [_, _], _ => rfl
  have k__law_writes := ok__law_writes (P := P) (w := w) (mg := mg) (base := base) B F__law_writes_
  have c__law_writes := kfN F__law_writes_ k__law_writes (He.glo_ok X G (c.fact 22 (f := .glo "_law_writes") rfl)) fun _ _ _ _ _ _ us hl => match us, hl with | [_], _ => rfl
  have k_is_number := ok_is_number (P := P) (w := w) (mg := mg) (base := base) F_is_number_ c_is_integer
  have c_is_number := kfN F_is_number_ k_is_number (He.glo_ok X G (c.fact 1 (f := .glo "is_number") rfl)) fun _ _ _ _ _ _ us hl => match us, hl with | [_], _ => rfl
  have k__law_is_line_plan := ok__law_is_line_plan (P := P) (w := w) (mg := mg) (base := base) B F__law_is_line_plan_ c__law_nested
  have c__law_is_line_plan := kfN F__law_is_line_plan_ k__law_is_line_plan (He.glo_ok X G (c.fact 23 (f := .glo "_law_is_line_plan") rfl)) fun _ _ _ _ _ _ us hl => match us, hl with | [_, _], _ => rfl
  have k__law_ways := ok__law_ways (P := P) (w := w) (mg := mg) (base := base) B F__law_ways_ c__law_poured
  have c__law_ways := kfN F__law_ways_ k__law_ways (He.glo_ok X G (c.fact 24 (f := .glo "_law_ways") rfl)) fun _ _ _ _ _ _ us hl => match us, hl with | [_], _ => rfl
  have k__law_plans := ok__law_plans (P := P) (w := w) (mg := mg) (base := base) B F__law_plans_ c__law_nested
  have c__law_plans := kfN F__law_plans_ k__law_plans (He.glo_ok X G (c.fact 25 (f := .glo "_law_plans") rfl)) fun _ _ _ _ _ _ us hl => match us, hl with | [_], _ => rfl
  have k__law_steps := ok__law_steps (P := P) (w := w) (mg := mg) (base := base) B F__law_steps_ c__law_chain
  have c__law_steps := kfN F__law_steps_ k__law_steps (He.glo_ok X G (c.fact 30 (f := .glo "_law_steps") rfl)) fun _ _ _ _ _ _ us hl => match us, hl with | [_], _ => rfl
  have k__law_scene := ok__law_scene (P := P) (w := w) (mg := mg) (base := base) B F__law_scene_ c__law_poured c__law_take
  have c__law_scene := kfN F__law_scene_ k__law_scene (He.glo_ok X G (c.fact 31 (f := .glo "_law_scene") rfl)) fun _ _ _ _ _ _ us hl => match us, hl with | [_, _], _ => rfl
  have ky_need := okx_need (P := P) (w := w) (mg := mg) (base := base) XI XT_NotUsable F_need_
  have k_need := ok_need (P := P) (w := w) (mg := mg) (base := base) F_need_
  have kx_need := fn_orX k_need ky_need
  have c_Xneed := kfXN F_need_ kx_need (He.glo_ok X G (c.fact 2 (f := .glo "need") rfl)) fun _ _ _ _ _ _ us hl => match us, hl with | [_, _], _ => rfl
  have c_need := kfN F_need_ k_need (He.glo_ok X G (c.fact 2 (f := .glo "need") rfl)) fun _ _ _ _ _ _ us hl => match us, hl with | [_, _], _ => rfl
  have k_is_nested := ok_is_nested (P := P) (w := w) (mg := mg) (base := base) B F_is_nested_ c_is_number
  have c_is_nested := kfN F_is_nested_ k_is_nested (He.glo_ok X G (c.fact 3 (f := .glo "is_nested") rfl)) fun _ _ _ _ _ _ us hl => match us, hl with | [_], _ => rfl
  have k_is_pouring := ok_is_pouring (P := P) (w := w) (mg := mg) (base := base) B F_is_pouring_ c_is_number
  have c_is_pouring := kfN F_is_pouring_ k_is_pouring (He.glo_ok X G (c.fact 8 (f := .glo "is_pouring") rfl)) fun _ _ _ _ _ _ us hl => match us, hl with | [_], _ => rfl
  have c_is_pouring_kw0_0 : KfK P w K mg base 3 "is_pouring" (spD K 1 F_is_pouring) 0 ["thing"] [0] := ⟨_, fd_is_pouring, _, k_is_pouring, (He.glo_ok X G (c.fact 8 (f := .glo "is_pouring") rfl)), F_is_pouring_.kp, kbn_of F_is_pouring_ 0 ["thing"] [0] fun _ _ _ _ _ _ us ws h1 h2 => match us, ws, h1, h2 with | [], [_], _, _ => rfl⟩
  have ky_need_plan := okx_need_plan (P := P) (w := w) (mg := mg) (base := base) XI XT_NotUsable F_need_plan_ c_is_nested
  have k_need_plan := ok_need_plan (P := P) (w := w) (mg := mg) (base := base) F_need_plan_ c_is_nested
  have kx_need_plan := fn_orX k_need_plan ky_need_plan
  have c_Xneed_plan := kfXN F_need_plan_ kx_need_plan (He.glo_ok X G (c.fact 4 (f := .glo "need_plan") rfl)) fun _ _ _ _ _ _ us hl => match us, hl with | [_, _], _ => rfl
  have c_need_plan := kfN F_need_plan_ k_need_plan (He.glo_ok X G (c.fact 4 (f := .glo "need_plan") rfl)) fun _ _ _ _ _ _ us hl => match us, hl with | [_, _], _ => rfl
  have k_is_line_plan := ok_is_line_plan (P := P) (w := w) (mg := mg) (base := base) F_is_line_plan_ c_is_nested
  have c_is_line_plan := kfN F_is_line_plan_ k_is_line_plan (He.glo_ok X G (c.fact 7 (f := .glo "is_line_plan") rfl)) fun _ _ _ _ _ _ us hl => match us, hl with | [_], _ => rfl
  have ky_plan_poured := okx_plan_poured (P := P) (w := w) (mg := mg) (base := base) B F_plan_poured_ c_Xneed c__poured_on c_is_pouring
  have k_plan_poured := ok_plan_poured (P := P) (w := w) (mg := mg) (base := base) B F_plan_poured_ c__poured_on c_is_pouring c_need
  have kx_plan_poured := fn_orX k_plan_poured ky_plan_poured
  have c_Xplan_poured := kfXN F_plan_poured_ kx_plan_poured (He.glo_ok X G (c.fact 11 (f := .glo "plan_poured") rfl)) fun _ _ _ _ _ _ us hl => match us, hl with | [_], _ => rfl
  have c_plan_poured := kfN F_plan_poured_ k_plan_poured (He.glo_ok X G (c.fact 11 (f := .glo "plan_poured") rfl)) fun _ _ _ _ _ _ us hl => match us, hl with | [_], _ => rfl
  have c_plan_poured_kw0_0 : KfK P w K mg base 4 "plan_poured" (spD K 1 F_plan_poured) 0 ["pouring"] [0] := ⟨_, fd_plan_poured, _, k_plan_poured, (He.glo_ok X G (c.fact 11 (f := .glo "plan_poured") rfl)), F_plan_poured_.kp, kbn_of F_plan_poured_ 0 ["pouring"] [0] fun _ _ _ _ _ _ us ws h1 h2 => match us, ws, h1, h2 with | [], [_], _, _ => rfl⟩
  have ky_standing_after := okx_standing_after (P := P) (w := w) (mg := mg) (base := base) B F_standing_after_ c_Xneed c__poured_on c_is_number c_is_pouring
  have k_standing_after := ok_standing_after (P := P) (w := w) (mg := mg) (base := base) B F_standing_after_ c__poured_on c_is_number c_is_pouring c_need
  have kx_standing_after := fn_orX k_standing_after ky_standing_after
  have c_Xstanding_after := kfXN F_standing_after_ kx_standing_after (He.glo_ok X G (c.fact 12 (f := .glo "standing_after") rfl)) fun _ _ _ _ _ _ us hl => match us, hl with | [_, _], _ => rfl
  have c_standing_after := kfN F_standing_after_ k_standing_after (He.glo_ok X G (c.fact 12 (f := .glo "standing_after") rfl)) fun _ _ _ _ _ _ us hl => match us, hl with | [_, _], _ => rfl
  have c_standing_after_kw0_1_0 : KfK P w K mg base 4 "standing_after" (spD K 2 F_standing_after) 0 ["number", "pouring"] [1, 0] := ⟨_, fd_standing_after, _, k_standing_after, (He.glo_ok X G (c.fact 12 (f := .glo "standing_after") rfl)), F_standing_after_.kp, kbn_of F_standing_after_ 0 ["number", "pouring"] [1, 0] fun _ _ _ _ _ _ us ws h1 h2 => match us, ws, h1, h2 with | [], [_, _], _, _ => rfl⟩
  have ky_line_reads := okx_line_reads (P := P) (w := w) (mg := mg) (base := base) B F_line_reads_ c_Xneed_plan
  have k_line_reads := ok_line_reads (P := P) (w := w) (mg := mg) (base := base) B F_line_reads_ c_need_plan
  have kx_line_reads := fn_orX k_line_reads ky_line_reads
  have c_Xline_reads := kfXN F_line_reads_ kx_line_reads (He.glo_ok X G (c.fact 5 (f := .glo "line_reads") rfl)) fun _ _ _ _ _ _ us hl => match us, hl with | [_], _ => rfl
  have c_line_reads := kfN F_line_reads_ k_line_reads (He.glo_ok X G (c.fact 5 (f := .glo "line_reads") rfl)) fun _ _ _ _ _ _ us hl => match us, hl with | [_], _ => rfl
  have ky_line_writes := okx_line_writes (P := P) (w := w) (mg := mg) (base := base) B F_line_writes_ c_Xneed_plan
  have k_line_writes := ok_line_writes (P := P) (w := w) (mg := mg) (base := base) B F_line_writes_ c_need_plan
  have kx_line_writes := fn_orX k_line_writes ky_line_writes
  have c_Xline_writes := kfXN F_line_writes_ kx_line_writes (He.glo_ok X G (c.fact 6 (f := .glo "line_writes") rfl)) fun _ _ _ _ _ _ us hl => match us, hl with | [_], _ => rfl
  have c_line_writes := kfN F_line_writes_ k_line_writes (He.glo_ok X G (c.fact 6 (f := .glo "line_writes") rfl)) fun _ _ _ _ _ _ us hl => match us, hl with | [_], _ => rfl
  have ky_pouring_of := okx_pouring_of (P := P) (w := w) (mg := mg) (base := base) B F_pouring_of_ c_Xline_reads c_Xneed c_is_line_plan
  have k_pouring_of := ok_pouring_of (P := P) (w := w) (mg := mg) (base := base) B F_pouring_of_ c_is_line_plan c_line_reads c_need
  have kx_pouring_of := fn_orX k_pouring_of ky_pouring_of
  have c_Xpouring_of := kfXN F_pouring_of_ kx_pouring_of (He.glo_ok X G (c.fact 9 (f := .glo "pouring_of") rfl)) fun _ _ _ _ _ _ us hl => match us, hl with | [_], _ => rfl
  have c_pouring_of := kfN F_pouring_of_ k_pouring_of (He.glo_ok X G (c.fact 9 (f := .glo "pouring_of") rfl)) fun _ _ _ _ _ _ us hl => match us, hl with | [_], _ => rfl
  have c_pouring_of_kw0_0 : KfK P w K mg base 6 "pouring_of" (spD K 1 F_pouring_of) 0 ["bases"] [0] := ⟨_, fd_pouring_of, _, k_pouring_of, (He.glo_ok X G (c.fact 9 (f := .glo "pouring_of") rfl)), F_pouring_of_.kp, kbn_of F_pouring_of_ 0 ["bases"] [0] fun _ _ _ _ _ _ us ws h1 h2 => match us, ws, h1, h2 with | [], [_], _, _ => rfl⟩
  have ky_poured_counts := okx_poured_counts (P := P) (w := w) (mg := mg) (base := base) F_poured_counts_ c_Xline_writes c_Xplan_poured
  have k_poured_counts := ok_poured_counts (P := P) (w := w) (mg := mg) (base := base) F_poured_counts_ c_line_writes c_plan_poured
  have kx_poured_counts := fn_orX k_poured_counts ky_poured_counts
  have c_Xpoured_counts := kfXN F_poured_counts_ kx_poured_counts (He.glo_ok X G (c.fact 13 (f := .glo "poured_counts") rfl)) fun _ _ _ _ _ _ us hl => match us, hl with | [_], _ => rfl
  have c_poured_counts := kfN F_poured_counts_ k_poured_counts (He.glo_ok X G (c.fact 13 (f := .glo "poured_counts") rfl)) fun _ _ _ _ _ _ us hl => match us, hl with | [_], _ => rfl
  have c_poured_counts_kw0_0 : KfK P w K mg base 6 "poured_counts" (spD K 1 F_poured_counts) 0 ["pouring"] [0] := ⟨_, fd_poured_counts, _, k_poured_counts, (He.glo_ok X G (c.fact 13 (f := .glo "poured_counts") rfl)), F_poured_counts_.kp, kbn_of F_poured_counts_ 0 ["pouring"] [0] fun _ _ _ _ _ _ us ws h1 h2 => match us, ws, h1, h2 with | [], [_], _, _ => rfl⟩
  have kh__law_same : L2H.FnH P w K mg base CX0 15 _ fd__law_same ["_law_one", "_law_other"] (spD K 2 F__law_same) := okh__law_same (P := P) (w := w) (mg := mg) (base := base) B F__law_same_ (fun ok => kfHN F__law_same_ ok (He.glo_ok X G (c.fact 17 (f := .glo "_law_same") rfl)) fun _ _ _ _ _ _ us hl => match us, hl with | [_, _], _ => rfl) 14
  have c_H_law_same := kfHN F__law_same_ kh__law_same (He.glo_ok X G (c.fact 17 (f := .glo "_law_same") rfl)) fun _ _ _ _ _ _ us hl => match us, hl with | [_, _], _ => rfl
  have k__law_same : FnOk P w K mg base CX0 15 _ fd__law_same ["_law_one", "_law_other"] (spD K 2 F__law_same) := ok__law_same (P := P) (w := w) (mg := mg) (base := base) B F__law_same_ (fun ok => kfN F__law_same_ ok (He.glo_ok X G (c.fact 17 (f := .glo "_law_same") rfl)) fun _ _ _ _ _ _ us hl => match us, hl with | [_, _], _ => rfl) 14
  have c__law_same := kfN F__law_same_ k__law_same (He.glo_ok X G (c.fact 17 (f := .glo "_law_same") rfl)) fun _ _ _ _ _ _ us hl => match us, hl with | [_, _], _ => rfl
  have k__law_all := ok__law_all (P := P) (w := w) (mg := mg) (base := base) B F__law_all_ c__law_is_line_plan c__law_plans c__law_same c__law_ways c__law_writes c_plan_poured c_poured_counts c_pouring_of
  have c__law_all := kfN F__law_all_ k__law_all (He.glo_ok X G (c.fact 26 (f := .glo "_law_all") rfl)) fun _ _ _ _ _ _ us hl => match us, hl with | [_], _ => rfl
  have k__law_refusal := ok__law_refusal (P := P) (w := w) (mg := mg) (base := base) XI F__law_refusal_ c_H_law_same c_Xplan_poured c_Xpoured_counts c_Xpouring_of c_Xstanding_after
  have c__law_refusal := kfN F__law_refusal_ k__law_refusal (He.glo_ok X G (c.fact 27 (f := .glo "_law_refusal") rfl)) fun _ _ _ _ _ _ us hl => match us, hl with | [_, _, _], _ => rfl
  have k__law_by_hand := ok__law_by_hand (P := P) (w := w) (mg := mg) (base := base) B F__law_by_hand_ c__law_same c_is_pouring_kw0_0 c_plan_poured c_plan_poured_kw0_0 c_poured_counts c_poured_counts_kw0_0 c_pouring_of c_pouring_of_kw0_0 c_standing_after c_standing_after_kw0_1_0
  have c__law_by_hand := kfN F__law_by_hand_ k__law_by_hand (He.glo_ok X G (c.fact 29 (f := .glo "_law_by_hand") rfl)) fun _ _ _ _ _ _ us hl => match us, hl with | [], _ => rfl
  have k__law_refusals := ok__law_refusals (P := P) (w := w) (mg := mg) (base := base) B F__law_refusals_ c__law_refusal c_is_pouring
  have c__law_refusals := kfN F__law_refusals_ k__law_refusals (He.glo_ok X G (c.fact 28 (f := .glo "_law_refusals") rfl)) fun _ _ _ _ _ _ us hl => match us, hl with | [], _ => rfl
  have k_law := ok_law (P := P) (w := w) (mg := mg) (base := base) B F_law_ c__law_all c__law_bases c__law_by_hand c__law_cell c__law_chain c__law_is_line_plan c__law_pool c__law_poured c__law_refusals c__law_same c__law_scene c__law_steps c__law_take c__law_writes c_is_pouring c_plan_poured c_poured_counts c_pouring_of c_standing_after
  exact law_imp k_law
end K44
open PySem PySem.W PySem.Calls PyProof.Rows
theorem PySem.Challenge.cw_sincemarks_k44_whole_pourings_and_plans_holds : PySem.Challenge.rw_sincemarks_k44_whole_pourings_and_plans.Holds := by
  w_on; o_law
  refine HandSHeadRun.head_any (r := OpenLaw.row PySem.Challenge.rw_sincemarks_k44_whole_pourings_and_plans) (q := view (OpenLaw.row PySem.Challenge.rw_sincemarks_k44_whole_pourings_and_plans).prog [43]) (H := K44.hk) (ob := K44.ob) (M := 6000) (loose := K44.names) (d := HandSHeadRun.topDef (OpenLaw.row PySem.Challenge.rw_sincemarks_k44_whole_pourings_and_plans).prog 43) (kwd := []) K44.ob_eq
    (by kernel_rfl) (fun s => by kernel_rfl) K44.run (by kernel_rfl) (by kernel_rfl) (by kernel_rfl) (by rfl) (by first | assumption | decide +kernel) (by decide +kernel) ⟨rfl, rfl, rfl, rfl, rfl, by decide +kernel⟩ ?hw ?hc
  case hw => w_witness2
  case hc =>
    refine L2.walk_ofE (l := PySem.Challenge.rw_sincemarks_k44_whole_pourings_and_plans) (n := 63) (k := K44.level) (x := "_law_script") (CX := L2.CX0) rfl (by decide) (by kernel_rfl) ⟨rfl, by decide, by decide⟩ ?F (fun _ _ _ _ z => z)
    intro w mg fa h Y G hmg0
    obtain ⟨K, KX, c⟩ := Y
    have hmg : mg ("law" : PySem.Str) = some (.ref fa) := by
      have e : (HandSHeadRun.topDef (OpenLaw.row PySem.Challenge.rw_sincemarks_k44_whole_pourings_and_plans).prog 43).name = ("law" : PySem.Str) := by kernel_rfl
      rw [← e]
      exact hmg0
    obtain ⟨fd, hb, hF⟩ := K44.facts (P := (PySem.Challenge.rw_sincemarks_k44_whole_pourings_and_plans).prog) (w := w) KX G hmg c
    exact ⟨K, fd, K44.spLaw K, KX, hb, fun H a ns hl _ hS => ⟨a, ns, rfl, hS, hl, fun _ => rfl⟩, hF⟩
