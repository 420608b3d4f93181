import PyProof.Rows.All
import Wide.All
import OpenK.AllK
import Wide.FinOn
import HandS.ForMost
import HandS.Defaults
import HandS.Conv
import HandS.Zip
import HandS.Rev
import HandS.Style
import HandS.IsInst
import HandS.SortKw
import HandS.SortInts
import HandS.SortOrd
import HandS.TupAny
import HandS.TupLe
import HandS.Wide
import HandS.Flow
import KE.DataMinMax
import KE.SortData
import HandS.TupSets
import KE.GoesEnum
import KE.DataEq
import HandS.Exc
import HandS.ExcOwn
import HandS.ExcInit
import HandS.ExcField
import HandS.ExcIs
import HandS.TryMany
import HandS.ExcCtx
import HandS.HotCalls
import KE.KExcIs
import HandS.Head0
import HandS.Head1
import HandS.Head2
import HandS.HeadEnd
import HandS.HeadHook1
import HandS.HeadHook2
import HandS.Gcd
import KE.KMathGC
import HandS.TupMul
import HandS.Dict
import HandS.Deep
import HandS.Comp
import KE.GoesEnumKw
import HandS.RevRange
import HandS.Head3
import HandS.IterNext
import HandS.OwnIter
import HandS.Property
import HandS.OwnEq
import HandS.Codes
import HandS.MakeKwOnly
import HandS.IterVal
import KE.KDictZip
import HandS.RevTup
import HandS.SetBool
import HandS.Strs
import HandS.SetFor
import HandS.More
import HandS.Text
import HandS.HeadHook3
import HandS.Replace
import HandS.ReplaceLit
import HandS.ReplaceDef
import HandS.FStr
import KE.KIndexWalk
import KE.DataFind
import PySem.Challenge.RW_sincemarks_k13_whole_steps_go_to_the_nex
set_option Elab.async false
set_option linter.all false
set_option maxRecDepth 100000
set_option maxHeartbeats 0
namespace DL
open PySem PySem.Spec PyProof.Rows L2
abbrev St := L2.St
/-- a thing that is only asked: a set of ints, a range -/
inductive Ok where
  | ints (is : List Int)
  | rng (lo hi : Int)
  | xc (a dd : Addr) (fs : List (Str × V)) (ds : List (Str × PyData))
def Ok.At : Ok → HO → Prop
  | .ints is, o => ∃ n, o = .set (fun j => decide (j ∈ is)) n
  | .rng lo hi, o => o = .rng lo hi
  | .xc _ _ _ _, _ => False
/-- an item of one's own thing: data, or one's own list -/
inductive Ot where
  | im (d : PyData)
  | ls (ds : List PyData)
/-- one's own thing: a list of such items, an instance -/
inductive Ow where
  | lst (ts : List Ot)
  | ins (c : Str) (fs : List (Str × Ot))
  | al (i k : Nat)
def Ow.isAl : Ow → Bool
  | .al _ _ => true
  | _ => false
def Ow.ts : Ow → List Ot
  | .lst ts => ts
  | .ins _ fs => fs.map (·.2)
  | .al _ _ => []
def Ow.vs : Ow → Option HO → List V
  | .lst _, some (.lst ws) => ws
  | .ins _ _, some (.ins _ _ fs) => fs.map (·.2)
  | _, _ => []
def owL : List V → List Ot → List Addr
  | .ref q :: vs, .ls _ :: ts => q :: owL vs ts
  | _ :: vs, _ :: ts => owL vs ts
  | _, _ => []
/-- where its lists lie -/
def owQ (o : Option HO) (t : Ow) : List Addr := owL (t.vs o) t.ts
/-- all of it -/
def owA (o : Option HO) (p : Addr) : Ow → List Addr
  | .al _ _ => []
  | t => p :: owQ o t
theorem owA_of {o : Option HO} {p : Addr} : ∀ {t : Ow}, t.isAl = false → owA o p t = p :: owQ o t
  | .lst _, _ => rfl
  | .ins _ _, _ => rfl
theorem owA_al {o : Option HO} {p a : Addr} : ∀ {t : Ow}, a ∈ owA o p t → t.isAl = false
  | .lst _, _ => rfl
  | .ins _ _, _ => rfl
inductive Sl where
  | im (d : PyData)
  | ac (ds : List PyData)
  | nl (dss : List (Bool × List PyData))
  | ob (k : Ok)
  | dk (kvs : List (Key × PyData))
  | me (c : Str) (fs : List (Str × PyData))
  | ow (t : Ow)
abbrev Ev := List (Option Sl)
inductive Rs where
  | im (d : PyData)
  | ac (ds : List PyData)
  | br (i : Nat)
def isAc : Option (Option Sl) → Bool
  | some (some (.ac _)) => true
  | _ => false
def isOw : Option (Option Sl) → Bool
  | some (some (.ow _)) => true
  | _ => false
def isAo (o : Option (Option Sl)) : Bool := isAc o || isOw o
theorem isAc_iff {o : Option (Option Sl)} : isAc o = true ↔ ∃ ds, o = some (some (.ac ds)) := by
  constructor
  · intro h
    match o, h with
    | some (some (.ac ds)), _ => exact ⟨ds, rfl⟩
  · rintro ⟨ds, rfl⟩
    rfl
/-- the name of the class at C -/
def clsNm (K : PySem.W.Frag) (C : Addr) : Option Str := match K.lookup C with
  | some ⟨_, _, .cls cd, _⟩ => some cd.name
  | _ => none
def kyD : Key → PyData
  | .inl i => .int i
  | .inr x => .str x
def XO (ob : Obj) : Prop := ob.cls = .type "tuple" ∧ ob.dict = none
def SqX (H : Hp) (a : Addr) (xs : List V) : Prop := ∃ ob, H a = some (.frz ob (.tup xs)) ∧ XO ob
theorem SqX.t {K : PySem.W.Frag} {H : Hp} {a : Addr} {xs : List V} (h : SqX H a xs) : SqT K H a xs := by
  obtain ⟨ob, h1, _⟩ := h
  exact .inl (.inr ⟨ob, h1⟩)
theorem SqX.same {G H : Hp} {a : Addr} {xs : List V} (h : SqX G a xs) (s : Same G H) : SqX H a xs := by
  obtain ⟨ob, h1, h2⟩ := h
  exact ⟨ob, s _ _ h1, h2⟩
abbrev tO (its : List Value) : Obj := { cls := .type "tuple", data := .seq its.toArray }
theorem tO_x {its : List Value} : XO (tO its) := ⟨rfl, rfl⟩
theorem ObjOk.tX {P : Program} {w : World} {H : Hp} {h : Heap} {xs : List V} {its : List Value} (hz : xs.length ≤ sizeLine) (r : Vals xs its) :
    ObjOk P w (upd H h.objs.size (.frz (tO its) (.tup xs))) (h.push (tO its)) h.objs.size (.frz (tO its) (.tup xs)) :=
  ⟨Heap.get?_push_size _ rfl, hz, its, r, _, Heap.get?_push_size _ rfl, rfl, _, rfl⟩
theorem ObjOk.tA {P : Program} {w : World} {H : Hp} {h : Heap} {a : Addr} {xs : List V} {arr : Array Value} (g : h.get? a = some { cls := .type "tuple", data := .seq arr }) (hz : xs.length ≤ sizeLine) (r : Vals xs arr.toList) :
    ObjOk P w H h a (.frz { cls := .type "tuple", data := .seq arr } (.tup xs)) :=
  ⟨g, hz, arr.toList, r, _, g, rfl, _, by rw [Array.toArray_toList]⟩
def insK (c : Str) (ns : List Str) (ds : List PyData) : List (PyData × PyData) := (.none, .str c) :: (ns.zip ds).map fun p => (.str p.1, p.2)
def dctK (ks : List Key) (ds : List PyData) : List (PyData × PyData) := (ks.zip ds).map fun p => (kyD p.1, p.2)
mutual
inductive Dp (K : PySem.W.Frag) (H : Hp) : V → PyData → Prop
  | non : Dp K H .non .none
  | bl (b : Bool) : Dp K H (.bl b) (.bool b)
  | int (i : Int) : Dp K H (.int i) (.int i)
  | str (x : Str) : Dp K H (.str x) (.str x)
  | lst {a : Addr} {xs : List V} {ds : List PyData} : SqL K H a xs → DpAll K H xs ds → Dp K H (.ref a) (.list ds)
  | tup {a : Addr} {xs : List V} {ds : List PyData} : SqX H a xs → DpAll K H xs ds → Dp K H (.ref a) (.tuple ds)
  | ins {a C dx : Addr} {fs : List (Str × V)} {c : Str} {ds : List PyData} {kvs : List (PyData × PyData)} : H a = some (.ins C dx fs) → clsNm K C = some c → DpAll K H (fs.map (·.2)) ds → kvs = insK c (fs.map (·.1)) ds → Dp K H (.ref a) (.dict kvs)
  | dct {a : Addr} {o : Obj} {ps : List (Key × V)} {ds : List PyData} {kvs : List (PyData × PyData)} : H a = some (.frz o (.dK ps)) → DpAll K H (ps.map (·.2)) ds → kvs = dctK (ps.map (·.1)) ds → Dp K H (.ref a) (.dict kvs)
inductive DpAll (K : PySem.W.Frag) (H : Hp) : List V → List PyData → Prop
  | nil : DpAll K H [] []
  | cons {v : V} {vs : List V} {d : PyData} {ds : List PyData} : Dp K H v d → DpAll K H vs ds → DpAll K H (v :: vs) (d :: ds)
end
mutual
def noDict : PyData → Bool
  | .list ds => noDicts ds
  | .tuple ds => noDicts ds
  | .dict _ => false
  | _ => true
def noDicts : List PyData → Bool
  | [] => true
  | d :: ds => noDict d && noDicts ds
end
mutual
theorem Dp.lib {K : PySem.W.Frag} {H : Hp} : ∀ {v : V} {d : PyData}, Dp K H v d → noDict d = true → L2.Dp K H v d
  | _, _, .non, _ => .non
  | _, _, .bl b, _ => .bl b
  | _, _, .int i, _ => .int i
  | _, _, .str x, _ => .str x
  | _, _, .lst h q, n => .lst h (DpAll.lib q n)
  | _, _, .tup h q, n => .tup h.t (DpAll.lib q n)
  | _, _, .ins _ _ _ _, n => by cases n
  | _, _, .dct _ _ _, n => by cases n
theorem DpAll.lib {K : PySem.W.Frag} {H : Hp} : ∀ {vs : List V} {ds : List PyData}, DpAll K H vs ds → noDicts ds = true → L2.DpAll K H vs ds
  | _, _, .nil, _ => .nil
  | _, _, .cons h q, n => by
    have n : (noDict _ && noDicts _) = true := n
    rw [Bool.and_eq_true] at n
    exact .cons (Dp.lib h n.1) (DpAll.lib q n.2)
end
mutual
theorem canNo : ∀ {d : PyData}, PyData.canLay0 d = true → noDict d = true
  | .none, _ => rfl
  | .bool _, _ => rfl
  | .int _, _ => rfl
  | .str _, _ => rfl
  | .list ds, h => by
    rw [PyData.canLay0] at h
    exact canNos h
  | .tuple ds, h => by
    rw [PyData.canLay0] at h
    exact canNos h
  | .dict _, h => by
    rw [PyData.canLay0] at h
    cases h
theorem canNos : ∀ {ds : List PyData}, PyData.canLayAll0 ds = true → noDicts ds = true
  | [], _ => rfl
  | d :: ds, h => by
    rw [PyData.canLayAll0, Bool.and_eq_true] at h
    show (noDict d && noDicts ds) = true
    rw [canNo h.1, canNos h.2]
    rfl
end
theorem noDicts_all : ∀ {ds : List PyData}, noDicts ds = true ↔ ∀ d ∈ ds, noDict d = true
  | [] => Iff.intro (fun _ d h => (by cases h)) (fun _ => rfl)
  | d :: ds => by
    show (noDict d && noDicts ds) = true ↔ _
    rw [Bool.and_eq_true, noDicts_all (ds := ds)]
    constructor
    · rintro ⟨h1, h2⟩ x hx
      rcases List.mem_cons.mp hx with z | z
      · rw [z]; exact h1
      · exact h2 x z
    · exact fun h => ⟨h d List.mem_cons_self, fun x hx => h x (List.mem_cons_of_mem _ hx)⟩
theorem noDict_ints (ns : List Int) : noDicts (ns.map PyData.int) = true := noDicts_all.mpr fun d h => by
  obtain ⟨_, _, rfl⟩ := List.mem_map.mp h
  rfl
section
variable {K : PySem.W.Frag} {E : Ef} {G G' G1 G2 H H' H1 G0 : Hp} {v : V} {vs ws : List V} {d : PyData} {ds : List PyData} {p a : Addr} {o : HO} {σ σ' : St} {e e' e1 : Ev} {m : Option Addr} {i : Nat} {r : Rs}
mutual
theorem dp_same (s : Same G G') : ∀ {v : V} {d : PyData}, Dp K G v d → Dp K G' v d
  | _, _, .non => .non
  | _, _, .bl b => .bl b
  | _, _, .int i => .int i
  | _, _, .str x => .str x
  | _, _, .lst h q => .lst (s.seq h) (dpAll_same s q)
  | _, _, .tup h q => .tup (h.same s) (dpAll_same s q)
  | _, _, .ins h n q e => .ins (s _ _ h) n (dpAll_same s q) e
  | _, _, .dct h q e => .dct (s _ _ h) (dpAll_same s q) e
theorem dpAll_same (s : Same G G') : ∀ {vs : List V} {ds : List PyData}, DpAll K G vs ds → DpAll K G' vs ds
  | _, _, .nil => .nil
  | _, _, .cons h q => .cons (dp_same s h) (dpAll_same s q)
end
theorem dpAll_len : ∀ {vs : List V} {ds : List PyData}, DpAll K G vs ds → vs.length = ds.length
  | _, _, .nil => rfl
  | _, _, .cons _ q => congrArg (· + 1) (dpAll_len q)
theorem dpAll_get : ∀ {vs : List V} {ds : List PyData} {i : Nat} {d : PyData}, DpAll K G vs ds → ds[i]? = some d → ∃ v, vs[i]? = some v ∧ Dp K G v d
  | _, _, _, _, .nil, z => by simp at z
  | _, _, 0, _, .cons (v := v) h _, z => ⟨v, rfl, by
      have z2 := Option.some.inj z
      rw [← z2]
      exact h⟩
  | _, _, i + 1, _, .cons _ q, z => by
      obtain ⟨v, h1, h2⟩ := dpAll_get (i := i) q (by simpa using z)
      exact ⟨v, by simpa using h1, h2⟩
theorem dpAll_app : ∀ {vs ws : List V} {ds es : List PyData}, DpAll K G vs ds → DpAll K G ws es → DpAll K G (vs ++ ws) (ds ++ es)
  | _, _, _, _, .nil, q => q
  | _, _, _, _, .cons h t, q => .cons h (dpAll_app t q)
theorem dpAll_take : ∀ {vs : List V} {ds : List PyData} (n : Nat), DpAll K G vs ds → DpAll K G (vs.take n) (ds.take n)
  | _, _, 0, _ => .nil
  | _, _, _ + 1, .nil => .nil
  | _, _, n + 1, .cons h t => .cons h (dpAll_take n t)
theorem dpAll_drop : ∀ {vs : List V} {ds : List PyData} (n : Nat), DpAll K G vs ds → DpAll K G (vs.drop n) (ds.drop n)
  | _, _, 0, t => t
  | _, _, _ + 1, .nil => .nil
  | _, _, n + 1, .cons _ t => dpAll_drop n t
theorem dpAll_rev : ∀ {vs : List V} {ds : List PyData}, DpAll K G vs ds → DpAll K G vs.reverse ds.reverse
  | _, _, .nil => .nil
  | _, _, .cons h t => by
    rw [List.reverse_cons, List.reverse_cons]
    exact dpAll_app (dpAll_rev t) (.cons h .nil)
theorem dpAll_ints : ∀ (ns : List Int), DpAll K G (ns.map V.int) (ns.map PyData.int)
  | [] => .nil
  | n :: ns => .cons (.int n) (dpAll_ints ns)
/-- the items of one's own thing -/
inductive OtAll (K : PySem.W.Frag) (G H : Hp) : List V → List Ot → Prop
  | nil : OtAll K G H [] []
  | im {v : V} {vs : List V} {d : PyData} {ts : List Ot} : Dp K G v d → OtAll K G H vs ts → OtAll K G H (v :: vs) (.im d :: ts)
  | ls {q : Addr} {ws vs : List V} {ds : List PyData} {ts : List Ot} : H q = some (.lst ws) → DpAll K G ws ds → OtAll K G H vs ts → OtAll K G H (.ref q :: vs) (.ls ds :: ts)
def OwAt (K : PySem.W.Frag) (G H : Hp) (p : Addr) : Ow → Prop
  | .lst ts => ∃ ws, H p = some (.lst ws) ∧ OtAll K G H ws ts
  | .ins c fs => ∃ (C dx : Addr) (ws : List (Str × V)), H p = some (.ins C dx ws) ∧ clsNm K C = some c ∧ ws.map (·.1) = fs.map (·.1) ∧ OtAll K G H (ws.map (·.2)) (fs.map (·.2))
  | .al _ _ => True
/-- one's own lists -/
def Own0 (σ : St) (e : Ev) (a : Addr) : Prop := ∃ (i : Nat) (ds : List PyData), e[i]? = some (some (.ac ds)) ∧ σ[i]? = some (some (.ref a))
/-- one's own things -/
def OwnW (σ : St) (e : Ev) (H : Hp) (a : Addr) : Prop := ∃ (i : Nat) (t : Ow) (p : Addr), e[i]? = some (some (.ow t)) ∧ σ[i]? = some (some (.ref p)) ∧ a ∈ owA (H p) p t
def Own (σ : St) (e : Ev) (H : Hp) (a : Addr) : Prop := Own0 σ e a ∨ OwnW σ e H a
/-- what stood at the entry; the instance that is being made -/
structure Bs where
  f : Hp
  s : Option Addr
  w : List Addr
  i : Nat
instance : CoeFun Bs (fun _ => Hp) := ⟨Bs.f⟩
/-- what stood at the entry (b), and what is kept beside it since (h) -/
structure Ef where
  h : Hp
  b : Bs
  sub : ∀ a o, b a = some o → h a = some o
instance : CoeFun Ef (fun _ => Hp) := ⟨Ef.h⟩
def Ef.of (H : Hp) : Ef := ⟨H, ⟨H, none, [], 0⟩, fun _ _ z => z⟩
/-- an inner list: left as it is (true), or one's own -/
def NiF (K : PySem.W.Frag) (m : Option Addr) (E : Ef) (G0 G : Hp) (b : Bool) (ds : List PyData) (q : Addr) : Prop := match b with
  | true => Dp K G (.ref q) (.list ds)
  | false => E.b q = none ∧ G0 q = none ∧ m ≠ some q ∧ ∃ ws, E.h q = some (.lst ws) ∧ DpAll K G ws ds
/-- a list of one's own lists -/
def NlF (K : PySem.W.Frag) (m : Option Addr) (E : Ef) (G0 G : Hp) (o : Option (Option V)) (dss : List (Bool × List PyData)) : Prop :=
  ∃ (p : Addr) (qs : List Addr), o = some (some (.ref p)) ∧ E.h p = some (.lst (qs.map V.ref)) ∧ E.b p = none ∧ G0 p = none ∧ m ≠ some p ∧ qs.length = dss.length ∧ (p :: qs).Nodup ∧
    ∀ (j : Nat) (b : Bool) (ds : List PyData) (q : Addr), dss[j]? = some (b, ds) → qs[j]? = some q → NiF K m E G0 G b ds q
theorem NiF.mono {K : PySem.W.Frag} {m : Option Addr} {E : Ef} {G0 G G' : Hp} (s : Same G G') : ∀ {b : Bool} {ds : List PyData} {q : Addr}, NiF K m E G0 G b ds q → NiF K m E G0 G' b ds q
  | true, _, _, h => dp_same s h
  | false, _, _, ⟨h1, h2, h3, ws, h4, h5⟩ => ⟨h1, h2, h3, ws, h4, dpAll_same s h5⟩
theorem NlF.mono {K : PySem.W.Frag} {m : Option Addr} {E : Ef} {G0 G G' : Hp} {o : Option (Option V)} {dss : List (Bool × List PyData)} (s : Same G G') (h : NlF K m E G0 G o dss) : NlF K m E G0 G' o dss := by
  obtain ⟨p, qs, h1, h2, h3, h4, h5, h6, h7, h8⟩ := h
  exact ⟨p, qs, h1, h2, h3, h4, h5, h6, h7, fun j b ds q a1 a2 => (h8 j b ds q a1 a2).mono s⟩
/-- an exception that a clause holds: itself it lies outside, its dict is told -/
def ObF (K : PySem.W.Frag) (G : Hp) (o : Option (Option V)) : Ok → Prop
  | .xc a dd fs ds => o = some (some (.ref a)) ∧ G dd = some (.xd fs) ∧ fs.map (·.1) = ds.map (·.1) ∧ DpAll K G (fs.map (·.2)) (ds.map (·.2))
  | .ints is => ∃ (p : Addr) (u : HO), o = some (some (.ref p)) ∧ G p = some u ∧ (Ok.ints is).At u
  | .rng lo hi => ∃ (p : Addr) (u : HO), o = some (some (.ref p)) ∧ G p = some u ∧ (Ok.rng lo hi).At u
/-- a dict's items -/
def Dkv (K : PySem.W.Frag) (G : Hp) (ws : List (Key × V)) (kvs : List (Key × PyData)) : Prop := ws.map (·.1) = kvs.map (·.1) ∧ DpAll K G (ws.map (·.2)) (kvs.map (·.2))
/-- one's own dict -/
def DkF (K : PySem.W.Frag) (m : Option Addr) (E : Ef) (G0 G : Hp) (o : Option (Option V)) (kvs : List (Key × PyData)) : Prop :=
  ∃ (p : Addr) (ws : List (Key × V)), o = some (some (.ref p)) ∧ E.h p = some (.dK ws) ∧ E.b p = none ∧ G0 p = none ∧ m ≠ some p ∧ Dkv K G ws kvs
/-- an instance that is being made: its class, its fields so far -/
def MeF (K : PySem.W.Frag) (m : Option Addr) (E : Ef) (G0 G : Hp) (o : Option (Option V)) (c : Str) (fs : List (Str × PyData)) : Prop :=
  ∃ (p C dx : Addr) (ws : List (Str × V)), o = some (some (.ref p)) ∧ E.h p = some (.ins C dx ws) ∧ (E.b p = none ∧ E.b.s = some p) ∧ G0 p = none ∧ m ≠ some p ∧ clsNm K C = some c ∧ ws.map (·.1) = fs.map (·.1) ∧ DpAll K G (ws.map (·.2)) (fs.map (·.2))
def OtF (K : PySem.W.Frag) (m : Option Addr) (E : Ef) (G0 G : Hp) (o : Option (Option V)) : Sl → Prop
  | .nl dss => NlF K m E G0 G o dss
  | .dk kvs => DkF K m E G0 G o kvs
  | .me c fs => MeF K m E G0 G o c fs
  | .ob k => ObF K G o k
  | _ => True
/-- one's own things as they stand -/
structure Wl (K : PySem.W.Frag) (m : Option Addr) (E : Ef) (G : Hp) (e : Ev) (σ : St) (H : Hp) : Prop where
  at_ : ∀ (i : Nat) (t : Ow), e[i]? = some (some (.ow t)) → ∃ p : Addr, σ[i]? = some (some (.ref p)) ∧ OwAt K G H p t ∧ (owA (H p) p t).Nodup
  out : ∀ a, OwnW σ e H a → G a = none ∧ H a ≠ none ∧ ¬ Own0 σ e a ∧ (E a = none ∨ m = some a)
  one : ∀ (i j : Nat) (t u : Ow) (p q a : Addr), e[i]? = some (some (.ow t)) → e[j]? = some (some (.ow u)) → σ[i]? = some (some (.ref p)) → σ[j]? = some (some (.ref q)) → a ∈ owA (H p) p t → a ∈ owA (H q) q u → i = j
  al : ∀ (j i k : Nat) (q : Addr), e[j]? = some (some (.ow (.al i k))) → σ[j]? = some (some (.ref q)) → ∀ (t : Ow) (p : Addr), e[i]? = some (some (.ow t)) → t.isAl = false → σ[i]? = some (some (.ref p)) → (∃ ds, t.ts[k]? = some (.ls ds)) ∧ (t.vs (H p))[k]? = some (.ref q)
  pin : ∀ (s : Addr) (t : Ow) (p : Addr), E.b.s = some s → e[min E.b.i 3]? = some (some (.ow t)) → t.isAl = false → σ[min E.b.i 3]? = some (some (.ref p)) → p = s ∧ ∀ a ∈ E.b.w, a ∈ owA (H p) p t
theorem OtAll.keep {K : PySem.W.Frag} {G G' H H' : Hp} (s : Same G G') : ∀ {vs : List V} {ts : List Ot}, OtAll K G H vs ts → (∀ q ∈ owL vs ts, H' q = H q) → OtAll K G' H' vs ts
  | _, _, .nil, _ => .nil
  | _, _, .im (v := v) (vs := vs) (d := d) (ts := ts) h t, k => .im (dp_same s h) (OtAll.keep s t fun q hq => k q (by
      cases v <;> exact hq))
  | _, _, .ls h h2 t, k => .ls (by rw [k _ List.mem_cons_self]; exact h) (dpAll_same s h2) (OtAll.keep s t fun q hq => k q (List.mem_cons_of_mem _ hq))
theorem owQ_lst {ws : List V} {ts : List Ot} : owQ (some (.lst ws)) (.lst ts) = owL ws ts := rfl
theorem owQ_ins {C dx : Addr} {ws : List (Str × V)} {c : Str} {fs : List (Str × Ot)} : owQ (some (.ins C dx ws)) (.ins c fs) = owL (ws.map (·.2)) (fs.map (·.2)) := rfl
theorem OwAt.keep {K : PySem.W.Frag} {G G' H H' : Hp} (s : Same G G') {p : Addr} : ∀ {t : Ow}, OwAt K G H p t → (∀ q ∈ owA (H p) p t, H' q = H q) → OwAt K G' H' p t
  | .lst ts, ⟨ws, h1, h2⟩, k => ⟨ws, (k p List.mem_cons_self).trans h1, h2.keep s fun q hq => k q (List.mem_cons_of_mem _ (by rw [h1, owQ_lst]; exact hq))⟩
  | .ins c fs, ⟨C, dx, ws, h1, h2, h3, h4⟩, k => ⟨C, dx, ws, (k p List.mem_cons_self).trans h1, h2, h3, h4.keep s fun q hq => k q (List.mem_cons_of_mem _ (by rw [h1, owQ_ins]; exact hq))⟩
  | .al _ _, _, _ => True.intro
theorem Wl.keep {K : PySem.W.Frag} {m : Option Addr} {E : Ef} {G G' : Hp} {e e' : Ev} {σ σ' : St} {H H' : Hp} (w : Wl K m E G e σ H) (s : Same G G') (n : ∀ a, OwnW σ e H a → G a = none → G' a = none)
    (he : ∀ (i : Nat) (t : Ow), e'[i]? = some (some (.ow t)) → e[i]? = some (some (.ow t)) ∧ σ'[i]? = σ[i]?) (k0 : ∀ a, Own0 σ' e' a → OwnW σ e H a → False) (hh : ∀ a o, H a = some o → OwnW σ e H a → H' a = some o) :
    Wl K m E G' e' σ' H' ∧ ∀ a, OwnW σ' e' H' a → OwnW σ e H a := by
  have same : ∀ a, OwnW σ e H a → H' a = H a := fun a h => by
    cases q : H a with
    | none => exact absurd q (w.out a h).2.1
    | some o => exact hh a o q h
  have top : ∀ {i : Nat} {t : Ow} {p : Addr}, e[i]? = some (some (.ow t)) → σ[i]? = some (some (.ref p)) → t.isAl = false → H' p = H p := fun {i t p} h1 h2 h3 => same p ⟨i, t, p, h1, h2, by rw [owA_of h3]; exact List.mem_cons_self⟩
  have all : ∀ {i : Nat} {t : Ow} {p : Addr}, e[i]? = some (some (.ow t)) → σ[i]? = some (some (.ref p)) → owA (H' p) p t = owA (H p) p t := fun {i t p} h1 h2 => by
    cases q : t.isAl with
    | false => rw [top h1 h2 q]
    | true =>
      cases t with
      | al _ _ => rfl
      | lst _ => cases q
      | ins _ _ => cases q
  have back : ∀ a, OwnW σ' e' H' a → OwnW σ e H a := fun a ⟨i, t, p, h1, h2, h3⟩ => by
    obtain ⟨h4, h5⟩ := he i t h1
    rw [h5] at h2
    rw [all h4 h2] at h3
    exact ⟨i, t, p, h4, h2, h3⟩
  refine ⟨⟨fun i t h => ?_, fun a h => ?_, fun i j t u p q a h1 h2 h3 h4 h5 h6 => ?_, fun j i k q h1 h2 t p h3 h4 h5 => ?_, fun z t p h1 h2 h3 h4 => ?_⟩, back⟩
  · obtain ⟨h4, h5⟩ := he i t h
    obtain ⟨p, q1, q2, q3⟩ := w.at_ i t h4
    exact ⟨p, by rw [h5]; exact q1, q2.keep s fun q hq => same q ⟨i, t, p, h4, q1, hq⟩, by rw [all h4 q1]; exact q3⟩
  · obtain ⟨q1, q2, q3, q4⟩ := w.out a (back a h)
    exact ⟨n a (back a h) q1, by rw [same a (back a h)]; exact q2, fun z => k0 a z (back a h), q4⟩
  · obtain ⟨a1, a2⟩ := he i t h1
    obtain ⟨b1, b2⟩ := he j u h2
    rw [a2] at h3
    rw [b2] at h4
    rw [all a1 h3] at h5
    rw [all b1 h4] at h6
    exact w.one i j t u p q a a1 b1 h3 h4 h5 h6
  · obtain ⟨a1, a2⟩ := he j _ h1
    obtain ⟨b1, b2⟩ := he i t h3
    rw [a2] at h2
    rw [b2] at h5
    rw [top b1 h5 h4]
    exact w.al j i k q a1 h2 t p b1 h4 h5
  · obtain ⟨b1, b2⟩ := he _ t h2
    rw [b2] at h4
    rw [all b1 h4]
    exact w.pin z t p h1 b1 h3 h4
theorem Wl.non {K : PySem.W.Frag} {m : Option Addr} {E : Ef} {G : Hp} {e : Ev} {σ : St} {H : Hp} (h : ∀ (i : Nat) (t : Ow), e[i]? = some (some (.ow t)) → False) : Wl K m E G e σ H :=
  ⟨fun i t z => (h i t z).elim, fun _ ⟨i, t, _, z, _⟩ => (h i t z).elim, fun i _ t _ _ _ _ z => (h i t z).elim, fun j i k _ z => (h j _ z).elim, fun _ t _ _ z => (h _ t z).elim⟩
/-- the slots as they were -/
theorem Wl.keep0 {K : PySem.W.Frag} {m : Option Addr} {E : Ef} {G G' : Hp} {e : Ev} {σ : St} {H H' : Hp} (w : Wl K m E G e σ H) (s : Same G G') (n : ∀ a, OwnW σ e H a → G a = none → G' a = none) (hh : ∀ a o, H a = some o → OwnW σ e H a → H' a = some o) :
    Wl K m E G' e σ H' ∧ ∀ a, OwnW σ e H' a → OwnW σ e H a := w.keep s n (fun _ _ h => ⟨h, rfl⟩) (fun a h1 h2 => (w.out a h2).2.2.1 h1) hh
theorem OtF.mono {K : PySem.W.Frag} {m : Option Addr} {E : Ef} {G0 G G' : Hp} {o : Option (Option V)} (s : Same G G') : ∀ {x : Sl}, OtF K m E G0 G o x → OtF K m E G0 G' o x
  | .nl _, h => NlF.mono s h
  | .dk _, ⟨p, ws, h1, h2, h3, h4, h5, h6, h7⟩ => ⟨p, ws, h1, h2, h3, h4, h5, h6, dpAll_same s h7⟩
  | .me _ _, ⟨p, C, dx, ws, h1, h2, h3, h4, h5, h6, h7, h8⟩ => ⟨p, C, dx, ws, h1, h2, h3, h4, h5, h6, h7, dpAll_same s h8⟩
  | .ob (.ints _), ⟨p, u, h1, h2, h3⟩ => ⟨p, u, h1, s p u h2, h3⟩
  | .ob (.rng _ _), ⟨p, u, h1, h2, h3⟩ => ⟨p, u, h1, s p u h2, h3⟩
  | .ob (.xc _ _ _ _), ⟨h1, h2, h3, h4⟩ => ⟨h1, s _ _ h2, h3, dpAll_same s h4⟩
  | .im _, _ => True.intro
  | .ac _, _ => True.intro
  | .ow _, _ => True.intro
/-- the slots e are what σ holds: G what stays, H what stands, E what stood at the entry but the object at m -/
structure Rl (K : PySem.W.Frag) (m : Option Addr) (E : Ef) (G0 G : Hp) (e : Ev) (σ : St) (H : Hp) : Prop where
  gg : Same G0 G
  gh : Same G H
  eh : ∀ a o, E a = some o → m ≠ some a → H a = some o
  mh : ∀ a, m = some a → E a ≠ none ∧ H a ≠ none
  nw : ∀ a, G0 a = none → E a ≠ none → G a = none
  len : e.length = σ.length
  im : ∀ (i : Nat) (d : PyData), e[i]? = some (some (.im d)) → ∃ (v : V), σ[i]? = some (some v) ∧ Dp K G v d
  ac : ∀ (i : Nat) (ds : List PyData), e[i]? = some (some (.ac ds)) → ∃ (p : Addr) (ws : List V), σ[i]? = some (some (.ref p)) ∧ G p = none ∧ H p = some (.lst ws) ∧ DpAll K G ws ds ∧ (E p = none ∨ (m = some p ∧ i = 0))
  inj : ∀ (i j : Nat) (di dj : List PyData) (p : Addr), e[i]? = some (some (.ac di)) → e[j]? = some (some (.ac dj)) → σ[i]? = some (some (.ref p)) → σ[j]? = some (some (.ref p)) → i = j
  ot : ∀ (i : Nat) (s : Sl), e[i]? = some (some s) → OtF K m E G0 G σ[i]? s
  wl : Wl K m E G e σ H
theorem Rl.nl {K : PySem.W.Frag} {m : Option Addr} {E : Ef} {G0 G : Hp} {e : Ev} {σ : St} {H : Hp} (R : Rl K m E G0 G e σ H) (i : Nat) (dss : List (Bool × List PyData)) (h : e[i]? = some (some (.nl dss))) : NlF K m E G0 G σ[i]? dss := R.ot i (.nl dss) h
/-- from one moment of an expression to a later one -/
structure Stp (σ : St) (G H : Hp) (e : Ev) (G' H' : Hp) (e' : Ev) : Prop where
  gg : Same G G'
  nw : ∀ a, G a = none → H a ≠ none → G' a = none
  hh : ∀ a o, H a = some o → ¬ Own σ e H a → H' a = some o
  kd : ∀ i : Nat, isAc e'[i]? = isAc e[i]?
  th : ∀ a, H a ≠ none → H' a ≠ none
  ww : ∀ a, OwnW σ e' H' a → OwnW σ e H a ∨ H a = none
theorem own_kd (k : ∀ i : Nat, isAc e'[i]? = isAc e[i]?) : Own0 σ e' a ↔ Own0 σ e a := by
  constructor
  · rintro ⟨i, ds, h1, h2⟩
    have z : isAc e[i]? = true := by rw [← k i, h1]; rfl
    obtain ⟨ds', q⟩ := isAc_iff.mp z
    exact ⟨i, ds', q, h2⟩
  · rintro ⟨i, ds, h1, h2⟩
    have z : isAc e'[i]? = true := by rw [k i, h1]; rfl
    obtain ⟨ds', q⟩ := isAc_iff.mp z
    exact ⟨i, ds', q, h2⟩
/-- what is one's own later was so, or is new -/
theorem Stp.own (S : Stp σ G H e G' H' e') (h : Own σ e' H' a) : Own σ e H a ∨ H a = none := by
  rcases h with h | h
  · exact .inl (.inl ((own_kd S.kd).mp h))
  · rcases S.ww a h with h | h
    · exact .inl (.inr h)
    · exact .inr h
theorem Stp.not (S : Stp σ G H e G' H' e') (ha : H a ≠ none) (h : ¬ Own σ e H a) : ¬ Own σ e' H' a := fun z => by
  rcases S.own z with z | z
  · exact h z
  · exact ha z
theorem Stp.refl : Stp σ G H e G H e := ⟨Same.refl _, fun _ h _ => h, fun _ _ h _ => h, fun _ => rfl, fun _ h => h, fun _ h => .inl h⟩
theorem Stp.trans (a : Stp σ G H e G1 H1 e1) (b : Stp σ G1 H1 e1 G' H' e') : Stp σ G H e G' H' e' where
  gg := a.gg.trans b.gg
  nw := fun x h1 h2 => b.nw x (a.nw x h1 h2) (a.th x h2)
  hh := fun x o h1 h2 => b.hh x o (a.hh x o h1 h2) (a.not (by rw [h1]; simp) h2)
  kd := fun i => (b.kd i).trans (a.kd i)
  th := fun x h => b.th x (a.th x h)
  ww := fun x h => by
    rcases b.ww x h with h | h
    · exact a.ww x h
    · refine .inr ?_
      cases q : H x with
      | none => rfl
      | some o => exact absurd h (a.th x (by rw [q]; simp))
theorem Stp.gone (S : Stp σ G H e G' H' e') (h : H' a = none) : H a = none := by
  cases q : H a with
  | none => rfl
  | some o => exact absurd h (S.th a (by rw [q]; simp))
/-- a value as a result -/
def Vr (K : PySem.W.Frag) (E : Ef) (G H : Hp) (σ : St) (e : Ev) (v : V) : Rs → Prop
  | .im d => Dp K G v d
  | .ac ds => ∃ p ws, v = .ref p ∧ E p = none ∧ G p = none ∧ H p = some (.lst ws) ∧ DpAll K G ws ds ∧ ¬ Own σ e H p
  | .br i => σ[i]? = some (some v)
/-- a new list was not there ahead -/
def Nw (H : Hp) (v : V) : Rs → Prop
  | .ac _ => ∀ p, v = .ref p → H p = none
  | _ => True
theorem Vr.stp (S : Stp σ G H e G' H' e') : ∀ {r : Rs}, Vr K E G H σ e v r → Vr K E G' H' σ e' v r
  | .im d, h => dp_same S.gg h
  | .ac ds, h => by
    obtain ⟨p, ws, rfl, h1, h2, h3, h4, h5⟩ := h
    exact ⟨p, ws, rfl, h1, S.nw p h2 (by rw [h3]; simp), S.hh p _ h3 h5, dpAll_same S.gg h4, S.not (by rw [h3]; simp) h5⟩
  | .br i, h => h
/-- the frozen form -/
def frzR : Rs → Rs
  | .ac ds => .im (.list ds)
  | r => r
/-- a new list is left as it is for good -/
theorem Rl.freeze (R : Rl K m E G0 G' e' σ H') (S : Stp σ G H e G' H' e') (h : Vr K E G' H' σ e' v r) (n : Nw H v r) :
    ∃ G2, Rl K m E G0 G2 e' σ H' ∧ Stp σ G H e G2 H' e' ∧ Same G' G2 ∧ Vr K E G2 H' σ e' v (frzR r) := by
  cases r with
  | im d => exact ⟨G', R, S, Same.refl _, h⟩
  | br i => exact ⟨G', R, S, Same.refl _, h⟩
  | ac ds =>
    obtain ⟨p, ws, rfl, h1, h2, h3, h4, h5⟩ := h
    have s1 : Same G' (upd G' p (.lst ws)) := fun b o q => by
      rw [upd_ne (ne_of_none q h2)]
      exact q
    have hp : H p = none := n p rfl
    refine ⟨upd G' p (.lst ws), ⟨R.gg.trans s1, fun b o q => ?_, R.eh, R.mh, fun b b1 b2 => ?_, R.len, fun i d q => ?_, fun i ds' q => ?_, R.inj, fun i dss q => (R.ot i dss q).mono s1, (R.wl.keep0 s1 (fun b b1 b2 => by rw [upd_ne (fun z => h5 (.inr (by rw [← z]; exact b1)))]; exact b2) fun _ _ z _ => z).1⟩, ⟨S.gg.trans s1, fun b b1 b2 => ?_, S.hh, S.kd, S.th, S.ww⟩, s1, ?_⟩
    · by_cases z : b = p
      · subst z
        rw [upd_same] at q
        rw [h3]
        exact q
      · rw [upd_ne z] at q
        exact R.gh b o q
    · have z : b ≠ p := fun z => b2 (by rw [z]; exact h1)
      rw [upd_ne z]
      exact R.nw b b1 b2
    · obtain ⟨u, q1, q2⟩ := R.im i d q
      exact ⟨u, q1, dp_same s1 q2⟩
    · obtain ⟨p', ws', q1, q2, q3, q4, q5⟩ := R.ac i ds' q
      have z : p' ≠ p := fun z => h5 (.inl ⟨i, ds', q, by rw [← z]; exact q1⟩)
      exact ⟨p', ws', q1, by rw [upd_ne z]; exact q2, q3, dpAll_same s1 q4, q5⟩
    · have z : b ≠ p := fun z => b2 (by rw [z]; exact hp)
      rw [upd_ne z]
      exact S.nw b b1 b2
    · exact .lst (.inl (.inl upd_same)) (dpAll_same s1 h4)
/-- a list's own items may be in H, not in G -/
def Lv (K : PySem.W.Frag) (G H : Hp) (v : V) (d : PyData) : Prop := Dp K G v d ∨ ∃ p ws ds, v = .ref p ∧ d = .list ds ∧ H p = some (.lst ws) ∧ DpAll K G ws ds
/-- what a second name tells -/
def alL (e : Ev) (i k : Nat) : Option (List PyData) := match e[i]? with
  | some (some (.ow t)) => (match t.ts[k]? with
    | some (.ls ds) => some ds
    | _ => none)
  | _ => none
theorem owL_im {v : V} {vs : List V} {d : PyData} {ts : List Ot} : owL (v :: vs) (.im d :: ts) = owL vs ts := by cases v <;> rfl
theorem otAll_ls : ∀ {vs : List V} {ts : List Ot} {k : Nat} {ds : List PyData}, OtAll K G H vs ts → ts[k]? = some (.ls ds) → ∃ q ws, vs[k]? = some (.ref q) ∧ q ∈ owL vs ts ∧ H q = some (.lst ws) ∧ DpAll K G ws ds
  | _, _, _, _, .nil, z => by simp at z
  | _, _, 0, _, .im _ _, z => by cases z
  | _, _, 0, _, .ls h1 h2 _, z => by
    cases z
    exact ⟨_, _, rfl, List.mem_cons_self, h1, h2⟩
  | _, _, k + 1, _, .im _ t, z => by
    obtain ⟨q, ws, a1, a2, a3⟩ := otAll_ls (k := k) t (by simpa using z)
    exact ⟨q, ws, by simpa using a1, by rw [owL_im]; exact a2, a3⟩
  | _, _, k + 1, _, .ls _ _ t, z => by
    obtain ⟨q, ws, a1, a2, a3⟩ := otAll_ls (k := k) t (by simpa using z)
    exact ⟨q, ws, by simpa using a1, List.mem_cons_of_mem _ a2, a3⟩
/-- the items of one's own thing, whatever it is -/
theorem OwAt.items : ∀ {t : Ow}, t.isAl = false → OwAt K G H p t → OtAll K G H (t.vs (H p)) t.ts
  | .lst ts, _, ⟨ws, h1, h2⟩ => by
    rw [h1]
    exact h2
  | .ins c fs, _, ⟨C, dx, ws, h1, h2, h3, h4⟩ => by
    rw [h1]
    exact h4
/-- where the second name points -/
theorem Rl.alP {j k : Nat} (R : Rl K m E G0 G e σ H) (h : e[j]? = some (some (.ow (.al i k)))) (q : alL e i k = some ds) : ∃ a ws, σ[j]? = some (some (.ref a)) ∧ H a = some (.lst ws) ∧ DpAll K G ws ds := by
  unfold alL at q
  split at q
  · rename_i t h1
    split at q
    · rename_i ds' h2
      cases q
      have nt : t.isAl = false := by
        cases t with
        | al _ _ => simp [Ow.ts] at h2
        | lst _ => rfl
        | ins _ _ => rfl
      obtain ⟨a, a1, _⟩ := R.wl.at_ j _ h
      obtain ⟨p, b1, b2, _⟩ := R.wl.at_ i _ h1
      have c := (R.wl.al j i k a h a1 t p h1 nt b1).2
      obtain ⟨a', ws, d1, d2, d3, d4⟩ := otAll_ls (b2.items nt) h2
      rw [c] at d1
      cases d1
      exact ⟨a, ws, a1, d3, d4⟩
    · cases q
  · cases q
/-- what a frozen result holds -/
def lookR (e : Ev) : Rs → Option PyData
  | .im d => some d
  | .ac _ => none
  | .br i => match e[i]? with
    | some (some (.ac ds)) => some (.list ds)
    | some (some (.ow (.al j k))) => (alL e j k).map .list
    | _ => none
theorem Rl.look (R : Rl K m E G0 G e σ H) (h : Vr K E G H σ e v r) (q : lookR e r = some d) : Lv K G H v d := by
  cases r with
  | im d' =>
    cases q
    exact .inl h
  | ac ds => cases q
  | br i =>
    have h2 : σ[i]? = some (some v) := h
    simp only [lookR] at q
    split at q
    · rename_i ds h1
      cases q
      obtain ⟨p, ws, q1, q2, q3, q4, q5⟩ := R.ac i ds h1
      rw [h2] at q1
      cases q1
      exact .inr ⟨p, ws, ds, rfl, rfl, q3, q4⟩
    · rename_i j k h1
      obtain ⟨ds, h3, rfl⟩ := Option.map_eq_some_iff.mp q
      obtain ⟨a, ws, q1, q3, q4⟩ := R.alP h1 h3
      rw [h2] at q1
      cases q1
      exact .inr ⟨a, ws, ds, rfl, rfl, q3, q4⟩
    · cases q
theorem Lv.dp (s : Same G H) (h : Lv K G H v d) : Dp K H v d := by
  rcases h with h | ⟨p, ws, ds, rfl, rfl, h1, h2⟩
  · exact dp_same s h
  · exact .lst (.inl (.inl h1)) (dpAll_same s h2)
/-- as a list -/
theorem Lv.list (s : Same G H) (h : Lv K G H v (.list ds)) : ∃ p ws, v = .ref p ∧ SqL K H p ws ∧ DpAll K G ws ds := by
  rcases h with h | ⟨p, ws, ds', rfl, e, h1, h2⟩
  · cases h with
    | lst h q => exact ⟨_, _, rfl, s.seq h, q⟩
  · cases e
    exact ⟨p, ws, rfl, .inl (.inl h1), h2⟩
theorem Lv.tup (s : Same G H) (h : Lv K G H v (.tuple ds)) : ∃ p ws, v = .ref p ∧ SqT K H p ws ∧ DpAll K G ws ds := by
  rcases h with h | ⟨p, ws, ds', rfl, e, h1, h2⟩
  · cases h with
    | tup h q => exact ⟨_, _, rfl, (h.same s).t, q⟩
  · cases e
theorem Lv.int {i : Int} (h : Lv K G H v (.int i)) : v = .int i := by
  rcases h with h | ⟨p, ws, ds, rfl, e, _⟩
  · cases h
    rfl
  · cases e
theorem Lv.bool {b : Bool} (h : Lv K G H v (.bool b)) : v = .bl b := by
  rcases h with h | ⟨p, ws, ds, rfl, e, _⟩
  · cases h
    rfl
  · cases e
theorem Lv.none (h : Lv K G H v .none) : v = .non := by
  rcases h with h | ⟨p, ws, ds, rfl, e, _⟩
  · cases h
    rfl
  · cases e
theorem Lv.str {x : Str} (h : Lv K G H v (.str x)) : v = .str x := by
  rcases h with h | ⟨p, ws, ds, rfl, e, _⟩
  · cases h
    rfl
  · cases e
theorem Rl.fresh (R : Rl K m E G0 G e σ H) (h : H p = none) : G p = none ∧ E p = none ∧ ¬ Own σ e H p ∧ m ≠ some p := by
  refine ⟨R.gh.free h, ?_, ?_, ?_⟩
  · cases q : E p with
    | none => rfl
    | some o =>
      by_cases z : m = some p
      · exact absurd h (R.mh p z).2
      · rw [R.eh p o q z] at h
        cases h
  · rintro (⟨i, ds, h1, h2⟩ | w)
    · obtain ⟨p', ws, q1, _, q3, _⟩ := R.ac i ds h1
      rw [h2] at q1
      cases q1
      rw [h] at q3
      cases q3
    · exact (R.wl.out p w).2.1 h
  · intro z
    exact absurd h (R.mh p z).2
theorem same_new (h : H p = none) : Same H (upd H p o) := fun b u q => by
  rw [upd_ne (ne_of_none q h)]
  exact q
/-- a new tuple -/
theorem Rl.newT {ob : Obj} (R : Rl K m E G0 G e σ H) (h : H p = none) (x : XO ob) (q : DpAll K G ws ds) :
    Rl K m E G0 (upd G p (.frz ob (.tup ws))) e σ (upd H p (.frz ob (.tup ws))) ∧ Stp σ G H e (upd G p (.frz ob (.tup ws))) (upd H p (.frz ob (.tup ws))) e ∧ Dp K (upd G p (.frz ob (.tup ws))) (.ref p) (.tuple ds) := by
  obtain ⟨hG, hE, hO, hm⟩ := R.fresh h
  have s1 : Same G (upd G p (.frz ob (.tup ws))) := same_new hG
  have nb : ∀ {b : Addr}, H b ≠ none → b ≠ p := fun {b} z y => z (by rw [y]; exact h)
  have W := R.wl.keep0 (H' := upd H p (.frz ob (.tup ws))) s1 (fun b b1 b2 => by rw [upd_ne (nb (R.wl.out b b1).2.1)]; exact b2) (fun b u b1 _ => same_new h b u b1)
  refine ⟨⟨R.gg.trans s1, fun b u z => ?_, fun b u b1 b2 => ?_, fun b b1 => ⟨(R.mh b b1).1, ?_⟩, fun b b1 b2 => ?_, R.len, fun i d z => ?_, fun i ds' z => ?_, R.inj, fun i dss z => (R.ot i dss z).mono s1, W.1⟩, ⟨s1, fun b b1 b2 => ?_, fun b u b1 _ => same_new h b u b1, fun _ => rfl, fun b b1 => ?_, fun a z => .inl (W.2 a z)⟩, .tup ⟨ob, upd_same, x⟩ (dpAll_same s1 q)⟩
  · by_cases y : b = p
    · subst y
      rw [upd_same] at z ⊢
      exact z
    · rw [upd_ne y] at z ⊢
      exact R.gh b u z
  · exact same_new h b u (R.eh b u b1 b2)
  · rw [upd_ne (nb (R.mh b b1).2)]
    exact (R.mh b b1).2
  · have y : b ≠ p := fun y => b2 (by rw [y]; exact hE)
    rw [upd_ne y]
    exact R.nw b b1 b2
  · obtain ⟨u, z1, z2⟩ := R.im i d z
    exact ⟨u, z1, dp_same s1 z2⟩
  · obtain ⟨p', ws', z1, z2, z3, z4, z5⟩ := R.ac i ds' z
    have y : p' ≠ p := nb (by rw [z3]; simp)
    exact ⟨p', ws', z1, by rw [upd_ne y]; exact z2, by rw [upd_ne y]; exact z3, dpAll_same s1 z4, z5⟩
  · rw [upd_ne (nb b2)]
    exact b1
  · rw [upd_ne (nb b1)]
    exact b1
/-- a new list -/
theorem Rl.newL (R : Rl K m E G0 G e σ H) (h : H p = none) (q : DpAll K G ws ds) :
    Rl K m E G0 G e σ (upd H p (.lst ws)) ∧ Stp σ G H e G (upd H p (.lst ws)) e ∧ Vr K E G (upd H p (.lst ws)) σ e (.ref p) (.ac ds) ∧ Nw H (.ref p) (.ac ds) := by
  obtain ⟨hG, hE, hO, hm⟩ := R.fresh h
  have nb : ∀ {b : Addr}, H b ≠ none → b ≠ p := fun {b} z y => z (by rw [y]; exact h)
  have W := R.wl.keep0 (H' := upd H p (.lst ws)) (Same.refl G) (fun _ _ z => z) (fun b u b1 _ => same_new h b u b1)
  refine ⟨⟨R.gg, R.gh.trans (same_new h), fun b u b1 b2 => same_new h b u (R.eh b u b1 b2), fun b b1 => ⟨(R.mh b b1).1, ?_⟩, R.nw, R.len, R.im, fun i ds' z => ?_, R.inj, R.ot, W.1⟩, ⟨Same.refl _, fun _ b1 _ => b1, fun b u b1 _ => same_new h b u b1, fun _ => rfl, fun b b1 => ?_, fun a z => .inl (W.2 a z)⟩, ⟨p, ws, rfl, hE, hG, upd_same, q, fun z => ?_⟩, fun p' z => ?_⟩
  · rw [upd_ne (nb (R.mh b b1).2)]
    exact (R.mh b b1).2
  · obtain ⟨p', ws', z1, z2, z3, z4, z5⟩ := R.ac i ds' z
    have y : p' ≠ p := nb (by rw [z3]; simp)
    exact ⟨p', ws', z1, z2, by rw [upd_ne y]; exact z3, z4, z5⟩
  · rw [upd_ne (nb b1)]
    exact b1
  · rcases z with z | z
    · exact hO (.inl z)
    · exact hO (.inr (W.2 p z))
  · cases z
    exact h
end
end DL
namespace DL
open PySem PySem.Spec PyProof.Rows L2
abbrev Fe := Ev → Option (Rs × Ev)
abbrev Ft := Ev → Option (Bool × Ev)
abbrev Fa := Ev → Option (List Rs × Ev)
inductive Fl where
  | nx (e : Ev)
  | bk (e : Ev)
  | ct (e : Ev)
  | rt (r : Rs) (e : Ev)
abbrev Fs := Ev → Option Fl
/-- what must follow a result -/
def Po (K : PySem.W.Frag) (m : Option Addr) (E : Ef) (G0 : Hp) (σ : St) (G H : Hp) (e : Ev) (r : Rs) (e' : Ev) (Q : VK) : Prop :=
  ∀ v G' H', Rl K m E G0 G' e' σ H' → Stp σ G H e G' H' e' → Vr K E G' H' σ e' v r → Nw H v r → Q v H'
structure ED (X : Cx) (x : Expr) (f : Fe) : Prop where
  ex : ∃ t : TE, PE X x t ∧ ∀ (m : Option Addr) (E : Ef) (G0 G : Hp) (e : Ev) (σ : St) (H : Hp) (r : Rs) (e' : Ev) (Q : VK),
    Rl X.K m E G0 G e σ H → f e = some (r, e') → Po X.K m E G0 σ G H e r e' Q → t σ H Q
structure TD (X : Cx) (x : Expr) (f : Ft) : Prop where
  ex : ∃ t : TT, PT X x t ∧ ∀ (m : Option Addr) (E : Ef) (G0 G : Hp) (e : Ev) (σ : St) (H : Hp) (b : Bool) (e' : Ev) (Q : Bool → Hp → Prop),
    Rl X.K m E G0 G e σ H → f e = some (b, e') → (∀ G' H', Rl X.K m E G0 G' e' σ H' → Stp σ G H e G' H' e' → Q b H') → t σ H Q
structure WD (X : Cx) (x : Expr) (f : Ft) : Prop where
  ex : ∃ t : TT, PW X x t ∧ ∀ (m : Option Addr) (E : Ef) (G0 G : Hp) (e : Ev) (σ : St) (H : Hp) (b : Bool) (e' : Ev) (Q : Bool → Hp → Prop),
    Rl X.K m E G0 G e σ H → f e = some (b, e') → (∀ G' H', Rl X.K m E G0 G' e' σ H' → Stp σ G H e G' H' e' → Q b H') → t σ H Q
def VrAll (K : PySem.W.Frag) (E : Ef) (G H : Hp) (σ : St) (e : Ev) : List V → List Rs → Prop
  | [], [] => True
  | v :: vs, r :: rs => Vr K E G H σ e v r ∧ VrAll K E G H σ e vs rs
  | _, _ => False
structure AD (X : Cx) (xs : List Expr) (f : Fa) : Prop where
  ex : ∃ t : TA, PA X xs t ∧ ∀ (m : Option Addr) (E : Ef) (G0 G : Hp) (e : Ev) (σ : St) (H : Hp) (rs : List Rs) (e' : Ev) (Q : List V → Hp → Prop),
    Rl X.K m E G0 G e σ H → f e = some (rs, e') → (∀ vs G' H', Rl X.K m E G0 G' e' σ H' → Stp σ G H e G' H' e' → VrAll X.K E G' H' σ e' vs rs → Q vs H') → t σ H Q
def lookAll (e : Ev) : List Rs → Option (List PyData)
  | [] => some []
  | r :: rs => match lookR e r with
    | some d => (match lookAll e rs with
      | some ds => some (d :: ds)
      | none => none)
    | none => none
def LvAll (K : PySem.W.Frag) (G H : Hp) : List V → List PyData → Prop
  | [], [] => True
  | v :: vs, d :: ds => Lv K G H v d ∧ LvAll K G H vs ds
  | _, _ => False
section
variable {K : PySem.W.Frag} {E : Ef} {G G' H H' G0 : Hp} {v : V} {d : PyData} {σ : St} {e e' e1 : Ev} {m : Option Addr} {r : Rs} {Q : VK}
theorem VrAll.stp (S : Stp σ G H e G' H' e') : ∀ {vs : List V} {rs : List Rs}, VrAll K E G H σ e vs rs → VrAll K E G' H' σ e' vs rs
  | [], [], _ => True.intro
  | _ :: _, _ :: _, h => ⟨h.1.stp S, VrAll.stp S h.2⟩
  | [], _ :: _, h => h.elim
  | _ :: _, [], h => h.elim
theorem Rl.lookAll (R : Rl K m E G0 G e σ H) : ∀ {vs : List V} {rs : List Rs} {ds : List PyData}, VrAll K E G H σ e vs rs → DL.lookAll e rs = some ds → LvAll K G H vs ds
  | [], [], ds, _, q => by
    cases q
    exact True.intro
  | v :: vs, r :: rs, ds, h, q => by
    simp only [DL.lookAll] at q
    cases h1 : lookR e r with
    | none =>
      rw [h1] at q
      cases q
    | some d =>
      rw [h1] at q
      cases h2 : DL.lookAll e rs with
      | none =>
        simp only [h2] at q
        cases q
      | some ds2 =>
        simp only [h2, Option.some.injEq] at q
        subst q
        exact ⟨R.look h.1 h1, R.lookAll h.2 h2⟩
  | [], _ :: _, _, h, _ => h.elim
  | _ :: _, [], _, h, _ => h.elim
theorem LvAll.len : ∀ {vs : List V} {ds : List PyData}, LvAll K G H vs ds → vs.length = ds.length
  | [], [], _ => rfl
  | _ :: _, _ :: _, h => congrArg (· + 1) (LvAll.len h.2)
  | [], _ :: _, h => h.elim
  | _ :: _, [], h => h.elim
theorem LvAll.dp (s : Same G H) : ∀ {vs : List V} {ds : List PyData}, LvAll K G H vs ds → DpAll K H vs ds
  | [], [], _ => .nil
  | _ :: _, _ :: _, h => .cons (h.1.dp s) (LvAll.dp s h.2)
  | [], _ :: _, h => h.elim
  | _ :: _, [], h => h.elim
/-- a result at the very moment -/
theorem Po.now (P : Po K m E G0 σ G H e r e Q) (R : Rl K m E G0 G e σ H) (h : Vr K E G H σ e v r) (n : Nw H v r) : Q v H := P v G H R Stp.refl h n
theorem Po.of (P : Po K m E G0 σ G H e r e' Q) (S : Stp σ G H e G' H' e1) : (∀ v, Nw H' v r → Nw H v r) → Po K m E G0 σ G' H' e1 r e' Q :=
  fun n v G2 H2 R2 S2 h2 n2 => P v G2 H2 R2 (S.trans S2) h2 (n v n2)
theorem nw_back (S : Stp σ G H e G' H' e1) : ∀ {r : Rs} (v : V), Nw H' v r → Nw H v r
  | .im _, _, _ => True.intro
  | .br _, _, _ => True.intro
  | .ac _, v, n => fun p z => by
    cases q : H p with
    | none => rfl
    | some o => exact absurd (n p z) (S.th p (by rw [q]; simp))
theorem Po.aft (P : Po K m E G0 σ G H e r e' Q) (S : Stp σ G H e G' H' e1) : Po K m E G0 σ G' H' e1 r e' Q := P.of S fun v n => nw_back S v n
end
def x_var (i : Nat) : Fe := fun e => match e[i]? with
  | some (some (.im d)) => some (.im d, e)
  | some (some (.ac _)) => some (.br i, e)
  | some (some (.ow _)) => some (.br i, e)
  | _ => none
def x_c (d : PyData) : Fe := fun e => some (.im d, e)
section
variable {X : Cx} {pos : Pos}
theorem ed_var (i : Nat) {x : Str} (hN : X.N[i]? = some x := by rfl) (hv : Vis X.env.scope x := by first | exact Or.inl rfl | exact Or.inr (Or.inl rfl) | exact Or.inr (Or.inr rfl)) (hd : (x == ("__debug__" : Str)) = false := by decide)
    (hcd : (x == ("__classdict__" : Str)) = false := by decide) : ED X (.Name x pos) (x_var i) := by
  refine ⟨_, pe_var hN hv hd hcd, fun m E G0 G e σ H r e' Q R q P => ?_⟩
  unfold x_var at q
  split at q
  · rename_i d h
    cases q
    obtain ⟨v, h1, h2⟩ := R.im i d h
    exact ⟨v, h1, P.now R h2 True.intro⟩
  · rename_i ds h
    cases q
    obtain ⟨p, ws, h1, _⟩ := R.ac i ds h
    exact ⟨.ref p, h1, P.now R (show _ = _ from h1) True.intro⟩
  · rename_i t h
    cases q
    obtain ⟨p, h1, _⟩ := R.wl.at_ i t h
    exact ⟨.ref p, h1, P.now R (show _ = _ from h1) True.intro⟩
  · cases q
theorem ed_int {i j} : ED X (.Constant (.int i) j pos) (x_c (.int i)) := ⟨_, pe_int, fun m E G0 G e σ H r e' Q R q P => by
  cases q
  exact P.now R (.int i) True.intro⟩
theorem ed_bl {b j} : ED X (.Constant (.bool b) j pos) (x_c (.bool b)) := ⟨_, pe_bl, fun m E G0 G e σ H r e' Q R q P => by
  cases q
  exact P.now R (.bl b) True.intro⟩
theorem ed_non {j} : ED X (.Constant .none j pos) (x_c .none) := ⟨_, pe_non, fun m E G0 G e σ H r e' Q R q P => by
  cases q
  exact P.now R .non True.intro⟩
theorem ed_str {x j} : ED X (.Constant (.str x) j pos) (x_c (.str x)) := ⟨_, pe_str, fun m E G0 G e σ H r e' Q R q P => by
  cases q
  exact P.now R (.str x) True.intro⟩
end
/-- both sides, left to right -/
def two (fa fb : Fe) : Ev → Option (Rs × Rs × Ev) := fun e => match fa e with
  | some (ra, e1) => (match fb e1 with
    | some (rb, e2) => some (frzR ra, frzR rb, e2)
    | none => none)
  | none => none
def look2 (p : Rs × Rs × Ev) : Option (PyData × PyData × Ev) := match lookR p.2.2 p.1, lookR p.2.2 p.2.1 with
  | some a, some b => some (a, b, p.2.2)
  | _, _ => none
def x_bin (φ : PyData → PyData → Option Rs) (fa fb : Fe) : Fe := fun e => match two fa fb e with
  | some p => (match look2 p with
    | some (a, b, e2) => (match φ a b with
      | some r => some (r, e2)
      | none => none)
    | none => none)
  | none => none
section
variable {X : Cx} {a b : Expr} {fa fb : Fe} {pos : Pos}
theorem two_ok (ha : ED X a fa) (hb : ED X b fb) : ∃ ta tb, PE X a ta ∧ PE X b tb ∧ ∀ (m : Option Addr) (E : Ef) (G0 G : Hp) (e : Ev) (σ : St) (H : Hp) (ra rb : Rs) (e' : Ev) (R : V → V → Hp → Prop),
    Rl X.K m E G0 G e σ H → two fa fb e = some (ra, rb, e') → (∀ u v G' H', Rl X.K m E G0 G' e' σ H' → Stp σ G H e G' H' e' → Vr X.K E G' H' σ e' u ra → Vr X.K E G' H' σ e' v rb → R u v H') →
    ta σ H fun x H1 => tb σ H1 fun y H2 => R x y H2 := by
  obtain ⟨ta, pa, ka⟩ := ha
  obtain ⟨tb, pb, kb⟩ := hb
  refine ⟨ta, tb, pa, pb, fun m E G0 G e σ H ra rb e' R Rl0 q k => ?_⟩
  unfold two at q
  cases h1 : fa e with
  | none => simp only [h1] at q; cases q
  | some p1 =>
    obtain ⟨r1, e1⟩ := p1
    simp only [h1] at q
    cases h2 : fb e1 with
    | none => simp only [h2] at q; cases q
    | some p2 =>
      obtain ⟨r2, e2⟩ := p2
      simp only [h2, Option.some.injEq, Prod.mk.injEq] at q
      obtain ⟨rfl, rfl, rfl⟩ := q
      refine ka m E G0 G e σ H r1 e1 _ Rl0 h1 fun u G1 H1 R1 S1 V1 N1 => ?_
      obtain ⟨G1', R1', S1', s1, V1'⟩ := R1.freeze S1 V1 N1
      refine kb m E G0 G1' e1 σ H1 r2 e2 _ R1' h2 fun v G2 H2 R2 S2 V2 N2 => ?_
      obtain ⟨G2', R2', S2', s2, V2'⟩ := R2.freeze S2 V2 N2
      exact k u v G2' H2 R2' (S1'.trans S2') (V1'.stp S2') V2'
end
/-- a two-place rule by values, over data -/
def VB (K : PySem.W.Frag) (r : R2) (φ : PyData → PyData → Option Rs) : Prop :=
  ∀ (m : Option Addr) (E : Ef) (G0 G : Hp) (e : Ev) (σ : St) (H : Hp) (x y : V) (dx dy : PyData) (rr : Rs) (Q : VK), Rl K m E G0 G e σ H → Lv K G H x dx → Lv K G H y dy → φ dx dy = some rr → Po K m E G0 σ G H e rr e Q → r x y H Q
def orF {α β γ : Type} (φ ψ : α → β → Option γ) : α → β → Option γ := fun a b => match φ a b with
  | some r => some r
  | none => ψ a b
theorem VB.or {K : PySem.W.Frag} {r r' : R2} {φ ψ : PyData → PyData → Option Rs} (h : VB K r φ) (h' : VB K r' ψ) : VB K (fun x y H Q => r x y H Q ∨ r' x y H Q) (orF φ ψ) := by
  intro m E G0 G e σ H x y dx dy rr Q R lx ly q P
  unfold orF at q
  cases h1 : φ dx dy with
  | some r1 =>
    simp only [h1, Option.some.injEq] at q
    subst q
    exact .inl (h m E G0 G e σ H x y dx dy _ Q R lx ly h1 P)
  | none =>
    simp only [h1] at q
    exact .inr (h' m E G0 G e σ H x y dx dy _ Q R lx ly q P)
/-- its result is nothing new -/
theorem VB.pure {K : PySem.W.Frag} {r : R2} {φ : PyData → PyData → Option PyData}
    (h : ∀ (G H : Hp) (x y : V) (dx dy d : PyData) (Q : VK), Same G H → Lv K G H x dx → Lv K G H y dy → φ dx dy = some d → (∀ v, Dp K G v d → Q v H) → r x y H Q) : VB K r (fun a b => (φ a b).map Rs.im) := by
  intro m E G0 G e σ H x y dx dy rr Q R lx ly q P
  cases h1 : φ dx dy with
  | none => simp only [h1, Option.map_none] at q; cases q
  | some d =>
    simp only [h1, Option.map_some, Option.some.injEq] at q
    subst q
    exact h G H x y dx dy d Q R.gh lx ly h1 fun v z => P.now R z True.intro
section
variable {X : Cx} {a b : Expr} {fa fb : Fe} {pos : Pos} {op : Operator} {cop : CmpOp} {r : R2} {φ : PyData → PyData → Option Rs}
theorem bin_ok {ta tb : TE} (hv : VB X.K r φ) (k2 : ∀ (m : Option Addr) (E : Ef) (G0 G : Hp) (e : Ev) (σ : St) (H : Hp) (ra rb : Rs) (e' : Ev) (R : V → V → Hp → Prop),
    Rl X.K m E G0 G e σ H → two fa fb e = some (ra, rb, e') → (∀ u v G' H', Rl X.K m E G0 G' e' σ H' → Stp σ G H e G' H' e' → Vr X.K E G' H' σ e' u ra → Vr X.K E G' H' σ e' v rb → R u v H') → ta σ H fun x H1 => tb σ H1 fun y H2 => R x y H2)
    (m : Option Addr) (E : Ef) (G0 G : Hp) (e : Ev) (σ : St) (H : Hp) (rr : Rs) (e' : Ev) (Q : VK) (R : Rl X.K m E G0 G e σ H) (q : x_bin φ fa fb e = some (rr, e')) (P : Po X.K m E G0 σ G H e rr e' Q) : tOp r ta tb σ H Q := by
  unfold x_bin at q
  cases h1 : two fa fb e with
  | none => simp only [h1] at q; cases q
  | some p =>
    obtain ⟨ra, rb, e2⟩ := p
    simp only [h1] at q
    cases h2 : look2 (ra, rb, e2) with
    | none => simp only [h2] at q; cases q
    | some z =>
      obtain ⟨da, db, e3⟩ := z
      simp only [h2] at q
      cases h3 : φ da db with
      | none => simp only [h3] at q; cases q
      | some r3 =>
        simp only [h3, Option.some.injEq, Prod.mk.injEq] at q
        obtain ⟨rfl, rfl⟩ := q
        unfold look2 at h2
        dsimp only at h2
        cases h4 : lookR e2 ra with
        | none => simp only [h4] at h2; cases h2
        | some d1 =>
          cases h5 : lookR e2 rb with
          | none => simp only [h4, h5] at h2; cases h2
          | some d2 =>
            simp only [h4, h5, Option.some.injEq, Prod.mk.injEq] at h2
            obtain ⟨rfl, rfl, rfl⟩ := h2
            exact k2 m E G0 G e σ H ra rb e2 _ R h1 fun u v G' H' R' S' V1 V2 => hv m E G0 G' e2 σ H' u v _ _ _ Q R' (R'.look V1 h4) (R'.look V2 h5) h3 (P.aft S')
theorem ed_op (hv : VB X.K r φ) (ho : OpR X (binaryOp op) r) (ha : ED X a fa) (hb : ED X b fb) : ED X (.BinOp a op b pos) (x_bin φ fa fb) := by
  obtain ⟨ta, tb, pa, pb, k2⟩ := two_ok ha hb
  exact ⟨_, pe_op ho pa pb, bin_ok hv k2⟩
theorem ed_cmp (hv : VB X.K r φ) (ho : OpR X (compareOp cop) r) (hm : behindInMarks cop b = false) (ha : ED X a fa) (hb : ED X b fb) : ED X (.Compare a [cop] [b] pos) (x_bin φ fa fb) := by
  obtain ⟨ta, tb, pa, pb, k2⟩ := two_ok ha hb
  exact ⟨_, pe_cmpR ho pa pb hm, bin_ok hv k2⟩
end
/-- a result that is a bool, as a test -/
def t_of (f : Fe) : Ft := fun e => match f e with
  | some (.im (.bool b), e1) => some (b, e1)
  | _ => none
theorem t_of_ok {f : Fe} {e e' : Ev} {b : Bool} (q : t_of f e = some (b, e')) : f e = some (.im (.bool b), e') := by
  unfold t_of at q
  split at q
  · rename_i b1 e1 h
    cases q
    exact h
  · cases q
section
variable {X : Cx} {a b c : Expr} {fa fb fc : Fe} {pos : Pos} {cop cop' : CmpOp} {r r' : R2} {φ ψ : PyData → PyData → Option Rs}
theorem td_cmp (hv : VB X.K r φ) (ho : OpR X (compareOp cop) r) (hm : behindInMarks cop b = false) (ha : ED X a fa) (hb : ED X b fb) : TD X (.Compare a [cop] [b] pos) (t_of (x_bin φ fa fb)) := by
  obtain ⟨ta, tb, pa, pb, k2⟩ := two_ok ha hb
  refine ⟨_, pt_cmpR ho pa pb hm, fun m E G0 G e σ H k e' Q R q P => ?_⟩
  exact bin_ok hv k2 m E G0 G e σ H _ e' _ R (t_of_ok q) fun v G' H' R' S' V' _ => by
    cases V'
    exact ⟨k, rfl, P G' H' R' S'⟩
/-- an expression that gives a bool, as a test -/
theorem td_val {x : Expr} {f : Fe} (h : ED X x f) (he : ∀ whole, isTrue x X.env whole = (do let v ← whole; standAt x.pos; holding [v] (truthy v)) := by intro _; rfl) : TD X x (t_of f) := by
  obtain ⟨t, p, k⟩ := h
  refine ⟨_, pt_val p he, fun m E G0 G e σ H b e' Q R q P => ?_⟩
  exact k m E G0 G e σ H _ e' _ R (t_of_ok q) fun v G' H' R' S' V' _ => by
    cases V'
    exact ⟨b, rfl, P G' H' R' S'⟩
def t_not (f : Ft) : Ft := fun e => match f e with
  | some (b, e1) => some (!b, e1)
  | none => none
theorem td_not {f : Ft} (h : TD X a f) : TD X (.UnaryOp .Not a pos) (t_not f) := by
  obtain ⟨t, p, k⟩ := h
  refine ⟨_, pt_not p, fun m E G0 G e σ H b e' Q R q P => ?_⟩
  unfold t_not at q
  cases h1 : f e with
  | none => simp only [h1] at q; cases q
  | some z =>
    obtain ⟨b1, e1⟩ := z
    simp only [h1, Option.some.injEq, Prod.mk.injEq] at q
    obtain ⟨rfl, rfl⟩ := q
    exact k m E G0 G e σ H b1 e1 _ R h1 P
def t_and (f g : Ft) : Ft := fun e => match f e with
  | some (true, e1) => g e1
  | some (false, e1) => some (false, e1)
  | none => none
def t_or (f g : Ft) : Ft := fun e => match f e with
  | some (true, e1) => some (true, e1)
  | some (false, e1) => g e1
  | none => none
variable {f g : Ft} {rest : List Expr}
theorem wd_and1 (h : TD X a f) : WD X (.BoolOp .And [a] pos) f := by
  obtain ⟨t, p, k⟩ := h
  exact ⟨_, pw_and1 p, k⟩
theorem wd_or1 (h : TD X a f) : WD X (.BoolOp .Or [a] pos) f := by
  obtain ⟨t, p, k⟩ := h
  exact ⟨_, pw_or1 p, k⟩
theorem wd_and (h : TD X a f) (h2 : WD X (.BoolOp .And (b :: rest) pos) g) : WD X (.BoolOp .And (a :: b :: rest) pos) (t_and f g) := by
  obtain ⟨t, p, k⟩ := h
  obtain ⟨t2, p2, k2⟩ := h2
  refine ⟨_, pw_and p p2, fun m E G0 G e σ H c e' Q R q P => ?_⟩
  unfold t_and at q
  cases h1 : f e with
  | none => simp only [h1] at q; cases q
  | some z =>
    obtain ⟨b1, e1⟩ := z
    cases b1 with
    | true =>
      simp only [h1] at q
      refine k m E G0 G e σ H true e1 _ R h1 fun G' H' R' S' => ?_
      show if true = true then _ else _
      rw [if_pos rfl]
      exact k2 m E G0 G' e1 σ H' c e' Q R' q fun G2 H2 R2 S2 => P G2 H2 R2 (S'.trans S2)
    | false =>
      simp only [h1, Option.some.injEq, Prod.mk.injEq] at q
      obtain ⟨rfl, rfl⟩ := q
      refine k m E G0 G e σ H false e1 _ R h1 fun G' H' R' S' => ?_
      show if false = true then _ else _
      rw [if_neg Bool.false_ne_true]
      exact P G' H' R' S'
theorem wd_or (h : TD X a f) (h2 : WD X (.BoolOp .Or (b :: rest) pos) g) : WD X (.BoolOp .Or (a :: b :: rest) pos) (t_or f g) := by
  obtain ⟨t, p, k⟩ := h
  obtain ⟨t2, p2, k2⟩ := h2
  refine ⟨_, pw_or p p2, fun m E G0 G e σ H c e' Q R q P => ?_⟩
  unfold t_or at q
  cases h1 : f e with
  | none => simp only [h1] at q; cases q
  | some z =>
    obtain ⟨b1, e1⟩ := z
    cases b1 with
    | false =>
      simp only [h1] at q
      refine k m E G0 G e σ H false e1 _ R h1 fun G' H' R' S' => ?_
      show if false = true then _ else _
      rw [if_neg Bool.false_ne_true]
      exact k2 m E G0 G' e1 σ H' c e' Q R' q fun G2 H2 R2 S2 => P G2 H2 R2 (S'.trans S2)
    | true =>
      simp only [h1, Option.some.injEq, Prod.mk.injEq] at q
      obtain ⟨rfl, rfl⟩ := q
      refine k m E G0 G e σ H true e1 _ R h1 fun G' H' R' S' => ?_
      show if true = true then _ else _
      rw [if_pos rfl]
      exact P G' H' R' S'
theorem WD.td {x : Expr} (h : WD X x f) : TD X x f := by
  obtain ⟨t, p, k⟩ := h
  exact ⟨t, p.pt, k⟩
def x_and (f g : Fe) : Fe := fun e => match f e with
  | some (.im (.bool true), e1) => g e1
  | some (.im (.bool false), e1) => some (.im (.bool false), e1)
  | _ => none
def x_not (f : Fe) : Fe := fun e => match f e with
  | some (.im (.bool b), e1) => some (.im (.bool !b), e1)
  | _ => none
theorem ed_one {op : BoolOp} {f : Fe} (h : ED X a f) : ED X (.BoolOp op [a] pos) f := by
  obtain ⟨t, p, k⟩ := h
  exact ⟨t, pe_one p, k⟩
theorem ed_and (h : ED X a fa) (h2 : ED X (.BoolOp .And (b :: rest) pos) fb) : ED X (.BoolOp .And (a :: b :: rest) pos) (x_and fa fb) := by
  obtain ⟨t, p, k⟩ := h
  obtain ⟨t2, p2, k2⟩ := h2
  refine ⟨_, pe_and p p2, fun m E G0 G e σ H r e' Q R q P => ?_⟩
  unfold x_and at q
  split at q
  · rename_i e1 h1
    refine k m E G0 G e σ H _ e1 _ R h1 fun v G' H' R' S' V' _ => ?_
    cases V'
    refine ⟨true, rfl, ?_⟩
    rw [if_pos rfl]
    exact k2 m E G0 G' e1 σ H' r e' Q R' q (P.aft S')
  · rename_i e1 h1
    cases q
    refine k m E G0 G e σ H _ _ _ R h1 fun v G' H' R' S' V' _ => ?_
    cases V'
    refine ⟨false, rfl, ?_⟩
    rw [if_neg Bool.false_ne_true]
    exact P _ G' H' R' S' (.bl false) True.intro
  · cases q
theorem ed_not (h : ED X a fa) : ED X (.UnaryOp .Not a pos) (x_not fa) := by
  obtain ⟨t, p, k⟩ := h
  refine ⟨_, pe_not p, fun m E G0 G e σ H r e' Q R q P => ?_⟩
  unfold x_not at q
  split at q
  · rename_i b e1 h1
    cases q
    refine k m E G0 G e σ H _ _ _ R h1 fun v G' H' R' S' V' _ => ?_
    cases V'
    exact ⟨b, rfl, P _ G' H' R' S' (.bl (!b)) True.intro⟩
  · cases q
end
end DL
namespace DL
open PySem PySem.Spec PyProof.Rows L2
def d_int2 (f : Int → Int → PyData) (c : Int → Int → Bool) : PyData → PyData → Option PyData
  | .int i, .int j => if c i j = true then some (f i j) else none
  | _, _ => none
section
variable {K : PySem.W.Frag} {G H : Hp} {v : V} {d : PyData} {ds : List PyData} {vs ws : List V}
theorem int2_ok {f : Int → Int → PyData} {c : Int → Int → Bool} {dx dy d : PyData} (h : d_int2 f c dx dy = some d) : ∃ i j, dx = .int i ∧ dy = .int j ∧ c i j = true ∧ d = f i j := by
  unfold d_int2 at h
  split at h
  · rename_i i j
    by_cases z : c i j = true
    · rw [if_pos z] at h
      cases h
      exact ⟨i, j, rfl, rfl, z, rfl⟩
    · rw [if_neg z] at h
      cases h
  · cases h
theorem vb_int {C : Int → Int → Prop} {g : Int → Int → Int} {c : Int → Int → Bool} (hc : ∀ i j, c i j = true → C i j) : VB K (rI C fun i j => .int (g i j)) (fun a b => (d_int2 (fun i j => .int (g i j)) c a b).map Rs.im) :=
  VB.pure fun G H x y dx dy d Q s lx ly h k => by
    obtain ⟨i, j, rfl, rfl, z, rfl⟩ := int2_ok h
    exact ⟨i, j, lx.int, ly.int, hc i j z, k _ (.int _)⟩
theorem vb_int0 {g : Int → Int → Int} : VB K (rI0 fun i j => .int (g i j)) (fun a b => (d_int2 (fun i j => .int (g i j)) (fun _ _ => true) a b).map Rs.im) :=
  VB.pure fun G H x y dx dy d Q s lx ly h k => by
    obtain ⟨i, j, rfl, rfl, z, rfl⟩ := int2_ok h
    exact ⟨i, j, lx.int, ly.int, k _ (.int _)⟩
theorem vb_cmp0 {g : Int → Int → Bool} : VB K (rI0 fun i j => .bl (g i j)) (fun a b => (d_int2 (fun i j => .bool (g i j)) (fun _ _ => true) a b).map Rs.im) :=
  VB.pure fun G H x y dx dy d Q s lx ly h k => by
    obtain ⟨i, j, rfl, rfl, z, rfl⟩ := int2_ok h
    exact ⟨i, j, lx.int, ly.int, k _ (.bl _)⟩
end
def p_sub : PyData → PyData → Option Rs := fun a b => (d_int2 (fun i j => .int (i - j)) (fun _ _ => true) a b).map Rs.im
def p_lt : PyData → PyData → Option Rs := fun a b => (d_int2 (fun i j => .bool (decide (i < j))) (fun _ _ => true) a b).map Rs.im
def p_le : PyData → PyData → Option Rs := fun a b => (d_int2 (fun i j => .bool (decide (i ≤ j))) (fun _ _ => true) a b).map Rs.im
def p_gt : PyData → PyData → Option Rs := fun a b => (d_int2 (fun i j => .bool (decide (j < i))) (fun _ _ => true) a b).map Rs.im
def p_ge : PyData → PyData → Option Rs := fun a b => (d_int2 (fun i j => .bool (decide (j ≤ i))) (fun _ _ => true) a b).map Rs.im
/-- within 64 bits on one side -/
def mulC (i j : Int) : Bool := decide ((-18446744073709551616 < i ∧ i < 18446744073709551616) ∨ (-18446744073709551616 < j ∧ j < 18446744073709551616))
def mulWC (i j : Int) : Bool := decide (i.natAbs.log2 + j.natAbs.log2 < 1000000)
def p_mul : PyData → PyData → Option Rs := orF (fun a b => (d_int2 (fun i j => .int (i * j)) mulC a b).map Rs.im) (fun a b => (d_int2 (fun i j => .int (i * j)) mulWC a b).map Rs.im)
def divC (_ j : Int) : Bool := decide (0 < j ∧ j.natAbs.log2 < 9000)
def p_div : PyData → PyData → Option Rs := fun a b => (d_int2 (fun i j => .int (i / j)) divC a b).map Rs.im
def p_mod : PyData → PyData → Option Rs := fun a b => (d_int2 (fun i j => .int (i % j)) (fun _ j => decide (0 < j)) a b).map Rs.im
def powC (i j : Int) : Bool := decide (0 ≤ j ∧ j ≤ 1000000 ∧ i.natAbs < 18446744073709551616)
def p_pow : PyData → PyData → Option Rs := fun a b => (d_int2 (fun i j => .int (i ^ j.toNat)) powC a b).map Rs.im
section
variable {X : Cx}
theorem vb_sub : VB X.K (rI0 fun i j => .int (i - j)) p_sub := vb_int0
theorem vb_lt : VB X.K (rI0 fun i j => .bl (decide (i < j))) p_lt := vb_cmp0
theorem vb_le : VB X.K (rI0 fun i j => .bl (decide (i ≤ j))) p_le := vb_cmp0
theorem vb_gt : VB X.K (rI0 fun i j => .bl (decide (j < i))) p_gt := vb_cmp0
theorem vb_ge : VB X.K (rI0 fun i j => .bl (decide (j ≤ i))) p_ge := vb_cmp0
theorem mulC_ok {i j : Int} (h : mulC i j = true) : CMul i j := by
  have h1 := of_decide_eq_true h
  unfold CMul
  have e : (2 : Int) ^ 64 = 18446744073709551616 := by decide
  rw [e]
  exact h1
theorem vb_mul : VB X.K (fun x y H Q => (rI CMul fun i j => .int (i * j)) x y H Q ∨ (rI CMulW fun i j => .int (i * j)) x y H Q) p_mul :=
  VB.or (vb_int fun i j z => mulC_ok z) (vb_int fun i j z => (of_decide_eq_true z : i.natAbs.log2 + j.natAbs.log2 < 1000000))
theorem op_mul2 : OpR X (binaryOp .Mult) (fun x y H Q => (rI CMul fun i j => .int (i * j)) x y H Q ∨ (rI CMulW fun i j => .int (i * j)) x y H Q) := OpR.or op_mul op_mulW
theorem vb_div : VB X.K (rI CDivW fun i j => .int (i / j)) p_div := vb_int fun i j z => by
  have h := of_decide_eq_true z
  exact h
theorem vb_mod : VB X.K (rI (fun _ j => 0 < j) fun i j => .int (i % j)) p_mod := vb_int fun i j z => of_decide_eq_true z
theorem vb_pow : VB X.K (rI CPow fun i j => .int (i ^ j.toNat)) p_pow := vb_int fun i j z => by
  have h := of_decide_eq_true z
  unfold CPow
  rw [show (2 : Nat) ^ 64 = 18446744073709551616 by decide]
  exact h
end
def okLen (n : Nat) : Bool := decide (n ≤ 16777216)
theorem okLen_ok {n : Nat} (h : okLen n = true) : n ≤ sizeLine := by
  have h1 := of_decide_eq_true h
  rw [sizeLine_eq]
  exact h1
def rCatS (K : PySem.W.Frag) : R2 := fun x y H Q => ∃ a b xs zs, x = .ref a ∧ y = .ref b ∧ SqL K H a xs ∧ SqL K H b zs ∧ xs.length + zs.length ≤ sizeLine ∧ ∀ p, H p = none → Q (.ref p) (upd H p (.lst (xs ++ zs)))
theorem op_catS {X : Cx} : OpR X (binaryOp .Add) (rCatS X.K) := by
  rintro pins s σ H _ _ v u Q I rx ry ⟨a, b, xs, zs, rfl, rfl, ha, hb, small, fin⟩
  cases rx
  cases ry
  obtain ⟨us, va, ⟨⟨c1, d1, t1, sl1⟩, n1, at1, o1, _, p1⟩, z1⟩ := I.list ha
  obtain ⟨ws, vb, ⟨⟨c2, d2, t2, sl2⟩, n2, at2, o2, _, p2⟩, z2⟩ := I.list hb
  dsimp only at o1 p1 o2 p2
  subst o1 p1 o2 p2
  have la := va.length
  have lb := vb.length
  have fits : (xs ++ zs).length ≤ sizeLine := by
    rw [List.length_append]
    exact small
  have sum := PyProof.Rows.list_addW a b us.toArray ws.toArray n1 n2 d1 d2 sl1 sl2 (by simp only [List.size_toArray]; omega)
  refine concat_meets (T := "list") ⟨_, at1, rfl⟩ ⟨_, at2, rfl⟩ noFill_list_add seq_list_add F.slot_list_add F.entry_list_add (F.args_list_add_2 _ _) sum ⟨at1, at2, ?_⟩
  have laid := I.lnew (t' := s.toks) (va.append vb) fits
  rw [← List.append_toArray] at laid
  exact ⟨.ref s.heap.objs.size, _, laid, rfl, fin _ I.fresh⟩
def q_cat : PyData → PyData → Option Rs
  | .list a, .list b => if okLen (a.length + b.length) = true then some (.ac (a ++ b)) else none
  | _, _ => none
def q_catT : PyData → PyData → Option Rs
  | .tuple a, .tuple b => if okLen (a.length + b.length) = true then some (.im (.tuple (a ++ b))) else none
  | _, _ => none
def p_add : PyData → PyData → Option Rs := orF (fun a b => (d_int2 (fun i j => .int (i + j)) (fun _ _ => true) a b).map Rs.im) (orF q_cat q_catT)
section
variable {X : Cx}
theorem vb_cat {K : PySem.W.Frag} : VB K (rCatS K) q_cat := by
  intro m E G0 G e σ H x y dx dy rr Q R lx ly q P
  unfold q_cat at q
  split at q
  · rename_i a b
    by_cases z : okLen (a.length + b.length) = true
    · rw [if_pos z] at q
      cases q
      obtain ⟨p1, w1, rfl, s1, k1⟩ := lx.list R.gh
      obtain ⟨p2, w2, rfl, s2, k2⟩ := ly.list R.gh
      have z1 := okLen_ok z
      refine ⟨p1, p2, w1, w2, rfl, rfl, s1, s2, by rw [dpAll_len k1, dpAll_len k2]; exact z1, fun p hp => ?_⟩
      obtain ⟨R', S', V', N'⟩ := R.newL hp (dpAll_app k1 k2)
      exact P _ _ _ R' S' V' N'
    · rw [if_neg z] at q
      cases q
  · cases q
/-- t + u, exact -/
def rCatE (K : PySem.W.Frag) : R2 := fun x y H Q => ∃ a b xs ys, x = .ref a ∧ y = .ref b ∧ SqT K H a xs ∧ SqT K H b ys ∧ xs.length + ys.length ≤ sizeLine ∧
  (xs = [] → Q (.ref b) H) ∧ (xs ≠ [] → ys = [] → Q (.ref a) H) ∧ (xs ≠ [] → ys ≠ [] → ∀ p ob, XO ob → H p = none → Q (.ref p) (upd H p (.frz ob (.tup (xs ++ ys)))))
theorem op_catE : OpR X (binaryOp .Add) (rCatE X.K) := by
  intro pins s σ H x y v u Q I rx ry h
  obtain ⟨a, b, xs, ys, rfl, rfl, ha, hb, hz, q0, q1, q2⟩ := h
  by_cases hx : xs = []
  · exact op_catA pins s σ H _ _ v u Q I rx ry ⟨a, b, xs, ys, rfl, rfl, ha, hb, hz, q0, q1, fun z => absurd hx z⟩
  · by_cases hy : ys = []
    · exact op_catA pins s σ H _ _ v u Q I rx ry ⟨a, b, xs, ys, rfl, rfl, ha, hb, hz, q0, q1, fun _ z => absurd hy z⟩
    · cases rx
      cases ry
      obtain ⟨its, r1, p1, _⟩ := I.tuple ha
      obtain ⟨its2, r2, p2, _⟩ := I.tuple hb
      refine HT.cat_tup p1 p2 (fun z => hx (r1.nil_iff.mp z)) (fun z => absurd (r2.nil_iff.mp z) hy) (fun z => ?_) (by rw [← r1.length, ← r2.length]; exact hz)
      exact ⟨.ref s.heap.objs.size, _, I.laid (t' := s.toks) (o := .frz (tO (its ++ its2)) (.tup (xs ++ ys))) (fun b ob q => Heap.get?_push_of_some _ q) (Nat.le_refl _) (ObjOk.tX (by rw [List.length_append]; exact hz) (r1.append r2)), rfl, q2 hx hy _ _ tO_x (I.hok.fresh (Nat.le_refl _))⟩
theorem vb_catT {K : PySem.W.Frag} : VB K (rCatE K) q_catT := by
  intro m E G0 G e σ H x y dx dy rr Q R lx ly q P
  unfold q_catT at q
  split at q
  · rename_i a b
    by_cases z : okLen (a.length + b.length) = true
    · rw [if_pos z] at q
      cases q
      obtain ⟨p1, w1, e1, s1, k1⟩ := lx.tup R.gh
      obtain ⟨p2, w2, e2, s2, k2⟩ := ly.tup R.gh
      have z1 := okLen_ok z
      refine ⟨p1, p2, w1, w2, e1, e2, s1, s2, by rw [dpAll_len k1, dpAll_len k2]; exact z1, fun h => ?_, fun h1 h2 => ?_, fun _ _ p ob xo hp => ?_⟩
      · have ea : a = [] := by
          subst h
          cases k1
          rfl
        subst ea
        rcases ly with ly | ⟨_, _, _, _, z, _⟩
        · rw [← e2]
          exact P.now R ly True.intro
        · cases z
      · have eb : b = [] := by
          subst h2
          cases k2
          rfl
        subst eb
        rcases lx with lx | ⟨_, _, _, _, z, _⟩
        · rw [← e1, List.append_nil] at *
          exact P.now R lx True.intro
        · cases z
      · obtain ⟨R', S', D'⟩ := R.newT hp xo (dpAll_app k1 k2)
        exact P _ _ _ R' S' D' True.intro
    · rw [if_neg z] at q
      cases q
  · cases q
theorem vb_add : VB X.K (fun x y H Q => (rI0 fun i j => .int (i + j)) x y H Q ∨ (rCatS X.K x y H Q ∨ rCatE X.K x y H Q)) p_add := VB.or vb_int0 (VB.or vb_cat vb_catT)
theorem op_add3 : OpR X (binaryOp .Add) (fun x y H Q => (rI0 fun i j => .int (i + j)) x y H Q ∨ (rCatS X.K x y H Q ∨ rCatE X.K x y H Q)) := OpR.or op_add (OpR.or op_catS op_catE)
end
def p_eq : PyData → PyData → Option Rs := fun a b => if (SeqAt.shaped a && SeqAt.shaped b) = true then some (.im (.bool (PyData.eqv a b))) else none
def p_ne : PyData → PyData → Option Rs := fun a b => if (SeqAt.shaped a && SeqAt.shaped b) = true then some (.im (.bool (!PyData.eqv a b))) else none
def seqD : PyData → Option (List PyData)
  | .list ds => some ds
  | .tuple ds => some ds
  | _ => none
def p_isN (neg : Bool) : PyData → PyData → Option PyData
  | .none, .none => some (.bool (!neg))
  | .list _, .none => some (.bool neg)
  | .tuple _, .none => some (.bool neg)
  | .bool _, .none => some (.bool neg)
  | .int _, .none => some (.bool neg)
  | .str _, .none => some (.bool neg)
  | _, _ => none
def p_isB (neg : Bool) : PyData → PyData → Option PyData
  | .bool a, .bool b => some (.bool (if neg = true then !(decide (a = b)) else decide (a = b)))
  | _, _ => none
def p_is : PyData → PyData → Option Rs := orF (fun a b => (p_isN false a b).map Rs.im) (fun a b => (p_isB false a b).map Rs.im)
section
variable {X : Cx} {K : PySem.W.Frag}
theorem shp {a b : PyData} (h : (SeqAt.shaped a && SeqAt.shaped b) = true) : SeqAt.shaped a = true ∧ SeqAt.shaped b = true := Bool.and_eq_true_iff.mp h
theorem shp_no {d : PyData} (h : SeqAt.shaped d = true) : noDict d = true := by
  unfold SeqAt.shaped at h
  exact canNo (Bool.and_eq_true_iff.mp h).1
theorem vb_eq : VB K (rEqD K) p_eq := by
  intro m E G0 G e σ H x y dx dy rr Q R lx ly q P
  unfold p_eq at q
  by_cases z : (SeqAt.shaped dx && SeqAt.shaped dy) = true
  · rw [if_pos z] at q
    cases q
    exact ⟨dx, dy, (lx.dp R.gh).lib (shp_no (shp z).1), (ly.dp R.gh).lib (shp_no (shp z).2), (shp z).1, (shp z).2, P.now R (.bl _) True.intro⟩
  · rw [if_neg z] at q
    cases q
theorem vb_ne : VB K (rNeD K) p_ne := by
  intro m E G0 G e σ H x y dx dy rr Q R lx ly q P
  unfold p_ne at q
  by_cases z : (SeqAt.shaped dx && SeqAt.shaped dy) = true
  · rw [if_pos z] at q
    cases q
    exact ⟨dx, dy, (lx.dp R.gh).lib (shp_no (shp z).1), (ly.dp R.gh).lib (shp_no (shp z).2), (shp z).1, (shp z).2, P.now R (.bl _) True.intro⟩
  · rw [if_neg z] at q
    cases q
theorem lv_non {G H : Hp} {v : V} {d : PyData} (h : Lv K G H v d) : d = .none ∨ v ≠ .non := by
  rcases h with h | ⟨p, ws, ds, rfl, rfl, _⟩
  · cases h with
    | non => exact .inl rfl
    | _ => exact .inr fun z => by cases z
  · exact .inr fun z => by cases z
theorem isN_ok {neg : Bool} {a b d : PyData} {G H : Hp} {x y : V} (h : p_isN neg a b = some d) (lx : Lv K G H x a) (ly : Lv K G H y b) : y = .non ∧ d = .bool (if neg = true then !decide (x = .non) else decide (x = .non)) := by
  have hx := lv_non lx
  unfold p_isN at h
  split at h
  · have e := lx.none
    cases h
    subst e
    refine ⟨ly.none, ?_⟩
    cases neg <;> rfl
  all_goals first
    | (cases h
       refine ⟨ly.none, ?_⟩
       have z : x ≠ .non := by
         rcases hx with z | z
         · cases z
         · exact z
       rw [decide_eq_false z]
       cases neg <;> rfl)
    | (cases h; done)
theorem vb_is : VB K (fun x y H Q => (y = .non ∧ Q (.bl (decide (x = .non))) H) ∨ rIsB x y H Q) p_is :=
  VB.or (VB.pure fun G H x y dx dy d Q s lx ly h k => by
      obtain ⟨e1, rfl⟩ := isN_ok h lx ly
      exact ⟨e1, k _ (.bl _)⟩)
    (VB.pure fun G H x y dx dy d Q s lx ly h k => by
      unfold p_isB at h
      split at h
      · cases h
        exact ⟨_, _, lx.bool, ly.bool, k _ (.bl _)⟩
      · cases h)
theorem op_is2 : OpR X (compareOp .Is) (fun x y H Q => (y = .non ∧ Q (.bl (decide (x = .non))) H) ∨ rIsB x y H Q) := OpR.or op_isN op_isBl
end
end DL
namespace DL
open PySem PySem.Spec PyProof.Rows L2
def a_nil : Fa := fun e => some ([], e)
def a_cons (fa : Fe) (fr : Fa) : Fa := fun e => match fa e with
  | some (r, e1) => (match fr e1 with
    | some (rs, e2) => some (frzR r :: rs, e2)
    | none => none)
  | none => none
section
variable {X : Cx} {a : Expr} {es : List Expr} {fa : Fe} {fr : Fa} {pos : Pos}
theorem ad_nil : AD X [] a_nil := ⟨_, pa_nil, fun m E G0 G e σ H rs e' Q R q P => by
  cases q
  exact P [] G H R Stp.refl True.intro⟩
theorem ad_cons (ha : ED X a fa) (hr : AD X es fr) (hs : starEach (a :: es) X.env = (false, eval a X.env) :: starEach es X.env := by rfl) : AD X (a :: es) (a_cons fa fr) := by
  obtain ⟨t, p, k⟩ := ha
  obtain ⟨t2, p2, k2⟩ := hr
  refine ⟨_, pa_cons p p2 hs, fun m E G0 G e σ H rs e' Q R q P => ?_⟩
  unfold a_cons at q
  cases h1 : fa e with
  | none => simp only [h1] at q; cases q
  | some z =>
    obtain ⟨r, e1⟩ := z
    simp only [h1] at q
    cases h2 : fr e1 with
    | none => simp only [h2] at q; cases q
    | some z2 =>
      obtain ⟨rs2, e2⟩ := z2
      simp only [h2, Option.some.injEq, Prod.mk.injEq] at q
      obtain ⟨rfl, rfl⟩ := q
      refine k m E G0 G e σ H r e1 _ R h1 fun v G1 H1 R1 S1 V1 N1 => ?_
      obtain ⟨G1', R1', S1', s1, V1'⟩ := R1.freeze S1 V1 N1
      refine k2 m E G0 G1' e1 σ H1 rs2 e2 _ R1' h2 fun vs G2 H2 R2 S2 V2 => ?_
      exact P (v :: vs) G2 H2 R2 (S1'.trans S2) ⟨V1'.stp S2, V2⟩
end
/-- all arguments, as data -/
def argsD (fa : Fa) : Ev → Option (List PyData × Ev) := fun e => match fa e with
  | some (rs, e1) => (match lookAll e1 rs with
    | some ds => some (ds, e1)
    | none => none)
  | none => none
theorem argsD_ok {fa : Fa} {e e' : Ev} {ds : List PyData} (q : argsD fa e = some (ds, e')) : ∃ rs, fa e = some (rs, e') ∧ lookAll e' rs = some ds := by
  unfold argsD at q
  split at q
  · rename_i rs e1 h1
    split at q
    · rename_i ds2 h2
      cases q
      exact ⟨rs, h1, h2⟩
    · cases q
  · cases q
/-- every one of them is frozen data (no list of one's own) -/
def imR : Rs → Option PyData
  | .im d => some d
  | _ => none
def imAll : List Rs → Option (List PyData)
  | [] => some []
  | r :: rs => match imR r with
    | some d => (match imAll rs with
      | some ds => some (d :: ds)
      | none => none)
    | none => none
theorem vr_imAll {K : PySem.W.Frag} {E : Ef} {G H : Hp} {σ : St} {e : Ev} : ∀ {vs : List V} {rs : List Rs} {ds : List PyData}, VrAll K E G H σ e vs rs → imAll rs = some ds → DpAll K G vs ds
  | [], [], ds, _, q => by
    cases q
    exact .nil
  | v :: vs, r :: rs, ds, h, q => by
    simp only [imAll] at q
    cases r with
    | im d =>
      simp only [imR] at q
      cases h2 : imAll rs with
      | none => simp only [h2] at q; cases q
      | some ds2 =>
        simp only [h2, Option.some.injEq] at q
        subst q
        exact .cons h.1 (vr_imAll h.2 h2)
    | ac _ => simp only [imR] at q; cases q
    | br _ => simp only [imR] at q; cases q
  | [], _ :: _, _, h, _ => h.elim
  | _ :: _, [], _, h, _ => h.elim
def argsI (fa : Fa) : Ev → Option (List PyData × Ev) := fun e => match fa e with
  | some (rs, e1) => (match imAll rs with
    | some ds => some (ds, e1)
    | none => none)
  | none => none
theorem argsI_ok {fa : Fa} {e e' : Ev} {ds : List PyData} (q : argsI fa e = some (ds, e')) : ∃ rs, fa e = some (rs, e') ∧ imAll rs = some ds := by
  unfold argsI at q
  split at q
  · rename_i rs e1 h1
    split at q
    · rename_i ds2 h2
      cases q
      exact ⟨rs, h1, h2⟩
    · cases q
  · cases q
def x_tup (fa : Fa) : Fe := fun e => match argsI fa e with
  | some (ds, e1) => if okLen ds.length = true then some (.im (.tuple ds), e1) else none
  | none => none
def x_lst (fa : Fa) : Fe := fun e => match argsI fa e with
  | some (ds, e1) => if okLen ds.length = true then some (.ac ds, e1) else none
  | none => none
section
variable {X : Cx} {es : List Expr} {fa : Fa} {pos : Pos}
def tTupE (t : TA) : TE := fun σ H Q => t σ H fun xs H1 => xs.length ≤ sizeLine ∧ ∀ p ob, XO ob → H1 p = none → Q (.ref p) (upd H1 p (.frz ob (.tup xs)))
theorem pe_tupE {x1} {t : TA} (h : PA X es t) : PE X (.Tuple es x1 pos) (tTupE t) := by
  refine ⟨fun pins s σ H Q I hq => ?_⟩
  refine wpAny_Tuple_spliced (thn (h.run pos pins s σ H _ I hq) fun us s1 ⟨xs, H1, I1, r, z, q⟩ => ⟨by rw [← r.length]; exact z, ?_⟩)
  have hf : H1 s1.heap.objs.size = none := I1.hok.fresh (Nat.le_refl _)
  refine ⟨.ref s1.heap.objs.size, upd H1 s1.heap.objs.size (.frz (tO us) (.tup xs)), I1.laid (t' := s1.toks) (fun b u e => Heap.get?_push_of_some _ e) (Nat.le_refl _) (ObjOk.tX z r), rfl, q _ _ tO_x hf⟩
theorem ed_tup {n} (h : AD X es fa) : ED X (.Tuple es n pos) (x_tup fa) := by
  obtain ⟨t, p, k⟩ := h
  refine ⟨_, pe_tupE p, fun m E G0 G e σ H r e' Q R q P => ?_⟩
  unfold x_tup at q
  cases h1 : argsI fa e with
  | none => simp only [h1] at q; cases q
  | some z =>
    obtain ⟨ds, e1⟩ := z
    simp only [h1] at q
    by_cases z : okLen ds.length = true
    · rw [if_pos z] at q
      simp only [Option.some.injEq, Prod.mk.injEq] at q
      obtain ⟨rfl, rfl⟩ := q
      obtain ⟨rs, q1, q2⟩ := argsI_ok h1
      refine k m E G0 G e σ H rs e1 _ R q1 fun vs G1 H1 R1 S1 V1 => ?_
      have dv := vr_imAll V1 q2
      refine ⟨by rw [dpAll_len dv]; exact okLen_ok z, fun p ob xo hp => ?_⟩
      obtain ⟨R', S', D'⟩ := R1.newT hp xo dv
      exact P _ _ _ R' (S1.trans S') D' True.intro
    · rw [if_neg z] at q
      cases q
theorem ed_lst (h : AD X es fa) : ED X (.List es pos) (x_lst fa) := by
  obtain ⟨t, p, k⟩ := h
  refine ⟨_, pe_lst p, fun m E G0 G e σ H r e' Q R q P => ?_⟩
  unfold x_lst at q
  cases h1 : argsI fa e with
  | none => simp only [h1] at q; cases q
  | some z =>
    obtain ⟨ds, e1⟩ := z
    simp only [h1] at q
    by_cases z : okLen ds.length = true
    · rw [if_pos z] at q
      simp only [Option.some.injEq, Prod.mk.injEq] at q
      obtain ⟨rfl, rfl⟩ := q
      obtain ⟨rs, q1, q2⟩ := argsI_ok h1
      refine k m E G0 G e σ H rs e1 _ R q1 fun vs G1 H1 R1 S1 V1 => ?_
      have dv := vr_imAll V1 q2
      refine ⟨by rw [dpAll_len dv]; exact okLen_ok z, fun p hp => ?_⟩
      obtain ⟨R', S', V', N'⟩ := R1.newL hp dv
      exact P _ _ _ R' (S1.trans S') V' (nw_back S1 _ N')
    · rw [if_neg z] at q
      cases q
end
def p_ix : PyData → PyData → Option Rs := fun a b => match seqD a, b with
  | some ds, .int i => (atI ds i).map Rs.im
  | _, _ => none
theorem dpAll_atI {K : PySem.W.Frag} {G : Hp} {vs : List V} {ds : List PyData} {i : Int} {d : PyData} (h : DpAll K G vs ds) (q : atI ds i = some d) : ∃ v, atI vs i = some v ∧ Dp K G v d := by
  have e : atI vs i = (ixN vs.length i).bind fun j => vs[j]? := rfl
  rw [e, dpAll_len h]
  have q : ((ixN ds.length i).bind fun j => ds[j]?) = some d := q
  cases z : ixN ds.length i with
  | none => rw [z] at q; cases q
  | some j =>
    rw [z] at q
    exact dpAll_get h q
def rIx2 (K : PySem.W.Frag) : R2 := fun x y H Q => rIxL K x y H Q ∨ rIxT K x y H Q
theorem vb_ix {K : PySem.W.Frag} : VB K (rIx2 K) p_ix := by
  intro m E G0 G e σ H x y dx dy rr Q R lx ly q P
  unfold p_ix at q
  split at q
  · rename_i ds i h
    cases z : atI ds i with
    | none => rw [z] at q; cases q
    | some d =>
      rw [z] at q
      cases q
      unfold seqD at h
      split at h
      · cases h
        obtain ⟨p, ws, ex, s1, k⟩ := lx.list R.gh
        obtain ⟨v, e1, e2⟩ := dpAll_atI k z
        exact .inl ⟨p, ws, i, v, ex, ly.int, s1, e1, P.now R e2 True.intro⟩
      · cases h
        obtain ⟨p, ws, ex, s1, k⟩ := lx.tup R.gh
        obtain ⟨v, e1, e2⟩ := dpAll_atI k z
        exact .inr ⟨p, ws, i, v, ex, ly.int, s1, e1, P.now R e2 True.intro⟩
      · cases h
  · cases q
abbrev x_ix (fa fb : Fe) : Fe := x_bin p_ix fa fb
section
variable {X : Cx} {a b : Expr} {fa fb : Fe} {pos : Pos}
theorem ed_ix (ha : ED X a fa) (hb : ED X b fb) (hs : PlainIx b := by intro _ _; rfl) : ED X (.Subscript a b pos) (x_ix fa fb) := by
  obtain ⟨ta, tb, pa, pb, k2⟩ := two_ok ha hb
  exact ⟨_, pe_ix (ix_list.or ix_tup) pa pb hs, bin_ok (r := rIx2 X.K) vb_ix k2⟩
end
abbrev Fo := Ev → Option (Option Int × Ev)
structure OD (X : Cx) (o : Option Expr) (f : Fo) : Prop where
  ex : ∃ t, PO X o t ∧ ∀ (m : Option Addr) (E : Ef) (G0 G : Hp) (e : Ev) (σ : St) (H : Hp) (i : Option Int) (e' : Ev) (Q : Option Int → Hp → Prop),
    Rl X.K m E G0 G e σ H → f e = some (i, e') → (∀ G' H', Rl X.K m E G0 G' e' σ H' → Stp σ G H e G' H' e' → Q i H') → t σ H Q
def o_no : Fo := fun e => some (none, e)
def o_at (f : Fe) : Fo := fun e => match f e with
  | some (.im (.int i), e1) => some (some i, e1)
  | _ => none
def cutD {α : Type} (ds : List α) (lo hi : Option Int) : List α := (ds.drop (HT.sIx ds.length 0 lo)).take (HT.sIx ds.length ds.length hi - HT.sIx ds.length 0 lo)
def sliced (lo hi : Option Int) : PyData → Option Rs
  | .list ds => some (.ac (cutD ds lo hi))
  | .tuple ds => some (.im (.tuple (cutD ds lo hi)))
  | _ => none
def x_sl (fa : Fe) (fl fh : Fo) : Fe := fun e => match fa e with
  | some (r, e1) => (match fl e1 with
    | some (lo, e2) => (match fh e2 with
      | some (hi, e3) => (match lookR e3 (frzR r) with
        | some d => (match sliced lo hi d with
          | some r2 => some (r2, e3)
          | none => none)
        | none => none)
      | none => none)
    | none => none)
  | none => none
theorem dpAll_cut {K : PySem.W.Frag} {G : Hp} {vs : List V} {ds : List PyData} {lo hi : Option Int} (h : DpAll K G vs ds) : DpAll K G (cutV vs lo hi) (cutD ds lo hi) := by
  unfold cutV cutD
  rw [dpAll_len h]
  exact dpAll_take _ (dpAll_drop _ h)
theorem cutD_all {α : Type} {ds : List α} {lo hi : Option Int} (h1 : HT.sIx ds.length 0 lo = 0) (h2 : HT.sIx ds.length ds.length hi = ds.length) : cutD ds lo hi = ds := by
  unfold cutD
  rw [h1, h2]
  exact List.take_length
section
variable {X : Cx} {a b : Expr} {fa fb : Fe} {fl fh : Fo} {lo hi : Option Expr} {pos p2 : Pos}
theorem od_no : OD X none o_no := ⟨_, po_none, fun m E G0 G e σ H i e' Q R q P => by
  cases q
  exact P G H R Stp.refl⟩
theorem od_at (h : ED X a fa) : OD X (some a) (o_at fa) := by
  obtain ⟨t, p, k⟩ := h
  refine ⟨_, po_some p, fun m E G0 G e σ H i e' Q R q P => ?_⟩
  unfold o_at at q
  split at q
  · rename_i j e1 h1
    simp only [Option.some.injEq, Prod.mk.injEq] at q
    obtain ⟨rfl, rfl⟩ := q
    refine k m E G0 G e σ H _ e1 _ R h1 fun v G1 H1 R1 S1 V1 _ => ?_
    cases V1
    exact ⟨j, rfl, P G1 H1 R1 S1⟩
  · cases q
def rSlE (K : PySem.W.Frag) : V → Option Int → Option Int → Hp → VK → Prop := fun x lo hi H Q => ∃ a xs, x = .ref a ∧ SqT K H a xs ∧
  (HT.sIx xs.length 0 lo = 0 ∧ HT.sIx xs.length xs.length hi = xs.length → Q (.ref a) H) ∧ (¬ (HT.sIx xs.length 0 lo = 0 ∧ HT.sIx xs.length xs.length hi = xs.length) → ∀ p ob, XO ob → H p = none → Q (.ref p) (upd H p (.frz ob (.tup (cutV xs lo hi)))))
theorem sl_tupE : SlR X (rSlE X.K) := by
  intro pins s σ H x v vl vu lo hi sl Q I rx hs pl pu h
  obtain ⟨a, xs, rfl, hx, q1, q2⟩ := h
  by_cases hw : HT.sIx xs.length 0 lo = 0 ∧ HT.sIx xs.length xs.length hi = xs.length
  · exact sl_tupA pins s σ H _ v vl vu lo hi sl Q I rx hs pl pu ⟨a, xs, rfl, hx, q1, fun z => absurd hw z⟩
  · cases rx
    obtain ⟨its, r, ht, hz⟩ := I.tuple hx
    have hlen : its.toArray.size = xs.length := by rw [List.size_toArray]; exact r.length.symm
    refine ⟨"tuple", _, PyProof.Rows.slot_tuple_getitem.lookup, ht.typeIs, ?_⟩
    refine HT.getItem_tuple_cut ht hs pl pu (by rw [hlen]; exact hw) ?_ (by rw [hlen]; exact hz)
    rw [hlen]
    exact ⟨.ref s.heap.objs.size, _, I.laid (t' := s.toks) (o := .frz (tO _) (.tup (cutV xs lo hi))) (fun b ob q => Heap.get?_push_of_some _ q) (Nat.le_refl _) (ObjOk.tX (Nat.le_trans (cutV_length xs lo hi) hz) ((r.drop (HT.sIx xs.length 0 lo)).take (HT.sIx xs.length xs.length hi - HT.sIx xs.length 0 lo))), rfl, q2 hw _ _ tO_x (I.hok.fresh (Nat.le_refl _))⟩
theorem ed_sl (ha : ED X a fa) (hl : OD X lo fl) (hh : OD X hi fh) : ED X (.Subscript a (.Slice lo hi none p2) pos) (x_sl fa fl fh) := by
  obtain ⟨t, p, k⟩ := ha
  obtain ⟨t1, q1, k1⟩ := hl
  obtain ⟨t2, q2, k2⟩ := hh
  refine ⟨_, pe_slice (sl_list.or sl_tupE) p q1 q2, fun m E G0 G e σ H r e' Q R q P => ?_⟩
  unfold x_sl at q
  cases h1 : fa e with
  | none => simp only [h1] at q; cases q
  | some z =>
    obtain ⟨r0, e1⟩ := z
    simp only [h1] at q
    cases h2 : fl e1 with
    | none => simp only [h2] at q; cases q
    | some z =>
      obtain ⟨i, e2⟩ := z
      simp only [h2] at q
      cases h3 : fh e2 with
      | none => simp only [h3] at q; cases q
      | some z =>
        obtain ⟨j, e3⟩ := z
        simp only [h3] at q
        cases h4 : lookR e3 (frzR r0) with
        | none => simp only [h4] at q; cases q
        | some d =>
          simp only [h4] at q
          cases h5 : sliced i j d with
          | none => simp only [h5] at q; cases q
          | some r2 =>
            simp only [h5, Option.some.injEq, Prod.mk.injEq] at q
            obtain ⟨rfl, rfl⟩ := q
            refine k m E G0 G e σ H r0 e1 _ R h1 fun v G1 H1 R1 S1 V1 N1 => ?_
            obtain ⟨G1', R1', S1', s1, V1'⟩ := R1.freeze S1 V1 N1
            refine k1 m E G0 G1' e1 σ H1 i e2 _ R1' h2 fun G2 H2 R2 S2 => ?_
            refine k2 m E G0 G2 e2 σ H2 j e3 _ R2 h3 fun G3 H3 R3 S3 => ?_
            have L := R3.look ((V1'.stp S2).stp S3) h4
            have S := S1'.trans (S2.trans S3)
            unfold sliced at h5
            split at h5
            · cases h5
              obtain ⟨p', ws, ex, s2, dk⟩ := L.list R3.gh
              refine .inl ⟨p', ws, ex, s2, fun p hp => ?_⟩
              obtain ⟨R', S', V', N'⟩ := R3.newL hp (dpAll_cut dk)
              exact P _ _ _ R' (S.trans S') V' (nw_back S _ N')
            · cases h5
              rename_i ds
              obtain ⟨p', ws, ex, s2, dk⟩ := L.tup R3.gh
              refine .inr ⟨p', ws, ex, s2, fun hw => ?_, fun _ p ob xo hp => ?_⟩
              · rw [dpAll_len dk] at hw
                rw [cutD_all hw.1 hw.2] at P
                rcases L with L | ⟨_, _, _, _, z, _⟩
                · rw [← ex]
                  exact P _ _ _ R3 S L True.intro
                · cases z
              · obtain ⟨R', S', D'⟩ := R3.newT hp xo (dpAll_cut dk)
                exact P _ _ _ R' (S.trans S') D' True.intro
            · cases h5
/-- -n -/
def x_neg (fa : Fe) : Fe := fun e => match fa e with
  | some (.im (.int i), e1) => some (.im (.int (-i)), e1)
  | _ => none
theorem ed_neg (ha : ED X a fa) : ED X (.UnaryOp .USub a pos) (x_neg fa) := by
  obtain ⟨t, p, k⟩ := ha
  refine ⟨_, pe_un un_neg p, fun m E G0 G e σ H r e' Q R q P => ?_⟩
  unfold x_neg at q
  split at q
  · rename_i i e1 h1
    cases q
    refine k m E G0 G e σ H _ _ _ R h1 fun v G1 H1 R1 S1 V1 _ => ?_
    cases V1
    exact ⟨i, rfl, P _ _ _ R1 S1 (.int _) True.intro⟩
  · cases q
end
/-- an n-place rule by values, over data -/
def VC (K : PySem.W.Frag) (r : List V → Hp → VK → Prop) (φ : List PyData → Option Rs) : Prop :=
  ∀ (m : Option Addr) (E : Ef) (G0 G : Hp) (e : Ev) (σ : St) (H : Hp) (vs : List V) (ds : List PyData) (rr : Rs) (Q : VK), Rl K m E G0 G e σ H → LvAll K G H vs ds → φ ds = some rr → Po K m E G0 σ G H e rr e Q → r vs H Q
def orC {α γ : Type} (φ ψ : α → Option γ) : α → Option γ := fun a => match φ a with
  | some r => some r
  | none => ψ a
theorem VC.or {K : PySem.W.Frag} {r r' : List V → Hp → VK → Prop} {φ ψ : List PyData → Option Rs} (h : VC K r φ) (h' : VC K r' ψ) : VC K (fun vs H Q => r vs H Q ∨ r' vs H Q) (orC φ ψ) := by
  intro m E G0 G e σ H vs ds rr Q R l q P
  unfold orC at q
  cases h1 : φ ds with
  | some r1 =>
    simp only [h1, Option.some.injEq] at q
    subst q
    exact .inl (h m E G0 G e σ H vs ds _ Q R l h1 P)
  | none =>
    simp only [h1] at q
    exact .inr (h' m E G0 G e σ H vs ds rr Q R l q P)
def x_cb (φ : List PyData → Option Rs) (fa : Fa) : Fe := fun e => match argsD fa e with
  | some (ds, e1) => (match φ ds with
    | some r => some (r, e1)
    | none => none)
  | none => none
section
variable {X : Cx} {a : Expr} {es : List Expr} {fa : Fa} {pos p : Pos} {x : Str} {id T : String} {r : List V → Hp → VK → Prop} {φ : List PyData → Option Rs}
theorem cb_ok {t : TA} (hv : VC X.K r φ) (k : ∀ (m : Option Addr) (E : Ef) (G0 G : Hp) (e : Ev) (σ : St) (H : Hp) (rs : List Rs) (e' : Ev) (Q : List V → Hp → Prop),
    Rl X.K m E G0 G e σ H → fa e = some (rs, e') → (∀ vs G' H', Rl X.K m E G0 G' e' σ H' → Stp σ G H e G' H' e' → VrAll X.K E G' H' σ e' vs rs → Q vs H') → t σ H Q)
    (m : Option Addr) (E : Ef) (G0 G : Hp) (e : Ev) (σ : St) (H : Hp) (rr : Rs) (e' : Ev) (Q : VK) (R : Rl X.K m E G0 G e σ H) (q : x_cb φ fa e = some (rr, e')) (P : Po X.K m E G0 σ G H e rr e' Q) : tCB r t σ H Q := by
  unfold x_cb at q
  cases h1 : argsD fa e with
  | none => simp only [h1] at q; cases q
  | some z =>
    obtain ⟨ds, e1⟩ := z
    simp only [h1] at q
    cases h2 : φ ds with
    | none => simp only [h2] at q; cases q
    | some r2 =>
      simp only [h2, Option.some.injEq, Prod.mk.injEq] at q
      obtain ⟨rfl, rfl⟩ := q
      obtain ⟨rs, q1, q2⟩ := argsD_ok h1
      exact k m E G0 G e σ H rs e1 _ R q1 fun vs G1 H1 R1 S1 V1 => hv m E G0 G1 e1 σ H1 vs ds _ Q R1 (R1.lookAll V1 q2) h2 (P.aft S1)
theorem ed_cb (hv : VC X.K r φ) (hc : CallR X (.builtin id) r) (hm : X.mg x = none) (h : AD X (a :: es) fa) (hb : bootBuiltins x = some (.builtin id) := by decide +kernel) (hg : Gl X x := by rfl) (hn : x ≠ "__name__" := by decide) (hdb : (x == ("__debug__" : Str)) = false := by decide)
    (he : starEach (a :: es) X.env = (false, eval a X.env) :: starEach es X.env := by rfl) (hpl : (backTo pos (starEach es X.env)).any (·.1) = false := by rfl) : ED X (.Call (.Name x p) (a :: es) [] pos) (x_cb φ fa) := by
  obtain ⟨t, pa, k⟩ := h
  exact ⟨_, pe_callB hc hg hm hb pa hn hdb he hpl, cb_ok hv k⟩
theorem ed_ct (hv : VC X.K r φ) (hc : CallR X (.type T) r) (hm : X.mg x = none) (h : AD X (a :: es) fa) (hb : bootBuiltins x = some (.type T) := by decide +kernel) (hg : Gl X x := by rfl) (hn : x ≠ "__name__" := by decide) (hdb : (x == ("__debug__" : Str)) = false := by decide)
    (he : starEach (a :: es) X.env = (false, eval a X.env) :: starEach es X.env := by rfl) (hpl : (backTo pos (starEach es X.env)).any (·.1) = false := by rfl) : ED X (.Call (.Name x p) (a :: es) [] pos) (x_cb φ fa) := by
  obtain ⟨t, pa, k⟩ := h
  exact ⟨_, pe_callTy hc hg hm hb pa hn hdb he hpl, cb_ok hv k⟩
end
theorem lv1 {K : PySem.W.Frag} {G H : Hp} {vs : List V} {d : PyData} (h : LvAll K G H vs [d]) : ∃ v, vs = [v] ∧ Lv K G H v d := by
  match vs, h with
  | [v], h => exact ⟨v, rfl, h.1⟩
  | _ :: _ :: _, h => exact h.2.elim
theorem lv2 {K : PySem.W.Frag} {G H : Hp} {vs : List V} {c d : PyData} (h : LvAll K G H vs [c, d]) : ∃ u v, vs = [u, v] ∧ Lv K G H u c ∧ Lv K G H v d := by
  match vs, h with
  | [u, v], h => exact ⟨u, v, rfl, h.1, h.2.1⟩
  | _ :: _ :: _ :: _, h => exact h.2.2.elim
  | [_], h => exact h.2.elim
def c_len : List PyData → Option Rs
  | [.list ds] => some (.im (.int ds.length))
  | [.tuple ds] => some (.im (.int ds.length))
  | _ => none
def c_abs : List PyData → Option Rs
  | [.int i] => some (.im (.int (if i < 0 then -i else i)))
  | _ => none
def c_max2 : List PyData → Option Rs
  | [.int i, .int j] => some (.im (.int (if j > i then j else i)))
  | _ => none
def c_min2 : List PyData → Option Rs
  | [.int i, .int j] => some (.im (.int (if j < i then j else i)))
  | _ => none
def c_int : List PyData → Option Rs
  | [.int i] => some (.im (.int i))
  | [.bool k] => some (.im (.int (if k = true then 1 else 0)))
  | _ => none
def c_list : List PyData → Option Rs
  | [.list ds] => some (.ac ds)
  | [.tuple ds] => some (.ac ds)
  | _ => none
def c_tuple : List PyData → Option Rs
  | [.list ds] => some (.im (.tuple ds))
  | [.tuple ds] => some (.im (.tuple ds))
  | _ => none
section
variable {K : PySem.W.Frag} {X : Cx}
theorem vc_len : VC K (fun xs H Q => ∃ p ys, xs = [.ref p] ∧ (SqL K H p ys ∨ SqT K H p ys) ∧ Q (.int ys.length) H) c_len := by
  intro m E G0 G e σ H vs ds rr Q R l q P
  unfold c_len at q
  split at q
  · cases q
    obtain ⟨v, rfl, lv⟩ := lv1 l
    obtain ⟨p, ws, rfl, s1, k⟩ := lv.list R.gh
    refine ⟨p, ws, rfl, .inl s1, ?_⟩
    rw [dpAll_len k]
    exact P.now R (.int _) True.intro
  · cases q
    obtain ⟨v, rfl, lv⟩ := lv1 l
    obtain ⟨p, ws, rfl, s1, k⟩ := lv.tup R.gh
    refine ⟨p, ws, rfl, .inr s1, ?_⟩
    rw [dpAll_len k]
    exact P.now R (.int _) True.intro
  · cases q
theorem vc_abs : VC K (fun xs H Q => ∃ i, xs = [.int i] ∧ Q (.int (if i < 0 then -i else i)) H) c_abs := by
  intro m E G0 G e σ H vs ds rr Q R l q P
  unfold c_abs at q
  split at q
  · cases q
    obtain ⟨v, rfl, lv⟩ := lv1 l
    exact ⟨_, by rw [lv.int], P.now R (.int _) True.intro⟩
  · cases q
theorem vc_max2 : VC K (fun xs H Q => ∃ i j, xs = [.int i, .int j] ∧ Q (.int (if j > i then j else i)) H) c_max2 := by
  intro m E G0 G e σ H vs ds rr Q R l q P
  unfold c_max2 at q
  split at q
  · cases q
    obtain ⟨u, v, rfl, l1, l2⟩ := lv2 l
    exact ⟨_, _, by rw [l1.int, l2.int], P.now R (.int _) True.intro⟩
  · cases q
theorem vc_min2 : VC K (fun xs H Q => ∃ i j, xs = [.int i, .int j] ∧ Q (.int (if j < i then j else i)) H) c_min2 := by
  intro m E G0 G e σ H vs ds rr Q R l q P
  unfold c_min2 at q
  split at q
  · cases q
    obtain ⟨u, v, rfl, l1, l2⟩ := lv2 l
    exact ⟨_, _, by rw [l1.int, l2.int], P.now R (.int _) True.intro⟩
  · cases q
theorem vc_int : VC K (fun xs H Q => (∃ i, xs = [.int i] ∧ Q (.int i) H) ∨ ∃ k, xs = [.bl k] ∧ Q (.int (if k then 1 else 0)) H) c_int := by
  intro m E G0 G e σ H vs ds rr Q R l q P
  unfold c_int at q
  split at q
  · cases q
    obtain ⟨v, rfl, lv⟩ := lv1 l
    exact .inl ⟨_, by rw [lv.int], P.now R (.int _) True.intro⟩
  · cases q
    obtain ⟨v, rfl, lv⟩ := lv1 l
    exact .inr ⟨_, by rw [lv.bool], P.now R (.int _) True.intro⟩
  · cases q
theorem vc_list : VC K (fun xs H Q => ∃ p ys, xs = [.ref p] ∧ (SqL K H p ys ∨ SqT K H p ys) ∧ ∀ l, H l = none → Q (.ref l) (upd H l (.lst ys))) c_list := by
  intro m E G0 G e σ H vs ds rr Q R l q P
  unfold c_list at q
  split at q
  · cases q
    obtain ⟨v, rfl, lv⟩ := lv1 l
    obtain ⟨p, ws, rfl, s1, k⟩ := lv.list R.gh
    refine ⟨p, ws, rfl, .inl s1, fun p2 hp => ?_⟩
    obtain ⟨R', S', V', N'⟩ := R.newL hp k
    exact P _ _ _ R' S' V' N'
  · cases q
    obtain ⟨v, rfl, lv⟩ := lv1 l
    obtain ⟨p, ws, rfl, s1, k⟩ := lv.tup R.gh
    refine ⟨p, ws, rfl, .inr s1, fun p2 hp => ?_⟩
    obtain ⟨R', S', V', N'⟩ := R.newL hp k
    exact P _ _ _ R' S' V' N'
  · cases q
theorem call_tuple_ofE {X : Cx} : CallR X (.type "tuple") (fun xs H Q => ∃ p ys, xs = [.ref p] ∧ ((SqL X.K H p ys ∧ ∀ l ob, XO ob → H l = none → Q (.ref l) (upd H l (.frz ob (.tup ys)))) ∨ (SqT X.K H p ys ∧ Q (.ref p) H))) := by
  intro pins s σ H xs us Q I r h
  obtain ⟨p, ys, rfl, h⟩ := h
  rcases h with ⟨hq, q⟩ | ⟨hq, q⟩
  · obtain ⟨u, rfl, rx⟩ := vals1 r
    cases rx
    obtain ⟨its, r', pl, hz⟩ := I.list hq
    have hlen := r'.length
    refine call_tuple_list pl.isList (fun h' kp => ?_) (by simp only [List.size_toArray] <;> omega)
    have I1 : Inv X pins σ H { s with heap := h' } := I.kept (t' := s.toks) kp
    have I2 : Inv X pins σ (upd H h'.objs.size (.frz (tO its) (.tup ys))) { s with heap := h'.push (tO its) } :=
      I1.laid (t' := s.toks) (fun b o e => Heap.get?_push_of_some _ e) (Nat.le_refl _) (ObjOk.tX hz r')
    exact ⟨.ref h'.objs.size, _, I2, rfl, q _ _ tO_x (I1.hok.fresh (Nat.le_refl _))⟩
  · exact call_tuple_of pins s σ H _ us Q I r ⟨p, ys, rfl, .inr ⟨hq, q⟩⟩
theorem vc_tuple : VC K (fun xs H Q => ∃ p ys, xs = [.ref p] ∧ ((SqL K H p ys ∧ ∀ l ob, XO ob → H l = none → Q (.ref l) (upd H l (.frz ob (.tup ys)))) ∨ (SqT K H p ys ∧ Q (.ref p) H))) c_tuple := by
  intro m E G0 G e σ H vs ds rr Q R l q P
  unfold c_tuple at q
  split at q
  · cases q
    obtain ⟨v, rfl, lv⟩ := lv1 l
    obtain ⟨p, ws, rfl, s1, k⟩ := lv.list R.gh
    refine ⟨p, ws, rfl, .inl ⟨s1, fun p2 ob xo hp => ?_⟩⟩
    obtain ⟨R', S', D'⟩ := R.newT hp xo k
    exact P _ _ _ R' S' D' True.intro
  · cases q
    obtain ⟨v, rfl, lv⟩ := lv1 l
    obtain ⟨p, ws, rfl, s1, k⟩ := lv.tup R.gh
    refine ⟨p, ws, rfl, .inr ⟨s1, ?_⟩⟩
    rcases lv with lv | ⟨_, _, _, _, z, _⟩
    · exact P.now R lv True.intro
    · cases z
  · cases q
end
end DL
namespace DL
open PySem PySem.Spec PyProof.Rows L2
inductive Ty where
  | int | bool | str | tuple | list
def Ty.nm : Ty → String
  | .int => "int"
  | .bool => "bool"
  | .str => "str"
  | .tuple => "tuple"
  | .list => "list"
def isD : Ty → PyData → Option Bool
  | _, .dict _ => none
  | .int, .int _ => some true
  | .int, .bool _ => some true
  | .bool, .bool _ => some true
  | .str, .str _ => some true
  | .tuple, .tuple _ => some true
  | .list, .list _ => some true
  | _, _ => some false
def tyN : PyData → String
  | .none => "NoneType"
  | .bool _ => "bool"
  | .int _ => "int"
  | .str _ => "str"
  | .list _ => "list"
  | .tuple _ => "tuple"
  | .dict _ => "dict"
theorem isD_ok {T : Ty} {d : PyData} {b : Bool} (h : isD T d = some b) : kitB (tyN d) T.nm = some b := by
  cases d <;> cases T <;> first
    | (cases h; done)
    | (cases h; simp only [tyN, Ty.nm]; decide +kernel)
theorem lv_ty {K : PySem.W.Frag} {G H : Hp} {v : V} {d : PyData} (s : Same G H) (h : Lv K G H v d) {T : Ty} {b : Bool} (hd : isD T d = some b) : TyX K H v (.type (tyN d)) := by
  have h := h.dp s
  cases h with
  | non => exact .base .non
  | bl b => exact .base (.bl b)
  | int i => exact .base (.int i)
  | str x => exact .base (.str x)
  | lst h1 _ =>
    rcases h1 with (h2 | ⟨o, h2⟩) | ⟨o, its, n, hk, hc, _⟩
    · exact .base (.lst h2)
    · exact .base (.frz h2)
    · exact .kList hk hc
  | tup h1 _ =>
    obtain ⟨o, h2, _⟩ := h1
    exact .fTuple h2
  | ins _ _ _ _ => cases T <;> cases hd
  | dct _ _ _ => cases T <;> cases hd
def x_isi (T : Ty) (f : Fe) : Fe := fun e => match f e with
  | some (r, e1) => (match lookR e1 (frzR r) with
    | some d => (match isD T d with
      | some b => some (.im (.bool b), e1)
      | none => none)
    | none => none)
  | none => none
section
variable {X : Cx} {a : Expr} {fa : Fe} {pos p p2 : Pos}
theorem ed_isi (T : Ty) (ha : ED X a fa) {y : Str} (hm : X.mg "isinstance" = none) (hmT : X.mg y = none) (hy : y = Str.ofString T.nm := by rfl) (hb : bootBuiltins y = some (.type T.nm) := by decide +kernel) (hg : Gl X "isinstance" := by rfl) (hgT : Gl X y := by rfl)
    (hny : y ≠ "__name__" := by decide) (hdy : (y == ("__debug__" : Str)) = false := by decide)
    (h1 : starEach [.Name y p2] X.env = (false, eval (.Name y p2) X.env) :: starEach [] X.env := by rfl)
    (he : starEach [a, .Name y p2] X.env = (false, eval a X.env) :: starEach [.Name y p2] X.env := by rfl) (hpl : (backTo pos (starEach [.Name y p2] X.env)).any (·.1) = false := by rfl) :
    ED X (.Call (.Name "isinstance" p) [a, .Name y p2] [] pos) (x_isi T fa) := by
  obtain ⟨t, pa, k⟩ := ha
  refine ⟨_, pe_callB call_isi hg hm (by decide +kernel) (pa_cons pa (pa_cons (pe_bltn (v := .ty T.nm) hgT hmT hb rfl hny hdy) pa_nil h1) he) (by decide) (by decide) he hpl, fun m E G0 G e σ H r e' Q R q P => ?_⟩
  unfold x_isi at q
  cases h1 : fa e with
  | none => simp only [h1] at q; cases q
  | some z =>
    obtain ⟨r0, e1⟩ := z
    simp only [h1] at q
    cases h4 : lookR e1 (frzR r0) with
    | none => simp only [h4] at q; cases q
    | some d =>
      simp only [h4] at q
      cases h5 : isD T d with
      | none => simp only [h5] at q; cases q
      | some b =>
        simp only [h5, Option.some.injEq, Prod.mk.injEq] at q
        obtain ⟨rfl, rfl⟩ := q
        refine k m E G0 G e σ H r0 e1 _ R h1 fun v G1 H1 R1 S1 V1 N1 => ?_
        obtain ⟨G1', R1', S1', s1, V1'⟩ := R1.freeze S1 V1 N1
        have L := R1'.look V1' h4
        exact ⟨v, .ty T.nm, .type (tyN d), .type T.nm, b, rfl, .ty _, lv_ty R1'.gh L h5, kit_ty (isD_ok h5), P _ _ _ R1' S1' (.bl _) True.intro⟩
end
def unI : List PyData → Option (List Int)
  | [] => some []
  | .int i :: ds => (unI ds).map (i :: ·)
  | _ :: _ => none
def unB : List PyData → Option (List Bool)
  | [] => some []
  | .bool b :: ds => (unB ds).map (b :: ·)
  | _ :: _ => none
theorem unI_ok : ∀ {ds : List PyData} {ns : List Int}, unI ds = some ns → ds = ns.map PyData.int
  | [], ns, h => by
    cases h
    rfl
  | d :: ds, ns, h => by
    cases d with
    | int i =>
      simp only [unI] at h
      cases z : unI ds with
      | none => rw [z] at h; cases h
      | some ms =>
        rw [z] at h
        cases h
        rw [unI_ok z]
        rfl
    | _ => simp only [unI] at h; cases h
theorem unB_ok : ∀ {ds : List PyData} {ns : List Bool}, unB ds = some ns → ds = ns.map PyData.bool
  | [], ns, h => by
    cases h
    rfl
  | d :: ds, ns, h => by
    cases d with
    | bool i =>
      simp only [unB] at h
      cases z : unB ds with
      | none => rw [z] at h; cases h
      | some ms =>
        rw [z] at h
        cases h
        rw [unB_ok z]
        rfl
    | _ => simp only [unB] at h; cases h
theorem unI_map : ∀ ns : List Int, unI (ns.map PyData.int) = some ns
  | [] => rfl
  | n :: ns => by
    show (unI (ns.map PyData.int)).map (n :: ·) = _
    rw [unI_map ns]
    rfl
theorem unB_map : ∀ ns : List Bool, unB (ns.map PyData.bool) = some ns
  | [] => rfl
  | n :: ns => by
    show (unB (ns.map PyData.bool)).map (n :: ·) = _
    rw [unB_map ns]
    rfl
theorem dp_ints {K : PySem.W.Frag} {G : Hp} : ∀ {vs : List V} {ns : List Int}, DpAll K G vs (ns.map PyData.int) → vs = ns.map V.int
  | [], [], _ => rfl
  | [], _ :: _, h => by cases h
  | _ :: _, [], h => by cases h
  | v :: vs, n :: ns, h => by
    cases h with
    | cons h t =>
      cases h
      rw [dp_ints t]
      rfl
theorem dp_bools {K : PySem.W.Frag} {G : Hp} : ∀ {vs : List V} {ns : List Bool}, DpAll K G vs (ns.map PyData.bool) → vs = ns.map V.bl
  | [], [], _ => rfl
  | [], _ :: _, h => by cases h
  | _ :: _, [], h => by cases h
  | v :: vs, n :: ns, h => by
    cases h with
    | cons h t =>
      cases h
      rw [dp_bools t]
      rfl
def c_intsL (g : List Int → Option Rs) : List PyData → Option Rs
  | [.list ds] => (match unI ds with
    | some ns => g ns
    | none => none)
  | _ => none
def c_all : List PyData → Option Rs
  | [.list ds] => (match unB ds with
    | some bs => some (.im (.bool (bs.all id)))
    | none => none)
  | _ => none
/-- sorted, ascending, falling, by insertion (what the kernel can reckon) -/
def insB {α : Type} (le : α → α → Bool) (x : α) : List α → List α
  | [] => [x]
  | y :: l => match le x y with
    | true => x :: y :: l
    | false => y :: insB le x l
def sortB {α : Type} (le : α → α → Bool) : List α → List α
  | [] => []
  | x :: l => insB le x (sortB le l)
theorem insB_perm {α : Type} (le : α → α → Bool) (x : α) : ∀ l : List α, (insB le x l).Perm (x :: l)
  | [] => List.Perm.refl _
  | y :: l => by
    unfold insB
    split
    · exact List.Perm.refl _
    · exact (List.Perm.cons _ (insB_perm le x l)).trans (List.Perm.swap ..)
theorem sortB_perm {α : Type} (le : α → α → Bool) : ∀ l : List α, (sortB le l).Perm l
  | [] => List.Perm.refl _
  | x :: l => (insB_perm le x _).trans (List.Perm.cons _ (sortB_perm le l))
theorem insB_pw {α : Type} {le : α → α → Bool} (tr : ∀ a b c, le a b = true → le b c = true → le a c = true) (to : ∀ a b, (le a b || le b a) = true) (x : α) : ∀ {l : List α}, l.Pairwise (fun a b => le a b = true) → (insB le x l).Pairwise (fun a b => le a b = true)
  | [], _ => List.pairwise_singleton _ _
  | y :: l, h => by
    obtain ⟨h1, h2⟩ := List.pairwise_cons.mp h
    unfold insB
    split
    · rename_i e
      refine List.pairwise_cons.mpr ⟨fun z hz => ?_, h⟩
      rcases List.mem_cons.mp hz with q | q
      · rw [q]; exact e
      · exact tr _ _ _ e (h1 z q)
    · rename_i e
      refine List.pairwise_cons.mpr ⟨fun z hz => ?_, insB_pw tr to x h2⟩
      rcases List.mem_cons.mp ((insB_perm le x l).mem_iff.mp hz) with q | q
      · rw [q]
        have := to x y
        rwa [e, Bool.false_or] at this
      · exact h1 z q
theorem sortB_pw {α : Type} {le : α → α → Bool} (tr : ∀ a b c, le a b = true → le b c = true → le a c = true) (to : ∀ a b, (le a b || le b a) = true) : ∀ l : List α, (sortB le l).Pairwise (fun a b => le a b = true)
  | [] => .nil
  | x :: l => insB_pw tr to x (sortB_pw tr to l)
def upI (ns : List Int) : List Int := sortB (fun a b => decide (a ≤ b)) ns
def downI (ns : List Int) : List Int := sortB (fun a b => decide (b ≤ a)) ns
theorem upI_uniq {ns ms : List Int} (h : ms.Perm ns) (k : ms.Pairwise (· ≤ ·)) : ms = upI ns := by
  have p1 : (upI ns).Perm ns := sortB_perm _ ns
  have s1 : (upI ns).Pairwise (fun a b => decide (a ≤ b) = true) := sortB_pw (fun a b c h1 h2 => by simp at *; omega) (fun a b => by simp; omega) ns
  refine List.Perm.eq_of_pairwise (le := (· ≤ ·)) (fun a b _ _ h1 h2 => by omega) k (s1.imp fun h => of_decide_eq_true h) (h.trans p1.symm)
theorem downI_uniq {ns ms : List Int} (h : ms.Perm ns) (k : ms.Pairwise (· ≥ ·)) : ms = downI ns := by
  have p1 : (downI ns).Perm ns := sortB_perm _ ns
  have s1 : (downI ns).Pairwise (fun a b => decide (b ≤ a) = true) := sortB_pw (fun a b c h1 h2 => by simp at *; omega) (fun a b => by simp; omega) ns
  refine List.Perm.eq_of_pairwise (le := (· ≥ ·)) (fun a b _ _ h1 h2 => by omega) k (s1.imp fun h => of_decide_eq_true h) (h.trans p1.symm)
def c_sortedI : List PyData → Option Rs := c_intsL fun ns => some (.ac ((upI ns).map PyData.int))
section
variable {K : PySem.W.Frag} {X : Cx}
theorem intsL_ok {g : List Int → Option Rs} {ds : List PyData} {r : Rs} (q : c_intsL g ds = some r) : ∃ ns, ds = [.list (ns.map PyData.int)] ∧ g ns = some r := by
  unfold c_intsL at q
  split at q
  · rename_i es
    cases z : unI es with
    | none => simp only [z] at q; cases q
    | some ns =>
      simp only [z] at q
      exact ⟨ns, by rw [unI_ok z], q⟩
  · cases q
theorem lv_ints {G H : Hp} {vs : List V} {ns : List Int} (s : Same G H) (l : LvAll K G H vs [.list (ns.map PyData.int)]) : ∃ p, vs = [.ref p] ∧ SqL K H p (ns.map V.int) := by
  obtain ⟨v, rfl, lv⟩ := lv1 l
  obtain ⟨p, ws, rfl, s1, k⟩ := lv.list s
  rw [dp_ints k] at s1
  exact ⟨p, rfl, s1⟩
theorem vc_sortedI : VC K (rSortedI K) c_sortedI := by
  intro m E G0 G e σ H vs ds rr Q R l q P
  obtain ⟨ns, rfl, q2⟩ := intsL_ok q
  clear q
  obtain ⟨p, rfl, s1⟩ := lv_ints R.gh l
  cases q2
  refine ⟨p, _, rfl, s1, fun ns' p2 h1 h2 hp => ?_⟩
  rw [upI_uniq h1 h2]
  obtain ⟨R', S', V', N'⟩ := R.newL hp (dpAll_ints (K := K) (G := G) (upI ns))
  exact P _ _ _ R' S' V' N'
theorem vc_all : VC K (rAll K) c_all := by
  intro m E G0 G e σ H vs ds rr Q R l q P
  unfold c_all at q
  split at q
  · rename_i es
    cases z : unB es with
    | none => simp only [z] at q; cases q
    | some bs =>
      simp only [z, Option.some.injEq] at q
      subst q
      obtain ⟨v, rfl, lv⟩ := lv1 l
      obtain ⟨p, ws, rfl, s1, k⟩ := lv.list R.gh
      rw [unB_ok z] at k
      rw [dp_bools k] at s1
      exact ⟨p, bs, rfl, s1, P.now R (.bl _) True.intro⟩
  · cases q
end
end DL
namespace DL
open PySem PySem.Spec PyProof.Rows L2 RT RZ
def teOf (K : PySem.W.Frag) (f : Fe) : TE := fun σ H Q => ∃ m E G0 G e r e', Rl K m E G0 G e σ H ∧ f e = some (r, e') ∧ Po K m E G0 σ G H e r e' Q
def ttOf (K : PySem.W.Frag) (f : Ft) : TT := fun σ H Q => ∃ m E G0 G e b e', Rl K m E G0 G e σ H ∧ f e = some (b, e') ∧ ∀ G' H', Rl K m E G0 G' e' σ H' → Stp σ G H e G' H' e' → Q b H'
theorem ED.can {X : Cx} {x : Expr} {f : Fe} (h : ED X x f) : PE X x (teOf X.K f) := by
  obtain ⟨t, p, k⟩ := h
  refine ⟨fun pins s σ H Q I q => p.run pins s σ H Q I ?_⟩
  obtain ⟨m, E, G0, G, e, r, e', R, q, P⟩ := q
  exact k m E G0 G e σ H r e' Q R q P
theorem TD.can {X : Cx} {x : Expr} {f : Ft} (h : TD X x f) : PT X x (ttOf X.K f) := by
  obtain ⟨t, p, k⟩ := h
  refine ⟨fun pins s σ H Q I q => p.run pins s σ H Q I ?_⟩
  obtain ⟨m, E, G0, G, e, b, e', R, q, P⟩ := q
  exact k m E G0 G e σ H b e' Q R q P
section
variable {K : PySem.W.Frag} {m : Option Addr} {E : Ef} {G0 G H : Hp} {e : Ev} {σ : St} {v : V} {d : PyData}
theorem set_get {α : Type} {l : List α} {i j : Nat} {a : α} : (l.set i a)[j]? = if i = j ∧ j < l.length then some a else l[j]? := by
  rw [List.getElem?_set]
  by_cases h : i = j
  · subst h
    by_cases k : i < l.length
    · simp [k]
    · simp [k]
  · simp [h]
theorem ow_set {i j : Nat} {s : Option Sl} {t : Ow} (hs : ∀ t, s ≠ some (.ow t)) (h : (e.set i s)[j]? = some (some (.ow t))) : e[j]? = some (some (.ow t)) := by
  rw [set_get] at h
  by_cases z : i = j ∧ j < e.length
  · rw [if_pos z] at h
    exact absurd (Option.some.inj h) (hs t)
  · rw [if_neg z] at h
    exact h
theorem own0_set {i : Nat} {s : Option Sl} {a : Addr} (ha : ∀ ds, s = some (.ac ds) → ∃ d0, e[i]? = some (some (.ac d0))) (h : Own0 σ (e.set i s) a) : Own0 σ e a := by
  obtain ⟨j, ds, h1, h2⟩ := h
  rw [set_get] at h1
  by_cases z : i = j ∧ j < e.length
  · rw [if_pos z] at h1
    obtain ⟨d0, h3⟩ := ha ds (Option.some.inj h1)
    exact ⟨j, d0, by rw [← z.1]; exact h3, h2⟩
  · rw [if_neg z] at h1
    exact ⟨j, ds, h1, h2⟩
theorem Rl.notW (R : Rl K m E G0 G e σ H) {i : Nat} {ds : List PyData} {p : Addr} (h : e[i]? = some (some (.ac ds))) (hp : σ[i]? = some (some (.ref p))) : ¬ OwnW σ e H p := fun w => (R.wl.out p w).2.2.1 ⟨i, ds, h, hp⟩
/-- a slot turned, the names as they are -/
theorem Wl.put {G' H' : Hp} (R : Rl K m E G0 G e σ H) (i : Nat) {s : Option Sl} (hs : ∀ t, s ≠ some (.ow t)) (ha : ∀ ds, s = some (.ac ds) → ∃ d0, e[i]? = some (some (.ac d0))) (s1 : Same G G') (n : ∀ a, OwnW σ e H a → G a = none → G' a = none) (hh : ∀ a o, H a = some o → OwnW σ e H a → H' a = some o) :
    Wl K m E G' (e.set i s) σ H' ∧ ∀ a, OwnW σ (e.set i s) H' a → OwnW σ e H a :=
  R.wl.keep s1 n (fun _ _ h => ⟨ow_set hs h, rfl⟩) (fun a h w => (R.wl.out a w).2.2.1 (own0_set ha h)) hh
theorem Wl.set (R : Rl K m E G0 G e σ H) (i : Nat) {s : Option Sl} (hs : ∀ t, s ≠ some (.ow t)) (ha : ∀ ds p, s = some (.ac ds) → v = .ref p → OwnW σ e H p → False) : Wl K m E G (e.set i s) (σ.set i (some v)) H := by
  have hl := R.len
  refine (R.wl.keep (Same.refl G) (fun _ _ z => z) (fun j t h => ?_) (fun a h w => ?_) (fun _ _ z _ => z)).1
  · rw [set_get] at h ⊢
    by_cases z : i = j ∧ j < e.length
    · rw [if_pos z] at h
      exact absurd (Option.some.inj h) (hs t)
    · rw [if_neg z] at h
      rw [if_neg (by omega)]
      exact ⟨h, rfl⟩
  · obtain ⟨j, ds, h1, h2⟩ := h
    rw [set_get] at h1 h2
    by_cases z : i = j ∧ j < e.length
    · rw [if_pos z] at h1
      rw [if_pos ⟨z.1, by omega⟩] at h2
      exact ha ds a (Option.some.inj h1) (Option.some.inj (Option.some.inj h2)) w
    · rw [if_neg z] at h1
      rw [if_neg (by omega)] at h2
      exact (R.wl.out a w).2.2.1 ⟨j, ds, h1, h2⟩
theorem Rl.setI (R : Rl K m E G0 G e σ H) (i : Nat) (h : Dp K G v d) : Rl K m E G0 G (e.set i (some (.im d))) (σ.set i (some v)) H := by
  have hl := R.len
  refine ⟨R.gg, R.gh, R.eh, R.mh, R.nw, by rw [List.length_set, List.length_set]; exact hl, fun j d' q => ?_, fun j ds q => ?_, fun j k dj dk p q1 q2 q3 q4 => ?_, fun j dss q => ?_, Wl.set R i (fun _ z => by cases z) (fun _ _ z => by cases z)⟩
  · rw [set_get] at q ⊢
    by_cases z : i = j ∧ j < e.length
    · rw [if_pos z] at q
      cases q
      rw [if_pos ⟨z.1, by omega⟩]
      exact ⟨v, rfl, h⟩
    · rw [if_neg z] at q
      rw [if_neg (by omega)]
      exact R.im j d' q
  · rw [set_get] at q ⊢
    by_cases z : i = j ∧ j < e.length
    · rw [if_pos z] at q
      cases q
    · rw [if_neg z] at q
      rw [if_neg (by omega)]
      exact R.ac j ds q
  · rw [set_get] at q1 q2 q3 q4
    by_cases z1 : i = j ∧ j < e.length
    · rw [if_pos z1] at q1
      cases q1
    · by_cases z2 : i = k ∧ k < e.length
      · rw [if_pos z2] at q2
        cases q2
      · rw [if_neg z1] at q1
        rw [if_neg z2] at q2
        rw [if_neg (by omega)] at q3
        rw [if_neg (by omega)] at q4
        exact R.inj j k dj dk p q1 q2 q3 q4
  · rw [set_get] at q ⊢
    by_cases z : i = j ∧ j < e.length
    · rw [if_pos z] at q
      cases q
      exact True.intro
    · rw [if_neg z] at q
      rw [if_neg (by omega)]
      exact R.ot j dss q
theorem Rl.setA {ds : List PyData} (R : Rl K m E G0 G e σ H) (i : Nat) (h : Vr K E G H σ e v (.ac ds)) : Rl K m E G0 G (e.set i (some (.ac ds))) (σ.set i (some v)) H := by
  have hl := R.len
  obtain ⟨p0, ws0, rfl, h1, h2, h3, h4, h5⟩ := h
  refine ⟨R.gg, R.gh, R.eh, R.mh, R.nw, by rw [List.length_set, List.length_set]; exact hl, fun j d' q => ?_, fun j ds q => ?_, fun j k dj dk p q1 q2 q3 q4 => ?_, fun j dss q => ?_, Wl.set R i (fun _ z => by cases z) (fun _ p _ y w => by
    cases y
    exact h5 (.inr w))⟩
  · rw [set_get] at q ⊢
    by_cases z : i = j ∧ j < e.length
    · rw [if_pos z] at q
      cases q
    · rw [if_neg z] at q
      rw [if_neg (by omega)]
      exact R.im j d' q
  · rw [set_get] at q ⊢
    by_cases z : i = j ∧ j < e.length
    · rw [if_pos z] at q
      cases q
      rw [if_pos ⟨z.1, by omega⟩]
      exact ⟨p0, ws0, rfl, h2, h3, h4, .inl h1⟩
    · rw [if_neg z] at q
      rw [if_neg (by omega)]
      exact R.ac j ds q
  · rw [set_get] at q1 q2 q3 q4
    by_cases z1 : i = j ∧ j < e.length
    · rw [if_pos ⟨z1.1, by omega⟩] at q3
      cases q3
      by_cases z2 : i = k ∧ k < e.length
      · omega
      · rw [if_neg z2] at q2
        rw [if_neg (by omega)] at q4
        exact absurd (.inl ⟨k, dk, q2, q4⟩) h5
    · by_cases z2 : i = k ∧ k < e.length
      · rw [if_pos ⟨z2.1, by omega⟩] at q4
        cases q4
        rw [if_neg z1] at q1
        rw [if_neg (by omega)] at q3
        exact absurd (.inl ⟨j, dj, q1, q3⟩) h5
      · rw [if_neg z1] at q1
        rw [if_neg z2] at q2
        rw [if_neg (by omega)] at q3
        rw [if_neg (by omega)] at q4
        exact R.inj j k dj dk p q1 q2 q3 q4
  · rw [set_get] at q ⊢
    by_cases z : i = j ∧ j < e.length
    · rw [if_pos z] at q
      cases q
      exact True.intro
    · rw [if_neg z] at q
      rw [if_neg (by omega)]
      exact R.ot j dss q
/-- slots forgotten -/
theorem Rl.forget {e' : Ev} {σ' : St} (R : Rl K m E G0 G e σ H) (hl : e'.length = e.length) (hs : σ'.length = σ.length) (h : ∀ (i : Nat) (s : Sl), e'[i]? = some (some s) → e[i]? = some (some s) ∧ σ'[i]? = σ[i]?) : Rl K m E G0 G e' σ' H := by
  refine ⟨R.gg, R.gh, R.eh, R.mh, R.nw, by rw [hl, hs]; exact R.len, fun i d q => ?_, fun i ds q => ?_, fun i j di dj p q1 q2 q3 q4 => ?_, fun i dss q => ?_, (R.wl.keep (Same.refl G) (fun _ _ z => z) (fun i t q => h i _ q) (fun a ⟨i, ds, q1, q2⟩ w => (R.wl.out a w).2.2.1 ⟨i, ds, (h i _ q1).1, by rw [← (h i _ q1).2]; exact q2⟩) (fun _ _ z _ => z)).1⟩
  · obtain ⟨h1, h2⟩ := h i _ q
    rw [h2]
    exact R.im i d h1
  · obtain ⟨h1, h2⟩ := h i _ q
    rw [h2]
    exact R.ac i ds h1
  · obtain ⟨h1, h2⟩ := h i _ q1
    obtain ⟨h3, h4⟩ := h j _ q2
    rw [h2] at q3
    rw [h4] at q4
    exact R.inj i j di dj p h1 h3 q3 q4
  · obtain ⟨h1, h2⟩ := h i _ q
    rw [h2]
    exact R.ot i dss h1
end
structure GD (X : Cx) (tg : Expr) (S : List Nat) (γ : PyData → Ev → Option Ev) : Prop where
  ex : ∃ g, PG X tg g ∧ ∀ (m : Option Addr) (E : Ef) (G0 G : Hp) (e : Ev) (σ : St) (H : Hp) (v : V) (d : PyData) (e' : Ev) (Q : St → Hp → Prop),
    Rl X.K m E G0 G e σ H → Dp X.K G v d → γ d e = some e' → (∀ σ', Rl X.K m E G0 G e' σ' H → (∀ i : Nat, i ∉ S → σ'[i]? = σ[i]? ∧ e'[i]? = e[i]?) → σ'.length = σ.length → e'.length = e.length → (∀ i ∈ S, isAo e'[i]? = true → isAc e[i]? = true) → Q σ' H) → g v σ H Q
def tgOf (K : PySem.W.Frag) (S : List Nat) (γ : PyData → Ev → Option Ev) : TG := fun v σ H Q => ∃ m E G0 G e d e', Rl K m E G0 G e σ H ∧ Dp K G v d ∧ γ d e = some e' ∧
  ∀ σ', Rl K m E G0 G e' σ' H → (∀ i : Nat, i ∉ S → σ'[i]? = σ[i]? ∧ e'[i]? = e[i]?) → σ'.length = σ.length → e'.length = e.length → (∀ i ∈ S, isAo e'[i]? = true → isAc e[i]? = true) → Q σ' H
theorem GD.can {X : Cx} {tg : Expr} {S : List Nat} {γ : PyData → Ev → Option Ev} (h : GD X tg S γ) : PG X tg (tgOf X.K S γ) := by
  obtain ⟨g, p, k⟩ := h
  refine ⟨fun pins s σ H v u Q I r q => p.run pins s σ H v u Q I r ?_⟩
  obtain ⟨m, E, G0, G, e, d, e', R, D, q, P⟩ := q
  exact k m E G0 G e σ H v d e' Q R D q P
def g_name (i : Nat) : PyData → Ev → Option Ev := fun d e => some (e.set i (some (.im d)))
def setAll : List Nat → List PyData → Ev → Option Ev
  | [], [], e => some e
  | i :: is, d :: ds, e => setAll is ds (e.set i (some (.im d)))
  | _, _, _ => none
def g_tup (S : List Nat) : PyData → Ev → Option Ev := fun d e => match d with
  | .tuple ds => setAll S ds e
  | _ => none
theorem isAc_set {e : Ev} {i j : Nat} {d : PyData} (h : isAc (e.set i (some (.im d)))[j]? = true) : isAc e[j]? = true := by
  rw [set_get] at h
  by_cases z : i = j ∧ j < e.length
  · rw [if_pos z] at h
    cases h
  · rw [if_neg z] at h
    exact h
theorem isAo_self {e : Ev} {i : Nat} {d : PyData} (h : isAo (e.set i (some (.im d)))[i]? = true) : False := by
  rw [set_get] at h
  by_cases z : i = i ∧ i < e.length
  · rw [if_pos z] at h
    cases h
  · rw [if_neg z, List.getElem?_eq_none (by omega)] at h
    cases h
/-- names in order -/
structure GsD (X : Cx) (tgs : List Expr) (S : List Nat) : Prop where
  ex : ∃ g : TGs, PGs X tgs g ∧ ∀ (m : Option Addr) (E : Ef) (G0 G : Hp) (e : Ev) (σ : St) (H : Hp) (vs : List V) (ds : List PyData) (e' : Ev) (Q : St → Hp → Prop),
    Rl X.K m E G0 G e σ H → DpAll X.K G vs ds → setAll S ds e = some e' → (∀ σ', Rl X.K m E G0 G e' σ' H → (∀ i : Nat, i ∉ S → σ'[i]? = σ[i]? ∧ e'[i]? = e[i]?) → σ'.length = σ.length → e'.length = e.length → (∀ i ∈ S, isAo e'[i]? = true → isAc e[i]? = true) → Q σ' H) → g vs σ H Q
section
variable {X : Cx} {pos : Pos}
theorem gd_name {i : Nat} {x : Str} (hN : X.N.Nodup) (hi : X.N[i]? = some x) (hx : Loc X.env.scope x) (hf : X.fn x = true ∨ X.env.scope.names.lookup x = some .local := by first | exact .inl rfl | exact .inr rfl | assumption) : GD X (.Name x pos) [i] (g_name i) := by
  refine ⟨_, pg_name hN hi hx hf, fun m E G0 G e σ H v d e' Q R D q P => ?_⟩
  cases q
  refine P _ (R.setI i D) (fun j hj => ?_) (List.length_set ..) (List.length_set ..) fun j hj h => (isAo_self (by rw [List.mem_singleton.mp hj] at h; exact h)).elim
  have z : i ≠ j := fun z => hj (by rw [z]; exact List.mem_singleton.mpr rfl)
  exact ⟨List.getElem?_set_ne z, List.getElem?_set_ne z⟩
theorem gsd_nil : GsD X [] [] := by
  refine ⟨_, pgs_nil, fun m E G0 G e σ H vs ds e' Q R D q P => ?_⟩
  cases D with
  | nil =>
    cases q
    exact ⟨rfl, P σ R (fun _ _ => ⟨rfl, rfl⟩) rfl rfl fun _ h => by cases h⟩
  | cons _ _ => cases q
theorem gsd_cons {i : Nat} {x : Str} {tgs : List Expr} {S : List Nat} (hN : X.N.Nodup) (hi : X.N[i]? = some x) (hx : Loc X.env.scope x) (hr : GsD X tgs S) (hf : X.fn x = true ∨ X.env.scope.names.lookup x = some .local := by first | exact .inl rfl | exact .inr rfl | assumption)
    (hs : (assignEach (.Name x pos :: tgs) X.env).map (·.2) = assign (.Name x pos) X.env :: (assignEach tgs X.env).map (·.2) := by rfl) : GsD X (.Name x pos :: tgs) (i :: S) := by
  obtain ⟨g, p, k⟩ := hr
  refine ⟨_, pgs_cons (pg_name hN hi hx hf) p hs, fun m E G0 G e σ H vs ds e' Q R D q P => ?_⟩
  cases D with
  | nil => cases q
  | cons h t =>
    refine ⟨_, _, rfl, ?_⟩
    refine k m E G0 G _ _ H _ _ e' Q (R.setI i h) t q fun σ' R' a1 a2 a3 a4 => ?_
    refine P σ' R' (fun j hj => ?_) (a2.trans (List.length_set ..)) (a3.trans (List.length_set ..)) fun j hj h2 => ?_
    · have z : i ≠ j := fun z => hj (by rw [z]; exact List.mem_cons_self)
      obtain ⟨b1, b2⟩ := a1 j fun y => hj (List.mem_cons_of_mem _ y)
      exact ⟨b1.trans (List.getElem?_set_ne z), b2.trans (List.getElem?_set_ne z)⟩
    · by_cases y : j ∈ S
      · exact isAc_set (a4 j y h2)
      · have b2 := (a1 j y).2
        rw [b2] at h2
        have ej : j = i := by
          rcases List.mem_cons.mp hj with z | z
          · exact z
          · exact absurd z y
        subst ej
        exact (isAo_self h2).elim
theorem gd_tup {tgs : List Expr} {n : Nat} {S : List Nat} (hc : X.calm = true) (h : GsD X tgs S) (hn : (assignEach tgs X.env).length = S.length := by rfl) (hst : (assignEach tgs X.env).findIdx? (·.1) = none := by rfl) : GD X (.Tuple tgs n pos) S (g_tup S) := by
  obtain ⟨g, p, k⟩ := h
  refine ⟨_, pg_tup (n := S.length) hc p hn hst, fun m E G0 G e σ H v d e' Q R D q P => ?_⟩
  unfold g_tup at q
  split at q
  · rename_i ds
    cases D with
    | tup hT hA =>
      have hl : ∀ {S : List Nat} {ds : List PyData} {e e' : Ev}, setAll S ds e = some e' → S.length = ds.length := by
        intro S
        induction S with
        | nil =>
          intro ds e e' h
          cases ds with
          | nil => rfl
          | cons _ _ => cases h
        | cons i S ih =>
          intro ds e e' h
          cases ds with
          | nil => cases h
          | cons d ds => exact congrArg (· + 1) (ih h)
      exact ⟨_, _, rfl, (hT.same R.gh).t, by rw [dpAll_len hA, hl q], k m E G0 G e σ H _ _ e' Q R hA q P⟩
  · cases q
end
def ItzL (K : PySem.W.Frag) (a b : Addr) : It :=
  ⟨(Itz K a b).go, fun i H v H' => ∃ T x y ob, XO ob ∧ v = .ref T ∧ H T = none ∧ H' = upd H T (.frz ob (.tup [x, y])) ∧ (∀ xs, SqL K H a xs → xs[i]? = some x) ∧ ∀ ys, SqL K H b ys → ys[i]? = some y, (Itz K a b).stop⟩
def ItzX (K : PySem.W.Frag) (a b : Addr) : It :=
  ⟨(ItzT K a b).go, fun i H v H' => ∃ T x y ob, XO ob ∧ v = .ref T ∧ H T = none ∧ H' = upd H T (.frz ob (.tup [x, y])) ∧ (∀ xs, SqT K H a xs → xs[i]? = some x) ∧ ∀ ys, SqT K H b ys → ys[i]? = some y, (ItzT K a b).stop⟩
theorem turn_zipL {P : Program} {w : World} {K : PySem.W.Frag} {elts : List Expr} {kk : Nat} {tpos : Pos} {a b z TI TO i1 i2 : Addr} (D : ZipApart z TI TO i1 i2 a b) :
    Turn P w K (.Tuple elts kk tpos) (ItzL K a b) [z, TI, TO, i1, i2] z (fun i h => IsZip h z TI TO .none ∧ IsPair h TI (.ref i1) (.ref i2) ∧ (∃ x y, IsPair h TO x y) ∧ h.IsListIter i1 a i ∧ h.IsListIter i2 b i) where
  mem := (turn_zip (P := P) (w := w) (K := K) (elts := elts) (kk := kk) (tpos := tpos) D).mem
  obj := (turn_zip (P := P) (w := w) (K := K) (elts := elts) (kk := kk) (tpos := tpos) D).obj
  keep := (turn_zip (P := P) (w := w) (K := K) (elts := elts) (kk := kk) (tpos := tpos) D).keep
  item := by
    intro X hP hw hK hc i pins s σ H E I hf st hg
    subst hP hw hK
    obtain ⟨hz, hTI, ⟨x0, y0, hTO⟩, h1, h2⟩ := st
    obtain ⟨xs, ys, x, y, hqx, hqy, hx, hy⟩ := hg
    obtain ⟨its, rv, p, _⟩ := I.list hqx
    obtain ⟨its2, rv2, p2, _⟩ := I.list hqy
    obtain ⟨u, hu, ru⟩ := rv.get hx
    obtain ⟨u2, hu2, ru2⟩ := rv2.get hy
    have hzl : z < s.heap.objs.size := Heap.lt_size hz
    refine wpAny_pyNext_zip_item D hz hTI hTO h1 h2 p.isList p2.isList (x := u) (y := u2) (by simpa using hu) (by simpa using hu2) fun h' z' TO' h1' h2' hT hsz hk => ?_
    refine ⟨_, rfl, wpAny_letOwnedTupleGo_zip (s := { s with heap := h' }) z' fun h'' z'' sb => ?_⟩
    have hT2 : h''.get? s.heap.objs.size = some { cls := .type "tuple", data := .seq #[u, u2] } := (sb.2 _ (Nat.ne_of_gt hzl)).trans hT
    have new : ObjOk X.prog X.w (upd H s.heap.objs.size (.frz { cls := .type "tuple", data := .seq #[u, u2] } (.tup [x, y]))) h'' s.heap.objs.size (.frz { cls := .type "tuple", data := .seq #[u, u2] } (.tup [x, y])) :=
      ObjOk.tA hT2 (by show 2 ≤ sizeLine; decide) (.cons ru (.cons ru2 .nil))
    have I1 : Inv X pins σ (upd H s.heap.objs.size (.frz { cls := .type "tuple", data := .seq #[u, u2] } (.tup [x, y]))) { s with heap := h'' } :=
      I.turnedNew (t' := s.toks) (ch := [z, TI, TO, i1, i2]) (fun c o hb q => (sb.2 c (fun q' => hb (by simp [q']))).trans (hk c o (fun q' => hb (by simp [q'])) (fun q' => hb (by simp [q'])) (fun q' => hb (by simp [q'])) (fun q' => hb (by simp [q'])) q)) hf (Nat.le_refl _) new
    refine ⟨.ref s.heap.objs.size, _, I1, rfl, ⟨_, x, y, _, ⟨rfl, rfl⟩, rfl, I.hok.fresh (Nat.le_refl _), rfl, fun l hl => by rw [I.list_inj hl hqx]; exact hx, fun l hl => by rw [I.list_inj hl hqy]; exact hy⟩, ⟨z'', ?_, ⟨u, u2, ?_⟩, ?_, ?_⟩, fun c hcm => ?_⟩
    · exact (sb.2 _ D.TIz).trans (hk _ _ D.TIz D.TITO D.TIi1 D.TIi2 hTI)
    · exact (sb.2 _ D.TOz).trans TO'
    · exact h1'.at fun o q => (sb.2 _ D.i1z).trans q
    · exact h2'.at fun o q => (sb.2 _ D.i2z).trans q
    · have hlt : c < s.heap.objs.size := by
        have e' : c = z ∨ c = TI ∨ c = TO ∨ c = i1 ∨ c = i2 := by simpa using hcm
        rcases e' with q | q | q | q | q
        · rw [q]; exact hzl
        · rw [q]; exact Heap.lt_size hTI
        · rw [q]; exact Heap.lt_size hTO
        · rw [q]; obtain ⟨_, e1, _⟩ := h1; exact Heap.lt_size e1
        · rw [q]; obtain ⟨_, e2, _⟩ := h2; exact Heap.lt_size e2
      rw [upd_ne (Nat.ne_of_lt hlt)]
      exact (hf c hcm).1
  done := (turn_zip (P := P) (w := w) (K := K) (elts := elts) (kk := kk) (tpos := tpos) D).done
  self := (turn_zip (P := P) (w := w) (K := K) (elts := elts) (kk := kk) (tpos := tpos) D).self
theorem turn_zipX {P : Program} {w : World} {K : PySem.W.Frag} {elts : List Expr} {kk : Nat} {tpos : Pos} {a b z TI TO i1 i2 : Addr} (D : ZipApart z TI TO i1 i2 a b) :
    Turn P w K (.Tuple elts kk tpos) (ItzX K a b) [z, TI, TO, i1, i2] z (fun i h => IsZip h z TI TO .none ∧ IsPair h TI (.ref i1) (.ref i2) ∧ (∃ x y, IsPair h TO x y) ∧ h.IsTupleIter i1 a i ∧ h.IsTupleIter i2 b i) where
  mem := (turn_zipT (P := P) (w := w) (K := K) (elts := elts) (kk := kk) (tpos := tpos) D).mem
  obj := (turn_zipT (P := P) (w := w) (K := K) (elts := elts) (kk := kk) (tpos := tpos) D).obj
  keep := (turn_zipT (P := P) (w := w) (K := K) (elts := elts) (kk := kk) (tpos := tpos) D).keep
  item := by
    intro X hP hw hK hc i pins s σ H E I hf st hg
    subst hP hw hK
    obtain ⟨hz, hTI, ⟨x0, y0, hTO⟩, h1, h2⟩ := st
    obtain ⟨xs, ys, x, y, hqx, hqy, hx, hy⟩ := hg
    obtain ⟨its, rv, p, _⟩ := I.tuple hqx
    obtain ⟨its2, rv2, p2, _⟩ := I.tuple hqy
    obtain ⟨u, hu, ru⟩ := rv.get hx
    obtain ⟨u2, hu2, ru2⟩ := rv2.get hy
    have hzl : z < s.heap.objs.size := Heap.lt_size hz
    refine pyNext_zipT_item D hz hTI hTO h1 h2 p p2 (x := u) (y := u2) (by simpa using hu) (by simpa using hu2) fun h' z' TO' h1' h2' hT hsz hk => ?_
    refine ⟨_, rfl, wpAny_letOwnedTupleGo_zip (s := { s with heap := h' }) z' fun h'' z'' sb => ?_⟩
    have hT2 : h''.get? s.heap.objs.size = some { cls := .type "tuple", data := .seq #[u, u2] } := (sb.2 _ (Nat.ne_of_gt hzl)).trans hT
    have new : ObjOk X.prog X.w (upd H s.heap.objs.size (.frz { cls := .type "tuple", data := .seq #[u, u2] } (.tup [x, y]))) h'' s.heap.objs.size (.frz { cls := .type "tuple", data := .seq #[u, u2] } (.tup [x, y])) :=
      ObjOk.tA hT2 (by show 2 ≤ sizeLine; decide) (.cons ru (.cons ru2 .nil))
    have I1 : Inv X pins σ (upd H s.heap.objs.size (.frz { cls := .type "tuple", data := .seq #[u, u2] } (.tup [x, y]))) { s with heap := h'' } :=
      I.turnedNew (t' := s.toks) (ch := [z, TI, TO, i1, i2]) (fun c o hb q => (sb.2 c (fun q' => hb (by simp [q']))).trans (hk c o (fun q' => hb (by simp [q'])) (fun q' => hb (by simp [q'])) (fun q' => hb (by simp [q'])) (fun q' => hb (by simp [q'])) q)) hf (Nat.le_refl _) new
    refine ⟨.ref s.heap.objs.size, _, I1, rfl, ⟨_, x, y, _, ⟨rfl, rfl⟩, rfl, I.hok.fresh (Nat.le_refl _), rfl, fun l hl => by rw [I.tuple_inj hl hqx]; exact hx, fun l hl => by rw [I.tuple_inj hl hqy]; exact hy⟩, ⟨z'', ?_, ⟨u, u2, ?_⟩, ?_, ?_⟩, fun c hcm => ?_⟩
    · exact (sb.2 _ D.TIz).trans (hk _ _ D.TIz D.TITO D.TIi1 D.TIi2 hTI)
    · exact (sb.2 _ D.TOz).trans TO'
    · exact h1'.at fun o q => (sb.2 _ D.i1z).trans q
    · exact h2'.at fun o q => (sb.2 _ D.i2z).trans q
    · have hlt : c < s.heap.objs.size := by
        have e' : c = z ∨ c = TI ∨ c = TO ∨ c = i1 ∨ c = i2 := by simpa using hcm
        rcases e' with q | q | q | q | q
        · rw [q]; exact hzl
        · rw [q]; exact Heap.lt_size hTI
        · rw [q]; exact Heap.lt_size hTO
        · rw [q]; obtain ⟨_, e1, _⟩ := h1; exact Heap.lt_size e1
        · rw [q]; obtain ⟨_, e2, _⟩ := h2; exact Heap.lt_size e2
      rw [upd_ne (Nat.ne_of_lt hlt)]
      exact (hf c hcm).1
  done := (turn_zipT (P := P) (w := w) (K := K) (elts := elts) (kk := kk) (tpos := tpos) D).done
  self := (turn_zipT (P := P) (w := w) (K := K) (elts := elts) (kk := kk) (tpos := tpos) D).self
def iZipX (K : PySem.W.Frag) (ta : TA) : TI := fun σ H R => ta σ H fun vs H1 => ∃ a b xs ys, vs = [.ref a, .ref b] ∧ ((SqL K H1 a xs ∧ SqL K H1 b ys ∧ R (ItzL K a b) H1) ∨ (SqT K H1 a xs ∧ SqT K H1 b ys ∧ R (ItzX K a b) H1))
theorem pi_zipX {X : Cx} {e e2 : Expr} {ta : TA} {p pos tpos : Pos} {elts : List Expr} {kk : Nat} (hg : Gl X "zip") (hm : X.mg "zip" = none) (ha : PA X [e, e2] ta)
    (hs : starEach [e, e2] X.env = (false, eval e X.env) :: starEach [e2] X.env := by rfl) (hpl : (backTo pos (starEach [e2] X.env)).any (·.1) = false := by rfl) :
    PI X (.Tuple elts kk tpos) (.Call (.Name "zip" p) [e, e2] [] pos) (iZipX X.K ta) := by
  refine ⟨fun pins s σ H R I h => ?_⟩
  refine Call_ (ld_blt I hg hm PyProof.Rows.boot_zip (PyProof.Rows.callWith_type1 (thn (ha.run pos pins s σ H _ I h) fun us s1 ⟨vs, H1, I1, r1, q1⟩ => ?_) hs hpl))
  obtain ⟨a, b, xs, ys, ex, q1⟩ := q1
  subst ex
  cases r1 with
  | cons r rr =>
    cases rr with
    | cons r' rr =>
      cases rr
      cases r
      cases r'
      have fresh5 : ∀ c, c ∈ [s1.heap.objs.size + 4, s1.heap.objs.size + 2, s1.heap.objs.size + 3, s1.heap.objs.size, s1.heap.objs.size + 1] → FpOk X pins H1 c := fun c hcm => by
        have e' : c = s1.heap.objs.size + 4 ∨ c = s1.heap.objs.size + 2 ∨ c = s1.heap.objs.size + 3 ∨ c = s1.heap.objs.size ∨ c = s1.heap.objs.size + 1 := by simpa using hcm
        have hle : s1.heap.objs.size ≤ c := by
          rcases e' with z | z | z | z | z
          · rw [z]; exact Nat.le_add_right _ _
          · rw [z]; exact Nat.le_add_right _ _
          · rw [z]; exact Nat.le_add_right _ _
          · rw [z]; exact Nat.le_refl _
          · rw [z]; exact Nat.le_add_right _ _
        exact I1.fpOk hle (I1.hok.fresh hle)
      rcases q1 with ⟨hqx, hqy, q⟩ | ⟨hqx, hqy, q⟩
      · obtain ⟨its, rv, p1, _⟩ := I1.list hqx
        obtain ⟨its2, rv2, p2, _⟩ := I1.list hqy
        refine call_zip_2 p1.isList p2.isList fun h' hz hTI hTO h1 h2 hsz hk => wpAny_pyIter_zip hz ?_
        have I2 : Inv X pins σ H1 { s1 with heap := h' } := I1.kept (t' := s1.toks) hk
        exact ⟨s1.heap.objs.size + 4, [s1.heap.objs.size + 4, s1.heap.objs.size + 2, s1.heap.objs.size + 3, s1.heap.objs.size, s1.heap.objs.size + 1], _, _, H1, rfl, I2, turn_zipL (PySem.W.ktu_apart s1.heap.objs.size a b p1.lt p2.lt), ⟨hz, hTI, ⟨_, _, hTO⟩, h1, h2⟩, fresh5, q⟩
      · obtain ⟨its, rv, p1, _⟩ := I1.tuple hqx
        obtain ⟨its2, rv2, p2, _⟩ := I1.tuple hqy
        obtain ⟨o1, ho1, _⟩ := id p1
        obtain ⟨o2, ho2, _⟩ := id p2
        refine call_zipT (show s1.heap.IsTuple a its.toArray from p1) (show s1.heap.IsTuple b its2.toArray from p2) fun h' hz hTI hTO h1 h2 hsz hk => wpAny_pyIter_zip hz ?_
        have I2 : Inv X pins σ H1 { s1 with heap := h' } := I1.kept (t' := s1.toks) hk
        exact ⟨s1.heap.objs.size + 4, [s1.heap.objs.size + 4, s1.heap.objs.size + 2, s1.heap.objs.size + 3, s1.heap.objs.size, s1.heap.objs.size + 1], _, _, H1, rfl, I2, turn_zipX (PySem.W.ktu_apart s1.heap.objs.size a b (Heap.lt_size ho1) (Heap.lt_size ho2)), ⟨hz, hTI, ⟨_, _, hTO⟩, h1, h2⟩, fresh5, q⟩
def Yd (K : PySem.W.Frag) (G H : Hp) (x : V) (H2 : Hp) (d : PyData) : Prop :=
  (H2 = H ∧ Dp K G x d) ∨ ∃ T ws es ob, XO ob ∧ x = .ref T ∧ H T = none ∧ H2 = upd H T (.frz ob (.tup ws)) ∧ d = .tuple es ∧ DpAll K G ws es
def WalkD (K : PySem.W.Frag) (G0 : Hp) (J : It) (ds : List PyData) : Prop :=
  ∀ G H, Same G0 G → Same G H → (∀ i d, ds[i]? = some d → J.go i H ∧ ∀ x H2, J.yld i H x H2 → Yd K G H x H2 d) ∧ J.stop ds.length H
abbrev Fi := Ev → Option (List PyData × Ev)
structure ID (X : Cx) (tg it : Expr) (f : Fi) : Prop where
  ex : ∃ wi, PI X tg it wi ∧ ∀ (m : Option Addr) (E : Ef) (G0 G : Hp) (e : Ev) (σ : St) (H : Hp) (ds : List PyData) (e' : Ev) (Q : It → Hp → Prop),
    Rl X.K m E G0 G e σ H → f e = some (ds, e') → (∀ J G' H', Rl X.K m E G0 G' e' σ H' → Stp σ G H e G' H' e' → WalkD X.K G' J ds → Q J H') → wi σ H Q
theorem pi_or {X : Cx} {tg it : Expr} {w1 w2 : TI} (h1 : PI X tg it w1) (h2 : PI X tg it w2) : PI X tg it (fun σ H R => w1 σ H R ∨ w2 σ H R) :=
  ⟨fun pins s σ H R I h => h.elim (h1.run pins s σ H R I) (h2.run pins s σ H R I)⟩
section
variable {K : PySem.W.Frag} {G0 : Hp} {a b : Addr} {xs ys : List V} {ds es : List PyData}
theorem walk_list (h : SqL K G0 a xs) (q : DpAll K G0 xs ds) : WalkD K G0 (Itl K a) ds := by
  intro G H s1 s2
  have hq : SqL K H a xs := (s1.trans s2).seq h
  refine ⟨fun i d e => ?_, xs, hq, by rw [dpAll_len q]; exact Nat.le_refl _⟩
  obtain ⟨v, e1, e2⟩ := dpAll_get q e
  refine ⟨⟨xs, v, hq, e1⟩, fun x H2 y => .inl ⟨y.1, ?_⟩⟩
  have z := y.2 xs hq
  rw [e1] at z
  cases z
  exact dp_same s1 e2
theorem walk_tup (h : SqX G0 a xs) (q : DpAll K G0 xs ds) : WalkD K G0 (Itt K a) ds := by
  intro G H s1 s2
  have hq : SqT K H a xs := (h.same (s1.trans s2)).t
  refine ⟨fun i d e => ?_, xs, hq, by rw [dpAll_len q]; exact Nat.le_refl _⟩
  obtain ⟨v, e1, e2⟩ := dpAll_get q e
  refine ⟨⟨xs, v, hq, e1⟩, fun x H2 y => .inl ⟨y.1, ?_⟩⟩
  have z := y.2 xs hq
  rw [e1] at z
  cases z
  exact dp_same s1 e2
def rngD (lo : Int) (n : Nat) (c : Int) : List PyData := (List.range n).map fun (i : Nat) => PyData.int (lo + (i : Int) * c)
theorem rng_at {lo : Int} {n : Nat} {c : Int} {i : Nat} {d : PyData} (e : (rngD lo n c)[i]? = some d) : i < n ∧ d = .int (lo + (i : Int) * c) := by
  unfold rngD at e
  rw [List.getElem?_map] at e
  cases z : (List.range n)[i]? with
  | none => rw [z] at e; cases e
  | some j =>
    rw [z] at e
    obtain ⟨h1, h2⟩ := List.getElem?_eq_some_iff.mp z
    rw [List.length_range] at h1
    rw [List.getElem_range] at h2
    subst h2
    cases e
    exact ⟨h1, rfl⟩
theorem walk_rng {lo : Int} {n : Nat} : WalkD K G0 (Itr lo n) (rngD lo n 1) := by
  intro G H s1 s2
  refine ⟨fun i d e => ?_, by unfold rngD; rw [List.length_map, List.length_range]; exact Nat.le_refl n⟩
  obtain ⟨h1, rfl⟩ := rng_at e
  refine ⟨h1, fun x H2 y => .inl ⟨y.1, ?_⟩⟩
  rw [y.2, Int.mul_one]
  exact .int _
theorem walk_rngc {lo : Int} {n : Nat} {c : Int} : WalkD K G0 (Itc lo c n) (rngD lo n c) := by
  intro G H s1 s2
  refine ⟨fun i d e => ?_, by unfold rngD; rw [List.length_map, List.length_range]; exact Nat.le_refl n⟩
  obtain ⟨h1, rfl⟩ := rng_at e
  refine ⟨h1, fun x H2 y => .inl ⟨y.1, ?_⟩⟩
  have z : x = .int (lo + (i : Int) * c) := y.2
  rw [z]
  exact .int _
def zipD (ds es : List PyData) : List PyData := List.zipWith (fun a b => PyData.tuple [a, b]) ds es
theorem zip_at {i : Nat} {d : PyData} (e : (zipD ds es)[i]? = some d) : ∃ x y, ds[i]? = some x ∧ es[i]? = some y ∧ d = .tuple [x, y] := by
  unfold zipD at e
  rw [List.getElem?_zipWith] at e
  cases h1 : ds[i]? with
  | none => rw [h1] at e; cases e
  | some x =>
    cases h2 : es[i]? with
    | none => rw [h1, h2] at e; cases e
    | some y =>
      rw [h1, h2] at e
      cases e
      exact ⟨x, y, rfl, rfl, rfl⟩
theorem walk_zip (h : SqL K G0 a xs) (q : DpAll K G0 xs ds) (h' : SqL K G0 b ys) (q' : DpAll K G0 ys es) : WalkD K G0 (ItzL K a b) (zipD ds es) := by
  intro G H s1 s2
  have hq : SqL K H a xs := (s1.trans s2).seq h
  have hq' : SqL K H b ys := (s1.trans s2).seq h'
  refine ⟨fun i d e => ?_, xs, ys, hq, hq', ?_⟩
  · obtain ⟨x, y, e1, e2, rfl⟩ := zip_at e
    obtain ⟨v, f1, f2⟩ := dpAll_get q e1
    obtain ⟨v', f1', f2'⟩ := dpAll_get q' e2
    refine ⟨⟨xs, ys, v, v', hq, hq', f1, f1'⟩, fun w H2 y => .inr ?_⟩
    obtain ⟨T, x1, x2, ob, xo, rfl, nT, rfl, z1, z2⟩ := y
    have g1 := z1 xs hq
    have g2 := z2 ys hq'
    rw [f1] at g1
    rw [f1'] at g2
    cases g1
    cases g2
    exact ⟨T, [v, v'], _, ob, xo, rfl, nT, rfl, rfl, .cons (dp_same s1 f2) (.cons (dp_same s1 f2') .nil)⟩
  · unfold zipD
    rw [List.length_zipWith, ← dpAll_len q, ← dpAll_len q']
    omega
theorem walk_zipT (h : SqX G0 a xs) (q : DpAll K G0 xs ds) (h' : SqX G0 b ys) (q' : DpAll K G0 ys es) : WalkD K G0 (ItzX K a b) (zipD ds es) := by
  intro G H s1 s2
  have hq : SqT K H a xs := (h.same (s1.trans s2)).t
  have hq' : SqT K H b ys := (h'.same (s1.trans s2)).t
  refine ⟨fun i d e => ?_, xs, ys, hq, hq', ?_⟩
  · obtain ⟨x, y, e1, e2, rfl⟩ := zip_at e
    obtain ⟨v, f1, f2⟩ := dpAll_get q e1
    obtain ⟨v', f1', f2'⟩ := dpAll_get q' e2
    refine ⟨⟨xs, ys, v, v', hq, hq', f1, f1'⟩, fun w H2 y => .inr ?_⟩
    obtain ⟨T, x1, x2, ob, xo, rfl, nT, rfl, z1, z2⟩ := y
    have g1 := z1 xs hq
    have g2 := z2 ys hq'
    rw [f1] at g1
    rw [f1'] at g2
    cases g1
    cases g2
    exact ⟨T, [v, v'], _, ob, xo, rfl, nT, rfl, rfl, .cons (dp_same s1 f2) (.cons (dp_same s1 f2') .nil)⟩
  · unfold zipD
    rw [List.length_zipWith, ← dpAll_len q, ← dpAll_len q']
    omega
end
/-- a list or a tuple that stays -/
def i_seq (f : Fe) : Fi := fun e => match f e with
  | some (r, e1) => (match frzR r with
    | .im (.list ds) => some (ds, e1)
    | .im (.tuple ds) => some (ds, e1)
    | _ => none)
  | none => none
theorem i_seq_ok {f : Fe} {e e' : Ev} {ds : List PyData} (q : i_seq f e = some (ds, e')) : ∃ r, f e = some (r, e') ∧ (frzR r = .im (.list ds) ∨ frzR r = .im (.tuple ds)) := by
  unfold i_seq at q
  split at q
  · rename_i r e1 h
    split at q
    · rename_i es h2
      cases q
      exact ⟨r, h, .inl h2⟩
    · rename_i es h2
      cases q
      exact ⟨r, h, .inr h2⟩
    · cases q
  · cases q
section
variable {X : Cx} {tg a b c : Expr} {fa fb fc : Fe} {pos p : Pos}
theorem id_seq (ha : ED X a fa) : ID X tg a (i_seq fa) := by
  obtain ⟨t, pa, k⟩ := ha
  refine ⟨_, pi_or (pi_list pa) (pi_tup pa), fun m E G0 G e σ H ds e' Q R q P => ?_⟩
  obtain ⟨r, q1, q2⟩ := i_seq_ok q
  rcases q2 with q2 | q2
  · refine .inl (k m E G0 G e σ H r e' _ R q1 fun v G1 H1 R1 S1 V1 N1 => ?_)
    obtain ⟨G1', R1', S1', s1, V1'⟩ := R1.freeze S1 V1 N1
    rw [q2] at V1'
    have V2 : Dp X.K G1' v (.list ds) := V1'
    cases V2 with
    | lst h z => exact ⟨_, rfl, ⟨_, R1'.gh.seq h⟩, P _ _ _ R1' S1' (walk_list h z)⟩
  · refine .inr (k m E G0 G e σ H r e' _ R q1 fun v G1 H1 R1 S1 V1 N1 => ?_)
    obtain ⟨G1', R1', S1', s1, V1'⟩ := R1.freeze S1 V1 N1
    rw [q2] at V1'
    have V2 : Dp X.K G1' v (.tuple ds) := V1'
    cases V2 with
    | tup h z => exact ⟨_, rfl, ⟨_, (h.same R1'.gh).t⟩, P _ _ _ R1' S1' (walk_tup h z)⟩
/-- range -/
def rgC (i : Int) : Bool := decide (-4611686018427387904 ≤ i ∧ i < 4611686018427387904)
theorem rgC_ok {i : Int} (h : rgC i = true) : -(2 ^ 62) ≤ i ∧ i < 2 ^ 62 := by
  have h := of_decide_eq_true h
  have e : (2 : Int) ^ 62 = 4611686018427387904 := by decide
  rw [e]
  exact h
def i_rng1 (fa : Fe) : Fi := fun e => match fa e with
  | some (.im (.int j), e1) => if rgC j = true then some (rngD 0 j.toNat 1, e1) else none
  | _ => none
def i_rng2 (fa fb : Fe) : Fi := fun e => match fa e with
  | some (.im (.int i), e1) => (match fb e1 with
    | some (.im (.int j), e2) => if (rgC i && rgC j) = true then some (rngD i (j - i).toNat 1, e2) else none
    | _ => none)
  | _ => none
def i_rng3 (fa fb fc : Fe) : Fi := fun e => match fa e with
  | some (.im (.int i), e1) => (match fb e1 with
    | some (.im (.int j), e2) => (match fc e2 with
      | some (.im (.int c), e3) => if (rgC i && (rgC j && decide (c = -1))) = true then some (rngD i (i - j).toNat (-1), e3) else none
      | _ => none)
    | _ => none)
  | _ => none
theorem rng1_read {t : TE} (k : ∀ (m : Option Addr) (E : Ef) (G0 G : Hp) (e : Ev) (σ : St) (H : Hp) (r : Rs) (e' : Ev) (Q : VK), Rl X.K m E G0 G e σ H → fa e = some (r, e') → Po X.K m E G0 σ G H e r e' Q → t σ H Q)
    (m : Option Addr) (E : Ef) (G0 G : Hp) (e : Ev) (σ : St) (H : Hp) (ds : List PyData) (e' : Ev) (Q : It → Hp → Prop) (R : Rl X.K m E G0 G e σ H) (q : i_rng1 fa e = some (ds, e')) (P : ∀ J G' H', Rl X.K m E G0 G' e' σ H' → Stp σ G H e G' H' e' → WalkD X.K G' J ds → Q J H') : iRng1 (tCons t tNil) σ H Q := by
  unfold i_rng1 at q
  split at q
  · rename_i j e1 h1
    by_cases z : rgC j = true
    · rw [if_pos z] at q
      simp only [Option.some.injEq, Prod.mk.injEq] at q
      obtain ⟨rfl, rfl⟩ := q
      refine k m E G0 G e σ H _ e1 _ R h1 fun v G1 H1 R1 S1 V1 _ => ?_
      cases V1
      obtain ⟨z1, z2⟩ := rgC_ok z
      exact ⟨j, rfl, z1, z2, P _ _ _ R1 S1 walk_rng⟩
    · rw [if_neg z] at q
      cases q
  · cases q
theorem id_rng1 (ha : ED X a fa) (hm : X.mg "range" = none) (hg : Gl X "range" := by rfl) (hs : starEach [a] X.env = [(false, eval a X.env)] := by rfl) : ID X tg (.Call (.Name "range" p) [a] [] pos) (i_rng1 fa) := by
  obtain ⟨t, pa, k⟩ := ha
  exact ⟨_, pi_range1 hg hm (pa_cons pa pa_nil hs) hs, rng1_read k⟩
theorem id_rng2 (ha : ED X a fa) (hb : ED X b fb) (hm : X.mg "range" = none) (hg : Gl X "range" := by rfl) (hs : starEach [a, b] X.env = [(false, eval a X.env), (false, eval b X.env)] := by rfl) (hs2 : starEach [b] X.env = [(false, eval b X.env)] := by rfl) : ID X tg (.Call (.Name "range" p) [a, b] [] pos) (i_rng2 fa fb) := by
  obtain ⟨t, pa, k⟩ := ha
  obtain ⟨t2, pb, k2⟩ := hb
  refine ⟨_, pi_range2 hg hm (pa_cons pa (pa_cons pb pa_nil hs2) (by rw [hs, hs2])) hs hs2, fun m E G0 G e σ H ds e' Q R q P => ?_⟩
  unfold i_rng2 at q
  split at q
  · rename_i i e1 h1
    split at q
    · rename_i j e2 h2
      by_cases z : (rgC i && rgC j) = true
      · rw [if_pos z] at q
        simp only [Option.some.injEq, Prod.mk.injEq] at q
        obtain ⟨rfl, rfl⟩ := q
        refine k m E G0 G e σ H _ e1 _ R h1 fun v G1 H1 R1 S1 V1 _ => ?_
        refine k2 m E G0 G1 e1 σ H1 _ e2 _ R1 h2 fun v2 G2 H2 R2 S2 V2 _ => ?_
        cases V1
        cases V2
        obtain ⟨z1, z2⟩ := Bool.and_eq_true_iff.mp z
        have z1 := rgC_ok z1
        have z2 := rgC_ok z2
        exact ⟨i, j, rfl, ⟨z1.1, z1.2, z2.1, z2.2⟩, P _ _ _ R2 (S1.trans S2) walk_rng⟩
      · rw [if_neg z] at q
        cases q
    · cases q
  · cases q
theorem id_rng3 (ha : ED X a fa) (hb : ED X b fb) (hc : ED X c fc) (hm : X.mg "range" = none) (hg : Gl X "range" := by rfl) (hs : starEach [a, b, c] X.env = (false, eval a X.env) :: starEach [b, c] X.env := by rfl) (hs2 : starEach [b, c] X.env = (false, eval b X.env) :: starEach [c] X.env := by rfl) (hs3 : starEach [c] X.env = (false, eval c X.env) :: starEach [] X.env := by rfl)
    (hpl : (backTo pos (starEach [b, c] X.env)).any (·.1) = false := by rfl) : ID X tg (.Call (.Name "range" p) [a, b, c] [] pos) (i_rng3 fa fb fc) := by
  obtain ⟨t, pa, k⟩ := ha
  obtain ⟨t2, pb, k2⟩ := hb
  obtain ⟨t3, pc, k3⟩ := hc
  refine ⟨_, pi_range3 hg hm (pa_cons pa (pa_cons pb (pa_cons pc pa_nil hs3) hs2) hs) hs hpl, fun m E G0 G e σ H ds e' Q R q P => ?_⟩
  unfold i_rng3 at q
  split at q
  · rename_i i e1 h1
    split at q
    · rename_i j e2 h2
      split at q
      · rename_i cc e3 h3
        by_cases z : (rgC i && (rgC j && decide (cc = -1))) = true
        · rw [if_pos z] at q
          simp only [Option.some.injEq, Prod.mk.injEq] at q
          obtain ⟨rfl, rfl⟩ := q
          refine k m E G0 G e σ H _ e1 _ R h1 fun v G1 H1 R1 S1 V1 _ => ?_
          refine k2 m E G0 G1 e1 σ H1 _ e2 _ R1 h2 fun v2 G2 H2 R2 S2 V2 _ => ?_
          refine k3 m E G0 G2 e2 σ H2 _ e3 _ R2 h3 fun v3 G3 H3 R3 S3 V3 _ => ?_
          cases V1
          cases V2
          cases V3
          obtain ⟨z1, z2⟩ := Bool.and_eq_true_iff.mp z
          obtain ⟨z4, z5⟩ := Bool.and_eq_true_iff.mp z2
          have y1 := rgC_ok z1
          have y2 := rgC_ok z4
          have y3 := of_decide_eq_true z5
          subst y3
          exact ⟨i, j, -1, _, rfl, RgC.neg y1.1 y1.2 y2.1 y2.2, P _ _ _ R3 (S1.trans (S2.trans S3)) walk_rngc⟩
        · rw [if_neg z] at q
          cases q
      · cases q
    · cases q
  · cases q
/-- zip of two lists, of two tuples -/
def i_zip (fa fb : Fe) : Fi := fun e => match two fa fb e with
  | some (.im (.list xs), .im (.list ys), e1) => some (zipD xs ys, e1)
  | some (.im (.tuple xs), .im (.tuple ys), e1) => some (zipD xs ys, e1)
  | _ => none
theorem id_zip {es : List Expr} {kk : Nat} {tpos : Pos} (ha : ED X a fa) (hb : ED X b fb) (hm : X.mg "zip" = none) (hg : Gl X "zip" := by rfl) (hs : starEach [a, b] X.env = (false, eval a X.env) :: starEach [b] X.env := by rfl) (hs2 : starEach [b] X.env = (false, eval b X.env) :: starEach [] X.env := by rfl)
    (hpl : (backTo pos (starEach [b] X.env)).any (·.1) = false := by rfl) : ID X (.Tuple es kk tpos) (.Call (.Name "zip" p) [a, b] [] pos) (i_zip fa fb) := by
  obtain ⟨ta, tb, pa, pb, k2⟩ := two_ok ha hb
  refine ⟨_, pi_zipX hg hm (pa_cons pa (pa_cons pb pa_nil hs2) hs) hs hpl, fun m E G0 G e σ H ds e' Q R q P => ?_⟩
  unfold i_zip at q
  split at q
  · rename_i xs ys e1 h1
    simp only [Option.some.injEq, Prod.mk.injEq] at q
    obtain ⟨rfl, rfl⟩ := q
    refine k2 m E G0 G e σ H _ _ e1 _ R h1 fun u v G' H' R' S' V1 V2 => ?_
    have V1 : Dp X.K G' u (.list xs) := V1
    have V2 : Dp X.K G' v (.list ys) := V2
    cases V1 with
    | lst h1 d1 =>
      cases V2 with
      | lst h2 d2 => exact ⟨_, _, _, _, rfl, .inl ⟨R'.gh.seq h1, R'.gh.seq h2, P _ _ _ R' S' (walk_zip h1 d1 h2 d2)⟩⟩
  · rename_i xs ys e1 h1
    simp only [Option.some.injEq, Prod.mk.injEq] at q
    obtain ⟨rfl, rfl⟩ := q
    refine k2 m E G0 G e σ H _ _ e1 _ R h1 fun u v G' H' R' S' V1 V2 => ?_
    have V1 : Dp X.K G' u (.tuple xs) := V1
    have V2 : Dp X.K G' v (.tuple ys) := V2
    cases V1 with
    | tup h1 d1 =>
      cases V2 with
      | tup h2 d2 => exact ⟨_, _, _, _, rfl, .inr ⟨(h1.same R'.gh).t, (h2.same R'.gh).t, P _ _ _ R' S' (walk_zipT h1 d1 h2 d2)⟩⟩
  · cases q
end
end DL
namespace DL
open PySem PySem.Spec PyProof.Rows L2
def wipeE (e : Ev) : List Nat → Ev
  | [] => e
  | v :: vs => (wipeE e vs).set v none
def restE (e e' : Ev) : List Nat → Ev
  | [] => e'
  | v :: vs => (restE e e' vs).set v (match e[v]? with
    | some s => s
    | none => none)
def noAc (e : Ev) (vs : List Nat) : Bool := vs.all fun i => !isAo e[i]?
def lcGo (γ : PyData → Ev → Option Ev) (tst : Ft) (fe : Fe) (vs : List Nat) : List PyData → Ev → List PyData → Option (List PyData × Ev)
  | [], e, acc => some (acc, e)
  | d :: ds, e, acc => match γ d e with
    | some e1 => (match tst e1 with
      | some (true, e2) => (match fe e2 with
        | some (r, e3) => (match imR (frzR r) with
          | some y => if okLen (acc.length + 1) = true then lcGo γ tst fe vs ds (wipeE e3 vs) (acc ++ [y]) else none
          | none => none)
        | none => none)
      | some (false, e2) => lcGo γ tst fe vs ds (wipeE e2 vs) acc
      | none => none)
    | none => none
def x_lc (fi : Fi) (γ : PyData → Ev → Option Ev) (tst : Ft) (fe : Fe) (vs : List Nat) : Fe := fun e => match fi e with
  | some (ds, e1) => if noAc e1 vs = true then (match lcGo γ tst fe vs ds (wipeE e1 vs) [] with
    | some (acc, e2) => some (.ac acc, restE e1 e2 vs)
    | none => none) else none
  | none => none
section
variable {e e' : Ev} {vs : List Nat} {σ σ' : St} {i : Nat}
theorem wipeE_len : ∀ vs : List Nat, (wipeE e vs).length = e.length
  | [] => rfl
  | v :: vs => (List.length_set ..).trans (wipeE_len vs)
theorem wipeE_out : ∀ {vs : List Nat}, i ∉ vs → (wipeE e vs)[i]? = e[i]?
  | [], _ => rfl
  | v :: vs, h => by
    have h1 : v ≠ i := fun z => h (by rw [z]; exact List.mem_cons_self)
    unfold wipeE
    rw [List.getElem?_set_ne h1]
    exact wipeE_out fun z => h (List.mem_cons_of_mem _ z)
theorem wipeE_in : ∀ {vs : List Nat} {s : Sl}, (wipeE e vs)[i]? = some (some s) → i ∉ vs
  | [], _, _ => by simp
  | v :: vs, s, h => by
    unfold wipeE at h
    rw [set_get] at h
    by_cases z : v = i ∧ i < (wipeE e vs).length
    · rw [if_pos z] at h
      cases h
    · rw [if_neg z] at h
      have hl := (List.getElem?_eq_some_iff.mp h).1
      intro q
      rcases List.mem_cons.mp q with q | q
      · exact z ⟨q.symm, hl⟩
      · exact wipeE_in h q
theorem wipe_in : ∀ {vs : List Nat}, i ∈ vs → (wipe σ vs)[i]? = if i < σ.length then some none else none
  | [], h => by cases h
  | v :: vs, h => by
    unfold wipe
    rw [set_get, wipe_length]
    by_cases z : v = i ∧ i < σ.length
    · rw [if_pos z, if_pos z.2]
    · rw [if_neg z]
      by_cases y : i ∈ vs
      · exact wipe_in y
      · have e1 : i = v := by
          rcases List.mem_cons.mp h with q | q
          · exact q
          · exact absurd q y
        have hl : ¬ i < σ.length := fun q => z ⟨e1.symm, q⟩
        rw [if_neg hl, wipe_out y]
        exact List.getElem?_eq_none (by omega)
theorem wipe_same (h : ∀ i : Nat, i ∉ vs → σ'[i]? = σ[i]?) (hl : σ'.length = σ.length) : wipe σ' vs = wipe σ vs := by
  apply List.ext_getElem?
  intro i
  by_cases z : i ∈ vs
  · rw [wipe_in z, wipe_in z, hl]
  · rw [wipe_out z, wipe_out z]
    exact h i z
theorem wipe_wipe : wipe (wipe σ vs) vs = wipe σ vs := wipe_same (fun i z => wipe_out z) (wipe_length _ _)
theorem restE_len : ∀ vs : List Nat, (restE e e' vs).length = e'.length
  | [] => rfl
  | v :: vs => (List.length_set ..).trans (restE_len vs)
theorem restE_out : ∀ {vs : List Nat}, i ∉ vs → (restE e e' vs)[i]? = e'[i]?
  | [], _ => rfl
  | v :: vs, h => by
    have h1 : v ≠ i := fun z => h (by rw [z]; exact List.mem_cons_self)
    unfold restE
    rw [List.getElem?_set_ne h1]
    exact restE_out fun z => h (List.mem_cons_of_mem _ z)
theorem restE_in (hl : e'.length = e.length) : ∀ {vs : List Nat}, i ∈ vs → (restE e e' vs)[i]? = e[i]?
  | [], h => by cases h
  | v :: vs, h => by
    unfold restE
    rw [set_get, restE_len]
    by_cases z : v = i ∧ i < e'.length
    · rw [if_pos z]
      have h2 : i < e.length := by omega
      rw [z.1, List.getElem?_eq_getElem h2]
    · rw [if_neg z]
      by_cases y : i ∈ vs
      · exact restE_in hl y
      · have e1 : i = v := by
          rcases List.mem_cons.mp h with q | q
          · exact q
          · exact absurd q y
        have h2 : ¬ i < e'.length := fun q => z ⟨e1.symm, q⟩
        rw [restE_out y, List.getElem?_eq_none (by omega), List.getElem?_eq_none (by omega)]
theorem noAo_at (h : noAc e vs = true) (hi : i ∈ vs) : isAo e[i]? = false := by
  have q := List.all_eq_true.mp h i hi
  simpa using q
theorem noAc_at (h : noAc e vs = true) (hi : i ∈ vs) : isAc e[i]? = false := (Bool.or_eq_false_iff.mp (noAo_at h hi)).1
theorem noOw_at (h : noAc e vs = true) (hi : i ∈ vs) {t : Ow} (q : e[i]? = some (some (.ow t))) : False := by
  have z := (Bool.or_eq_false_iff.mp (noAo_at h hi)).2
  rw [q] at z
  cases z
end
section
variable {K : PySem.W.Frag} {m : Option Addr} {E : Ef} {G0 G H : Hp} {e : Ev} {σ : St} {vs : List Nat} {D : Addr} {ws : List V}
theorem Rl.wipe (R : Rl K m E G0 G e σ H) (vs : List Nat) : Rl K m E G0 G (wipeE e vs) (L2.wipe σ vs) H :=
  R.forget (wipeE_len _) (wipe_length _ _) fun i s h => by
    have z := wipeE_in h
    rw [wipeE_out z] at h
    exact ⟨h, wipe_out z⟩
theorem own_wipe0 {a : Addr} (h : Own (L2.wipe σ vs) (wipeE e vs) H a) : Own σ e H a := by
  rcases h with ⟨i, ds, h1, h2⟩ | ⟨i, t, p, h1, h2, h3⟩
  · have z := wipeE_in h1
    rw [wipeE_out z] at h1
    rw [wipe_out z] at h2
    exact .inl ⟨i, ds, h1, h2⟩
  · have z := wipeE_in h1
    rw [wipeE_out z] at h1
    rw [wipe_out z] at h2
    exact .inr ⟨i, t, p, h1, h2, h3⟩
theorem ownW_wipe0 {a : Addr} (h : OwnW (L2.wipe σ vs) (wipeE e vs) H a) : OwnW σ e H a := by
  obtain ⟨i, t, p, h1, h2, h3⟩ := h
  have z := wipeE_in h1
  rw [wipeE_out z] at h1
  rw [wipe_out z] at h2
  exact ⟨i, t, p, h1, h2, h3⟩
/-- a list that is nobody's is written -/
theorem ownW_upd {o : HO} {a : Addr} (hO : ¬ OwnW σ e H D) (h : OwnW σ e (upd H D o) a) : OwnW σ e H a := by
  obtain ⟨i, t, p, h1, h2, h3⟩ := h
  have z : p ≠ D := fun z => hO ⟨i, t, p, h1, h2, by rw [owA_of (owA_al h3), z]; exact List.mem_cons_self⟩
  rw [upd_ne z] at h3
  exact ⟨i, t, p, h1, h2, h3⟩
theorem own_upd {o : HO} {a : Addr} (hO : ¬ Own σ e H D) (h : Own σ e (upd H D o) a) : Own σ e H a := by
  rcases h with h | h
  · exact .inl h
  · exact .inr (ownW_upd (fun z => hO (.inr z)) h)
theorem Rl.updD (R : Rl K m E G0 G e σ H) (hG : G D = none) (hE : E D = none) (hO : ¬ Own σ e H D) : Rl K m E G0 G e σ (upd H D (.lst ws)) := by
  refine ⟨R.gg, fun b o q => ?_, fun b o q1 q2 => ?_, fun b q => ⟨(R.mh b q).1, ?_⟩, R.nw, R.len, R.im, fun i ds q => ?_, R.inj, R.ot, (R.wl.keep0 (Same.refl G) (fun _ _ z => z) fun b o q1 q2 => by
    rw [upd_ne (fun z => hO (.inr (by rw [← z]; exact q2)))]
    exact q1).1⟩
  · rw [upd_ne (ne_of_none q hG)]
    exact R.gh b o q
  · rw [upd_ne (ne_of_none q1 hE)]
    exact R.eh b o q1 q2
  · have z : b ≠ D := fun z => (R.mh b q).1 (by rw [z]; exact hE)
    rw [upd_ne z]
    exact (R.mh b q).2
  · obtain ⟨p, ws', h1, h2, h3, h4, h5⟩ := R.ac i ds q
    have z : p ≠ D := fun z => hO (.inl ⟨i, ds, q, by rw [← z]; exact h1⟩)
    exact ⟨p, ws', h1, h2, by rw [upd_ne z]; exact h3, h4, h5⟩
end
section
variable {X : Cx}
/-- the loop -/
theorem lc_ok {m : Option Addr} {E : Ef} {G0 G1 H1 : Hp} {e1 : Ev} {σ : St} {ds : List PyData} {J : It} {S vs : List Nat} {γ : PyData → Ev → Option Ev} {tst : Ft} {fe : Fe} {acc : List PyData} {eF : Ev} {K : PySem.W.Frag} {Q : VK} {D : Addr}
    (R1 : Rl K m E G0 G1 e1 σ H1) (WD : WalkD K G1 J ds) (hS : ∀ i ∈ S, i ∈ vs) (hn : noAc e1 vs = true) (q : lcGo γ tst fe vs ds (wipeE e1 vs) [] = some (acc, eF)) (hD : H1 D = none)
    (P : ∀ G H, Rl K m E G0 G (restE e1 eF vs) σ H → Stp σ G1 H1 e1 G H (restE e1 eF vs) → Vr K E G H σ (restE e1 eF vs) (.ref D) (.ac acc) → Q (.ref D) H) :
    ∃ W : Nat → Nat → Hp → Prop, (∃ mm, W 0 mm (upd H1 D (.lst []))) ∧ ∀ i mm H, W i mm H →
      (J.stop i H ∧ Q (.ref D) H) ∨ (J.go i H ∧ ∃ Nx : Hp → Prop, (∀ H', Nx H' → ∃ m', m' < mm ∧ W (i + 1) m' H') ∧ ∀ x H', J.yld i H x H' → tgOf K S γ x (L2.wipe σ vs) H' fun σ2 H2 => L2.wipe σ2 vs = L2.wipe σ vs ∧ ttOf K tst σ2 H2 fun b H3 =>
        if b = true then teOf K fe σ2 H3 fun y H4 => ∃ acc, H4 D = some (.lst acc) ∧ acc.length < sizeLine ∧ Nx (upd H4 D (.lst (acc ++ [y]))) else Nx H3) := by
  obtain ⟨gD, eD, oD, mD⟩ := R1.fresh hD
  let W : Nat → Nat → Hp → Prop := fun i mm H => ∃ G e ac ws, mm = ds.length - i ∧ i ≤ ds.length ∧ Rl K m E G0 G e (L2.wipe σ vs) H ∧ Stp (L2.wipe σ vs) G1 H1 (wipeE e1 vs) G H e ∧ G D = none ∧ ¬ Own (L2.wipe σ vs) e H D ∧ H D = some (.lst ws) ∧ DpAll K G ws ac ∧ lcGo γ tst fe vs (ds.drop i) e ac = some (acc, eF)
  refine ⟨W, ⟨ds.length, G1, wipeE e1 vs, [], [], by simp, Nat.zero_le _, ?_, ?_, gD, fun z => oD (own_upd oD (own_wipe0 z)), upd_same, .nil, by simpa using q⟩, ?_⟩
  · exact ((R1.wipe vs).newL hD .nil).1
  · exact ((R1.wipe vs).newL hD (ds := []) .nil).2.1
  rintro i mm H ⟨G, e, ac, ws, rfl, hi, R, S1, hG, noD, hH, dv, lc⟩
  obtain ⟨wk, stop⟩ := WD G H S1.gg R.gh
  by_cases hlt : i < ds.length
  · have hd : ds.drop i = ds[i] :: ds.drop (i + 1) := by rw [List.drop_eq_getElem_cons hlt]
    have hget : ds[i]? = some ds[i] := List.getElem?_eq_getElem hlt
    rw [hd] at lc
    generalize ds[i] = d at lc hget hd
    obtain ⟨go, yl⟩ := wk i d hget
    refine .inr ⟨go, W (i + 1) (ds.length - (i + 1)), fun H' h => ⟨_, by omega, h⟩, fun x H' y => ?_⟩
    -- what is yielded
    have hY : ∃ G', Rl K m E G0 G' e (L2.wipe σ vs) H' ∧ Stp (L2.wipe σ vs) G H e G' H' e ∧ Dp K G' x d := by
      rcases yl x H' y with ⟨rfl, h⟩ | ⟨T, us, es, ob, xo, rfl, nT, rfl, rfl, h⟩
      · exact ⟨G, R, Stp.refl, h⟩
      · obtain ⟨R', S', D'⟩ := R.newT nT xo h
        exact ⟨_, R', S', D'⟩
    obtain ⟨G', R', S', dx⟩ := hY
    have gD' : G' D = none := S'.nw D hG (by rw [hH]; simp)
    have hD' : H' D = some (.lst ws) := S'.hh D _ hH noD
    -- the turn's own steps
    simp only [lcGo] at lc
    cases h1 : γ d e with
    | none => simp only [h1] at lc; cases lc
    | some e2 =>
      simp only [h1] at lc
      refine ⟨m, E, G0, G', e, d, e2, R', dx, h1, fun σ' R2 out sl el ac1 => ?_⟩
      have wsame : L2.wipe σ' vs = L2.wipe σ vs := by
        have z := wipe_same (vs := vs) (σ' := σ') (σ := L2.wipe σ vs) (fun i hi => (out i fun z => hi (hS i z)).1) sl
        rw [wipe_wipe] at z
        exact z
      refine ⟨wsame, ?_⟩
      have vsE : ∀ i ∈ vs, isAc e[i]? = false := fun i hi => by
        rw [S1.kd i]
        cases z : (wipeE e1 vs)[i]? with
        | none => rfl
        | some s =>
          cases s with
          | none => rfl
          | some s => exact absurd hi (wipeE_in z)
      have ownW2 : ∀ {K : Hp} a, OwnW σ' e2 K a → OwnW (L2.wipe σ vs) e K a := fun a ⟨j, t, p, z1, z2, z3⟩ => by
        by_cases hj : j ∈ S
        · have q1 := ac1 j hj (by rw [z1]; rfl)
          rw [vsE j (hS j hj)] at q1
          cases q1
        · obtain ⟨o1, o2⟩ := out j hj
          exact ⟨j, t, p, by rw [← o2]; exact z1, by rw [← o1]; exact z2, z3⟩
      have own2 : ∀ {K : Hp} a, Own σ' e2 K a → Own (L2.wipe σ vs) e K a := fun a z => by
        rcases z with ⟨j, dj, z1, z2⟩ | z
        · by_cases hj : j ∈ S
          · have q1 := ac1 j hj (by rw [z1]; rfl)
            rw [vsE j (hS j hj)] at q1
            cases q1
          · obtain ⟨o1, o2⟩ := out j hj
            exact .inl ⟨j, dj, by rw [← o2]; exact z1, by rw [← o1]; exact z2⟩
        · exact .inr (ownW2 a z)
      have noD' : ¬ Own (L2.wipe σ vs) e H' D := S'.not (by rw [hH]; simp) noD
      have noD2 : ¬ Own σ' e2 H' D := fun z => noD' (own2 D z)
      -- closing a turn: from the state behind the element
      have fin : ∀ {G5 H4 : Hp} {e3 : Ev} {ws2 : List V} {ac2 : List PyData}, Rl K m E G0 G5 e3 σ' H4 → Stp σ' G' H' e2 G5 H4 e3 → DpAll K G5 ws2 ac2 → lcGo γ tst fe vs (ds.drop (i + 1)) (wipeE e3 vs) ac2 = some (acc, eF) →
          W (i + 1) (ds.length - (i + 1)) (upd H4 D (.lst ws2)) := by
        intro G5 H4 e3 ws2 ac2 R5 S5 d5 lc5
        have g5 : G5 D = none := S5.nw D gD' (by rw [hD']; simp)
        have o5 : ¬ Own σ' e3 H4 D := S5.not (by rw [hD']; simp) noD2
        have R6 := (R5.updD (ws := ws2) g5 eD o5).wipe vs
        rw [wsame] at R6
        refine ⟨G5, wipeE e3 vs, ac2, ws2, rfl, hlt, R6, ⟨S1.gg.trans (S'.gg.trans S5.gg), fun a h1 h2 => ?_, fun a o h1 h2 => ?_, fun j => ?_, fun a h1 => ?_, fun a z => ?_⟩, g5, fun z => o5 (own_upd o5 (own_wipe0 (by rw [← wsame] at z; exact z))), upd_same, d5, lc5⟩
        · exact S5.nw a (S'.nw a (S1.nw a h1 h2) (S1.th a h2)) (S'.th a (S1.th a h2))
        · have z : a ≠ D := ne_of_none h1 hD
          rw [upd_ne z]
          have h3 := S1.hh a o h1 h2
          have n1 : ¬ Own (L2.wipe σ vs) e H a := S1.not (by rw [h1]; simp) h2
          exact S5.hh a o (S'.hh a o h3 n1) fun y => S'.not (by rw [h3]; simp) n1 (own2 a y)
        · by_cases hj : j ∈ vs
          · have b1 : ∀ {e : Ev}, isAc (wipeE e vs)[j]? = false := fun {e} => by
              cases z : (wipeE e vs)[j]? with
              | none => rfl
              | some s =>
                cases s with
                | none => rfl
                | some s => exact absurd hj (wipeE_in z)
            rw [b1, b1]
          · rw [wipeE_out hj, S5.kd j, (out j fun z => hj (hS j z)).2]
            exact S1.kd j
        · by_cases z : a = D
          · rw [z, upd_same]
            simp
          · rw [upd_ne z]
            exact S5.th a (S'.th a (S1.th a h1))
        · rw [← wsame] at z
          rcases S5.ww a (ownW_upd (fun z => o5 (.inr z)) (ownW_wipe0 z)) with z | z
          · rcases S'.ww a (ownW2 a z) with z | z
            · exact S1.ww a z
            · exact .inr (S1.gone z)
          · exact .inr (S1.gone (S'.gone z))
      cases h2 : tst e2 with
      | none => simp only [h2] at lc; cases lc
      | some z =>
        obtain ⟨b, e3⟩ := z
        cases b with
        | false =>
          simp only [h2] at lc
          refine ⟨m, E, G0, G', e2, false, e3, R2, h2, fun G3 H3 R3 S3 => ?_⟩
          show (if false = true then _ else _)
          rw [if_neg Bool.false_ne_true]
          have w3 : H3 D = some (.lst ws) := S3.hh D _ hD' noD2
          have eu : upd H3 D (.lst ws) = H3 := by
            funext b
            by_cases z : b = D
            · rw [z, upd_same, w3]
            · rw [upd_ne z]
          have z := fin R3 S3 (dpAll_same (S'.gg.trans S3.gg) dv) lc
          rw [eu] at z
          exact z
        | true =>
          simp only [h2] at lc
          refine ⟨m, E, G0, G', e2, true, e3, R2, h2, fun G3 H3 R3 S3 => ?_⟩
          show (if true = true then _ else _)
          rw [if_pos rfl]
          cases h3 : fe e3 with
          | none => simp only [h3] at lc; cases lc
          | some z =>
            obtain ⟨r, e4⟩ := z
            simp only [h3] at lc
            refine ⟨m, E, G0, G3, e3, r, e4, R3, h3, fun v G4 H4 R4 S4 V4 N4 => ?_⟩
            obtain ⟨G5, R5, S5, s5, V5⟩ := R4.freeze (S3.trans S4) V4 (nw_back S3 v N4)
            cases h4 : imR (frzR r) with
            | none => simp only [h4] at lc; cases lc
            | some yd =>
              simp only [h4] at lc
              have er : frzR r = .im yd := by
                cases r with
                | im d =>
                  cases h4
                  rfl
                | ac ds =>
                  cases h4
                  rfl
                | br i => cases h4
              rw [er] at V5
              by_cases h5 : okLen (ac.length + 1) = true
              · rw [if_pos h5] at lc
                have w4 : H4 D = some (.lst ws) := S5.hh D _ hD' noD2
                have hl := okLen_ok h5
                refine ⟨ws, w4, by rw [dpAll_len dv]; omega, ?_⟩
                exact fin R5 S5 (dpAll_app (dpAll_same (S'.gg.trans S5.gg) dv) (.cons V5 .nil)) lc
              · rw [if_neg h5] at lc
                cases lc
  · have hi2 : i = ds.length := by omega
    subst hi2
    rw [List.drop_length] at lc
    simp only [lcGo, Option.some.injEq, Prod.mk.injEq] at lc
    obtain ⟨rfl, rfl⟩ := lc
    have hl : e.length = e1.length := by
      have z1 := R.len
      have z2 := R1.len
      rw [wipe_length] at z1
      omega
    have vsE : ∀ i ∈ vs, isAc e[i]? = false := fun i hi => by
      rw [S1.kd i]
      cases z : (wipeE e1 vs)[i]? with
      | none => rfl
      | some s =>
        cases s with
        | none => rfl
        | some s => exact absurd hi (wipeE_in z)
    have kd : ∀ j : Nat, isAc (restE e1 e vs)[j]? = isAc e1[j]? := fun j => by
      by_cases hj : j ∈ vs
      · rw [restE_in hl hj]
      · rw [restE_out hj, S1.kd j, wipeE_out hj]
    have get : ∀ {j : Nat} {s : Sl}, (restE e1 e vs)[j]? = some (some s) → (j ∈ vs ∧ e1[j]? = some (some s)) ∨ (j ∉ vs ∧ e[j]? = some (some s)) := fun {j s} z => by
      by_cases hj : j ∈ vs
      · rw [restE_in hl hj] at z
        exact .inl ⟨hj, z⟩
      · rw [restE_out hj] at z
        exact .inr ⟨hj, z⟩
    have ac1 : ∀ {j : Nat} {dj : List PyData}, (restE e1 e vs)[j]? = some (some (.ac dj)) → j ∉ vs ∧ e[j]? = some (some (.ac dj)) := fun {j dj} z => by
      rcases get z with ⟨h1, h2⟩ | z
      · have q1 := noAc_at hn h1
        rw [h2] at q1
        cases q1
      · exact z
    have ow1 : ∀ {j : Nat} {t : Ow}, (restE e1 e vs)[j]? = some (some (.ow t)) → e[j]? = some (some (.ow t)) ∧ σ[j]? = (L2.wipe σ vs)[j]? := fun {j t} z => by
      rcases get z with ⟨h1, h2⟩ | ⟨h1, h2⟩
      · exact (noOw_at hn h1 h2).elim
      · exact ⟨h2, (wipe_out h1).symm⟩
    have own3 : ∀ a, Own0 σ (restE e1 e vs) a → Own0 (L2.wipe σ vs) e a := fun a ⟨j, dj, z1, z2⟩ => by
      obtain ⟨h1, h2⟩ := ac1 z1
      exact ⟨j, dj, h2, by rw [wipe_out h1]; exact z2⟩
    have WF := R.wl.keep (σ' := σ) (e' := restE e1 e vs) (H' := H) (Same.refl G) (fun _ _ z => z) (fun j t z => ow1 z) (fun a z w => (R.wl.out a w).2.2.1 (own3 a z)) (fun _ _ z _ => z)
    have RF : Rl K m E G0 G (restE e1 e vs) σ H := by
      refine ⟨R.gg, R.gh, R.eh, R.mh, R.nw, by rw [restE_len, hl]; exact R1.len, fun j d z => ?_, fun j dj z => ?_, fun j k dj dk p z1 z2 z3 z4 => ?_, fun j dss z => ?_, WF.1⟩
      · rcases get z with ⟨h1, h2⟩ | ⟨h1, h2⟩
        · obtain ⟨v, a1, a2⟩ := R1.im j d h2
          exact ⟨v, a1, dp_same S1.gg a2⟩
        · obtain ⟨v, a1, a2⟩ := R.im j d h2
          rw [wipe_out h1] at a1
          exact ⟨v, a1, a2⟩
      · obtain ⟨h1, h2⟩ := ac1 z
        obtain ⟨p, w, a1, a2⟩ := R.ac j dj h2
        rw [wipe_out h1] at a1
        exact ⟨p, w, a1, a2⟩
      · obtain ⟨h1, h2⟩ := ac1 z1
        obtain ⟨h3, h4⟩ := ac1 z2
        exact R.inj j k dj dk p h2 h4 (by rw [wipe_out h1]; exact z3) (by rw [wipe_out h3]; exact z4)
      · rcases get z with ⟨h1, h2⟩ | ⟨h1, h2⟩
        · exact (R1.ot j dss h2).mono S1.gg
        · have a1 := R.ot j dss h2
          rw [wipe_out h1] at a1
          exact a1
    refine .inl ⟨stop, P G H RF ⟨S1.gg, S1.nw, fun a o h1 h2 => S1.hh a o h1 fun z => h2 (own_wipe0 z), kd, S1.th, fun a z => ?_⟩ ⟨D, ws, rfl, eD, hG, hH, dv, fun z => noD ?_⟩⟩
    · rcases S1.ww a (WF.2 a z) with z | z
      · exact .inl (ownW_wipe0 z)
      · exact .inr z
    · rcases z with z | z
      · exact .inl (own3 D z)
      · exact .inr (WF.2 D z)
structure PTD (X : Cx) (ifs : List Expr) (f : Ft) : Prop where
  ex : PTs X ifs (ttOf X.K f)
def t_yes : Ft := fun e => some (true, e)
theorem ptd_nil : PTD X [] t_yes := ⟨⟨fun pins s σ H Q I h => by
  obtain ⟨m, E, G0, G, e, b, e', R, q, P⟩ := h
  cases q
  exact pts_nil.run pins s σ H Q I (P G H R Stp.refl)⟩⟩
theorem ptd_one {c : Expr} {f : Ft} (h : TD X c f) : PTD X [c] f := ⟨pts_one h.can⟩
variable {elt tg it : Expr} {ifs : List Expr} {scope : Scope} {own : List (Str × Nat)} {pos spos : Pos} {fi : Fi} {S : List Nat} {γ : PyData → Ev → Option Ev} {tst : Ft} {fe : Fe}
theorem x_lc_ok {wi : TI} (hS : ∀ i ∈ S, i ∈ own.map (·.2)) (k : ∀ (m : Option Addr) (E : Ef) (G0 G : Hp) (e : Ev) (σ : St) (H : Hp) (ds : List PyData) (e' : Ev) (Q : It → Hp → Prop),
      Rl X.K m E G0 G e σ H → fi e = some (ds, e') → (∀ J G' H', Rl X.K m E G0 G' e' σ H' → Stp σ G H e G' H' e' → WalkD X.K G' J ds → Q J H') → wi σ H Q)
    (m : Option Addr) (E : Ef) (G0 G : Hp) (e : Ev) (σ : St) (H : Hp) (r : Rs) (e' : Ev) (Q : VK) (R : Rl X.K m E G0 G e σ H) (q : x_lc fi γ tst fe (own.map (·.2)) e = some (r, e')) (P : Po X.K m E G0 σ G H e r e' Q) :
    tLc wi (tgOf X.K S γ) (ttOf X.K tst) (teOf X.K fe) (own.map (·.2)) σ H Q := by
  unfold x_lc at q
  cases h1 : fi e with
  | none => simp only [h1] at q; cases q
  | some z =>
    obtain ⟨ds, e1⟩ := z
    simp only [h1] at q
    by_cases h2 : noAc e1 (own.map (·.2)) = true
    · rw [if_pos h2] at q
      cases h3 : lcGo γ tst fe (own.map (·.2)) ds (wipeE e1 (own.map (·.2))) [] with
      | none => simp only [h3] at q; cases q
      | some z =>
        obtain ⟨acc, e2⟩ := z
        simp only [h3, Option.some.injEq, Prod.mk.injEq] at q
        obtain ⟨rfl, rfl⟩ := q
        refine k m E G0 G e σ H ds e1 _ R h1 fun J G1 H1 R1 S1 W1 D hD => ?_
        exact lc_ok R1 W1 hS h2 h3 hD fun G2 H2 R2 S2 V2 => P _ G2 H2 R2 (S1.trans S2) V2 (nw_back S1 _ fun p z => by
          cases z
          exact hD)
    · rw [if_neg h2] at q
      cases q
/-- [elt for tg in it if ..] -/
theorem ed_lc (hc : X.calm = true) (hN : X.N.Nodup) (hi : ID X tg it fi) (ok : blkC X.N X.env.scope scope own = true) (hS : ∀ i ∈ S, i ∈ own.map (·.2))
    (hg : ∀ (s : Shared) (H : Hp) (C : Addr) (cl : List (Str × Addr)) (fp : List Addr), GD (X.blk s H scope (compEnvC scope cl C X.env) fp) tg S γ) (ht : ∀ (s : Shared) (H : Hp) (C : Addr) (cl : List (Str × Addr)) (fp : List Addr), PTD (X.blk s H scope (compEnvC scope cl C X.env) fp) ifs tst)
    (he : ∀ (s : Shared) (H : Hp) (C : Addr) (cl : List (Str × Addr)) (fp : List Addr), ED (X.blk s H scope (compEnvC scope cl C X.env) fp) elt fe) (hs : ∀ x, foldedSetIterable it X.env x = pure x := by intro _; rfl) :
    ED X (.ListComp elt [⟨tg, it, ifs, 0⟩] scope pos) (x_lc fi γ tst fe (own.map (·.2))) := by
  obtain ⟨wi, pi, k⟩ := hi
  exact ⟨_, pe_lc hc hN pi (blkOk_by ok) (fun s H C cl fp => (hg s H C cl fp).can) (fun s H C cl fp => (ht s H C cl fp).ex) (fun s H C cl fp => (he s H C cl fp).can) hs, x_lc_ok hS k⟩
end
end DL
namespace DL
open PySem PySem.Spec PyProof.Rows L2
/-- the first slot stays the caller's list, if there is one -/
structure Rz (K : PySem.W.Frag) (m : Option Addr) (E : Ef) (G0 G : Hp) (e : Ev) (σ : St) (H : Hp) : Prop where
  r : Rl K m E G0 G e σ H
  z : ∀ p, m = some p → isAc e[0]? = true ∧ σ[0]? = some (some (.ref p))
def PoS (K : PySem.W.Frag) (m : Option Addr) (E : Ef) (G0 G : Hp) (D : Ends) : Fl → Prop
  | .nx e => ∀ G' σ H, Same G G' → Rz K m E G0 G' e σ H → D.nx σ H
  | .bk e => ∀ G' σ H, Same G G' → Rz K m E G0 G' e σ H → D.bk σ H
  | .ct e => ∀ G' σ H, Same G G' → Rz K m E G0 G' e σ H → D.ct σ H
  | .rt r e => ∀ v G' σ H, Same G G' → Rz K m E G0 G' e σ H → Vr K E G' H σ e v r → D.rt v H
structure SD (X : Cx) (st : Stmt) (f : Fs) : Prop where
  ex : ∃ t : TS, PS X st t ∧ ∀ (m : Option Addr) (E : Ef) (G0 G : Hp) (e : Ev) (σ : St) (H : Hp) (fl : Fl) (D : Ends),
    Rz X.K m E G0 G e σ H → f e = some fl → PoS X.K m E G0 G D fl → t D σ H
structure SsD (X : Cx) (sts : List Stmt) (f : Fs) : Prop where
  ex : ∃ t : TS, PSs X sts t ∧ ∀ (m : Option Addr) (E : Ef) (G0 G : Hp) (e : Ev) (σ : St) (H : Hp) (fl : Fl) (D : Ends),
    Rz X.K m E G0 G e σ H → f e = some fl → PoS X.K m E G0 G D fl → t D σ H
section
variable {K : PySem.W.Frag} {m : Option Addr} {E : Ef} {G0 G G' H H' : Hp} {e e' : Ev} {σ σ' : St} {v : V} {d : PyData} {D D' : Ends} {fl : Fl} {i : Nat}
theorem PoS.aft (P : PoS K m E G0 G D fl) (s : Same G G') : PoS K m E G0 G' D fl := by
  cases fl with
  | nx e => exact fun G2 σ H s2 R => P G2 σ H (s.trans s2) R
  | bk e => exact fun G2 σ H s2 R => P G2 σ H (s.trans s2) R
  | ct e => exact fun G2 σ H s2 R => P G2 σ H (s.trans s2) R
  | rt r e => exact fun v G2 σ H s2 R V => P v G2 σ H (s.trans s2) R V
theorem Rz.exp (R : Rz K m E G0 G e σ H) (R' : Rl K m E G0 G' e' σ H') (S : Stp σ G H e G' H' e') : Rz K m E G0 G' e' σ H' :=
  ⟨R', fun p z => ⟨by rw [S.kd 0]; exact (R.z p z).1, (R.z p z).2⟩⟩
def okS (S : List Nat) (e : Ev) : Bool := !(S.contains 0 && isAc e[0]?)
theorem okS_no (h : okS S e = true) (q : isAc e[0]? = true) : 0 ∉ S := by
  intro z
  unfold okS at h
  rw [q, List.contains_iff_mem.mpr z] at h
  cases h
theorem Rz.setI (R : Rz K m E G0 G e σ H) (h : Dp K G v d) (ok : okS [i] e = true) : Rz K m E G0 G (e.set i (some (.im d))) (σ.set i (some v)) H :=
  ⟨R.r.setI i h, fun p z => by
    obtain ⟨z1, z2⟩ := R.z p z
    have n := okS_no ok z1
    have n : i ≠ 0 := fun q => n (by rw [q]; exact List.mem_singleton.mpr rfl)
    rw [List.getElem?_set_ne n, List.getElem?_set_ne n]
    exact ⟨z1, z2⟩⟩
theorem Rz.setA {ds : List PyData} (R : Rz K m E G0 G e σ H) (h : Vr K E G H σ e v (.ac ds)) (ok : okS [i] e = true) : Rz K m E G0 G (e.set i (some (.ac ds))) (σ.set i (some v)) H :=
  ⟨R.r.setA i h, fun p z => by
    obtain ⟨z1, z2⟩ := R.z p z
    have n := okS_no ok z1
    have n : i ≠ 0 := fun q => n (by rw [q]; exact List.mem_singleton.mpr rfl)
    rw [List.getElem?_set_ne n, List.getElem?_set_ne n]
    exact ⟨z1, z2⟩⟩
end
def s_seq (f g : Fs) : Fs := fun e => match f e with
  | some (.nx e1) => g e1
  | some x => some x
  | none => none
def s_nx : Fs := fun e => some (.nx e)
def s_no : Fs := fun _ => none
section
variable {X : Cx} {st : Stmt} {rest : List Stmt} {f g : Fs} {pos : Pos} {a : Expr} {fe : Fe}
theorem ssd_nil : SsD X [] s_nx := ⟨_, pss_nil, fun m E G0 G e σ H fl D R q P => by
  cases q
  exact P G σ H (Same.refl _) R⟩
theorem ssd_cons (h : SD X st f) (h2 : SsD X rest g) : SsD X (st :: rest) (s_seq f g) := by
  obtain ⟨t, p, k⟩ := h
  obtain ⟨t2, p2, k2⟩ := h2
  refine ⟨_, pss_cons p p2, fun m E G0 G e σ H fl D R q P => ?_⟩
  unfold s_seq at q
  split at q
  · rename_i e1 h1
    refine k m E G0 G e σ H _ _ R h1 ?_
    exact fun G' σ' H' s R' => k2 m E G0 G' e1 σ' H' fl D R' q (P.aft s)
  · rename_i x h2 h1
    cases q
    refine k m E G0 G e σ H _ _ R h1 ?_
    cases fl with
    | nx e1 => exact (h2 e1 rfl).elim
    | bk e => exact P
    | ct e => exact P
    | rt r e => exact P
  · cases q
theorem ssd_one (h : SD X st f) : SsD X [st] f := by
  obtain ⟨t, p, k⟩ := h
  exact ⟨_, pss_one p, k⟩
theorem sd_never : SD X st s_no := ⟨_, ps_never, fun m E G0 G e σ H fl D R q P => by cases q⟩
def s_drop (f : Fe) : Fs := fun e => match f e with
  | some (_, e1) => some (.nx e1)
  | none => none
theorem sd_expr (h : ED X a fe) (hs : swapsWith a none pos.line X.env = pure false := by rfl) : SD X (.Expr a pos) (s_drop fe) := by
  obtain ⟨t, p, k⟩ := h
  refine ⟨_, ps_expr p hs, fun m E G0 G e σ H fl D R q P => ?_⟩
  unfold s_drop at q
  split at q
  · rename_i r e1 h1
    cases q
    exact k m E G0 G e σ H _ _ _ R.r h1 fun v G' H' R' S' V N => P G' σ H' S'.gg (R.exp R' S')
  · cases q
def s_ret (f : Fe) : Fs := fun e => match f e with
  | some (r, e1) => some (.rt r e1)
  | none => none
theorem sd_ret (h : ED X a fe) : SD X (.Return (some a) pos) (s_ret fe) := by
  obtain ⟨t, p, k⟩ := h
  refine ⟨_, ps_ret p, fun m E G0 G e σ H fl D R q P => ?_⟩
  unfold s_ret at q
  split at q
  · rename_i r e1 h1
    cases q
    exact k m E G0 G e σ H _ _ _ R.r h1 fun v G' H' R' S' V N => P v G' σ H' S'.gg (R.exp R' S') V
  · cases q
def s_if (c : Ft) (f g : Fs) : Fs := fun e => match c e with
  | some (true, e1) => f e1
  | some (false, e1) => g e1
  | none => none
theorem sd_if {tst : Expr} {A B : List Stmt} {c : Ft} (hc : TD X tst c) (ha : SsD X A f) (hb : SsD X B g) : SD X (.If tst A B pos) (s_if c f g) := by
  obtain ⟨t, p, k⟩ := hc
  obtain ⟨t1, p1, k1⟩ := ha
  obtain ⟨t2, p2, k2⟩ := hb
  refine ⟨_, ps_if p p1 p2, fun m E G0 G e σ H fl D R q P => ?_⟩
  unfold s_if at q
  split at q
  · rename_i e1 h1
    refine k m E G0 G e σ H true e1 _ R.r h1 fun G' H' R' S' => ?_
    rw [if_pos rfl]
    exact k1 m E G0 G' e1 σ H' fl D (R.exp R' S') q (P.aft S'.gg)
  · rename_i e1 h1
    refine k m E G0 G e σ H false e1 _ R.r h1 fun G' H' R' S' => ?_
    rw [if_neg Bool.false_ne_true]
    exact k2 m E G0 G' e1 σ H' fl D (R.exp R' S') q (P.aft S'.gg)
  · cases q
def putA (i : Nat) (e : Ev) : Rs → Option Ev
  | .im d => some (e.set i (some (.im d)))
  | .ac ds => some (e.set i (some (.ac ds)))
  | .br _ => none
def s_set (i : Nat) (f : Fe) : Fs := fun e => match f e with
  | some (r, e1) => if okS [i] e1 = true then (match putA i e1 r with
    | some e2 => some (.nx e2)
    | none => none) else none
  | none => none
def s_setF (i : Nat) (f : Fe) : Fs := s_set i fun e => match f e with
  | some (r, e1) => some (frzR r, e1)
  | none => none
theorem set_ok {i : Nat} {te : TE} (k : ∀ (m : Option Addr) (E : Ef) (G0 G : Hp) (e : Ev) (σ : St) (H : Hp) (r : Rs) (e' : Ev) (Q : VK), Rl X.K m E G0 G e σ H → fe e = some (r, e') → Po X.K m E G0 σ G H e r e' Q → te σ H Q)
    (m : Option Addr) (E : Ef) (G0 G : Hp) (e : Ev) (σ : St) (H : Hp) (fl : Fl) (D : Ends) (R : Rz X.K m E G0 G e σ H) (q : s_set i fe e = some fl) (P : PoS X.K m E G0 G D fl) : tAsg te (gName i) D σ H := by
  unfold s_set at q
  split at q
  · rename_i r e1 h1
    by_cases ok : okS [i] e1 = true
    · rw [if_pos ok] at q
      refine k m E G0 G e σ H _ _ _ R.r h1 fun v G' H' R' S' V N => ?_
      have Rx := R.exp R' S'
      cases r with
      | im d =>
        cases q
        exact P G' _ H' S'.gg (Rx.setI V ok)
      | ac ds =>
        cases q
        exact P G' _ H' S'.gg (Rx.setA V ok)
      | br j => cases q
    · rw [if_neg ok] at q
      cases q
  · cases q
theorem frz_k {te : TE} (k : ∀ (m : Option Addr) (E : Ef) (G0 G : Hp) (e : Ev) (σ : St) (H : Hp) (r : Rs) (e' : Ev) (Q : VK), Rl X.K m E G0 G e σ H → fe e = some (r, e') → Po X.K m E G0 σ G H e r e' Q → te σ H Q)
    (m : Option Addr) (E : Ef) (G0 G : Hp) (e : Ev) (σ : St) (H : Hp) (r : Rs) (e' : Ev) (Q : VK) (R : Rl X.K m E G0 G e σ H) (q : (match fe e with
      | some (r, e1) => some (frzR r, e1)
      | none => none) = some (r, e')) (P : Po X.K m E G0 σ G H e r e' Q) : te σ H Q := by
  split at q
  · rename_i r1 e1 h1
    cases q
    refine k m E G0 G e σ H _ _ _ R h1 fun v G' H' R' S' V N => ?_
    obtain ⟨G2, R2, S2, s2, V2⟩ := R'.freeze S' V N
    exact P v G2 H' R2 S2 V2 (by cases r1 <;> exact True.intro)
  · cases q
section
variable {i : Nat} {x : Str} {pos' : Pos}
theorem sd_set (i : Nat) (hN : X.N.Nodup) (h : ED X a fe) (hi : X.N[i]? = some x := by rfl) (hx : Loc X.env.scope x := by first | exact .inl rfl | exact .inr rfl) (hs : swapsWith a (some (.Name x pos')) pos.line X.env = pure false := by rfl) (hf : X.fn x = true ∨ X.env.scope.names.lookup x = some .local := by first | exact .inl rfl | exact .inr rfl | assumption) :
    SD X (.Assign [.Name x pos'] a pos) (s_set i fe) := by
  obtain ⟨t, p, k⟩ := h
  exact ⟨_, ps_set hN hi hx p hs hf, set_ok k⟩
theorem sd_setF (i : Nat) (hN : X.N.Nodup) (h : ED X a fe) (hi : X.N[i]? = some x := by rfl) (hx : Loc X.env.scope x := by first | exact .inl rfl | exact .inr rfl) (hs : swapsWith a (some (.Name x pos')) pos.line X.env = pure false := by rfl) (hf : X.fn x = true ∨ X.env.scope.names.lookup x = some .local := by first | exact .inl rfl | exact .inr rfl | assumption) :
    SD X (.Assign [.Name x pos'] a pos) (s_setF i fe) := by
  obtain ⟨t, p, k⟩ := h
  exact ⟨_, ps_set hN hi hx p hs hf, set_ok (frz_k k)⟩
end
def forGo (γ : PyData → Ev → Option Ev) (S : List Nat) (fb : Fs) : List PyData → Ev → Option Fl
  | [], e => some (.nx e)
  | d :: ds, e => if okS S e = true then (match γ d e with
    | some e2 => (match fb e2 with
      | some (.nx e3) => forGo γ S fb ds e3
      | some (.ct e3) => forGo γ S fb ds e3
      | some (.bk e3) => some (.nx e3)
      | some (.rt r e3) => some (.rt r e3)
      | none => none)
    | none => none) else none
def s_for (fi : Fi) (γ : PyData → Ev → Option Ev) (S : List Nat) (fb : Fs) : Fs := fun e => match fi e with
  | some (ds, e1) => forGo γ S fb ds e1
  | none => none
/-- whatever the rule of the statement: the items are told, the body is read -/
theorem sd_forG {PIx : TI → Prop} {st : Stmt} {tg : Expr} {body : List Stmt} {fi : Fi} {S : List Nat} {γ : PyData → Ev → Option Ev} {fb : Fs} (mk : ∀ {wi : TI} {g : TG} {tb : TS}, PIx wi → PG X tg g → PSs X body tb → PS X st (tFor wi g tb))
    (hi : ∃ wi, PIx wi ∧ ∀ (m : Option Addr) (E : Ef) (G0 G : Hp) (e : Ev) (σ : St) (H : Hp) (ds : List PyData) (e' : Ev) (Q : It → Hp → Prop),
    Rl X.K m E G0 G e σ H → fi e = some (ds, e') → (∀ J G' H', Rl X.K m E G0 G' e' σ H' → Stp σ G H e G' H' e' → WalkD X.K G' J ds → Q J H') → wi σ H Q) (hg : GD X tg S γ) (hb : SsD X body fb) : SD X st (s_for fi γ S fb) := by
  obtain ⟨wi, pi, ki⟩ := hi
  obtain ⟨g, pg, kg⟩ := hg
  obtain ⟨tb, pb, kb⟩ := hb
  refine ⟨_, mk pi pg pb, fun m E G0 G e σ H fl D R q P => ?_⟩
  unfold s_for at q
  cases h1 : fi e with
  | none => simp only [h1] at q; cases q
  | some z =>
    obtain ⟨ds, e1⟩ := z
    simp only [h1] at q
    refine ki m E G0 G e σ H ds e1 _ R.r h1 fun J G1 H1 R1 S1 W1 => ?_
    let W : Nat → Nat → St → Hp → Prop := fun i mm σ H => ∃ G2 e2, mm = ds.length - i ∧ i ≤ ds.length ∧ Rz X.K m E G0 G2 e2 σ H ∧ Same G1 G2 ∧ forGo γ S fb (ds.drop i) e2 = some fl
    refine ⟨W, ⟨ds.length, G1, e1, by simp, Nat.zero_le _, R.exp R1 S1, Same.refl _, by simpa using q⟩, ?_⟩
    rintro i mm σ2 H2 ⟨G2, e2, rfl, hi, R2, s2, lc⟩
    obtain ⟨wk, stop⟩ := W1 G2 H2 s2 R2.r.gh
    by_cases hlt : i < ds.length
    · have hd : ds.drop i = ds[i] :: ds.drop (i + 1) := by rw [List.drop_eq_getElem_cons hlt]
      have hget : ds[i]? = some ds[i] := List.getElem?_eq_getElem hlt
      rw [hd] at lc
      generalize ds[i] = d at lc hget hd
      obtain ⟨go, yl⟩ := wk i d hget
      refine .inr ⟨go, W (i + 1) (ds.length - (i + 1)), fun σ' H' h => ⟨_, by omega, h⟩, fun x H' y => ?_⟩
      have hY : ∃ G', Rz X.K m E G0 G' e2 σ2 H' ∧ Same G2 G' ∧ Dp X.K G' x d := by
        rcases yl x H' y with ⟨rfl, h⟩ | ⟨T, us, es, ob, xo, rfl, nT, rfl, rfl, h⟩
        · exact ⟨G2, R2, Same.refl _, h⟩
        · obtain ⟨R', S', D'⟩ := R2.r.newT nT xo h
          exact ⟨_, R2.exp R' S', S'.gg, D'⟩
      obtain ⟨G', R', s', dx⟩ := hY
      simp only [forGo] at lc
      by_cases ok : okS S e2 = true
      · rw [if_pos ok] at lc
        cases h2 : γ d e2 with
        | none => simp only [h2] at lc; cases lc
        | some e3 =>
          simp only [h2] at lc
          refine kg m E G0 G' e2 σ2 H' x d e3 _ R'.r dx h2 fun σ3 R3 out sl el ac1 => ?_
          have R3' : Rz X.K m E G0 G' e3 σ3 H' := ⟨R3, fun p z => by
            obtain ⟨z1, z2⟩ := R'.z p z
            obtain ⟨o1, o2⟩ := out 0 (okS_no ok z1)
            rw [o1, o2]
            exact ⟨z1, z2⟩⟩
          cases h3 : fb e3 with
          | none => simp only [h3] at lc; cases lc
          | some x3 =>
            refine kb m E G0 G' e3 σ3 H' x3 _ R3' h3 ?_
            cases x3 with
            | nx e4 =>
              simp only [h3] at lc
              exact fun G4 σ4 H4 s4 R4 => ⟨G4, e4, rfl, hlt, R4, s2.trans (s'.trans s4), lc⟩
            | ct e4 =>
              simp only [h3] at lc
              exact fun G4 σ4 H4 s4 R4 => ⟨G4, e4, rfl, hlt, R4, s2.trans (s'.trans s4), lc⟩
            | bk e4 =>
              simp only [h3, Option.some.injEq] at lc
              subst lc
              exact fun G4 σ4 H4 s4 R4 => P G4 σ4 H4 (S1.gg.trans (s2.trans (s'.trans s4))) R4
            | rt r e4 =>
              simp only [h3, Option.some.injEq] at lc
              subst lc
              exact fun v G4 σ4 H4 s4 R4 V => P v G4 σ4 H4 (S1.gg.trans (s2.trans (s'.trans s4))) R4 V
      · rw [if_neg ok] at lc
        cases lc
    · have hi2 : i = ds.length := by omega
      subst hi2
      rw [List.drop_length] at lc
      cases lc
      exact .inl ⟨stop, P G2 σ2 H2 (S1.gg.trans s2) R2⟩
theorem sd_for {tg it : Expr} {body : List Stmt} {fi : Fi} {S : List Nat} {γ : PyData → Ev → Option Ev} {fb : Fs} (hc : X.calm = true) (hp : PassesOwn (model X.prog X.w) X.A X.env X.xe) (hi : ID X tg it fi) (hg : GD X tg S γ) (hb : SsD X body fb)
    (hs : ∀ x, foldedSetIterable it X.env x = pure x := by intro _; rfl) : SD X (.For tg it body [] pos) (s_for fi γ S fb) := sd_forG (fun pi pg pb => ps_for hp hc pi pg pb hs) hi.ex hg hb
def fzE (j : Nat) (e : Ev) : Ev := match e[j]? with
  | some (some (.ac ds)) => e.set j (some (.im (.list ds)))
  | _ => e
theorem Rz.fz {K : PySem.W.Frag} {m : Option Addr} {E : Ef} {G0 G H : Hp} {e : Ev} {σ : St} {j : Nat} (R : Rz K m E G0 G e σ H) (hj : j ≠ 0) : ∃ G', Same G G' ∧ Rz K m E G0 G' (fzE j e) σ H := by
  unfold fzE
  split
  · rename_i ds h
    obtain ⟨p, ws, h1, h2, h3, h4, h5⟩ := R.r.ac j ds h
    have hE : E p = none := by
      rcases h5 with h5 | h5
      · exact h5
      · exact absurd h5.2 hj
    have s1 : Same G (upd G p (.lst ws)) := same_new h2
    have hl : j < e.length := (List.getElem?_eq_some_iff.mp h).1
    refine ⟨upd G p (.lst ws), s1, ⟨⟨R.r.gg.trans s1, fun b o q => ?_, R.r.eh, R.r.mh, fun b b1 b2 => ?_, by rw [List.length_set]; exact R.r.len, fun i d q => ?_, fun i di q => ?_, fun i k di dk p' q1 q2 q3 q4 => ?_, fun i dss q => ?_, (Wl.put R.r j (s := some (.im (.list ds))) (fun _ z => by cases z) (fun _ z => by cases z) s1 (fun a w z => by
      rw [upd_ne (fun y => R.r.notW h h1 (by rw [← y]; exact w))]
      exact z) (fun _ _ z _ => z)).1⟩, fun p' z => ?_⟩⟩
    · by_cases z : b = p
      · rw [z, upd_same] at q
        rw [z, h3]
        exact q
      · rw [upd_ne z] at q
        exact R.r.gh b o q
    · have z : b ≠ p := fun z => b2 (by rw [z]; exact hE)
      rw [upd_ne z]
      exact R.r.nw b b1 b2
    · rw [set_get] at q
      by_cases z : j = i ∧ i < e.length
      · rw [if_pos z] at q
        cases q
        rw [← z.1]
        exact ⟨_, h1, .lst (.inl (.inl upd_same)) (dpAll_same s1 h4)⟩
      · rw [if_neg z] at q
        obtain ⟨v, a1, a2⟩ := R.r.im i d q
        exact ⟨v, a1, dp_same s1 a2⟩
    · rw [set_get] at q
      by_cases z : j = i ∧ i < e.length
      · rw [if_pos z] at q
        cases q
      · rw [if_neg z] at q
        obtain ⟨p', ws', a1, a2, a3, a4, a5⟩ := R.r.ac i di q
        have n : p' ≠ p := fun y => by
          rw [y] at a1
          have := R.r.inj j i ds di p h q h1 a1
          exact z ⟨this, by rw [← this]; exact hl⟩
        exact ⟨p', ws', a1, by rw [upd_ne n]; exact a2, a3, dpAll_same s1 a4, a5⟩
    · rw [set_get] at q1 q2
      by_cases z : j = i ∧ i < e.length
      · rw [if_pos z] at q1
        cases q1
      · rw [if_neg z] at q1
        by_cases z : j = k ∧ k < e.length
        · rw [if_pos z] at q2
          cases q2
        · rw [if_neg z] at q2
          exact R.r.inj i k di dk p' q1 q2 q3 q4
    · rw [set_get] at q
      by_cases z : j = i ∧ i < e.length
      · rw [if_pos z] at q
        cases q
        exact True.intro
      · rw [if_neg z] at q
        exact (R.r.ot i dss q).mono s1
    · obtain ⟨z1, z2⟩ := R.z p' z
      rw [List.getElem?_set_ne hj]
      exact ⟨z1, z2⟩
  · exact ⟨G, Same.refl _, R⟩
def s_fz (j : Nat) (f : Fs) : Fs := fun e => f (fzE j e)
theorem SD.fz (j : Nat) (h : SD X st f) (hj : j ≠ 0 := by decide) : SD X st (s_fz j f) := by
  obtain ⟨t, p, k⟩ := h
  refine ⟨_, p, fun m E G0 G e σ H fl D R q P => ?_⟩
  obtain ⟨G', s, R'⟩ := R.fz hj
  exact k m E G0 G' _ σ H fl D R' q (P.aft s)
end
end DL
namespace DL
open PySem PySem.Spec PyProof.Rows L2
section
variable {K : PySem.W.Frag} {m : Option Addr} {E : Ef} {G0 G H : Hp} {e : Ev} {σ : St} {i : Nat} {p : Addr} {d0 ds : List PyData} {ws : List V}
theorem Rl.put (R : Rl K m E G0 G e σ H) (h : e[i]? = some (some (.ac d0))) (hp : σ[i]? = some (some (.ref p))) (q : DpAll K G ws ds) :
    Rl K m E G0 G (e.set i (some (.ac ds))) σ (upd H p (.lst ws)) ∧ Stp σ G H e G (upd H p (.lst ws)) (e.set i (some (.ac ds))) := by
  obtain ⟨p', w0, h1, h2, h3, h4, h5⟩ := R.ac i d0 h
  rw [hp] at h1
  cases h1
  have hl : i < e.length := (List.getElem?_eq_some_iff.mp h).1
  have W := Wl.put (G' := G) (H' := upd H p (.lst ws)) R i (s := some (.ac ds)) (fun _ z => by cases z) (fun _ _ => ⟨d0, h⟩) (Same.refl G) (fun _ _ z => z) (fun a o z w => by
    rw [upd_ne (fun y => R.notW h hp (by rw [← y]; exact w))]
    exact z)
  refine ⟨⟨R.gg, fun b o z => ?_, fun b o z1 z2 => ?_, fun b z => ⟨(R.mh b z).1, ?_⟩, R.nw, by rw [List.length_set]; exact R.len, fun j d z => ?_, fun j dj z => ?_, fun j k dj dk p' q1 q2 q3 q4 => ?_, fun j dss z => ?_, W.1⟩,
    Same.refl _, fun _ z _ => z, fun a o z1 z2 => ?_, fun j => ?_, fun a z => ?_, fun a z => .inl (W.2 a z)⟩
  · rw [upd_ne (ne_of_none z h2)]
    exact R.gh b o z
  · have n : b ≠ p := fun y => by
      rcases h5 with h5 | h5
      · rw [y, h5] at z1
        cases z1
      · exact z2 (by rw [y]; exact h5.1)
    rw [upd_ne n]
    exact R.eh b o z1 z2
  · by_cases n : b = p
    · rw [n, upd_same]
      simp
    · rw [upd_ne n]
      exact (R.mh b z).2
  · rw [set_get] at z
    by_cases y : i = j ∧ j < e.length
    · rw [if_pos y] at z
      cases z
    · rw [if_neg y] at z
      exact R.im j d z
  · rw [set_get] at z
    by_cases y : i = j ∧ j < e.length
    · rw [if_pos y] at z
      cases z
      rw [← y.1]
      exact ⟨p, ws, hp, h2, upd_same, q, h5⟩
    · rw [if_neg y] at z
      obtain ⟨p', ws', a1, a2, a3, a4, a5⟩ := R.ac j dj z
      have n : p' ≠ p := fun y2 => by
        rw [y2] at a1
        have := R.inj i j d0 dj p h z hp a1
        exact y ⟨this, by rw [← this]; exact hl⟩
      exact ⟨p', ws', a1, a2, by rw [upd_ne n]; exact a3, a4, a5⟩
  · have old : ∀ {j : Nat} {dj : List PyData}, (e.set i (some (.ac ds)))[j]? = some (some (.ac dj)) → ∃ dj', e[j]? = some (some (.ac dj')) := fun {j dj} z => by
      rw [set_get] at z
      by_cases y : i = j ∧ j < e.length
      · exact ⟨d0, by rw [← y.1]; exact h⟩
      · rw [if_neg y] at z
        exact ⟨dj, z⟩
    obtain ⟨d1, o1⟩ := old q1
    obtain ⟨d2, o2⟩ := old q2
    exact R.inj j k d1 d2 p' o1 o2 q3 q4
  · rw [set_get] at z
    by_cases y : i = j ∧ j < e.length
    · rw [if_pos y] at z
      cases z
      exact True.intro
    · rw [if_neg y] at z
      exact R.ot j dss z
  · have n : a ≠ p := fun y => z2 (.inl ⟨i, d0, h, by rw [y]; exact hp⟩)
    rw [upd_ne n]
    exact z1
  · rw [set_get]
    by_cases y : i = j ∧ j < e.length
    · rw [if_pos y, ← y.1, h]
      rfl
    · rw [if_neg y]
  · by_cases n : a = p
    · rw [n, upd_same]
      simp
    · rw [upd_ne n]
      exact z
end
section
variable {X : Cx} {a b : Expr} {fa fb : Fe} {pos : Pos}
def x_app (i : Nat) (fa : Fe) : Fe := fun e => if isAc e[i]? = true then (match fa e with
  | some (r, e1) => (match imR (frzR r), e1[i]? with
    | some d, some (some (.ac ds)) => if okLen (ds.length + 1) = true then some (.im .none, e1.set i (some (.ac (ds ++ [d])))) else none
    | _, _ => none)
  | none => none) else none
theorem frz_im {r : Rs} {d : PyData} (h : imR (frzR r) = some d) : frzR r = .im d := by
  cases r with
  | im d =>
    cases h
    rfl
  | ac ds =>
    cases h
    rfl
  | br i => cases h
theorem Rl.acP {K : PySem.W.Frag} {m : Option Addr} {E : Ef} {G0 G H : Hp} {e : Ev} {σ : St} {i : Nat} (R : Rl K m E G0 G e σ H) (h : isAc e[i]? = true) :
    ∃ p ws, σ[i]? = some (some (.ref p)) ∧ H p = some (.lst ws) := by
  obtain ⟨ds', q⟩ := isAc_iff.mp h
  obtain ⟨p, ws, h1, h2, h3, _⟩ := R.ac i ds' q
  exact ⟨p, ws, h1, h3⟩
theorem len_lt {n : Nat} (h : okLen (n + 1) = true) : n < sizeLine := by
  have := okLen_ok h
  omega
/-- xs.append(e) -/
theorem ed_app (i : Nat) {x : Str} {np apos : Pos} (ha : ED X a fa) (hN : X.N[i]? = some x := by rfl)
    (hv : Vis X.env.scope x := by first | exact Or.inl rfl | exact Or.inr (Or.inl rfl) | exact Or.inr (Or.inr rfl)) (hd : (x == ("__debug__" : Str)) = false := by decide) (hcd : (x == ("__classdict__" : Str)) = false := by decide)
    (hbase : attributeBase (.Name x np) "append" X.env (eval (.Name x np) X.env) = eval (.Name x np) X.env := by rfl)
    (hfew : ((backTo pos (starEach [a] X.env)).all (fun x => !x.1) && (backToKw pos (keywordEach [] X.env)).all (fun x => x.1.isSome)
      && decide (([a] : List Expr).length + ([] : List Keyword).length + (if ([] : List Keyword).isEmpty then 0 else 1) < 30)) = true := by rfl)
    (hline : (apos.endLine == pos.line) = true := by rfl) (hs : starEach [a] X.env = (false, eval a X.env) :: starEach [] X.env := by rfl) (hplain : (backTo pos (starEach [] X.env)).any (·.1) = false := by rfl) :
    ED X (.Call (.Attribute (.Name x np) "append" apos) [a] [] pos) (x_app i fa) := by
  obtain ⟨t, p, k⟩ := ha
  refine ⟨_, pe_bm PySem.F.plainAttrs_list PySem.F.slot_list_append PySem.F.type_list_append mt_append (pe_var hN hv hd hcd) (pa_cons p pa_nil hs) hbase hfew hline hs hplain, fun m E G0 G e σ H r e' Q R q P => ?_⟩
  unfold x_app at q
  by_cases h0 : isAc e[i]? = true
  · rw [if_pos h0] at q
    obtain ⟨l, w0, hσ, hl⟩ := R.acP h0
    refine ⟨.ref l, hσ, .inl ⟨rfl, w0, .inl (.inl hl)⟩, ?_⟩
    split at q
    · rename_i r1 e1 h1
      split at q
      · rename_i d ds h2 h3
        by_cases h4 : okLen (ds.length + 1) = true
        · rw [if_pos h4] at q
          cases q
          refine k m E G0 G e σ H r1 e1 _ R h1 fun v G1 H1 R1 S1 V1 N1 => ?_
          obtain ⟨G2, R2, S2, s2, V2⟩ := R1.freeze S1 V1 N1
          rw [frz_im h2] at V2
          obtain ⟨p', ws, q1, q2, q3, q4, q5⟩ := R2.ac i ds h3
          rw [hσ] at q1
          cases q1
          obtain ⟨R3, S3⟩ := R2.put h3 hσ (dpAll_app q4 (.cons V2 .nil))
          exact ⟨l, ws, v, rfl, rfl, q3, by rw [dpAll_len q4]; exact len_lt h4, P .non G2 _ R3 (S2.trans S3) .non True.intro⟩
        · rw [if_neg h4] at q
          cases q
      · cases q
    · cases q
  · rw [if_neg h0] at q
    cases q
end
end DL
namespace DL
open PySem PySem.Spec PyProof.Rows L2
def VrF (K : PySem.W.Frag) (G H H' : Hp) (v : V) : Rs → Prop
  | .im d => Dp K G v d
  | .ac ds => ∃ p ws, v = .ref p ∧ H p = none ∧ G p = none ∧ H' p = some (.lst ws) ∧ DpAll K G ws ds
  | .br _ => False
/-- n data in, a result out -/
def spD (K : PySem.W.Frag) (n : Nat) (φ : List PyData → Option Rs) : Sp := fun vs H Q _ => ∃ G ds r, Same G H ∧ DpAll K G vs ds ∧ vs.length = n ∧ φ ds = some r ∧
  ∀ v G' H', Same G G' → Same G' H' → Same H H' → (∀ a, G a = none → H a ≠ none → G' a = none) → VrF K G' H H' v r → Q v H'
/-- a def of the module that is kept: where it lies, what it promises, how it is called -/
inductive Kf (P : Program) (w : World) (K : PySem.W.Frag) (mg : Str → Option Value) (base : Heap) (k : Nat) (x : Str) (sp : Sp) (dvs : List V) : Prop where
  | kept (at_ : Addr) (fd : FuncData) (names : List Str) (given : List Value) (fn : FnOk P w K mg base CX0 k at_ fd names sp) (here : mg x = some (.ref at_)) (stays : PySem.W.keepIn K (.ref at_) = true) (binds : Binds K fd names given) (vals : Vals dvs given)
def x_call (φ : List PyData → Option Rs) (dds : List PyData) (fa : Fa) : Fe := fun e => match argsI fa e with
  | some (ds, e1) => (match φ (ds ++ dds) with
    | some (.im d) => some (.im d, e1)
    | some (.ac cs) => some (.ac cs, e1)
    | _ => none)
  | none => none
section
variable {K : PySem.W.Frag} {m : Option Addr} {E : Ef} {G0 G G' H H' : Hp} {e : Ev} {σ : St} {v : V} {r : Rs}
/-- behind a call that writes nothing -/
theorem Rl.called (R : Rl K m E G0 G e σ H) (s1 : Same G G') (s2 : Same G' H') (s3 : Same H H') (n : ∀ a, G a = none → H a ≠ none → G' a = none) : Rl K m E G0 G' e σ H' ∧ Stp σ G H e G' H' e := by
  have th : ∀ a, H a ≠ none → H' a ≠ none := fun a z => by
    cases q : H a with
    | none => exact absurd q z
    | some o => rw [s3 a o q]; simp
  have W := R.wl.keep0 (H' := H') s1 (fun a w z => n a z (R.wl.out a w).2.1) (fun a o z _ => s3 a o z)
  refine ⟨⟨R.gg.trans s1, s2, fun a o z1 z2 => s3 a o (R.eh a o z1 z2), fun a z => ⟨(R.mh a z).1, th a (R.mh a z).2⟩, fun a z1 z2 => n a (R.nw a z1 z2) ?_, R.len, fun i d q => ?_, fun i ds q => ?_, R.inj, fun i dss q => (R.ot i dss q).mono s1, W.1⟩, s1, n, fun a o z _ => s3 a o z, fun _ => rfl, th, fun a z => .inl (W.2 a z)⟩
  · by_cases y : m = some a
    · exact (R.mh a y).2
    · cases q : E a with
      | none => exact absurd q z2
      | some o => rw [R.eh a o q y]; simp
  · obtain ⟨v, h1, h2⟩ := R.im i d q
    exact ⟨v, h1, dp_same s1 h2⟩
  · obtain ⟨p, ws, h1, h2, h3, h4, h5⟩ := R.ac i ds q
    exact ⟨p, ws, h1, n p h2 (by rw [h3]; simp), s3 p _ h3, dpAll_same s1 h4, h5⟩
theorem Rl.vrf (R : Rl K m E G0 G e σ H) (h : VrF K G' H H' v r) (hh : ∀ a o, H a = some o → OwnW σ e H a → H' a = some o) : Vr K E G' H' σ e v r ∧ Nw H v r := by
  cases r with
  | im d => exact ⟨h, True.intro⟩
  | br i => exact h.elim
  | ac ds =>
    obtain ⟨p, ws, rfl, h1, h2, h3, h4⟩ := h
    obtain ⟨f1, f2, f3, f4⟩ := R.fresh h1
    exact ⟨⟨p, ws, rfl, f2, h2, h3, h4, fun z => f3 (by
      rcases z with z | z
      · exact .inl z
      · exact .inr ((R.wl.keep0 (Same.refl G) (fun _ _ z => z) hh).2 p z))⟩, fun q z => by
      cases z
      exact h1⟩
end
def dvsD (K : PySem.W.Frag) (dvs : List V) (dds : List PyData) : Prop := ∀ G : Hp, DpAll K G dvs dds
theorem dvs0 {K : PySem.W.Frag} : dvsD K [] [] := fun _ => .nil
section
variable {X : Cx} {a : Expr} {es : List Expr} {fa : Fa} {p pos : Pos} {x : Str} {j k n : Nat} {dvs : List V} {dds : List PyData}
theorem call_ok {φ : List PyData → Option Rs} {t : TA} (hd : dvsD X.K dvs dds) (hn : ∀ ds, (φ ds).isSome = true → ds.length = n)
    (kk : ∀ (m : Option Addr) (E : Ef) (G0 G : Hp) (e : Ev) (σ : St) (H : Hp) (rs : List Rs) (e' : Ev) (Q : List V → Hp → Prop),
    Rl X.K m E G0 G e σ H → fa e = some (rs, e') → (∀ vs G' H', Rl X.K m E G0 G' e' σ H' → Stp σ G H e G' H' e' → VrAll X.K E G' H' σ e' vs rs → Q vs H') → t σ H Q)
    (m : Option Addr) (E : Ef) (G0 G : Hp) (e : Ev) (σ : St) (H : Hp) (rr : Rs) (e' : Ev) (Q : VK) (R : Rl X.K m E G0 G e σ H) (q : x_call φ dds fa e = some (rr, e')) (P : Po X.K m E G0 σ G H e rr e' Q) : tCall (spD X.K n φ) dvs E0 t σ H Q := by
  unfold x_call at q
  cases h1 : argsI fa e with
  | none => simp only [h1] at q; cases q
  | some z =>
    obtain ⟨ds, e1⟩ := z
    simp only [h1] at q
    obtain ⟨rs, q1, q2⟩ := argsI_ok h1
    have main : ∀ r, φ (ds ++ dds) = some r → r = rr ∧ e1 = e' → tCall (spD X.K n φ) dvs E0 t σ H Q := fun r h2 ⟨z1, z2⟩ => by
      subst z1 z2
      refine kk m E G0 G e σ H rs e1 _ R q1 fun vs G1 H1 R1 S1 V1 => ?_
      have D1 := vr_imAll V1 q2
      have D2 := dpAll_app D1 (hd G1)
      refine ⟨G1, ds ++ dds, r, R1.gh, D2, ?_, h2, fun v G' H' s1 s2 s3 nw vr => ?_⟩
      · rw [dpAll_len D2]
        exact hn _ (by rw [h2]; rfl)
      · obtain ⟨R2, S2⟩ := R1.called s1 s2 s3 nw
        obtain ⟨V2, N2⟩ := R1.vrf vr fun a o z _ => s3 a o z
        exact P v G' H' R2 (S1.trans S2) V2 (nw_back S1 v N2)
    cases h2 : φ (ds ++ dds) with
    | none => simp only [h2] at q; cases q
    | some r =>
      cases r with
      | im d =>
        simp only [h2, Option.some.injEq, Prod.mk.injEq] at q
        exact main _ h2 q
      | ac d =>
        simp only [h2, Option.some.injEq, Prod.mk.injEq] at q
        exact main _ h2 q
      | br d => simp only [h2] at q; cases q
theorem ed_call {φ : List PyData → Option Rs} (F : Kf X.prog X.w X.K X.mg X.base k x (spD X.K n φ) dvs) (hr : Room j X.A) (hk : k ≤ j) (hd : dvsD X.K dvs dds) (hn : ∀ ds, (φ ds).isSome = true → ds.length = n) (h : AD X (a :: es) fa) (hg : Gl X x := by rfl)
    (hdb : (x == ("__debug__" : Str)) = false := by decide) (he : starEach (a :: es) X.env = (false, eval a X.env) :: starEach es X.env := by rfl) (hpl : (backTo pos (starEach es X.env)).any (·.1) = false := by rfl) :
    ED X (.Call (.Name x p) (a :: es) [] pos) (x_call φ dds fa) := by
  obtain ⟨f, fd, ps, ds, F, hm, kp, hb, hv⟩ := F
  obtain ⟨t, pa, kk⟩ := h
  exact ⟨_, pe_call F (hr.mono hk) hg hm kp hb hv (E := E0) (fun _ _ _ _ _ _ _ z => z.elim) pa hdb he hpl, call_ok hd hn kk⟩
end
def finR (r : Rs) (e : Ev) : Option Rs := match r with
  | .im d => some (.im d)
  | .ac ds => some (.ac ds)
  | .br i => (match e[i]? with
    | some (some (.ac ds)) => some (.ac ds)
    | _ => none)
def env0 (ds : List PyData) (nl : Nat) : Ev := ds.map (fun d => some (Sl.im d)) ++ List.replicate nl none
def runF (n nl : Nat) (g : Fs) (ds : List PyData) : Option Rs := if ds.length = n then (match g (env0 ds nl) with
  | some (.rt r e) => finR r e
  | some (.nx _) => some (.im .none)
  | _ => none) else none
theorem runF_len {n nl : Nat} {g : Fs} : ∀ ds, (runF n nl g ds).isSome = true → ds.length = n := fun ds h => by
  unfold runF at h
  by_cases z : ds.length = n
  · exact z
  · rw [if_neg z] at h
    cases h
section
variable {K : PySem.W.Frag} {G H : Hp} {vs us : List V} {ds c : List PyData} {nl : Nat}
theorem env0_at {i : Nat} {s : Sl} (h : (env0 ds nl)[i]? = some (some s)) : ∃ d, ds[i]? = some d ∧ s = .im d := by
  unfold env0 at h
  by_cases hi : i < ds.length
  · rw [List.getElem?_append_left (by rw [List.length_map]; exact hi), List.getElem?_map] at h
    cases z : ds[i]? with
    | none => rw [z] at h; cases h
    | some d =>
      rw [z] at h
      cases h
      exact ⟨d, rfl, rfl⟩
  · rw [List.getElem?_append_right (by rw [List.length_map]; omega)] at h
    rw [List.getElem?_replicate] at h
    split at h
    · cases h
    · cases h
theorem st_at {i : Nat} {v : V} {N : List Str} (h : vs[i]? = some v) : (L2.start N vs)[i]? = some (some v) := by
  unfold L2.start
  have hi := (List.getElem?_eq_some_iff.mp h).1
  rw [List.getElem?_append_left (by rw [List.length_map]; exact hi), List.getElem?_map, h]
  rfl
theorem rz_start {N : List Str} (s : Same G H) (q : DpAll K G vs ds) (hl : vs.length + nl = N.length) : Rz K none (Ef.of H) G G (env0 ds nl) (L2.start N vs) H := by
  refine ⟨⟨Same.refl _, s, fun a o z _ => z, fun a z => (by cases z), fun a z _ => z, ?_, fun i d z => ?_, fun i d z => ?_, fun i j di dj p z => ?_, fun i dss z => ?_, Wl.non fun i t z => by
    obtain ⟨d', z1, z2⟩ := env0_at z
    cases z2⟩, fun p z => by cases z⟩
  · unfold env0 L2.start
    simp only [List.length_append, List.length_map, List.length_replicate]
    rw [dpAll_len q] at hl ⊢
    omega
  · obtain ⟨d', z1, z2⟩ := env0_at z
    cases z2
    obtain ⟨v, z3, z4⟩ := dpAll_get q z1
    exact ⟨v, st_at z3, z4⟩
  · obtain ⟨d', z1, z2⟩ := env0_at z
    cases z2
  · obtain ⟨d', z1, z2⟩ := env0_at z
    cases z2
  · obtain ⟨d', z1, z2⟩ := env0_at z
    cases z2
    exact True.intro
end
section
variable {P : Program} {w : World} {K : PySem.W.Frag} {mg : Str → Option Value} {base : Heap} {x qual : Str} {params : Arguments} {body : List Stmt} {scope : Scope} {dvs : List V} {kws : List (Str × V)} {f : Addr} {fd : FuncData} {N ps : List Str} {k n nl : Nat} {g : Fs}
theorem fnD (F : FunD K x qual params body scope dvs kws f fd) (S : FnScope N ps scope) (hp : ps.length = n) (hl : n + nl = N.length)
    (hb : ∀ (cdv : Value) (A : Around) (outer : List Env) (s : Shared) (H : Hp) (E : XK), Room k (A.deeper (envOfC qual scope s.heap.objs.size f cdv)) → SsD (cxOf CX0 P w K mg base N qual scope f cdv A outer s H E).nox body g) :
    FnOk P w K mg base CX0 (k + 1) f fd ps (spD K n (runF n nl g)) := by
  refine F.ok S (fun vs H Q E h => ?_) fun cdv A outer s H vs Q E hr h => ?_
  · obtain ⟨_, _, _, _, _, h, _⟩ := h
    rw [h, hp]
  · obtain ⟨t, pt, kt⟩ := hb cdv A outer s H E hr
    obtain ⟨G, ds, r, s1, hd, hv, hr2, hQ⟩ := h
    refine ⟨t, pt.nox, ?_⟩
    have Rz0 : Rz K none (Ef.of H) G G (env0 ds nl) (L2.start N vs) H := rz_start s1 hd (by omega)
    unfold runF at hr2
    rw [if_pos (by rw [← dpAll_len hd]; exact hv)] at hr2
    split at hr2
    · rename_i r' e' h1
      refine kt none (Ef.of H) G G _ _ H _ _ Rz0 h1 fun v G' σ' H' s2 R' V' => ?_
      have hh : Same H H' := fun a o z => R'.r.eh a o z (by simp)
      have nw : ∀ a, G a = none → H a ≠ none → G' a = none := R'.r.nw
      refine hQ v G' H' s2 R'.r.gh hh nw ?_
      unfold finR at hr2
      cases r' with
      | im d =>
        cases hr2
        exact V'
      | ac d =>
        cases hr2
        obtain ⟨p, ws, a1, a2, a3, a4, a5, _⟩ := V'
        exact ⟨p, ws, a1, a2, a3, a4, a5⟩
      | br i =>
        dsimp only at hr2
        split at hr2
        · rename_i d h2
          cases hr2
          have b2 : σ'[i]? = some (some v) := V'
          obtain ⟨p, ws, a1, a2, a3, a4, a5⟩ := R'.r.ac i d h2
          rw [a1] at b2
          cases b2
          have a5 : H p = none := by
            rcases a5 with a5 | a5
            · exact a5
            · cases a5.1
          exact ⟨p, ws, rfl, a5, a2, a3, a4⟩
        · cases hr2
    · rename_i e' h1
      cases hr2
      refine kt none (Ef.of H) G G _ _ H _ _ Rz0 h1 fun G' σ' H' s2 R' => ?_
      exact hQ .non G' H' s2 R'.r.gh (fun a o z => R'.r.eh a o z (by simp)) R'.r.nw .non
    · cases hr2
end
end DL
namespace DL
open PySem PySem.Spec PyProof.Rows L2
section
variable {X : Cx}
/-- e[..:..:..]: the parts are reckoned one by one, a slice is laid, and the rest goes on from there -/
def tSl (te : TE) (tl th ts : TO) (k : V → Option Int → Option Int → Option Int → Hp → Prop) (σ : St) (H : Hp) : Prop := te σ H fun x Ha => tl σ Ha fun lo Hb => th σ Hb fun hi Hc => ts σ Hc fun st Hd => k x lo hi st Hd
abbrev laidS (s : Shared) (l h t : Value) : Shared := { s with heap := s.heap.push { cls := .type "slice", data := .fields #[l, h, t] } }
theorem run_sl {e : Expr} {lo hi st : Option Expr} {te : TE} {tl th ts : TO} {p3 pos : Pos} {pins : List (Addr × Obj)} {s : Shared} {σ : St} {H : Hp} {Q : VK} {k : V → Option Int → Option Int → Option Int → Hp → Prop} (he : PE X e te) (hl : PO X lo tl) (hh : PO X hi th) (ht : PO X st ts) (I : Inv X pins σ H s) (h : tSl te tl th ts k σ H)
    (next : ∀ x v l vl u vu o vo (s' : Shared) (H' : Hp), RelV x v → IsPart vl l → IsPart vu u → IsPart vo o → Inv X pins σ H' (laidS s' vl vu vo) → k x l u o H' →
      wpAny (model X.prog X.w) X.A (subscriptTail e (.Slice lo hi st p3) v (.ref s'.heap.objs.size)) (EP X pins σ Q) X.xe (laidS s' vl vu vo)) :
    wpAny (model X.prog X.w) X.A (eval (.Subscript e (.Slice lo hi st p3) pos) X.env) (EP X pins σ Q) X.xe s :=
  Subscript_ (thn (he.run pins s σ H _ I h) fun v sa ⟨x, Ha, Ia, rx, qa⟩ => wpAny_Slice (thn (hl.run pins sa σ Ha _ Ia qa) fun vl sb ⟨l, Hb, Ib, rl, qb⟩ => thn (hh.run pins sb σ Hb _ Ib qb) fun vu sc ⟨u, Hc, Ic, ru, qc⟩ =>
    thn (ht.run pins sc σ Hc _ Ic qc) fun vo sd ⟨o, Hd, Id, ro, qd⟩ => next x v l vl u vu o vo sd Hd rx rl ru ro (Id.kept (t' := sd.toks) fun _ _ z => Heap.get?_push_of_some _ z) qd))
end
end DL
namespace DL
open PySem PySem.Spec PySem.W PyProof.Rows L2 Calls
def tI (k : List Int) : PyData := .tuple (k.map PyData.int)
def upT (ks : List (List Int)) : List (List Int) := ks.mergeSort fun p q => decide (p ≤ q)
def okT (ks : List (List Int)) : Bool := decide (ks.length ≤ 1) || ks.all fun k => !k.isEmpty
theorem upT_perm (ks : List (List Int)) : (upT ks).Perm ks := List.mergeSort_perm _ _
theorem upT_pw (ks : List (List Int)) : (upT ks).Pairwise (· ≤ ·) := by
  have z := List.pairwise_mergeSort (le := fun p q : List Int => decide (p ≤ q)) (fun a b c h1 h2 => by
    rw [decide_eq_true_eq] at h1 h2 ⊢
    exact List.le_trans h1 h2) (fun a b => by
    rw [Bool.or_eq_true, decide_eq_true_eq, decide_eq_true_eq]
    exact List.le_total a b) ks
  exact z.imp fun h => of_decide_eq_true h
theorem upT_uniq {ks ms : List (List Int)} (h : ms.Perm ks) (k : ms.Pairwise (· ≤ ·)) : ms = upT ks :=
  List.Perm.eq_of_pairwise (le := (· ≤ ·)) (fun a b _ _ h1 h2 => List.le_antisymm h1 h2) k (upT_pw ks) (h.trans (upT_perm ks).symm)
theorem dataLe_tups : dataLe false tI = fun p q => decide (p ≤ q) := dataLe_rows fun k : List Int => k
theorem alike_tI (p q : List Int) : alike (tI p) (tI q) = true := alike_ints p q
theorem depth_tI (p : List Int) : (tI p).depth ≤ 1 := by
  show PyData.depthAll (p.map .int) + 1 ≤ 1
  rw [depth_ints]
  exact Nat.le_refl _
theorem okT_two {ks : List (List Int)} (h : okT ks = true) (h2 : ¬ ks.length ≤ 1) : Sortable (ks.map tI) := by
  unfold okT at h
  rw [Bool.or_eq_true, decide_eq_true_eq] at h
  rcases h with h | h
  · exact absurd h h2
  · refine .inl fun d hd => ?_
    obtain ⟨k, hk, rfl⟩ := List.mem_map.mp hd
    have z := List.all_eq_true.mp h k hk
    cases k with
    | nil => cases z
    | cons i k => exact ⟨.int i, k.map .int, rfl⟩
theorem perm_one {α : Type} {xs ys : List α} (p : xs.Perm ys) (h : ys.length ≤ 1) : xs = ys := by
  match ys, h with
  | [], _ => exact p.eq_nil
  | [y], _ => exact List.perm_singleton.mp p
theorem upT_one {ks : List (List Int)} (h : ks.length ≤ 1) : upT ks = ks := perm_one (upT_perm ks) h
section
variable {prog : Program} {w : World} {A : Around} {E : Value → Shared → Prop} {s : Shared} {vs : List Value} {ks : List (List Int)} {R : Value → List Int → Prop}
/-- one item or none: nothing is compared -/
theorem sort_few {a : Addr} {n : Nat} {P : PySem.Fin → Shared → Prop} (ho : s.heap.get? a = some (seqObj "list" vs.toArray n)) (h1 : vs.length ≤ 1) (h : P (.done (.ret .none)) { s with heap := sortedHeap s.heap a vs vs.toArray }) :
    wpAny (model prog w) A (Builtin.«list.sort» ⟨[.ref a], []⟩) P E s := by
  refine SK.plain_sort (r := fun _ => 0) ho (by omega) (fun h2 => by omega) fun ps out e1 e2 _ => ?_
  have e3 : out.toList = vs := by
    have z := e2.map Prod.snd
    rw [← e1, List.map_snd_zip (Nat.le_refl _)] at z
    exact perm_one z h1
  have e4 : out = vs.toArray := by rw [← e3]
  rw [e4]
  exact h
theorem sorted_tlist {l : Addr} {Q : Value → Shared → Prop} (hl : s.heap.IsList l vs.toArray) (e : EachIs R vs ks) (er : EachIs (fun v k => ∃ as, Reads s.heap v (tI k) as) vs ks) (hk : okT ks = true) (hL : ks.length ≤ sizeLine) (hu : A.units + 4 < cLine)
    (h : ∀ out, EachIs R out (upT ks) → Q (.ref (s.heap.objs.size + 1)) { s with heap := sortedAll s.heap vs (List.toArray out) }) : wpAny (model prog w) A (call (.builtin "sorted") [.ref l]) Q E s := by
  by_cases h1 : ks.length ≤ 1
  · refine sorted_of_sort hl (by rw [e.length]; exact hL) (args_sorted1 _) (fun _ => args_list_sort _) fun _ => ?_
    refine sort_few (s := { s with heap := copyHeap s.heap vs }) (copyHeap_at s.heap vs) (by rw [e.length]; exact h1) ⟨rfl, h vs ?_⟩
    rw [upT_one h1]
    exact e
  · refine sorted_data (enc := tI) hl e er (AllAlike.of alike_tI) (okT_two hk h1) hL (fun b _ => by have := depth_tI b; omega) fun out _ eo => h out ?_
    rw [dataLe_tups] at eo
    exact eo
end
def IsK (K : PySem.W.Frag) (G : Hp) (v : Value) (k : List Int) : Prop := ∃ x, RelV x v ∧ Dp K G x (tI k)
theorem isK_all {K : PySem.W.Frag} {G : Hp} : ∀ {ws : List V} {us : List Value} {ks : List (List Int)}, DpAll K G ws (ks.map tI) → Vals ws us → EachIs (IsK K G) us ks
  | [], _, [], _, .nil => .nil
  | w :: ws, _, k :: ks, .cons h t, .cons r q => .cons ⟨w, r, h⟩ (isK_all t q)
  | [], _, _ :: _, h, _ => by cases h
  | _ :: _, _, [], h, _ => by cases h
theorem isK_back {K : PySem.W.Frag} {G : Hp} : ∀ {us : List Value} {ks : List (List Int)}, EachIs (IsK K G) us ks → ∃ ws, Vals ws us ∧ DpAll K G ws (ks.map tI)
  | _, _, .nil => ⟨[], .nil, .nil⟩
  | _, _, .cons h t => by
    obtain ⟨x, r, d⟩ := h
    obtain ⟨ws, r2, d2⟩ := isK_back t
    exact ⟨x :: ws, .cons r r2, .cons d d2⟩
theorem isK_reads {X : Cx} {pins : List (Addr × Obj)} {σ : St} {G H : Hp} {s : Shared} (I : Inv X pins σ H s) (sg : Same G H) {us : List Value} {ks : List (List Int)} (e : EachIs (IsK X.K G) us ks) : EachIs (fun v k => ∃ as, Reads s.heap v (tI k) as) us ks :=
  e.mono fun v k ⟨x, r, d⟩ => L2.Dp.reads I _ x v ((dp_same sg d).lib (noDict_ints _)) r
section
variable {X : Cx}
/-- sorted(xs), xs a list of tuples of ints -/
def rSortTL (K : PySem.W.Frag) : List V → Hp → VK → Prop := fun vs H Q => ∃ (G : Hp) (a : Addr) (ws : List V) (ks : List (List Int)), Same G H ∧ vs = [.ref a] ∧ SqL K H a ws ∧ DpAll K G ws (ks.map tI) ∧ okT ks = true ∧
  ∀ ys p, DpAll K G ys ((upT ks).map tI) → H p = none → Q (.ref p) (upd H p (.lst ys))
theorem cr_sortTL (hu : X.A.units + 64 < cLine) : CallR X (.builtin "sorted") (rSortTL X.K) := by
  intro pins s σ H vs us Q I r h
  obtain ⟨G, a, ws, ks, sg, rfl, hs, hd, ok, q⟩ := h
  obtain ⟨its, rv, pl, hz⟩ := I.list hs
  rw [Vals.ref1 r]
  have e := isK_all hd rv
  have hl : ks.length ≤ sizeLine := by
    rw [← e.length, ← rv.length]
    exact hz
  refine sorted_tlist pl.isList e (isK_reads I sg e) ok hl (by omega) fun out eo => ?_
  obtain ⟨ys, r2, d2⟩ := isK_back eo
  obtain ⟨c, hat⟩ := sortedAll_at s.heap its out.toArray
  have hl2 : ys.length ≤ sizeLine := by
    rw [dpAll_len d2, List.length_map, (upT_perm ks).length_eq]
    exact hl
  exact ⟨.ref _, upd H (s.heap.objs.size + 1) (.lst ys), I.laid (t' := s.toks) (fun _ _ => sortedAll_old) (Nat.le_succ _) ⟨hl2, out, c, r2, hat⟩, rfl, q ys _ d2 (I.hok.fresh (Nat.le_succ _))⟩
end
end DL
namespace DL
open PySem PySem.Spec PyProof.Rows L2
end DL
namespace DL
open PySem PySem.Spec PySem.W PyProof.Rows L2
def c_intsT (g : List Int → Option Rs) : List PyData → Option Rs
  | [.tuple ds] => (match unI ds with
    | some ns => g ns
    | none => none)
  | _ => none
theorem intsT_ok {g : List Int → Option Rs} {ds : List PyData} {r : Rs} (q : c_intsT g ds = some r) : ∃ ns, ds = [.tuple (ns.map PyData.int)] ∧ g ns = some r := by
  unfold c_intsT at q
  split at q
  · rename_i es
    split at q
    · rename_i ns h
      rw [unI_ok h]
      exact ⟨ns, rfl, q⟩
    · cases q
  · cases q
section
variable {K : PySem.W.Frag}
theorem lv_intsT {G H : Hp} {vs : List V} {ns : List Int} (s : Same G H) (l : LvAll K G H vs [.tuple (ns.map PyData.int)]) : ∃ p, vs = [.ref p] ∧ SqT K H p (ns.map V.int) := by
  obtain ⟨v, rfl, lv⟩ := lv1 l
  obtain ⟨p, ws, rfl, s1, k⟩ := lv.tup s
  rw [dp_ints k] at s1
  exact ⟨p, rfl, s1⟩
end
def unT : List PyData → Option (List (List Int))
  | [] => some []
  | .tuple d :: ds => (match unI d, unT ds with
    | some k, some ks => some (k :: ks)
    | _, _ => none)
  | _ :: _ => none
theorem unT_ok : ∀ {ds : List PyData} {ks : List (List Int)}, unT ds = some ks → ds = ks.map tI
  | [], ks, h => by
    cases h
    rfl
  | d :: ds, ks, h => by
    unfold unT at h
    split at h
    · rename_i z
      cases z
    · rename_i d0 ds0 z
      cases z
      split at h
      · rename_i k ks0 h1 h2
        cases h
        rw [unI_ok h1, unT_ok h2]
        rfl
      · cases h
    · cases h
theorem unT_map : ∀ (ks : List (List Int)), unT (ks.map tI) = some ks
  | [] => rfl
  | k :: ks => by
    have e : ∀ (k : List Int), unI (k.map PyData.int) = some k := by
      intro k
      induction k with
      | nil => rfl
      | cons i k ih =>
        show (unI (k.map PyData.int)).map (i :: ·) = _
        rw [ih]
        rfl
    show (match unI (k.map PyData.int), unT (ks.map tI) with
      | some k, some ks => some (k :: ks)
      | _, _ => none) = _
    rw [e, unT_map ks]
def c_sortedT : List PyData → Option Rs
  | [.list ds] => (match unT ds with
    | some ks => if okT ks = true then some (.ac ((upT ks).map tI)) else none
    | none => none)
  | _ => none
theorem vc_sortedT {K : PySem.W.Frag} : VC K (rSortTL K) c_sortedT := by
  intro m E G0 G e σ H vs ds rr Q R l q P
  unfold c_sortedT at q
  split at q
  · rename_i es
    split at q
    · rename_i ks h
      by_cases ok : okT ks = true
      · rw [if_pos ok] at q
        cases q
        rw [unT_ok h] at l
        obtain ⟨v, rfl, lv⟩ := lv1 l
        obtain ⟨p, ws, rfl, s1, k⟩ := lv.list R.gh
        refine ⟨G, p, ws, ks, R.gh, rfl, s1, k, ok, fun ys p2 d hp => ?_⟩
        obtain ⟨R', S', V', N'⟩ := R.newL hp d
        exact P _ _ _ R' S' V' N'
      · rw [if_neg ok] at q
        cases q
    · cases q
  · cases q
def c_sortedA : List PyData → Option Rs := orC c_sortedI c_sortedT
theorem vc_sortedA {K : PySem.W.Frag} : VC K (fun vs H Q => rSortedI K vs H Q ∨ rSortTL K vs H Q) c_sortedA := VC.or vc_sortedI vc_sortedT
theorem cr_sortedA {X : Cx} (hu : X.A.units + 64 < cLine) : CallR X (.builtin "sorted") (fun vs H Q => rSortedI X.K vs H Q ∨ rSortTL X.K vs H Q) := CallR.or cr_sortedI (cr_sortTL hu)
end DL
namespace DL
open PySem PySem.Spec PySem.W PyProof.Rows L2 Calls
end DL
namespace DL
open PySem PySem.Spec PySem.W PyProof.Rows L2 Calls
end DL
namespace DL
open PySem PySem.Spec PySem.W PyProof.Rows L2
/-- a def under its name, every parameter written -/
theorem kfN {P : Program} {w : World} {K : PySem.W.Frag} {mg : Str → Option Value} {base : Heap} {x qual : Str} {params : Arguments} {body : List Stmt} {scope : Scope} {kws : List (Str × V)} {f : Addr} {fd : FuncData} {k : Nat} {sp : Sp} {ps : List Str}
    (F : FunD K x qual params body scope [] kws f fd) (ok : FnOk P w K mg base CX0 k f fd ps sp) (g : mg x = some (.ref f))
    (h : ∀ (kV doc pm : Value) (an : Option Addr) (cdv ct : Value) (us : List Value), us.length = ps.length → bindArgs (PySem.W.fnOf x qual params body scope .none kV doc pm an cdv ct) ⟨us, []⟩ = pure (ps.zip us)) : Kf P w K mg base k x sp [] :=
  ⟨f, fd, ps, [], ok, g, F.kp, F.bindsN h, .nil⟩
end DL
namespace DL
open PySem PySem.Spec PySem.W PyProof.Rows L2
def nD (n : Nat) : PyData := .int (n : Int)
section
variable {i j : Int}
theorem e_add : p_add (.int i) (.int j) = some (.im (.int (i + j))) := rfl
theorem e_sub : p_sub (.int i) (.int j) = some (.im (.int (i - j))) := rfl
theorem e_eq : p_eq (.int i) (.int j) = some (.im (.bool (decide (i = j)))) := by
  show some (Rs.im (.bool (i == j))) = _
  rw [Bool.beq_eq_decide_eq]
theorem e_ne : p_ne (.int i) (.int j) = some (.im (.bool (!decide (i = j)))) := by
  show some (Rs.im (.bool (!(i == j)))) = _
  rw [Bool.beq_eq_decide_eq]
theorem e_mod (h : 0 < j) : p_mod (.int i) (.int j) = some (.im (.int (i % j))) := by
  show ((if decide (0 < j) = true then some (PyData.int (i % j)) else none).map Rs.im) = _
  rw [if_pos (decide_eq_true h)]
  rfl
theorem e_divW (h : 0 < j) (h2 : j.natAbs.log2 < 9000) : p_div (.int i) (.int j) = some (.im (.int (i / j))) := by
  show ((if divC i j = true then some (PyData.int (i / j)) else none).map Rs.im) = _
  rw [show divC i j = true from decide_eq_true ⟨h, h2⟩]
  rfl
theorem log_few {j : Int} (h : 0 < j) (h2 : j < 1073741824) : j.natAbs.log2 < 9000 := Nat.lt_trans ((Nat.log2_lt (by omega)).mpr (show j.natAbs < 2 ^ 30 by omega)) (by decide)
theorem e_div (h : 0 < j) (h2 : j < 1073741824) : p_div (.int i) (.int j) = some (.im (.int (i / j))) := e_divW h (log_few h h2)
theorem e_mul (h : (-18446744073709551616 < i ∧ i < 18446744073709551616) ∨ (-18446744073709551616 < j ∧ j < 18446744073709551616)) : p_mul (.int i) (.int j) = some (.im (.int (i * j))) := by
  unfold p_mul orF
  have e : (d_int2 (fun i j => .int (i * j)) mulC (.int i) (.int j)).map Rs.im = some (.im (.int (i * j))) := by
    show ((if mulC i j = true then some (PyData.int (i * j)) else none).map Rs.im) = _
    rw [show mulC i j = true from decide_eq_true h]
    rfl
  simp only [e]
end
theorem okLen_yes {n : Nat} (h : n ≤ 16777216) : okLen n = true := decide_eq_true h
theorem e_cat {a b : List PyData} (h : a.length + b.length ≤ 16777216) : p_add (.list a) (.list b) = some (.ac (a ++ b)) := by
  show orF _ (orF q_cat q_catT) (.list a) (.list b) = _
  have e : q_cat (.list a) (.list b) = some (.ac (a ++ b)) := if_pos (okLen_yes h)
  simp only [orF, d_int2, Option.map_none, e]
theorem e_catT {a b : List PyData} (h : a.length + b.length ≤ 16777216) : p_add (.tuple a) (.tuple b) = some (.im (.tuple (a ++ b))) := by
  show orF _ (orF q_cat q_catT) (.tuple a) (.tuple b) = _
  have e : q_catT (.tuple a) (.tuple b) = some (.im (.tuple (a ++ b))) := if_pos (okLen_yes h)
  simp only [orF, d_int2, Option.map_none, q_cat, e]
theorem atI_nat {α : Type} (ds : List α) (j : Nat) : atI ds (j : Int) = ds[j]? := by
  unfold atI ixN
  rw [if_pos (by omega)]
  by_cases h : j < ds.length
  · rw [if_pos (by omega)]
    simp
  · rw [if_neg (by omega), List.getElem?_eq_none (by omega)]
    rfl
theorem unI_ints : ∀ (ns : List Int), unI (ns.map PyData.int) = some ns
  | [] => rfl
  | n :: ns => by
    show (unI (ns.map PyData.int)).map (n :: ·) = _
    rw [unI_ints ns]
    rfl
theorem rest_wipe (e : Ev) (vs : List Nat) : restE e (wipeE e vs) vs = e := by
  refine List.ext_getElem? fun j => ?_
  by_cases h : j ∈ vs
  · rw [restE_in (wipeE_len vs) h]
  · rw [restE_out h, wipeE_out h]
end DL
namespace DL
open PySem PySem.Spec PySem.W PyProof.Rows L2
theorem r_x_var (i : Nat) (e : Ev) : x_var i e = (match e[i]? with
  | some (some (.im d)) => some (.im d, e)
  | some (some (.ac _)) => some (.br i, e)
  | some (some (.ow _)) => some (.br i, e)
  | _ => none) := of_eq_true (eq_self _)
theorem r_two (fa fb : Fe) (e : Ev) : two fa fb e = (match fa e with
  | some (ra, e1) => (match fb e1 with
    | some (rb, e2) => some (frzR ra, frzR rb, e2)
    | none => none)
  | none => none) := of_eq_true (eq_self _)
theorem r_x_bin (φ : PyData → PyData → Option Rs) (fa fb : Fe) (e : Ev) : x_bin φ fa fb e = (match two fa fb e with
  | some p => (match look2 p with
    | some (a, b, e2) => (match φ a b with
      | some r => some (r, e2)
      | none => none)
    | none => none)
  | none => none) := of_eq_true (eq_self _)
theorem r_t_of (f : Fe) (e : Ev) : t_of f e = (match f e with
  | some (.im (.bool b), e1) => some (b, e1)
  | _ => none) := of_eq_true (eq_self _)
theorem r_t_not (f : Ft) (e : Ev) : t_not f e = (match f e with
  | some (b, e1) => some (!b, e1)
  | none => none) := of_eq_true (eq_self _)
theorem r_t_and (f g : Ft) (e : Ev) : t_and f g e = (match f e with
  | some (true, e1) => g e1
  | some (false, e1) => some (false, e1)
  | none => none) := of_eq_true (eq_self _)
theorem r_t_or (f g : Ft) (e : Ev) : t_or f g e = (match f e with
  | some (true, e1) => some (true, e1)
  | some (false, e1) => g e1
  | none => none) := of_eq_true (eq_self _)
theorem r_x_and (f g : Fe) (e : Ev) : x_and f g e = (match f e with
  | some (.im (.bool true), e1) => g e1
  | some (.im (.bool false), e1) => some (.im (.bool false), e1)
  | _ => none) := of_eq_true (eq_self _)
theorem r_x_not (f : Fe) (e : Ev) : x_not f e = (match f e with
  | some (.im (.bool b), e1) => some (.im (.bool !b), e1)
  | _ => none) := of_eq_true (eq_self _)
theorem r_a_cons (fa : Fe) (fr : Fa) (e : Ev) : a_cons fa fr e = (match fa e with
  | some (r, e1) => (match fr e1 with
    | some (rs, e2) => some (frzR r :: rs, e2)
    | none => none)
  | none => none) := of_eq_true (eq_self _)
theorem r_argsD (fa : Fa) (e : Ev) : argsD fa e = (match fa e with
  | some (rs, e1) => (match lookAll e1 rs with
    | some ds => some (ds, e1)
    | none => none)
  | none => none) := of_eq_true (eq_self _)
theorem r_argsI (fa : Fa) (e : Ev) : argsI fa e = (match fa e with
  | some (rs, e1) => (match imAll rs with
    | some ds => some (ds, e1)
    | none => none)
  | none => none) := of_eq_true (eq_self _)
theorem r_x_tup (fa : Fa) (e : Ev) : x_tup fa e = (match argsI fa e with
  | some (ds, e1) => if okLen ds.length = true then some (.im (.tuple ds), e1) else none
  | none => none) := of_eq_true (eq_self _)
theorem r_x_lst (fa : Fa) (e : Ev) : x_lst fa e = (match argsI fa e with
  | some (ds, e1) => if okLen ds.length = true then some (.ac ds, e1) else none
  | none => none) := of_eq_true (eq_self _)
theorem r_o_at (f : Fe) (e : Ev) : o_at f e = (match f e with
  | some (.im (.int i), e1) => some (some i, e1)
  | _ => none) := of_eq_true (eq_self _)
theorem r_x_sl (fa : Fe) (fl fh : Fo) (e : Ev) : x_sl fa fl fh e = (match fa e with
  | some (r, e1) => (match fl e1 with
    | some (lo, e2) => (match fh e2 with
      | some (hi, e3) => (match lookR e3 (frzR r) with
        | some d => (match sliced lo hi d with
          | some r2 => some (r2, e3)
          | none => none)
        | none => none)
      | none => none)
    | none => none)
  | none => none) := of_eq_true (eq_self _)
theorem r_x_neg (fa : Fe) (e : Ev) : x_neg fa e = (match fa e with
  | some (.im (.int i), e1) => some (.im (.int (-i)), e1)
  | _ => none) := of_eq_true (eq_self _)
theorem r_x_cb (φ : List PyData → Option Rs) (fa : Fa) (e : Ev) : x_cb φ fa e = (match argsD fa e with
  | some (ds, e1) => (match φ ds with
    | some r => some (r, e1)
    | none => none)
  | none => none) := of_eq_true (eq_self _)
theorem r_x_isi (T : Ty) (f : Fe) (e : Ev) : x_isi T f e = (match f e with
  | some (r, e1) => (match lookR e1 (frzR r) with
    | some d => (match isD T d with
      | some b => some (.im (.bool b), e1)
      | none => none)
    | none => none)
  | none => none) := of_eq_true (eq_self _)
theorem r_i_seq (f : Fe) (e : Ev) : i_seq f e = (match f e with
  | some (r, e1) => (match frzR r with
    | .im (.list ds) => some (ds, e1)
    | .im (.tuple ds) => some (ds, e1)
    | _ => none)
  | none => none) := of_eq_true (eq_self _)
theorem r_i_rng1 (fa : Fe) (e : Ev) : i_rng1 fa e = (match fa e with
  | some (.im (.int j), e1) => if rgC j = true then some (rngD 0 j.toNat 1, e1) else none
  | _ => none) := of_eq_true (eq_self _)
theorem r_i_rng2 (fa fb : Fe) (e : Ev) : i_rng2 fa fb e = (match fa e with
  | some (.im (.int i), e1) => (match fb e1 with
    | some (.im (.int j), e2) => if (rgC i && rgC j) = true then some (rngD i (j - i).toNat 1, e2) else none
    | _ => none)
  | _ => none) := of_eq_true (eq_self _)
theorem r_i_rng3 (fa fb fc : Fe) (e : Ev) : i_rng3 fa fb fc e = (match fa e with
  | some (.im (.int i), e1) => (match fb e1 with
    | some (.im (.int j), e2) => (match fc e2 with
      | some (.im (.int c), e3) => if (rgC i && (rgC j && decide (c = -1))) = true then some (rngD i (i - j).toNat (-1), e3) else none
      | _ => none)
    | _ => none)
  | _ => none) := of_eq_true (eq_self _)
theorem r_i_zip (fa fb : Fe) (e : Ev) : i_zip fa fb e = (match two fa fb e with
  | some (.im (.list xs), .im (.list ys), e1) => some (zipD xs ys, e1)
  | some (.im (.tuple xs), .im (.tuple ys), e1) => some (zipD xs ys, e1)
  | _ => none) := of_eq_true (eq_self _)
theorem r_s_seq (f g : Fs) (e : Ev) : s_seq f g e = (match f e with
  | some (.nx e1) => g e1
  | some x => some x
  | none => none) := of_eq_true (eq_self _)
theorem r_s_drop (f : Fe) (e : Ev) : s_drop f e = (match f e with
  | some (_, e1) => some (.nx e1)
  | none => none) := of_eq_true (eq_self _)
theorem r_s_ret (f : Fe) (e : Ev) : s_ret f e = (match f e with
  | some (r, e1) => some (.rt r e1)
  | none => none) := of_eq_true (eq_self _)
theorem r_s_if (c : Ft) (f g : Fs) (e : Ev) : s_if c f g e = (match c e with
  | some (true, e1) => f e1
  | some (false, e1) => g e1
  | none => none) := of_eq_true (eq_self _)
theorem r_s_set (i : Nat) (f : Fe) (e : Ev) : s_set i f e = (match f e with
  | some (r, e1) => if okS [i] e1 = true then (match putA i e1 r with
    | some e2 => some (.nx e2)
    | none => none) else none
  | none => none) := of_eq_true (eq_self _)
theorem r_s_for (fi : Fi) (γ : PyData → Ev → Option Ev) (S : List Nat) (fb : Fs) (e : Ev) : s_for fi γ S fb e = (match fi e with
  | some (ds, e1) => forGo γ S fb ds e1
  | none => none) := of_eq_true (eq_self _)
theorem r_x_app (i : Nat) (fa : Fe) (e : Ev) : x_app i fa e = (if isAc e[i]? = true then (match fa e with
  | some (r, e1) => (match imR (frzR r), e1[i]? with
    | some d, some (some (.ac ds)) => if okLen (ds.length + 1) = true then some (.im .none, e1.set i (some (.ac (ds ++ [d])))) else none
    | _, _ => none)
  | none => none) else none) := of_eq_true (eq_self _)
theorem r_x_call (φ : List PyData → Option Rs) (dds : List PyData) (fa : Fa) (e : Ev) : x_call φ dds fa e = (match argsI fa e with
  | some (ds, e1) => (match φ (ds ++ dds) with
    | some (.im d) => some (.im d, e1)
    | some (.ac cs) => some (.ac cs, e1)
    | _ => none)
  | none => none) := of_eq_true (eq_self _)
theorem r_s_setF (i : Nat) (f : Fe) (e : Ev) : s_setF i f e = (match f e with
  | some (r, e1) => if okS [i] e1 = true then (match putA i e1 (frzR r) with
    | some e2 => some (.nx e2)
    | none => none) else none
  | none => none) := by
  unfold s_setF s_set
  cases h : f e with
  | none => simp only [h]
  | some z => simp only [h] <;> rfl
end DL
namespace DL
open PySem PySem.Spec PySem.W PyProof.Rows L2
section
variable {f g : Fs} {e e1 : Ev} {r : Rs} {o : Option Fl} {x : Fe} {ds : List PyData} {fi : Fi} {γ : PyData → Ev → Option Ev} {S : List Nat} {fb : Fs} {c : Ft} {b : Bool} {n nl : Nat} {r' : Rs}
theorem ifT (h : c e = some (true, e1)) (k : f e1 = o) : s_if c f g e = o := by
  rw [r_s_if, h]
  exact k
theorem ifF (h : c e = some (false, e1)) (k : g e1 = o) : s_if c f g e = o := by
  rw [r_s_if, h]
  exact k
theorem sf (h : fi e = some (ds, e1)) (k : forGo γ S fb ds e1 = o) : s_for fi γ S fb e = o := by
  rw [r_s_for, h]
  exact k
theorem ret (h : x e = some (r, e1)) : s_ret x e = some (.rt r e1) := by
  rw [r_s_ret, h]
theorem setF {i : Nat} {d : PyData} (h : x e = some (r, e1)) (ok : okS [i] e1 = true) (hr : frzR r = .im d) : s_setF i x e = some (.nx (e1.set i (some (.im d)))) := by
  rw [r_s_setF, h]
  simp only [ok, hr, putA]
  rfl
theorem setX {i : Nat} {e2 : Ev} (h : x e = some (r, e1)) (ok : okS [i] e1 = true) (hr : putA i e1 r = some e2) : s_set i x e = some (.nx e2) := by
  rw [r_s_set, h]
  simp only [ok, hr]
  rfl
theorem drop (h : x e = some (r, e1)) : s_drop x e = some (.nx e1) := by
  rw [r_s_drop, h]
theorem iseqA (h : x e = some (.ac ds, e1)) : i_seq x e = some (ds, e1) := by
  simp [r_i_seq, h, frzR]
theorem iseqL (h : x e = some (.im (.list ds), e1)) : i_seq x e = some (ds, e1) := by
  simp [r_i_seq, h, frzR]
theorem iseqT (h : x e = some (.im (.tuple ds), e1)) : i_seq x e = some (ds, e1) := by
  simp [r_i_seq, h, frzR]
theorem bang (h : x e = some (.im (.bool b), e1)) : t_of x e = some (b, e1) := by
  rw [r_t_of, h]
end
theorem callI {φ : List PyData → Option Rs} {dds ds ds' : List PyData} {fa : Fa} {e e1 : Ev} {d : PyData} (ha : argsI fa e = some (ds, e1)) (hd : ds ++ dds = ds') (h : φ ds' = some (.im d)) : x_call φ dds fa e = some (.im d, e1) := by
  rw [r_x_call, ha]
  simp only [hd, h]
theorem callA {φ : List PyData → Option Rs} {dds ds ds' cs : List PyData} {fa : Fa} {e e1 : Ev} (ha : argsI fa e = some (ds, e1)) (hd : ds ++ dds = ds') (h : φ ds' = some (.ac cs)) : x_call φ dds fa e = some (.ac cs, e1) := by
  rw [r_x_call, ha]
  simp only [hd, h]
theorem a0 {e : Ev} : argsI a_nil e = some ([], e) := rfl
theorem aI {f : Fe} {fa : Fa} {e e1 e2 : Ev} {d : PyData} {ds : List PyData} (h : f e = some (.im d, e1)) (k : argsI fa e1 = some (ds, e2)) : argsI (a_cons f fa) e = some (d :: ds, e2) := by
  rw [r_argsI] at k ⊢
  rw [r_a_cons, h]
  cases z : fa e1 with
  | none => rw [z] at k; cases k
  | some p =>
    obtain ⟨rs, e3⟩ := p
    rw [z] at k
    cases y : imAll rs with
    | none => simp only [y] at k; cases k
    | some es =>
      simp only [y, Option.some.injEq, Prod.mk.injEq] at k
      obtain ⟨rfl, rfl⟩ := k
      simp only [z, imAll, frzR, imR, y]
theorem aA {f : Fe} {fa : Fa} {e e1 e2 : Ev} {cs : List PyData} {ds : List PyData} (h : f e = some (.ac cs, e1)) (k : argsI fa e1 = some (ds, e2)) : argsI (a_cons f fa) e = some (.list cs :: ds, e2) := by
  rw [r_argsI] at k ⊢
  rw [r_a_cons, h]
  cases z : fa e1 with
  | none => rw [z] at k; cases k
  | some p =>
    obtain ⟨rs, e3⟩ := p
    rw [z] at k
    cases y : imAll rs with
    | none => simp only [y] at k; cases k
    | some es =>
      simp only [y, Option.some.injEq, Prod.mk.injEq] at k
      obtain ⟨rfl, rfl⟩ := k
      simp only [z, imAll, frzR, imR, y]
theorem vI {i : Nat} {e : Ev} {d : PyData} (h : e[i]? = some (some (.im d))) : x_var i e = some (.im d, e) := by
  rw [r_x_var, h]
theorem cI {d : PyData} {e : Ev} : x_c d e = some (.im d, e) := rfl
theorem binI {φ : PyData → PyData → Option Rs} {f g : Fe} {e e1 e2 : Ev} {a b : PyData} {r : Rs} (h1 : f e = some (.im a, e1)) (h2 : g e1 = some (.im b, e2)) (h : φ a b = some r) : x_bin φ f g e = some (r, e2) := by
  rw [r_x_bin, r_two, h1]
  simp only [h2, look2, lookR, frzR, h]
theorem tandT {f g : Ft} {e e1 : Ev} {o : Option (Bool × Ev)} (h : f e = some (true, e1)) (k : g e1 = o) : t_and f g e = o := by
  rw [r_t_and, h]
  exact k
theorem tnot {f : Ft} {e e1 : Ev} {b : Bool} (h : f e = some (b, e1)) : t_not f e = some (!b, e1) := by
  rw [r_t_not, h]
theorem rngD0 (m : Nat) : rngD 0 m 1 = (List.range m).map nD := by
  unfold rngD
  refine List.map_congr_left fun k _ => ?_
  unfold nD
  congr 1
  omega
theorem i_rng1_at {fa : Fe} {e e1 : Ev} {m : Nat} (h1 : fa e = some (.im (.int (m : Int)), e1)) (hm : m ≤ 1000000) : i_rng1 fa e = some ((List.range m).map nD, e1) := by
  rw [r_i_rng1, h1]
  have c : rgC (m : Int) = true := decide_eq_true (by omega)
  simp only [c, if_true]
  rw [show (m : Int).toNat = m by omega, rngD0]
end DL
namespace DL
open PySem PySem.Spec PyProof.Rows L2
/-- the values in the order of the parameters -/
def perm {α : Type} (π : List Nat) (xs : List α) : List α := π.filterMap fun i => xs[i]?
theorem vals_get : ∀ {vs : List V} {us : List Value} (i : Nat), Vals vs us → (∃ v u, vs[i]? = some v ∧ us[i]? = some u ∧ RelV v u) ∨ (vs[i]? = none ∧ us[i]? = none)
  | _, _, _, .nil => .inr ⟨rfl, rfl⟩
  | _, _, 0, .cons h _ => .inl ⟨_, _, rfl, rfl, h⟩
  | _, _, i + 1, .cons _ t => by simpa using vals_get i t
theorem vals_perm {vs : List V} {us : List Value} (h : Vals vs us) : ∀ π : List Nat, Vals (perm π vs) (perm π us)
  | [] => .nil
  | i :: π => by
    unfold perm
    rcases vals_get i h with ⟨v, u, h1, h2, h3⟩ | ⟨h1, h2⟩
    · rw [List.filterMap_cons_some h1, List.filterMap_cons_some h2]
      exact .cons h3 (vals_perm h π)
    · rw [List.filterMap_cons_none h1, List.filterMap_cons_none h2]
      exact vals_perm h π
theorem vals_app : ∀ {vs zs : List V} {us ws : List Value}, Vals vs us → Vals zs ws → Vals (vs ++ zs) (us ++ ws)
  | _, _, _, _, .nil, q => q
  | _, _, _, _, .cons h t, q => .cons h (vals_app t q)
theorem dpAll_perm {K : PySem.W.Frag} {G : Hp} {vs : List V} {ds : List PyData} (h : DpAll K G vs ds) : ∀ π : List Nat, DpAll K G (perm π vs) (perm π ds)
  | [] => .nil
  | i :: π => by
    unfold perm
    cases h1 : ds[i]? with
    | some d =>
      obtain ⟨v, h2, h3⟩ := dpAll_get h h1
      rw [List.filterMap_cons_some h1, List.filterMap_cons_some h2]
      exact .cons h3 (dpAll_perm h π)
    | none =>
      have h2 : vs[i]? = none := by
        rw [List.getElem?_eq_none_iff] at h1 ⊢
        rw [dpAll_len h]
        exact h1
      rw [List.filterMap_cons_none h1, List.filterMap_cons_none h2]
      exact dpAll_perm h π
/-- a def that is called with n values by place and the keywords ks -/
structure KfK (P : Program) (w : World) (K : PySem.W.Frag) (mg : Str → Option Value) (base : Heap) (k : Nat) (x : Str) (sp : Sp) (n : Nat) (ks : List Str) (π : List Nat) : Prop where
  ex : ∃ (f : Addr) (fd : FuncData) (ps : List Str), FnOk P w K mg base CX0 k f fd ps sp ∧ mg x = some (.ref f) ∧ PySem.W.keepIn K (.ref f) = true ∧ KBn K fd ps n ks (fun us ws => perm π (us ++ ws)) (fun vs zs => perm π (vs ++ zs))
theorem kbn_of {K : PySem.W.Frag} {x qual : Str} {params : Arguments} {body : List Stmt} {scope : Scope} {kws : List (Str × V)} {f : Addr} {fd : FuncData} {ps : List Str} (F : FunD K x qual params body scope [] kws f fd) (n : Nat) (ks : List Str) (π : List Nat)
    (h : ∀ (kV doc pm : Value) (an : Option Addr) (cdv ct : Value) (us ws : List Value), us.length = n → ws.length = ks.length → bindArgs (PySem.W.fnOf x qual params body scope .none kV doc pm an cdv ct) ⟨us, ks.zip ws⟩ = pure (ps.zip (perm π (us ++ ws)))) :
    KBn K fd ps n ks (fun us ws => perm π (us ++ ws)) (fun vs zs => perm π (vs ++ zs)) := by
  obtain ⟨_, _, _, kv, dc, md, an, cd, cl, _, same, _, _, noDefaults, _⟩ := F.ex
  subst same
  cases noDefaults with
  | inr some_ => exact absurd rfl some_.1
  | inl none_ =>
    obtain ⟨_, rfl⟩ := none_
    exact ⟨fun _ us ws _ n1 n2 => .of_eq (h kv dc md an cd cl us ws n1 n2), fun r1 r2 => vals_perm (vals_app r1 r2) π⟩
structure KD (X : Cx) (kws : List Keyword) (f : Fa) : Prop where
  ex : ∃ t : TA, PK X kws t ∧ ∀ (m : Option Addr) (E : Ef) (G0 G : Hp) (e : Ev) (σ : St) (H : Hp) (rs : List Rs) (e' : Ev) (Q : List V → Hp → Prop),
    Rl X.K m E G0 G e σ H → f e = some (rs, e') → (∀ vs G' H', Rl X.K m E G0 G' e' σ H' → Stp σ G H e G' H' e' → VrAll X.K E G' H' σ e' vs rs → Q vs H') → t σ H Q
section
variable {X : Cx} {a : Expr} {kws : List Keyword} {fa : Fe} {fr : Fa} {nm : Option Str} {kpos : Pos}
theorem kd_nil : KD X [] a_nil := ⟨_, pk_nil, fun m E G0 G e σ H rs e' Q R q P => by
  cases q
  exact P [] G H R Stp.refl True.intro⟩
theorem kd_cons (ha : ED X a fa) (hr : KD X kws fr) : KD X (⟨nm, a, kpos⟩ :: kws) (a_cons fa fr) := by
  obtain ⟨t, p, k⟩ := ha
  obtain ⟨t2, p2, k2⟩ := hr
  refine ⟨_, pk_cons p p2, fun m E G0 G e σ H rs e' Q R q P => ?_⟩
  unfold a_cons at q
  cases h1 : fa e with
  | none => simp only [h1] at q; cases q
  | some z =>
    obtain ⟨r, e1⟩ := z
    simp only [h1] at q
    cases h2 : fr e1 with
    | none => simp only [h2] at q; cases q
    | some z2 =>
      obtain ⟨rs2, e2⟩ := z2
      simp only [h2, Option.some.injEq, Prod.mk.injEq] at q
      obtain ⟨rfl, rfl⟩ := q
      refine k m E G0 G e σ H r e1 _ R h1 fun v G1 H1 R1 S1 V1 N1 => ?_
      obtain ⟨G1', R1', S1', s1, V1'⟩ := R1.freeze S1 V1 N1
      refine k2 m E G0 G1' e1 σ H1 rs2 e2 _ R1' h2 fun vs G2 H2 R2 S2 V2 => ?_
      exact P (v :: vs) G2 H2 R2 (S1'.trans S2) ⟨V1'.stp S2, V2⟩
end
def x_callK (φ : List PyData → Option Rs) (π : List Nat) (fa fk : Fa) : Fe := fun e => match argsI fa e with
  | some (ds, e1) => (match argsI fk e1 with
    | some (zs, e2) => (match φ (perm π (ds ++ zs)) with
      | some (.im d) => some (.im d, e2)
      | some (.ac cs) => some (.ac cs, e2)
      | _ => none)
    | none => none)
  | none => none
section
variable {X : Cx} {a : Expr} {es : List Expr} {kws : List Keyword} {fa fk : Fa} {p pos : Pos} {x : Str} {j k n m : Nat} {ks : List Str} {π : List Nat}
theorem vrAll_len {K : PySem.W.Frag} {E : Ef} {G H : Hp} {σ : St} {e : Ev} : ∀ {vs : List V} {rs : List Rs}, VrAll K E G H σ e vs rs → vs.length = rs.length
  | [], [], _ => rfl
  | _ :: _, _ :: _, h => congrArg (· + 1) (vrAll_len h.2)
  | [], _ :: _, h => h.elim
  | _ :: _, [], h => h.elim
theorem callK_ok {φ : List PyData → Option Rs} {t tk : TA} (hn : ∀ ds, (φ ds).isSome = true → ds.length = n)
    (kk : ∀ (m : Option Addr) (E : Ef) (G0 G : Hp) (e : Ev) (σ : St) (H : Hp) (rs : List Rs) (e' : Ev) (Q : List V → Hp → Prop),
    Rl X.K m E G0 G e σ H → fa e = some (rs, e') → (∀ vs G' H', Rl X.K m E G0 G' e' σ H' → Stp σ G H e G' H' e' → VrAll X.K E G' H' σ e' vs rs → Q vs H') → t σ H Q)
    (kz : ∀ (m : Option Addr) (E : Ef) (G0 G : Hp) (e : Ev) (σ : St) (H : Hp) (rs : List Rs) (e' : Ev) (Q : List V → Hp → Prop),
    Rl X.K m E G0 G e σ H → fk e = some (rs, e') → (∀ vs G' H', Rl X.K m E G0 G' e' σ H' → Stp σ G H e G' H' e' → VrAll X.K E G' H' σ e' vs rs → Q vs H') → tk σ H Q)
    (l1 : ∀ {e e' : Ev} {rs : List Rs}, fa e = some (rs, e') → rs.length = j) (l2 : ∀ {e e' : Ev} {rs : List Rs}, fk e = some (rs, e') → rs.length = k)
    (m : Option Addr) (E : Ef) (G0 G : Hp) (e : Ev) (σ : St) (H : Hp) (rr : Rs) (e' : Ev) (Q : VK) (R : Rl X.K m E G0 G e σ H) (q : x_callK φ π fa fk e = some (rr, e')) (P : Po X.K m E G0 σ G H e rr e' Q) :
    tCallN j k (spD X.K n φ) (fun vs zs => perm π (vs ++ zs)) E0 t tk σ H Q := by
  unfold x_callK at q
  cases h1 : argsI fa e with
  | none => simp only [h1] at q; cases q
  | some z =>
    obtain ⟨ds, e1⟩ := z
    simp only [h1] at q
    obtain ⟨rs, q1, q2⟩ := argsI_ok h1
    cases h3 : argsI fk e1 with
    | none => simp only [h3] at q; cases q
    | some z2 =>
      obtain ⟨zs, e2⟩ := z2
      simp only [h3] at q
      obtain ⟨rs2, q3, q4⟩ := argsI_ok h3
      have main : ∀ r, φ (perm π (ds ++ zs)) = some r → r = rr ∧ e2 = e' → tCallN j k (spD X.K n φ) (fun vs zs => perm π (vs ++ zs)) E0 t tk σ H Q := fun r h2 ⟨z1, z2⟩ => by
        subst z1 z2
        refine kk m E G0 G e σ H rs e1 _ R q1 fun vs G1 H1 R1 S1 V1 => ?_
        refine kz m E G0 G1 e1 σ H1 rs2 e2 _ R1 q3 fun ws G2 H2 R2 S2 V2 => ?_
        have D1 := vr_imAll V1 q2
        have D2 := vr_imAll V2 q4
        have D3 := dpAll_perm (dpAll_app (dpAll_same S2.gg D1) D2) π
        refine ⟨(vrAll_len V1).trans (l1 q1), (vrAll_len V2).trans (l2 q3), G2, perm π (ds ++ zs), r, R2.gh, D3, ?_, h2, fun v G' H' s1 s2 s3 nw vr => ?_⟩
        · rw [dpAll_len D3]
          exact hn _ (by rw [h2]; rfl)
        · obtain ⟨R3, S3⟩ := R2.called s1 s2 s3 nw
          obtain ⟨V3, N3⟩ := R2.vrf vr fun a o z _ => s3 a o z
          have S12 := S1.trans S2
          exact P v G' H' R3 (S12.trans S3) V3 (nw_back S12 v N3)
      cases h2 : φ (perm π (ds ++ zs)) with
      | none => simp only [h2] at q; cases q
      | some r =>
        cases r with
        | im d =>
          simp only [h2, Option.some.injEq, Prod.mk.injEq] at q
          exact main _ h2 q
        | ac d =>
          simp only [h2, Option.some.injEq, Prod.mk.injEq] at q
          exact main _ h2 q
        | br d => simp only [h2] at q; cases q
theorem pe_callN0 {CX : CXT} {f : Addr} {fd : FuncData} {ps : List Str} {sp : Sp} {E : XK} {tk : TA} {g : List Value → List Value → List Value} {gV : List V → List V → List V} (F : FnOk X.prog X.w X.K X.mg X.base CX k f fd ps sp) (hr : Room k X.A) (hg : Gl X x) (hm : X.mg x = some (.ref f))
    (hk : PySem.W.keepIn X.K (.ref f) = true) (hb : KBn X.K fd ps 0 ks g gV) (hx : Passes CX X E) (hkw : PK X kws tk)
    (hall : (backToKw pos (keywordEach kws X.env)).all (·.1.isSome) = true) (hks : (backToKw pos (keywordEach kws X.env)).filterMap (·.1) = ks)
    (hpl : ((backTo pos (starEach [] X.env)).any (·.1) || (backToKw pos (keywordEach kws X.env)).any (·.1.isNone)) = false) (hdb : (x == ("__debug__" : Str)) = false) :
    PE X (.Call (.Name x p) [] kws pos) (tCallN 0 ks.length sp gV E tNil tk) :=
  ⟨fun pins s σ H Q I h => wpAny_Call_Name_kw (ld_glob I hg hm (PySem.W.callWith_KW0 (h₀ := X.base) I.ok.mod.kin hk hall (thn (hkw.run pos pins s σ H _ I h) fun ws s' ⟨zs, H', I', rz, len0, lenK, q⟩ =>
    ⟨I'.kIn, hks.symm ▸ run_fnN F hr hb hx I' .nil rz len0 lenK q⟩) hpl) hdb)⟩
theorem ed_callK0 {φ : List PyData → Option Rs} (F : KfK X.prog X.w X.K X.mg X.base k x (spD X.K n φ) 0 ks π) (hr : Room j X.A) (hk : k ≤ j) (hn : ∀ ds, (φ ds).isSome = true → ds.length = n) (h : KD X kws fk)
    (l2 : ∀ {e e' : Ev} {rs : List Rs}, fk e = some (rs, e') → rs.length = ks.length) (hg : Gl X x := by rfl)
    (hall : (backToKw pos (keywordEach kws X.env)).all (·.1.isSome) = true := by rfl) (hks : (backToKw pos (keywordEach kws X.env)).filterMap (·.1) = ks := by rfl)
    (hpl : ((backTo pos (starEach [] X.env)).any (·.1) || (backToKw pos (keywordEach kws X.env)).any (·.1.isNone)) = false := by rfl) (hdb : (x == ("__debug__" : Str)) = false := by decide) :
    ED X (.Call (.Name x p) [] kws pos) (x_callK φ π a_nil fk) := by
  obtain ⟨f, fd, ps, F, hm, kp, hb⟩ := F.ex
  obtain ⟨t, pk, kz⟩ := h
  refine ⟨_, pe_callN0 F (hr.mono hk) hg hm kp hb (E := E0) (fun _ _ _ _ _ _ _ z => z.elim) pk hall hks hpl hdb, callK_ok hn (fun m E G0 G e σ H rs e' Q R q P => ?_) kz (fun q => ?_) l2⟩
  · cases q
    exact P [] G H R Stp.refl True.intro
  · cases q
    rfl
theorem len_nil {e e' : Ev} {rs : List Rs} (q : a_nil e = some (rs, e')) : rs.length = 0 := by
  cases q
  rfl
theorem len_cons {fe : Fe} {fr : Fa} {n : Nat} (h : ∀ {e e' : Ev} {rs : List Rs}, fr e = some (rs, e') → rs.length = n) {e e' : Ev} {rs : List Rs} (q : a_cons fe fr e = some (rs, e')) : rs.length = n + 1 := by
  unfold a_cons at q
  split at q
  · split at q
    · rename_i z
      cases q
      exact congrArg (· + 1) (h z)
    · cases q
  · cases q
end
end DL
namespace DL
open PySem PySem.Spec PyProof.Rows L2
theorem spD_void {K : PySem.W.Frag} {n : Nat} {vs : List V} {H : Hp} {Q : VK} {E : XK} (h : spD K n (fun _ => none) vs H Q E) : False := by
  obtain ⟨_, _, _, _, _, _, h, _⟩ := h
  cases h
theorem fn_void {P : Program} {w : World} {K : PySem.W.Frag} {mg : Str → Option Value} {base : Heap} {CX : CXT} {k n : Nat} {f : Addr} {fd : FuncData} {ps : List Str} : FnOk P w K mg base CX k f fd ps (spD K n (fun _ => none)) :=
  ⟨fun _ _ _ _ h => (spD_void h).elim, by
    intros
    exact (spD_void (by assumption)).elim⟩
end DL
namespace DL
open L2 PySem PySem.Spec PySem.W PyProof.Rows
section
variable {K : PySem.W.Frag} {m : Option Addr} {E : Ef} {G0 G H H1 H2 : Hp} {e : Ev} {σ : St} {i : Nat} {p q : Addr}
/-- the frame, an object exchanged -/
def Ef.put (E : Ef) (q : Addr) (hb : E.b q = none) (o : Option HO) : Ef := ⟨fun a => if a = q then o else E.h a, E.b, fun a u z => by
  have n : a ≠ q := ne_of_none z hb
  rw [if_neg n]
  exact E.sub a u z⟩
theorem Wl.frame {E' : Ef} (w : Wl K m E G e σ H) (h : ∀ a, E a = none → OwnW σ e H a → E' a = none) (hb : E'.b = E.b := by rfl) : Wl K m E' G e σ H := ⟨w.at_, fun a z => ⟨(w.out a z).1, (w.out a z).2.1, (w.out a z).2.2.1, by
  rcases (w.out a z).2.2.2 with y | y
  · exact .inl (h a y z)
  · exact .inr y⟩, w.one, w.al, by rw [hb]; exact w.pin⟩
end
end DL
namespace DL
open L2 PySem PySem.Spec PySem.W PyProof.Rows
def PoSN (K : PySem.W.Frag) (m : Option Addr) (B : Bs) (G0 G : Hp) (D : Ends) : Fl → Prop
  | .nx e => ∀ (E : Ef) G' σ H, E.b = B → Same G G' → Rz K m E G0 G' e σ H → D.nx σ H
  | .bk e => ∀ (E : Ef) G' σ H, E.b = B → Same G G' → Rz K m E G0 G' e σ H → D.bk σ H
  | .ct e => ∀ (E : Ef) G' σ H, E.b = B → Same G G' → Rz K m E G0 G' e σ H → D.ct σ H
  | .rt r e => ∀ (E : Ef) v G' σ H, E.b = B → Same G G' → Rz K m E G0 G' e σ H → Vr K E G' H σ e v r → D.rt v H
structure SDN (X : Cx) (st : Stmt) (f : Fs) : Prop where
  ex : ∃ t : TS, PS X st t ∧ ∀ (m : Option Addr) (E : Ef) (G0 G : Hp) (e : Ev) (σ : St) (H : Hp) (fl : Fl) (D : Ends),
    Rz X.K m E G0 G e σ H → f e = some fl → PoSN X.K m E.b G0 G D fl → t D σ H
structure SsDN (X : Cx) (sts : List Stmt) (f : Fs) : Prop where
  ex : ∃ t : TS, PSs X sts t ∧ ∀ (m : Option Addr) (E : Ef) (G0 G : Hp) (e : Ev) (σ : St) (H : Hp) (fl : Fl) (D : Ends),
    Rz X.K m E G0 G e σ H → f e = some fl → PoSN X.K m E.b G0 G D fl → t D σ H
section
variable {K : PySem.W.Frag} {m : Option Addr} {B : Bs} {G0 G G' H : Hp} {E : Ef} {D : Ends} {fl : Fl} {e : Ev} {σ : St}
theorem PoSN.aft (P : PoSN K m B G0 G D fl) (s : Same G G') : PoSN K m B G0 G' D fl := by
  cases fl with
  | nx e => exact fun E G2 σ H b s2 R => P E G2 σ H b (s.trans s2) R
  | bk e => exact fun E G2 σ H b s2 R => P E G2 σ H b (s.trans s2) R
  | ct e => exact fun E G2 σ H b s2 R => P E G2 σ H b (s.trans s2) R
  | rt r e => exact fun E v G2 σ H b s2 R V => P E v G2 σ H b (s.trans s2) R V
theorem PoSN.pos (P : PoSN K m E.b G0 G D fl) : PoS K m E G0 G D fl := by
  cases fl with
  | nx e => exact fun G' σ H s R => P E G' σ H rfl s R
  | bk e => exact fun G' σ H s R => P E G' σ H rfl s R
  | ct e => exact fun G' σ H s R => P E G' σ H rfl s R
  | rt r e => exact fun v G' σ H s R V => P E v G' σ H rfl s R V
end
section
variable {X : Cx} {st : Stmt} {rest sts : List Stmt} {f g : Fs} {pos : Pos} {a : Expr} {fe : Fe}
theorem SDN.fz (j : Nat) (h : SDN X st f) (hj : j ≠ 0 := by decide) : SDN X st (s_fz j f) := by
  obtain ⟨t, p, k⟩ := h
  refine ⟨_, p, fun m E G0 G e σ H fl D R q P => ?_⟩
  obtain ⟨G', s, R'⟩ := R.fz hj
  exact k m E G0 G' _ σ H fl D R' q (P.aft s)
end
section
variable {K : PySem.W.Frag} {m : Option Addr} {E : Ef} {G0 G H : Hp} {e : Ev} {σ : St} {i : Nat}
/-- slot i is not the caller's list -/
theorem Rz.set (R : Rz K m E G0 G e σ H) {E' : Ef} {G' H' : Hp} {s : Option Sl} (ok : okS [i] e = true) (R' : Rl K m E' G0 G' (e.set i s) σ H') : Rz K m E' G0 G' (e.set i s) σ H' :=
  ⟨R', fun p z => by
    obtain ⟨z1, z2⟩ := R.z p z
    have n : i ≠ 0 := fun y => okS_no ok z1 (by rw [y]; exact List.mem_singleton.mpr rfl)
    rw [List.getElem?_set_ne n]
    exact ⟨z1, z2⟩⟩
end
end DL
namespace DL
open L2 PySem PySem.Spec PySem.W PyProof.Rows
end DL
namespace DL
open L2 PySem PySem.Spec PySem.W PyProof.Rows
end DL
namespace DL
open L2 PySem PySem.Spec PySem.W PyProof.Rows
end DL
namespace DL
open L2 PySem PySem.Spec PySem.W PyProof.Rows
def isNoneD : PyData → Bool
  | .none => true
  | _ => false
theorem notNone {d : PyData} (h : (!isNoneD d) = true) : d ≠ .none := fun z => by
  rw [z] at h
  cases h
def okOrd (a b : PyData) : Bool := (alike a b && (noDict a && noDict b)) && (!isNoneD a && decide (a.depth ≤ 64))
def d_ord (f : PyData → PyData → Bool) (a b : PyData) : Option PyData := if okOrd a b = true then some (.bool (f a b)) else none
def rOrd (K : PySem.W.Frag) (f : PyData → PyData → Bool) : R2 := fun x y H Q => ∃ a b, Dp K H x a ∧ Dp K H y b ∧ okOrd a b = true ∧ Q (.bl (f a b)) H
def q_lt : PyData → PyData → Option Rs := orF p_lt fun a b => (d_ord (fun a b => dataLt a b) a b).map Rs.im
def q_gt : PyData → PyData → Option Rs := orF p_gt fun a b => (d_ord (fun a b => dataLt b a) a b).map Rs.im
def q_le : PyData → PyData → Option Rs := orF p_le fun a b => (d_ord (fun a b => !dataLt b a) a b).map Rs.im
def q_ge : PyData → PyData → Option Rs := orF p_ge fun a b => (d_ord (fun a b => !dataLt a b) a b).map Rs.im
theorem vb_ord {K : PySem.W.Frag} {f : PyData → PyData → Bool} : VB K (rOrd K f) (fun a b => (d_ord f a b).map Rs.im) := VB.pure fun G H x y dx dy d Q s lx ly q P => by
  unfold d_ord at q
  by_cases z : okOrd dx dy = true
  · rw [if_pos z] at q
    cases q
    exact ⟨dx, dy, lx.dp s, ly.dp s, z, P _ (.bl _)⟩
  · rw [if_neg z] at q
    cases q
section
variable {X : Cx}
theorem ord_ok {a b : PyData} (h : okOrd a b = true) : alike a b = true ∧ a ≠ .none ∧ a.depth ≤ 64 ∧ noDict a = true ∧ noDict b = true := by
  unfold okOrd at h
  simp only [Bool.and_eq_true] at h
  exact ⟨h.1.1, notNone h.2.1, of_decide_eq_true h.2.2, h.1.2.1, h.1.2.2⟩
theorem op_ord {op : CmpOp} {f : PyData → PyData → Bool} (hu : X.A.units + 64 < cLine)
    (k : ∀ {s : Shared} {a b : Value} {da db : PyData} {as bs : List Addr} {Q : Value → Shared → Prop}, Reads s.heap a da as → Reads s.heap b db bs → alike da db = true → da ≠ .none → X.A.units + min da.depth db.depth < cLine → Q (.bool (f da db)) s → wpAny (model X.prog X.w) X.A (compareOp op a b) Q X.xe s) :
    OpR X (compareOp op) (rOrd X.K f) := by
  rintro pins s σ H x y v u Q I rx ry ⟨a, b, hx, hy, ok, q⟩
  obtain ⟨o1, o2, o3, o4, o5⟩ := ord_ok ok
  obtain ⟨as, ra⟩ := L2.Dp.reads I a x v (hx.lib o4) rx
  obtain ⟨bs, rb⟩ := L2.Dp.reads I b y u (hy.lib o5) ry
  exact k ra rb o1 o2 (by omega) ⟨.bl _, H, I, rfl, q⟩
theorem vq_lt : VB X.K (fun x y H Q => (rI0 fun i j => .bl (decide (i < j))) x y H Q ∨ rOrd X.K (fun a b => dataLt a b) x y H Q) q_lt := VB.or vb_lt vb_ord
theorem vq_gt : VB X.K (fun x y H Q => (rI0 fun i j => .bl (decide (j < i))) x y H Q ∨ rOrd X.K (fun a b => dataLt b a) x y H Q) q_gt := VB.or vb_gt vb_ord
theorem vq_le : VB X.K (fun x y H Q => (rI0 fun i j => .bl (decide (i ≤ j))) x y H Q ∨ rOrd X.K (fun a b => !dataLt b a) x y H Q) q_le := VB.or vb_le vb_ord
theorem vq_ge : VB X.K (fun x y H Q => (rI0 fun i j => .bl (decide (j ≤ i))) x y H Q ∨ rOrd X.K (fun a b => !dataLt a b) x y H Q) q_ge := VB.or vb_ge vb_ord
theorem oq_lt (hu : X.A.units + 64 < cLine) : OpR X (compareOp .Lt) (fun x y H Q => (rI0 fun i j => .bl (decide (i < j))) x y H Q ∨ rOrd X.K (fun a b => dataLt a b) x y H Q) :=
  OpR.or op_lt (op_ord hu fun ra rb h hn hz q => lt_data ra rb h hn hz q)
theorem oq_gt (hu : X.A.units + 64 < cLine) : OpR X (compareOp .Gt) (fun x y H Q => (rI0 fun i j => .bl (decide (j < i))) x y H Q ∨ rOrd X.K (fun a b => dataLt b a) x y H Q) :=
  OpR.or op_gt (op_ord hu fun ra rb h hn hz q => gt_data ra rb h hn hz q)
theorem oq_le (hu : X.A.units + 64 < cLine) : OpR X (compareOp .LtE) (fun x y H Q => (rI0 fun i j => .bl (decide (i ≤ j))) x y H Q ∨ rOrd X.K (fun a b => !dataLt b a) x y H Q) :=
  OpR.or op_le (op_ord hu fun ra rb h hn hz q => le_data ra rb h hn hz q)
theorem oq_ge (hu : X.A.units + 64 < cLine) : OpR X (compareOp .GtE) (fun x y H Q => (rI0 fun i j => .bl (decide (j ≤ i))) x y H Q ∨ rOrd X.K (fun a b => !dataLt a b) x y H Q) :=
  OpR.or op_ge (op_ord hu fun ra rb h hn hz q => ge_data ra rb h hn hz q)
end
end DL
namespace DL
open L2 PySem PySem.Spec PySem.W PyProof.Rows
section
variable {i j : Int}
theorem e_qlt : q_lt (.int i) (.int j) = some (.im (.bool (decide (i < j)))) := rfl
theorem e_qle : q_le (.int i) (.int j) = some (.im (.bool (decide (i ≤ j)))) := rfl
theorem e_qgt : q_gt (.int i) (.int j) = some (.im (.bool (decide (j < i)))) := rfl
theorem e_qge : q_ge (.int i) (.int j) = some (.im (.bool (decide (j ≤ i)))) := rfl
end
/-- an item told by the number of a version -/
def gv {α : Type} [Inhabited α] (l : List α) (v : Nat) : α := l.getD (v - 1) default
theorem gv_get {α : Type} [Inhabited α] {l : List α} {k : Nat} (h : k < l.length) : l[k]? = some (gv l (k + 1)) := by
  unfold gv
  rw [Nat.add_sub_cancel, List.getD_eq_getElem?_getD, List.getElem?_eq_getElem h]
  rfl
section
variable {α : Type} [Inhabited α] {f : α → PyData} {l : List α}
theorem gv_mem {v : Nat} (h : 1 ≤ v) (h2 : v ≤ l.length) : gv l v ∈ l := by
  have := gv_get (l := l) (k := v - 1) (by omega)
  rw [Nat.sub_add_cancel h] at this
  exact List.mem_of_getElem? this
end
def wS (f : Fs) (e : Ev) (Q : Fl → Prop) : Prop := ∃ fl, f e = some fl ∧ Q fl
def seqK (g : Fs) (Q : Fl → Prop) : Fl → Prop
  | .nx e => wS g e Q
  | .bk e => Q (.bk e)
  | .ct e => Q (.ct e)
  | .rt r e => Q (.rt r e)
section
variable {f g : Fs} {e e1 : Ev} {Q : Fl → Prop} {c : Ft} {x : Fe} {r : Rs} {fl : Fl}
theorem w_seq (h : wS f e (seqK g Q)) : wS (s_seq f g) e Q := by
  obtain ⟨fl, h1, h2⟩ := h
  cases fl with
  | nx e1 =>
    obtain ⟨fl, h3, h4⟩ := h2
    exact ⟨fl, by rw [r_s_seq, h1]; exact h3, h4⟩
  | bk e => exact ⟨.bk e, by rw [r_s_seq, h1], h2⟩
  | ct e => exact ⟨.ct e, by rw [r_s_seq, h1], h2⟩
  | rt r e => exact ⟨.rt r e, by rw [r_s_seq, h1], h2⟩
theorem w_nx (q : Q (.nx e)) : wS s_nx e Q := ⟨_, rfl, q⟩
theorem w_ret (h : x e = some (r, e1)) (q : Q (.rt r e1)) : wS (s_ret x) e Q := ⟨_, ret h, q⟩
theorem w_drop (h : x e = some (r, e1)) (q : Q (.nx e1)) : wS (s_drop x) e Q := ⟨_, drop h, q⟩
theorem w_setI {i : Nat} {d : PyData} (h : x e = some (.im d, e1)) (ok : okS [i] e1 = true) (q : Q (.nx (e1.set i (some (.im d))))) : wS (s_setF i x) e Q := ⟨_, setF h ok rfl, q⟩
theorem w_setL {i : Nat} {ds : List PyData} (h : x e = some (.ac ds, e1)) (ok : okS [i] e1 = true) (q : Q (.nx (e1.set i (some (.im (.list ds)))))) : wS (s_setF i x) e Q := ⟨_, setF h ok rfl, q⟩
theorem w_setA {i : Nat} {ds : List PyData} (h : x e = some (.ac ds, e1)) (ok : okS [i] e1 = true) (q : Q (.nx (e1.set i (some (.ac ds))))) : wS (s_set i x) e Q := ⟨_, setX h ok rfl, q⟩
theorem w_setB {i : Nat} {d : PyData} (h : x e = some (.im d, e1)) (ok : okS [i] e1 = true) (q : Q (.nx (e1.set i (some (.im d))))) : wS (s_set i x) e Q := ⟨_, setX h ok rfl, q⟩
theorem w_fz {j : Nat} (h : wS f (fzE j e) Q) : wS (s_fz j f) e Q := h
theorem w_if {b : Bool} (h : c e = some (b, e1)) (t : b = true → wS f e1 Q) (n : b = false → wS g e1 Q) : wS (s_if c f g) e Q := by
  cases b with
  | true =>
    obtain ⟨fl, h1, h2⟩ := t rfl
    exact ⟨fl, ifT h h1, h2⟩
  | false =>
    obtain ⟨fl, h1, h2⟩ := n rfl
    exact ⟨fl, ifF h h1, h2⟩
end
section
variable {e : Ev} {d : PyData} {ds : List PyData} {r : Rs} {rs : List Rs} {i : Nat} {S : List Nat}
theorem n_lookAll1 {e : Ev} {r : Rs} {rs : List Rs} : lookAll e (r :: rs) = (match lookR e r with
    | some d => (match lookAll e rs with
      | some ds => some (d :: ds)
      | none => none)
    | none => none) := rfl
theorem n_max2 {k j : Int} : c_max2 [.int k, .int j] = some (.im (.int (max k j))) := by
  show some (Rs.im (.int (if j > k then j else k))) = _
  congr 3
  split <;> omega
theorem n_min2 {k j : Int} : c_min2 [.int k, .int j] = some (.im (.int (min k j))) := by
  show some (Rs.im (.int (if j < k then j else k))) = _
  congr 3
  split <;> omega
theorem n_all0 {bs : List Bool} : c_all [.list (bs.map PyData.bool)] = some (.im (.bool (bs.all id))) := by
  unfold c_all
  simp only [unB_map]
theorem n_intsL {g : List Int → Option Rs} {ns : List Int} : c_intsL g [.list (ns.map PyData.int)] = g ns := by
  simp only [c_intsL, unI_ints]
end
end DL
namespace DL
open L2 PySem PySem.Spec PySem.W PyProof.Rows
section
variable {P0 : Program} {w0 : World} {A0 : Around} {E0' : Value → Shared → Prop} {s : Shared}
theorem places_rev (n : Nat) : Builtin.Slice.slicePlaces ((n : Int) - 1) (-1) (-1) = n := by
  cases n with
  | zero => decide
  | succ m =>
    have a : ¬ (-1 : Int) > 0 := by omega
    have b : (-1 : Int) < ((m + 1 : Nat) : Int) - 1 := by omega
    simp only [Builtin.Slice.slicePlaces, if_neg a, if_pos b, Int.neg_neg, Int.ediv_one]
    omega
theorem applied_rev {sl : Addr} {u : Tok} {n : Nat} {Q : Int × Int × Nat → Shared → Prop} (hs : s.heap.IsSliceOf sl .none .none (.int (-1) u)) (h : Q ((n : Int) - 1, -1, n) s) : wpAny (model P0 w0) A0 (Builtin.Slice.sliceApplied (.ref sl) (pure (n : Int))) Q E0' s := by
  obtain ⟨so, e1, e2, e3⟩ := id hs
  have parts : ∀ {K : Value × Value × Value → Shared → Prop}, K (.none, .none, .int (-1) u) s → wpAny (model P0 w0) A0 (Builtin.Slice.sliceFields (.ref sl)) K E0' s := fun {K} k => by
    unfold Builtin.Slice.sliceFields
    exact wpAny_bind (wpAny_field e1 e3 (x := .none) rfl (wpAny_bind (wpAny_field e1 e3 (x := .none) rfl (wpAny_bind (wpAny_field e1 e3 (x := .int (-1) u) rfl (wpAny_pure k))))))
  have rest : wpAny (model P0 w0) A0 (pure ((n : Int) - 1, (-1 : Int), Builtin.Slice.slicePlaces ((n : Int) - 1) (-1) (-1))) Q E0' s := by
    rw [places_rev]
    exact wpAny_pure h
  unfold Builtin.Slice.sliceApplied
  refine wpAny_bind (parts (wpAny_bind (HT.slicePart_ (IsPart.int (-1) u) ?_)))
  have two : ((-1 : Int) == 0) = false := rfl
  simp only [two]
  exact wpAny_bind (HT.slicePart_ IsPart.none (wpAny_bind (HT.slicePart_ IsPart.none (wpAny_bind (wpAny_pure rest)))))
theorem fm_congr {α β : Type} {f g : α → Option β} : ∀ {l : List α}, (∀ x ∈ l, f x = g x) → l.filterMap f = l.filterMap g
  | [], _ => rfl
  | a :: l, h => by
    rw [List.filterMap_cons, List.filterMap_cons, h a List.mem_cons_self, fm_congr fun x m => h x (List.mem_cons_of_mem _ m)]
theorem fm_self {α : Type} : ∀ r : List α, (List.range r.length).filterMap (fun k => r[k]?) = r
  | [] => rfl
  | a :: r => by
    rw [List.length_cons, List.range_succ_eq_map, List.filterMap_cons, List.filterMap_map]
    have := fm_self r
    show a :: (List.range r.length).filterMap (fun k => (a :: r)[k + 1]?) = a :: r
    simp only [List.getElem?_cons_succ]
    rw [this]
theorem pick_backL {α : Type} (l : List α) : (List.range l.length).filterMap (fun (k : Nat) => l[(((l.length : Int) - 1) + (k : Int) * (-1)).toNat]?) = l.reverse := by
  have e2 := fm_self l.reverse
  rw [List.length_reverse] at e2
  rw [← e2]
  refine fm_congr fun k hk => ?_
  have hk := List.mem_range.mp hk
  rw [List.getElem?_reverse hk]
  congr 1
  omega
theorem pick_back (xs : Array Value) : ((List.range xs.size).filterMap fun (k : Nat) => xs[(((xs.size : Int) - 1) + (k : Int) * (-1)).toNat]?).toArray = xs.toList.reverse.toArray := by
  congr 1
  have q := pick_backL xs.toList
  rw [Array.length_toList] at q
  simp only [Array.getElem?_toList] at q
  exact q
theorem item_back {t sl : Addr} {xs : Array Value} {u : Tok} {Q : Value → Shared → Prop} (ht : IsTup s.heap t xs) (hs : s.heap.IsSliceOf sl .none .none (.int (-1) u)) (hz : xs.size ≤ sizeLine)
    (h : Q (.ref s.heap.objs.size) { s with heap := s.heap.push { cls := .type "tuple", data := .seq xs.toList.reverse.toArray } }) : wpAny (model P0 w0) A0 (getItem (.ref t) (.ref sl)) Q E0' s := by
  have fit : sizeOk (.seq xs.toList.reverse.toArray) := by
    show xs.toList.reverse.toArray.size ≤ sizeLine
    rw [List.size_toArray, List.length_reverse, Array.length_toList]
    exact hz
  have isS : s.TypeIs (.ref sl) "slice" := by
    obtain ⟨so, e1, e2, _⟩ := hs
    exact ⟨so, e1, e2⟩
  have whole : (((xs.size : Int) - 1) == 0 && (-1 : Int) == 1 && xs.size == xs.size) = false := by simp
  have read : ∀ {A1 : Around} {E1 : Value → Shared → Prop} {R : PySem.Fin → Shared → Prop}, R (.done (.ret (.ref s.heap.objs.size))) { s with heap := s.heap.push { cls := .type "tuple", data := .seq xs.toList.reverse.toArray } } →
      wpAny (model P0 w0) A1 (Builtin.«tuple.__getitem__» ⟨[.ref t, .ref sl], []⟩) R E1 s := fun {A1 E1 R} r => by
    change wpAny (model P0 w0) A1 (Builtin.Tuple.tupleItemsOf (.ref t) >>= fun _ => _) R E1 s
    refine wpAny_bind (tupleItemsOf_ ht (wpAny_bind (wpAny_typeOf isS ?_)))
    rw [if_pos (by decide)]
    refine wpAny_bind (applied_rev hs ?_)
    change wpAny (model P0 w0) A1 (if (((xs.size : Int) - 1) == 0 && (-1 : Int) == 1 && xs.size == xs.size) = true then _ else _) R E1 s
    rw [if_neg (by rw [whole]; exact Bool.noConfusion), pick_back]
    exact wpAny_bind (wpAny_newObj_type (wpAny_pure r) fit)
  unfold getItem
  refine wpAny_holding (wpAny_bind (wpAny_sequenceKey ht.typeIs (by decide) (wpAny_bind (wpAny_callSpecial?_slot (name := Str.ofString "__getitem__") ht.typeIs slot_tuple_getitem (wpAny_call_entry slot_tuple_getitem ht.typeIs entry_tuple_getitem (read ⟨_, rfl, wpAny_pure h⟩) (args_tuple_getitem _ _))))))
/-- what a slice that goes back asks of its tuple -/
def bkT (K : PySem.W.Frag) (Q : VK) (x : V) (lo hi st : Option Int) (H : Hp) : Prop := lo = none ∧ hi = none ∧ st = some (-1) ∧ ∃ a xs, x = .ref a ∧ SqT K H a xs ∧ ∀ p ob, XO ob → H p = none → Q (.ref p) (upd H p (.frz ob (.tup xs.reverse)))
end
theorem pe_revT {X : Cx} {e : Expr} {te : TE} {k : Nat} {p1 p2 p3 pos : Pos} (he : PE X e te) : ∃ tm, PO X (some (.UnaryOp .USub (.Constant (.int 1) k p1) p2)) tm ∧ (∀ σ H Q, Q (some (-1)) H → tm σ H Q) ∧
    PE X (.Subscript e (.Slice none none (some (.UnaryOp .USub (.Constant (.int 1) k p1) p2)) p3) pos) (fun σ H Q => tSl te (fun _ H Q => Q none H) (fun _ H Q => Q none H) tm (bkT X.K Q) σ H) := by
  have minus : PO X (some (.UnaryOp .USub (.Constant (.int 1) k p1) p2)) (tPart (tUn (rU fun i => .int (-i)) (tC (.int 1)))) := po_some (pe_un un_neg pe_int)
  refine ⟨_, minus, fun σ H Q q => ⟨1, rfl, -1, rfl, q⟩, ?_⟩
  constructor
  intro pins s σ H Q I h
  refine run_sl he po_none po_none minus I h ?_
  rintro _ _ _ vl _ vu _ vo s' H' rx pl pu po J ⟨rfl, rfl, rfl, a, xs, rfl, hx, q⟩
  cases rx
  cases pl
  cases pu
  cases po with
  | int _ tk =>
    obtain ⟨its, rv, tp, sz⟩ := J.tuple hx
    refine tail_any (ops := [.ref a, .ref s'.heap.objs.size]) tp.typeIs PyProof.Rows.slot_tuple_getitem.lookup ?_ (by with_unfolding_all rfl)
    refine item_back tp (Heap.IsSliceOf.new _ _ _ _) (by rw [List.size_toArray, ← rv.length]; exact sz) ?_
    exact ⟨.ref _, _, J.laid (t' := s'.toks) (o := .frz { cls := .type "tuple", data := .seq its.toArray.toList.reverse.toArray } (.tup xs.reverse)) (fun _ _ z => Heap.get?_push_of_some _ z) (Nat.le_refl _) (ObjOk.tX (by rw [List.length_reverse]; exact sz) rv.reverse), rfl, q _ _ ⟨rfl, rfl⟩ (J.hok.fresh (Nat.le_refl _))⟩
theorem pe_or {X : Cx} {e : Expr} {t1 t2 : TE} (h1 : PE X e t1) (h2 : PE X e t2) : PE X e (fun σ H Q => t1 σ H Q ∨ t2 σ H Q) :=
  ⟨fun pins s σ H Q I h => h.elim (h1.run pins s σ H Q I) (h2.run pins s σ H Q I)⟩
def x_rvs (fa : Fe) : Fe := fun e => match fa e with
  | some (r, e1) => (match lookR e1 (frzR r) with
    | some (.list ds) => some (.ac ds.reverse, e1)
    | some (.tuple ds) => some (.im (.tuple ds.reverse), e1)
    | _ => none)
  | none => none
theorem ed_rvs {X : Cx} {a : Expr} {fa : Fe} {pos : Pos} {n : Nat} {p1 p2 p3 : Pos} (ha : ED X a fa) : ED X (.Subscript a (.Slice none none (some (.UnaryOp .USub (.Constant (.int 1) n p1) p2)) p3) pos) (x_rvs fa) := by
  obtain ⟨t, p, k⟩ := ha
  obtain ⟨tm, _, hm, pb⟩ := pe_revT (k := n) (p1 := p1) (p2 := p2) (p3 := p3) (pos := pos) p
  refine ⟨_, pe_or (pe_revL p) pb, fun m E G0 G e σ H r e' Q R q P => ?_⟩
  unfold x_rvs at q
  cases h1 : fa e with
  | none => simp only [h1] at q; cases q
  | some z =>
    obtain ⟨r0, e1⟩ := z
    simp only [h1] at q
    split at q
    · rename_i ds h4
      cases q
      refine .inl (k m E G0 G e σ H r0 _ _ R h1 fun v G1 H1 R1 S1 V1 N1 => ?_)
      obtain ⟨G2, R2, S2, s2, V2⟩ := R1.freeze S1 V1 N1
      obtain ⟨b, ws, ex, hs, dk⟩ := (R2.look V2 h4).list R2.gh
      refine ⟨b, ws, ex, hs, fun p hp => ?_⟩
      obtain ⟨R', S', V', N'⟩ := R2.newL hp (dpAll_rev dk)
      exact P _ _ _ R' (S2.trans S') V' (nw_back S2 _ N')
    · rename_i ds h4
      cases q
      refine .inr (k m E G0 G e σ H r0 _ _ R h1 fun v G1 H1 R1 S1 V1 N1 => ?_)
      obtain ⟨G2, R2, S2, s2, V2⟩ := R1.freeze S1 V1 N1
      obtain ⟨b, ws, ex, hs, dk⟩ := (R2.look V2 h4).tup R2.gh
      refine hm _ _ _ ⟨rfl, rfl, rfl, b, ws, ex, hs, fun p ob xo hp => ?_⟩
      obtain ⟨R', S', D'⟩ := R2.newT hp xo (dpAll_rev dk)
      exact P _ _ _ R' (S2.trans S') D' True.intro
    · cases q
theorem r_x_rvs (fa : Fe) (e : Ev) : x_rvs fa e = (match fa e with
  | some (r, e1) => (match lookR e1 (frzR r) with
    | some (.list ds) => some (.ac ds.reverse, e1)
    | some (.tuple ds) => some (.im (.tuple ds.reverse), e1)
    | _ => none)
  | none => none) := of_eq_true (eq_self _)
end DL
namespace DL
open L2 PySem PySem.Spec PySem.W PyProof.Rows
abbrev im (d : PyData) : Option Sl := some (.im d)
abbrev ac (ds : List PyData) : Option Sl := some (.ac ds)
theorem downI_perm (l : List Int) : (downI l).Perm l := sortB_perm _ l
end DL
namespace DL
open L2 PySem PySem.Spec PySem.W PyProof.Rows
section
variable {x y : Fe} {e e1 e2 : Ev} {a b d : PyData} {r : Rs} {φ : List PyData → Option Rs} {Q : Fl → Prop} {ds : List PyData} {fa : Fa} {i : Nat}
theorem tupI (h : argsI fa e = some (ds, e1)) (hl : ds.length ≤ 16777216) : x_tup fa e = some (.im (.tuple ds), e1) := by
  rw [r_x_tup, h]
  dsimp only
  rw [if_pos (okLen_yes hl)]
theorem iRng1 {m : Nat} (h : x e = some (.im (.int (m : Int)), e1)) (hm : m ≤ 1000000) : i_rng1 x e = some ((List.range m).map nD, e1) := i_rng1_at h hm
theorem negI {k : Int} (h : x e = some (.im (.int k), e1)) : x_neg x e = some (.im (.int (-k)), e1) := by
  rw [r_x_neg, h]
end
end DL
namespace DL
open L2 PySem PySem.Spec PySem.W PyProof.Rows
theorem callKI {φ : List PyData → Option Rs} {π : List Nat} {fa fk : Fa} {e e1 e2 : Ev} {ds zs ds' : List PyData} {d : PyData} (h1 : argsI fa e = some (ds, e1)) (h2 : argsI fk e1 = some (zs, e2)) (hd : perm π (ds ++ zs) = ds') (h : φ ds' = some (.im d)) : x_callK φ π fa fk e = some (.im d, e2) := by
  unfold x_callK
  rw [h1]
  dsimp only
  rw [h2]
  dsimp only
  rw [hd, h]
end DL
namespace DL
open L2 PySem PySem.Spec PySem.W PyProof.Rows
end DL
namespace DL
open PySem PySem.Spec PyProof.Rows L2
section
variable {X : Cx}
theorem lcF_ok {m : Option Addr} {E : Ef} {G0 G1 H1 : Hp} {e1 : Ev} {σ : St} {ds : List PyData} {J : It} {S vs : List Nat} {γ : PyData → Ev → Option Ev} {tst : Ft} {fe : Fe} {acc : List PyData} {eF : Ev} {K : PySem.W.Frag} {Z : Hp → Prop} {D : Addr} {ws0 : List V} {ac0 : List PyData}
    (R1 : Rl K m E G0 G1 e1 σ H1) (WD : WalkD K G1 J ds) (hS : ∀ i ∈ S, i ∈ vs) (hn : noAc e1 vs = true) (q : lcGo γ tst fe vs ds (wipeE e1 vs) ac0 = some (acc, eF)) (hD : H1 D = none) (d0 : DpAll K G1 ws0 ac0)
    (P : ∀ G H ws, Rl K m E G0 G (restE e1 eF vs) σ H → Stp σ G1 H1 e1 G H (restE e1 eF vs) → G D = none → H D = some (.lst ws) → DpAll K G ws acc → ¬ Own σ (restE e1 eF vs) H D → Z H) :
    ∃ W : Nat → Nat → Hp → Prop, (∃ mm, W 0 mm (upd H1 D (.lst ws0))) ∧ ∀ i mm H, W i mm H →
      (J.stop i H ∧ Z H) ∨ (J.go i H ∧ ∃ Nx : Hp → Prop, (∀ H', Nx H' → ∃ m', m' < mm ∧ W (i + 1) m' H') ∧ ∀ x H', J.yld i H x H' → tgOf K S γ x (L2.wipe σ vs) H' fun σ2 H2 => L2.wipe σ2 vs = L2.wipe σ vs ∧ ttOf K tst σ2 H2 fun b H3 =>
        if b = true then teOf K fe σ2 H3 fun y H4 => ∃ acc, H4 D = some (.lst acc) ∧ acc.length < sizeLine ∧ Nx (upd H4 D (.lst (acc ++ [y]))) else Nx H3) := by
  obtain ⟨gD, eD, oD, mD⟩ := R1.fresh hD
  let W : Nat → Nat → Hp → Prop := fun i mm H => ∃ G e ac ws, mm = ds.length - i ∧ i ≤ ds.length ∧ Rl K m E G0 G e (L2.wipe σ vs) H ∧ Stp (L2.wipe σ vs) G1 H1 (wipeE e1 vs) G H e ∧ G D = none ∧ ¬ Own (L2.wipe σ vs) e H D ∧ H D = some (.lst ws) ∧ DpAll K G ws ac ∧ lcGo γ tst fe vs (ds.drop i) e ac = some (acc, eF)
  refine ⟨W, ⟨ds.length, G1, wipeE e1 vs, ac0, ws0, by simp, Nat.zero_le _, ?_, ?_, gD, fun z => oD (own_upd oD (own_wipe0 z)), upd_same, d0, by simpa using q⟩, ?_⟩
  · exact ((R1.wipe vs).newL hD d0).1
  · exact ((R1.wipe vs).newL hD d0).2.1
  rintro i mm H ⟨G, e, ac, ws, rfl, hi, R, S1, hG, noD, hH, dv, lc⟩
  obtain ⟨wk, stop⟩ := WD G H S1.gg R.gh
  by_cases hlt : i < ds.length
  · have hd : ds.drop i = ds[i] :: ds.drop (i + 1) := by rw [List.drop_eq_getElem_cons hlt]
    have hget : ds[i]? = some ds[i] := List.getElem?_eq_getElem hlt
    rw [hd] at lc
    generalize ds[i] = d at lc hget hd
    obtain ⟨go, yl⟩ := wk i d hget
    refine .inr ⟨go, W (i + 1) (ds.length - (i + 1)), fun H' h => ⟨_, by omega, h⟩, fun x H' y => ?_⟩
    -- what is yielded
    have hY : ∃ G', Rl K m E G0 G' e (L2.wipe σ vs) H' ∧ Stp (L2.wipe σ vs) G H e G' H' e ∧ Dp K G' x d := by
      rcases yl x H' y with ⟨rfl, h⟩ | ⟨T, us, es, ob, xo, rfl, nT, rfl, rfl, h⟩
      · exact ⟨G, R, Stp.refl, h⟩
      · obtain ⟨R', S', D'⟩ := R.newT nT xo h
        exact ⟨_, R', S', D'⟩
    obtain ⟨G', R', S', dx⟩ := hY
    have gD' : G' D = none := S'.nw D hG (by rw [hH]; simp)
    have hD' : H' D = some (.lst ws) := S'.hh D _ hH noD
    -- the turn's own steps
    simp only [lcGo] at lc
    cases h1 : γ d e with
    | none => simp only [h1] at lc; cases lc
    | some e2 =>
      simp only [h1] at lc
      refine ⟨m, E, G0, G', e, d, e2, R', dx, h1, fun σ' R2 out sl el ac1 => ?_⟩
      have wsame : L2.wipe σ' vs = L2.wipe σ vs := by
        have z := wipe_same (vs := vs) (σ' := σ') (σ := L2.wipe σ vs) (fun i hi => (out i fun z => hi (hS i z)).1) sl
        rw [wipe_wipe] at z
        exact z
      refine ⟨wsame, ?_⟩
      have vsE : ∀ i ∈ vs, isAc e[i]? = false := fun i hi => by
        rw [S1.kd i]
        cases z : (wipeE e1 vs)[i]? with
        | none => rfl
        | some s =>
          cases s with
          | none => rfl
          | some s => exact absurd hi (wipeE_in z)
      have ownW2 : ∀ {K : Hp} a, OwnW σ' e2 K a → OwnW (L2.wipe σ vs) e K a := fun a ⟨j, t, p, z1, z2, z3⟩ => by
        by_cases hj : j ∈ S
        · have q1 := ac1 j hj (by rw [z1]; rfl)
          rw [vsE j (hS j hj)] at q1
          cases q1
        · obtain ⟨o1, o2⟩ := out j hj
          exact ⟨j, t, p, by rw [← o2]; exact z1, by rw [← o1]; exact z2, z3⟩
      have own2 : ∀ {K : Hp} a, Own σ' e2 K a → Own (L2.wipe σ vs) e K a := fun a z => by
        rcases z with ⟨j, dj, z1, z2⟩ | z
        · by_cases hj : j ∈ S
          · have q1 := ac1 j hj (by rw [z1]; rfl)
            rw [vsE j (hS j hj)] at q1
            cases q1
          · obtain ⟨o1, o2⟩ := out j hj
            exact .inl ⟨j, dj, by rw [← o2]; exact z1, by rw [← o1]; exact z2⟩
        · exact .inr (ownW2 a z)
      have noD' : ¬ Own (L2.wipe σ vs) e H' D := S'.not (by rw [hH]; simp) noD
      have noD2 : ¬ Own σ' e2 H' D := fun z => noD' (own2 D z)
      -- closing a turn: from the state behind the element
      have fin : ∀ {G5 H4 : Hp} {e3 : Ev} {ws2 : List V} {ac2 : List PyData}, Rl K m E G0 G5 e3 σ' H4 → Stp σ' G' H' e2 G5 H4 e3 → DpAll K G5 ws2 ac2 → lcGo γ tst fe vs (ds.drop (i + 1)) (wipeE e3 vs) ac2 = some (acc, eF) →
          W (i + 1) (ds.length - (i + 1)) (upd H4 D (.lst ws2)) := by
        intro G5 H4 e3 ws2 ac2 R5 S5 d5 lc5
        have g5 : G5 D = none := S5.nw D gD' (by rw [hD']; simp)
        have o5 : ¬ Own σ' e3 H4 D := S5.not (by rw [hD']; simp) noD2
        have R6 := (R5.updD (ws := ws2) g5 eD o5).wipe vs
        rw [wsame] at R6
        refine ⟨G5, wipeE e3 vs, ac2, ws2, rfl, hlt, R6, ⟨S1.gg.trans (S'.gg.trans S5.gg), fun a h1 h2 => ?_, fun a o h1 h2 => ?_, fun j => ?_, fun a h1 => ?_, fun a z => ?_⟩, g5, fun z => o5 (own_upd o5 (own_wipe0 (by rw [← wsame] at z; exact z))), upd_same, d5, lc5⟩
        · exact S5.nw a (S'.nw a (S1.nw a h1 h2) (S1.th a h2)) (S'.th a (S1.th a h2))
        · have z : a ≠ D := ne_of_none h1 hD
          rw [upd_ne z]
          have h3 := S1.hh a o h1 h2
          have n1 : ¬ Own (L2.wipe σ vs) e H a := S1.not (by rw [h1]; simp) h2
          exact S5.hh a o (S'.hh a o h3 n1) fun y => S'.not (by rw [h3]; simp) n1 (own2 a y)
        · by_cases hj : j ∈ vs
          · have b1 : ∀ {e : Ev}, isAc (wipeE e vs)[j]? = false := fun {e} => by
              cases z : (wipeE e vs)[j]? with
              | none => rfl
              | some s =>
                cases s with
                | none => rfl
                | some s => exact absurd hj (wipeE_in z)
            rw [b1, b1]
          · rw [wipeE_out hj, S5.kd j, (out j fun z => hj (hS j z)).2]
            exact S1.kd j
        · by_cases z : a = D
          · rw [z, upd_same]
            simp
          · rw [upd_ne z]
            exact S5.th a (S'.th a (S1.th a h1))
        · rw [← wsame] at z
          rcases S5.ww a (ownW_upd (fun z => o5 (.inr z)) (ownW_wipe0 z)) with z | z
          · rcases S'.ww a (ownW2 a z) with z | z
            · exact S1.ww a z
            · exact .inr (S1.gone z)
          · exact .inr (S1.gone (S'.gone z))
      cases h2 : tst e2 with
      | none => simp only [h2] at lc; cases lc
      | some z =>
        obtain ⟨b, e3⟩ := z
        cases b with
        | false =>
          simp only [h2] at lc
          refine ⟨m, E, G0, G', e2, false, e3, R2, h2, fun G3 H3 R3 S3 => ?_⟩
          show (if false = true then _ else _)
          rw [if_neg Bool.false_ne_true]
          have w3 : H3 D = some (.lst ws) := S3.hh D _ hD' noD2
          have eu : upd H3 D (.lst ws) = H3 := by
            funext b
            by_cases z : b = D
            · rw [z, upd_same, w3]
            · rw [upd_ne z]
          have z := fin R3 S3 (dpAll_same (S'.gg.trans S3.gg) dv) lc
          rw [eu] at z
          exact z
        | true =>
          simp only [h2] at lc
          refine ⟨m, E, G0, G', e2, true, e3, R2, h2, fun G3 H3 R3 S3 => ?_⟩
          show (if true = true then _ else _)
          rw [if_pos rfl]
          cases h3 : fe e3 with
          | none => simp only [h3] at lc; cases lc
          | some z =>
            obtain ⟨r, e4⟩ := z
            simp only [h3] at lc
            refine ⟨m, E, G0, G3, e3, r, e4, R3, h3, fun v G4 H4 R4 S4 V4 N4 => ?_⟩
            obtain ⟨G5, R5, S5, s5, V5⟩ := R4.freeze (S3.trans S4) V4 (nw_back S3 v N4)
            cases h4 : imR (frzR r) with
            | none => simp only [h4] at lc; cases lc
            | some yd =>
              simp only [h4] at lc
              have er : frzR r = .im yd := by
                cases r with
                | im d =>
                  cases h4
                  rfl
                | ac ds =>
                  cases h4
                  rfl
                | br i => cases h4
              rw [er] at V5
              by_cases h5 : okLen (ac.length + 1) = true
              · rw [if_pos h5] at lc
                have w4 : H4 D = some (.lst ws) := S5.hh D _ hD' noD2
                have hl := okLen_ok h5
                refine ⟨ws, w4, by rw [dpAll_len dv]; omega, ?_⟩
                exact fin R5 S5 (dpAll_app (dpAll_same (S'.gg.trans S5.gg) dv) (.cons V5 .nil)) lc
              · rw [if_neg h5] at lc
                cases lc
  · have hi2 : i = ds.length := by omega
    subst hi2
    rw [List.drop_length] at lc
    simp only [lcGo, Option.some.injEq, Prod.mk.injEq] at lc
    obtain ⟨rfl, rfl⟩ := lc
    have hl : e.length = e1.length := by
      have z1 := R.len
      have z2 := R1.len
      rw [wipe_length] at z1
      omega
    have vsE : ∀ i ∈ vs, isAc e[i]? = false := fun i hi => by
      rw [S1.kd i]
      cases z : (wipeE e1 vs)[i]? with
      | none => rfl
      | some s =>
        cases s with
        | none => rfl
        | some s => exact absurd hi (wipeE_in z)
    have kd : ∀ j : Nat, isAc (restE e1 e vs)[j]? = isAc e1[j]? := fun j => by
      by_cases hj : j ∈ vs
      · rw [restE_in hl hj]
      · rw [restE_out hj, S1.kd j, wipeE_out hj]
    have get : ∀ {j : Nat} {s : Sl}, (restE e1 e vs)[j]? = some (some s) → (j ∈ vs ∧ e1[j]? = some (some s)) ∨ (j ∉ vs ∧ e[j]? = some (some s)) := fun {j s} z => by
      by_cases hj : j ∈ vs
      · rw [restE_in hl hj] at z
        exact .inl ⟨hj, z⟩
      · rw [restE_out hj] at z
        exact .inr ⟨hj, z⟩
    have ac1 : ∀ {j : Nat} {dj : List PyData}, (restE e1 e vs)[j]? = some (some (.ac dj)) → j ∉ vs ∧ e[j]? = some (some (.ac dj)) := fun {j dj} z => by
      rcases get z with ⟨h1, h2⟩ | z
      · have q1 := noAc_at hn h1
        rw [h2] at q1
        cases q1
      · exact z
    have ow1 : ∀ {j : Nat} {t : Ow}, (restE e1 e vs)[j]? = some (some (.ow t)) → e[j]? = some (some (.ow t)) ∧ σ[j]? = (L2.wipe σ vs)[j]? := fun {j t} z => by
      rcases get z with ⟨h1, h2⟩ | ⟨h1, h2⟩
      · exact (noOw_at hn h1 h2).elim
      · exact ⟨h2, (wipe_out h1).symm⟩
    have own3 : ∀ a, Own0 σ (restE e1 e vs) a → Own0 (L2.wipe σ vs) e a := fun a ⟨j, dj, z1, z2⟩ => by
      obtain ⟨h1, h2⟩ := ac1 z1
      exact ⟨j, dj, h2, by rw [wipe_out h1]; exact z2⟩
    have WF := R.wl.keep (σ' := σ) (e' := restE e1 e vs) (H' := H) (Same.refl G) (fun _ _ z => z) (fun j t z => ow1 z) (fun a z w => (R.wl.out a w).2.2.1 (own3 a z)) (fun _ _ z _ => z)
    have nF : ¬ Own σ (restE e1 e vs) H D := fun z => noD (by
      rcases z with z | z
      · exact .inl (own3 D z)
      · exact .inr (WF.2 D z))
    have RF : Rl K m E G0 G (restE e1 e vs) σ H := by
      refine ⟨R.gg, R.gh, R.eh, R.mh, R.nw, by rw [restE_len, hl]; exact R1.len, fun j d z => ?_, fun j dj z => ?_, fun j k dj dk p z1 z2 z3 z4 => ?_, fun j dss z => ?_, WF.1⟩
      · rcases get z with ⟨h1, h2⟩ | ⟨h1, h2⟩
        · obtain ⟨v, a1, a2⟩ := R1.im j d h2
          exact ⟨v, a1, dp_same S1.gg a2⟩
        · obtain ⟨v, a1, a2⟩ := R.im j d h2
          rw [wipe_out h1] at a1
          exact ⟨v, a1, a2⟩
      · obtain ⟨h1, h2⟩ := ac1 z
        obtain ⟨p, w, a1, a2⟩ := R.ac j dj h2
        rw [wipe_out h1] at a1
        exact ⟨p, w, a1, a2⟩
      · obtain ⟨h1, h2⟩ := ac1 z1
        obtain ⟨h3, h4⟩ := ac1 z2
        exact R.inj j k dj dk p h2 h4 (by rw [wipe_out h1]; exact z3) (by rw [wipe_out h3]; exact z4)
      · rcases get z with ⟨h1, h2⟩ | ⟨h1, h2⟩
        · exact (R1.ot j dss h2).mono S1.gg
        · have a1 := R.ot j dss h2
          rw [wipe_out h1] at a1
          exact a1
    refine .inl ⟨stop, P G H ws RF ⟨S1.gg, S1.nw, fun a o h1 h2 => S1.hh a o h1 fun z => h2 (own_wipe0 z), kd, S1.th, fun a z => by
      rcases S1.ww a (WF.2 a z) with z | z
      · exact .inl (ownW_wipe0 z)
      · exact .inr z⟩ hG hH dv nF⟩
def lcGo2 (γ : PyData → Ev → Option Ev) (tst : Ft) (fi1 : Fi) (γ1 : PyData → Ev → Option Ev) (tst1 : Ft) (fe : Fe) (vs vs1 : List Nat) : List PyData → Ev → List PyData → Option (List PyData × Ev)
  | [], e, acc => some (acc, e)
  | d :: ds, e, acc => match γ d e with
    | some e1 => (match tst e1 with
      | some (true, e2) => (match fi1 e2 with
        | some (ds1, e3) => if noAc e3 vs1 = true then (match lcGo γ1 tst1 fe vs1 ds1 (wipeE e3 vs1) acc with
          | some (acc1, e4) => lcGo2 γ tst fi1 γ1 tst1 fe vs vs1 ds (wipeE (restE e3 e4 vs1) vs) acc1
          | none => none) else none
        | none => none)
      | some (false, e2) => lcGo2 γ tst fi1 γ1 tst1 fe vs vs1 ds (wipeE e2 vs) acc
      | none => none)
    | none => none
def x_lc2 (fi : Fi) (γ : PyData → Ev → Option Ev) (tst : Ft) (fi1 : Fi) (γ1 : PyData → Ev → Option Ev) (tst1 : Ft) (fe : Fe) (vs vs1 : List Nat) : Fe := fun e => match fi e with
  | some (ds, e1) => if noAc e1 vs = true then (match lcGo2 γ tst fi1 γ1 tst1 fe vs vs1 ds (wipeE e1 vs) [] with
    | some (acc, e2) => some (.ac acc, restE e1 e2 vs)
    | none => none) else none
  | none => none
/-- a list that is nobody's, taken out of the heap -/
def outD (H : Hp) (D : Addr) : Hp := fun a => if a = D then none else H a
theorem out_ne {H : Hp} {D a : Addr} (h : a ≠ D) : outD H D a = H a := if_neg h
theorem out_at {H : Hp} {D : Addr} : outD H D D = none := if_pos rfl
theorem out_back {H : Hp} {D : Addr} {ws : List V} (h : H D = some (.lst ws)) : upd (outD H D) D (.lst ws) = H := by
  funext b
  by_cases z : b = D
  · rw [z, upd_same, h]
  · rw [upd_ne z, out_ne z]
theorem Rl.outD {K : PySem.W.Frag} {m : Option Addr} {E : Ef} {G0 G H : Hp} {e : Ev} {σ : St} {D : Addr} (R : Rl K m E G0 G e σ H) (hG : G D = none) (hE : E D = none) (hO : ¬ Own σ e H D) : Rl K m E G0 G e σ (DL.outD H D) := by
  have W := R.wl.keep0 (H' := DL.outD H D) (Same.refl G) (fun _ _ z => z) (fun a o z w => by
    rw [out_ne (fun y => hO (.inr (by rw [← y]; exact w)))]
    exact z)
  refine ⟨R.gg, fun b o q => ?_, fun b o q1 q2 => ?_, fun b q => ⟨(R.mh b q).1, ?_⟩, R.nw, R.len, R.im, fun i ds q => ?_, R.inj, R.ot, W.1⟩
  · rw [out_ne (ne_of_none q hG)]
    exact R.gh b o q
  · rw [out_ne (ne_of_none q1 hE)]
    exact R.eh b o q1 q2
  · have z : b ≠ D := fun z => (R.mh b q).1 (by rw [z]; exact hE)
    rw [out_ne z]
    exact (R.mh b q).2
  · obtain ⟨p, ws', h1, h2, h3, h4, h5⟩ := R.ac i ds q
    have z : p ≠ D := fun z => hO (.inl ⟨i, ds, q, by rw [← z]; exact h1⟩)
    exact ⟨p, ws', h1, h2, by rw [out_ne z]; exact h3, h4, h5⟩
theorem ownW_out {σ : St} {H : Hp} {e : Ev} {D a : Addr} (n : ¬ OwnW σ e H D) : OwnW σ e (DL.outD H D) a ↔ OwnW σ e H a := by
  constructor
  · rintro ⟨i, t, p, h1, h2, h3⟩
    have z : p ≠ D := fun z => n ⟨i, t, p, h1, h2, by rw [owA_of (owA_al h3), z]; exact List.mem_cons_self⟩
    rw [out_ne z] at h3
    exact ⟨i, t, p, h1, h2, h3⟩
  · rintro ⟨i, t, p, h1, h2, h3⟩
    have z : p ≠ D := fun z => n ⟨i, t, p, h1, h2, by rw [owA_of (owA_al h3), z]; exact List.mem_cons_self⟩
    exact ⟨i, t, p, h1, h2, by rw [out_ne z]; exact h3⟩
theorem Stp.outL {σ : St} {G H G' H' : Hp} {e e' : Ev} {D : Addr} (S : Stp σ G H e G' H' e') (n : ¬ OwnW σ e H D) : Stp σ G (DL.outD H D) e G' H' e' := by
  have back : ∀ {a : Addr} {o}, DL.outD H D a = some o → a ≠ D ∧ H a = some o := fun {a o} h => by
    by_cases z : a = D
    · rw [z, out_at] at h
      cases h
    · rw [out_ne z] at h
      exact ⟨z, h⟩
  have some_ : ∀ {a : Addr}, DL.outD H D a ≠ none → H a ≠ none := fun {a} h y => by
    cases q : DL.outD H D a with
    | none => exact h q
    | some o =>
      rw [(back q).2] at y
      cases y
  exact ⟨S.gg, fun a h1 h2 => S.nw a h1 (some_ h2), fun a o h1 h2 => S.hh a o (back h1).2 fun z => h2 (by
    rcases z with z | z
    · exact .inl z
    · exact .inr ((ownW_out n).mpr z)), S.kd, fun a h1 => S.th a (some_ h1), fun a z => by
    rcases S.ww a z with z | z
    · exact .inl ((ownW_out n).mpr z)
    · refine .inr ?_
      by_cases y : a = D
      · rw [y, out_at]
      · rw [out_ne y]
        exact z⟩
theorem Stp.outB {σ : St} {G H G' H' : Hp} {e e' : Ev} {D : Addr} (S : Stp σ G H e G' H' e') (n : ¬ OwnW σ e H D) (n' : ¬ OwnW σ e' H' D) : Stp σ G (DL.outD H D) e G' (DL.outD H' D) e' := by
  have T : Stp σ G (DL.outD H D) e G' H' e' := S.outL n
  have off : ∀ {a : Addr}, DL.outD H D a ≠ none → a ≠ D := fun {a} h z => h (by rw [z]; exact out_at)
  exact ⟨T.gg, T.nw, fun a o h1 h2 => by
    rw [out_ne (off (by rw [h1]; simp))]
    exact T.hh a o h1 h2, T.kd, fun a h1 => by
    rw [out_ne (off h1)]
    exact T.th a h1, fun a z => T.ww a ((ownW_out n').mp z)⟩
theorem lc2_ok {m : Option Addr} {E : Ef} {G0 G1 H1 : Hp} {e1 : Ev} {σ : St} {ds : List PyData} {J : It} {S vs : List Nat} {γ γ1 : PyData → Ev → Option Ev} {tst tst1 : Ft} {fe : Fe} {fi1 : Fi} {wi1 : TI} {S1' vs1 : List Nat} {acc : List PyData} {eF : Ev} {K : PySem.W.Frag} {Q : VK} {D : Addr}
    (R1 : Rl K m E G0 G1 e1 σ H1) (WD : WalkD K G1 J ds) (hS : ∀ i ∈ S, i ∈ vs) (hn : noAc e1 vs = true) (hS1 : ∀ i ∈ S1', i ∈ vs1) (hk1 : ∀ (m : Option Addr) (E : Ef) (G0 G : Hp) (e : Ev) (σ : St) (H : Hp) (ds : List PyData) (e' : Ev) (Q : It → Hp → Prop), Rl K m E G0 G e σ H → fi1 e = some (ds, e') → (∀ J G' H', Rl K m E G0 G' e' σ H' → Stp σ G H e G' H' e' → WalkD K G' J ds → Q J H') → wi1 σ H Q)
    (q : lcGo2 γ tst fi1 γ1 tst1 fe vs vs1 ds (wipeE e1 vs) [] = some (acc, eF)) (hD : H1 D = none)
    (P : ∀ G H, Rl K m E G0 G (restE e1 eF vs) σ H → Stp σ G1 H1 e1 G H (restE e1 eF vs) → Vr K E G H σ (restE e1 eF vs) (.ref D) (.ac acc) → Q (.ref D) H) :
    ∃ W : Nat → Nat → Hp → Prop, (∃ mm, W 0 mm (upd H1 D (.lst []))) ∧ ∀ i mm H, W i mm H →
      (J.stop i H ∧ Q (.ref D) H) ∨ (J.go i H ∧ ∃ Nx : Hp → Prop, (∀ H', Nx H' → ∃ m', m' < mm ∧ W (i + 1) m' H') ∧ ∀ x H', J.yld i H x H' → tgOf K S γ x (L2.wipe σ vs) H' fun σ2 H2 => L2.wipe σ2 vs = L2.wipe σ vs ∧ ttOf K tst σ2 H2 fun b H3 =>
        if b = true then wi1 σ2 H3 fun J1 H4 => ∃ W1 : Nat → Nat → Hp → Prop, (∃ m, W1 0 m H4) ∧ ∀ j k H, W1 j k H →
          (J1.stop j H ∧ Nx H) ∨ (J1.go j H ∧ ∃ Nx1 : Hp → Prop, (∀ H', Nx1 H' → ∃ k', k' < k ∧ W1 (j + 1) k' H') ∧ ∀ x H', J1.yld j H x H' → tgOf K S1' γ1 x (L2.wipe σ2 vs1) H' fun σ3 H5 => L2.wipe σ3 vs1 = L2.wipe σ2 vs1 ∧ ttOf K tst1 σ3 H5 fun b H6 =>
            if b = true then teOf K fe σ3 H6 fun y H7 => ∃ acc, H7 D = some (.lst acc) ∧ acc.length < sizeLine ∧ Nx1 (upd H7 D (.lst (acc ++ [y]))) else Nx1 H6)
        else Nx H3) := by
  obtain ⟨gD, eD, oD, mD⟩ := R1.fresh hD
  let W : Nat → Nat → Hp → Prop := fun i mm H => ∃ G e ac ws, mm = ds.length - i ∧ i ≤ ds.length ∧ Rl K m E G0 G e (L2.wipe σ vs) H ∧ Stp (L2.wipe σ vs) G1 H1 (wipeE e1 vs) G H e ∧ G D = none ∧ ¬ Own (L2.wipe σ vs) e H D ∧ H D = some (.lst ws) ∧ DpAll K G ws ac ∧ lcGo2 γ tst fi1 γ1 tst1 fe vs vs1 (ds.drop i) e ac = some (acc, eF)
  refine ⟨W, ⟨ds.length, G1, wipeE e1 vs, [], [], by simp, Nat.zero_le _, ?_, ?_, gD, fun z => oD (own_upd oD (own_wipe0 z)), upd_same, .nil, by simpa using q⟩, ?_⟩
  · exact ((R1.wipe vs).newL hD .nil).1
  · exact ((R1.wipe vs).newL hD (ds := []) .nil).2.1
  rintro i mm H ⟨G, e, ac, ws, rfl, hi, R, S1, hG, noD, hH, dv, lc⟩
  obtain ⟨wk, stop⟩ := WD G H S1.gg R.gh
  by_cases hlt : i < ds.length
  · have hd : ds.drop i = ds[i] :: ds.drop (i + 1) := by rw [List.drop_eq_getElem_cons hlt]
    have hget : ds[i]? = some ds[i] := List.getElem?_eq_getElem hlt
    rw [hd] at lc
    generalize ds[i] = d at lc hget hd
    obtain ⟨go, yl⟩ := wk i d hget
    refine .inr ⟨go, W (i + 1) (ds.length - (i + 1)), fun H' h => ⟨_, by omega, h⟩, fun x H' y => ?_⟩
    -- what is yielded
    have hY : ∃ G', Rl K m E G0 G' e (L2.wipe σ vs) H' ∧ Stp (L2.wipe σ vs) G H e G' H' e ∧ Dp K G' x d := by
      rcases yl x H' y with ⟨rfl, h⟩ | ⟨T, us, es, ob, xo, rfl, nT, rfl, rfl, h⟩
      · exact ⟨G, R, Stp.refl, h⟩
      · obtain ⟨R', S', D'⟩ := R.newT nT xo h
        exact ⟨_, R', S', D'⟩
    obtain ⟨G', R', S', dx⟩ := hY
    have gD' : G' D = none := S'.nw D hG (by rw [hH]; simp)
    have hD' : H' D = some (.lst ws) := S'.hh D _ hH noD
    -- the turn's own steps
    simp only [lcGo2] at lc
    cases h1 : γ d e with
    | none => simp only [h1] at lc; cases lc
    | some e2 =>
      simp only [h1] at lc
      refine ⟨m, E, G0, G', e, d, e2, R', dx, h1, fun σ' R2 out sl el ac1 => ?_⟩
      have wsame : L2.wipe σ' vs = L2.wipe σ vs := by
        have z := wipe_same (vs := vs) (σ' := σ') (σ := L2.wipe σ vs) (fun i hi => (out i fun z => hi (hS i z)).1) sl
        rw [wipe_wipe] at z
        exact z
      refine ⟨wsame, ?_⟩
      have vsE : ∀ i ∈ vs, isAc e[i]? = false := fun i hi => by
        rw [S1.kd i]
        cases z : (wipeE e1 vs)[i]? with
        | none => rfl
        | some s =>
          cases s with
          | none => rfl
          | some s => exact absurd hi (wipeE_in z)
      have ownW2 : ∀ {K : Hp} a, OwnW σ' e2 K a → OwnW (L2.wipe σ vs) e K a := fun a ⟨j, t, p, z1, z2, z3⟩ => by
        by_cases hj : j ∈ S
        · have q1 := ac1 j hj (by rw [z1]; rfl)
          rw [vsE j (hS j hj)] at q1
          cases q1
        · obtain ⟨o1, o2⟩ := out j hj
          exact ⟨j, t, p, by rw [← o2]; exact z1, by rw [← o1]; exact z2, z3⟩
      have own2 : ∀ {K : Hp} a, Own σ' e2 K a → Own (L2.wipe σ vs) e K a := fun a z => by
        rcases z with ⟨j, dj, z1, z2⟩ | z
        · by_cases hj : j ∈ S
          · have q1 := ac1 j hj (by rw [z1]; rfl)
            rw [vsE j (hS j hj)] at q1
            cases q1
          · obtain ⟨o1, o2⟩ := out j hj
            exact .inl ⟨j, dj, by rw [← o2]; exact z1, by rw [← o1]; exact z2⟩
        · exact .inr (ownW2 a z)
      have noD' : ¬ Own (L2.wipe σ vs) e H' D := S'.not (by rw [hH]; simp) noD
      have noD2 : ¬ Own σ' e2 H' D := fun z => noD' (own2 D z)
      have fin : ∀ {G5 H5 : Hp} {e5 : Ev} {ws5 : List V} {ac5 : List PyData}, Rl K m E G0 G5 e5 σ' H5 → Stp σ' G' (outD H' D) e2 G5 H5 e5 → G5 D = none → H5 D = some (.lst ws5) → DpAll K G5 ws5 ac5 → ¬ Own σ' e5 H5 D → lcGo2 γ tst fi1 γ1 tst1 fe vs vs1 (ds.drop (i + 1)) (wipeE e5 vs) ac5 = some (acc, eF) →
          W (i + 1) (ds.length - (i + 1)) H5 := by
        intro G5 H5 e5 ws5 ac5 R5 S5 g5 w5 d5 n5 lc5
        have R6 := R5.wipe vs
        rw [wsame] at R6
        refine ⟨G5, wipeE e5 vs, ac5, ws5, rfl, hlt, R6, ⟨S1.gg.trans (S'.gg.trans S5.gg), fun a h1 h2 => ?_, fun a o h1 h2 => ?_, fun j => ?_, fun a h1 => ?_, fun a z => ?_⟩, g5, fun z => n5 (own_wipe0 (by rw [← wsame] at z; exact z)), w5, d5, lc5⟩
        · have z : a ≠ D := fun z => h2 (by rw [z]; exact hD)
          exact S5.nw a (S'.nw a (S1.nw a h1 h2) (S1.th a h2)) (by rw [out_ne z]; exact S'.th a (S1.th a h2))
        · have z : a ≠ D := ne_of_none h1 hD
          have h3 := S1.hh a o h1 h2
          have n1 : ¬ Own (L2.wipe σ vs) e H a := S1.not (by rw [h1]; simp) h2
          exact S5.hh a o (by rw [out_ne z]; exact S'.hh a o h3 n1) fun y => S'.not (by rw [h3]; simp) n1 (own2 a (by
            rcases y with y | y
            · exact .inl y
            · exact .inr ((ownW_out fun z => noD2 (.inr z)).mp y)))
        · by_cases hj : j ∈ vs
          · have b1 : ∀ {e : Ev}, isAc (wipeE e vs)[j]? = false := fun {e} => by
              cases z : (wipeE e vs)[j]? with
              | none => rfl
              | some s =>
                cases s with
                | none => rfl
                | some s => exact absurd hj (wipeE_in z)
            rw [b1, b1]
          · rw [wipeE_out hj, S5.kd j, (out j fun z => hj (hS j z)).2]
            exact S1.kd j
        · by_cases z : a = D
          · rw [z, w5]
            simp
          · exact S5.th a (by rw [out_ne z]; exact S'.th a (S1.th a h1))
        · rw [← wsame] at z
          rcases S5.ww a (ownW_wipe0 z) with z | z
          · rcases S'.ww a (ownW2 a ((ownW_out fun z => noD2 (.inr z)).mp z)) with z | z
            · exact S1.ww a z
            · exact .inr (S1.gone z)
          · refine .inr ?_
            by_cases y : a = D
            · rw [y]
              exact hD
            · rw [out_ne y] at z
              exact S1.gone (S'.gone z)
      cases h2 : tst e2 with
      | none => simp only [h2] at lc; cases lc
      | some z =>
        obtain ⟨b, e3⟩ := z
        cases b with
        | false =>
          simp only [h2] at lc
          refine ⟨m, E, G0, G', e2, false, e3, R2, h2, fun G3 H3 R3 S3 => ?_⟩
          show (if false = true then _ else _)
          rw [if_neg (fun z => by cases z)]
          exact fin R3 (S3.outL fun z => noD2 (.inr z)) (S3.nw D gD' (by rw [hD']; simp)) (S3.hh D _ hD' noD2) (dpAll_same (S'.gg.trans S3.gg) dv) (S3.not (by rw [hD']; simp) noD2) lc
        | true =>
          simp only [h2] at lc
          refine ⟨m, E, G0, G', e2, true, e3, R2, h2, fun G3 H3 R3 S3 => ?_⟩
          show (if (true = true) then _ else _)
          rw [if_pos rfl]
          cases hf : fi1 e3 with
          | none => simp only [hf] at lc; cases lc
          | some z =>
            obtain ⟨ds1, e4⟩ := z
            simp only [hf] at lc
            by_cases hn1 : noAc e4 vs1 = true
            · rw [if_pos hn1] at lc
              cases hg : lcGo γ1 tst1 fe vs1 ds1 (wipeE e4 vs1) ac with
              | none => simp only [hg] at lc; cases lc
              | some z =>
                obtain ⟨acc1, e5⟩ := z
                simp only [hg] at lc
                refine hk1 m E G0 G3 e3 σ' H3 ds1 e4 _ R3 hf fun J1 G4 H4 R4 S4 W4 => ?_
                have S34 := S3.trans S4
                have nD : ¬ Own σ' e4 H4 D := S34.not (by rw [hD']; simp) noD2
                have w4 : H4 D = some (.lst ws) := S34.hh D _ hD' noD2
                have g4 : G4 D = none := S34.nw D gD' (by rw [hD']; simp)
                have inner := lcF_ok (Z := W (i + 1) (ds.length - (i + 1))) (R4.outD g4 eD nD) W4 hS1 hn1 hg out_at (dpAll_same (S'.gg.trans S34.gg) dv) fun G5 H5 ws5 R5 S5 g5 w5 d5 n5 => fin R5 ((S34.outB (fun z => noD2 (.inr z)) (fun z => nD (.inr z))).trans S5) g5 w5 d5 n5 lc
                rw [out_back w4] at inner
                exact inner
            · rw [if_neg hn1] at lc
              cases lc
  · have hi2 : i = ds.length := by omega
    subst hi2
    rw [List.drop_length] at lc
    simp only [lcGo2, Option.some.injEq, Prod.mk.injEq] at lc
    obtain ⟨rfl, rfl⟩ := lc
    have hl : e.length = e1.length := by
      have z1 := R.len
      have z2 := R1.len
      rw [wipe_length] at z1
      omega
    have vsE : ∀ i ∈ vs, isAc e[i]? = false := fun i hi => by
      rw [S1.kd i]
      cases z : (wipeE e1 vs)[i]? with
      | none => rfl
      | some s =>
        cases s with
        | none => rfl
        | some s => exact absurd hi (wipeE_in z)
    have kd : ∀ j : Nat, isAc (restE e1 e vs)[j]? = isAc e1[j]? := fun j => by
      by_cases hj : j ∈ vs
      · rw [restE_in hl hj]
      · rw [restE_out hj, S1.kd j, wipeE_out hj]
    have get : ∀ {j : Nat} {s : Sl}, (restE e1 e vs)[j]? = some (some s) → (j ∈ vs ∧ e1[j]? = some (some s)) ∨ (j ∉ vs ∧ e[j]? = some (some s)) := fun {j s} z => by
      by_cases hj : j ∈ vs
      · rw [restE_in hl hj] at z
        exact .inl ⟨hj, z⟩
      · rw [restE_out hj] at z
        exact .inr ⟨hj, z⟩
    have ac1 : ∀ {j : Nat} {dj : List PyData}, (restE e1 e vs)[j]? = some (some (.ac dj)) → j ∉ vs ∧ e[j]? = some (some (.ac dj)) := fun {j dj} z => by
      rcases get z with ⟨h1, h2⟩ | z
      · have q1 := noAc_at hn h1
        rw [h2] at q1
        cases q1
      · exact z
    have ow1 : ∀ {j : Nat} {t : Ow}, (restE e1 e vs)[j]? = some (some (.ow t)) → e[j]? = some (some (.ow t)) ∧ σ[j]? = (L2.wipe σ vs)[j]? := fun {j t} z => by
      rcases get z with ⟨h1, h2⟩ | ⟨h1, h2⟩
      · exact (noOw_at hn h1 h2).elim
      · exact ⟨h2, (wipe_out h1).symm⟩
    have own3 : ∀ a, Own0 σ (restE e1 e vs) a → Own0 (L2.wipe σ vs) e a := fun a ⟨j, dj, z1, z2⟩ => by
      obtain ⟨h1, h2⟩ := ac1 z1
      exact ⟨j, dj, h2, by rw [wipe_out h1]; exact z2⟩
    have WF := R.wl.keep (σ' := σ) (e' := restE e1 e vs) (H' := H) (Same.refl G) (fun _ _ z => z) (fun j t z => ow1 z) (fun a z w => (R.wl.out a w).2.2.1 (own3 a z)) (fun _ _ z _ => z)
    have nF : ¬ Own σ (restE e1 e vs) H D := fun z => noD (by
      rcases z with z | z
      · exact .inl (own3 D z)
      · exact .inr (WF.2 D z))
    have RF : Rl K m E G0 G (restE e1 e vs) σ H := by
      refine ⟨R.gg, R.gh, R.eh, R.mh, R.nw, by rw [restE_len, hl]; exact R1.len, fun j d z => ?_, fun j dj z => ?_, fun j k dj dk p z1 z2 z3 z4 => ?_, fun j dss z => ?_, WF.1⟩
      · rcases get z with ⟨h1, h2⟩ | ⟨h1, h2⟩
        · obtain ⟨v, a1, a2⟩ := R1.im j d h2
          exact ⟨v, a1, dp_same S1.gg a2⟩
        · obtain ⟨v, a1, a2⟩ := R.im j d h2
          rw [wipe_out h1] at a1
          exact ⟨v, a1, a2⟩
      · obtain ⟨h1, h2⟩ := ac1 z
        obtain ⟨p, w, a1, a2⟩ := R.ac j dj h2
        rw [wipe_out h1] at a1
        exact ⟨p, w, a1, a2⟩
      · obtain ⟨h1, h2⟩ := ac1 z1
        obtain ⟨h3, h4⟩ := ac1 z2
        exact R.inj j k dj dk p h2 h4 (by rw [wipe_out h1]; exact z3) (by rw [wipe_out h3]; exact z4)
      · rcases get z with ⟨h1, h2⟩ | ⟨h1, h2⟩
        · exact (R1.ot j dss h2).mono S1.gg
        · have a1 := R.ot j dss h2
          rw [wipe_out h1] at a1
          exact a1
    refine .inl ⟨stop, P G H RF ⟨S1.gg, S1.nw, fun a o h1 h2 => S1.hh a o h1 fun z => h2 (own_wipe0 z), kd, S1.th, fun a z => by
      rcases S1.ww a (WF.2 a z) with z | z
      · exact .inl (ownW_wipe0 z)
      · exact .inr z⟩ ⟨D, ws, rfl, eD, hG, hH, dv, nF⟩⟩
variable {elt tg it tg1 it1 : Expr} {ifs ifs1 : List Expr} {scope : Scope} {own : List (Str × Nat)} {pos spos : Pos} {fi fi1 : Fi} {S S1 vs1 : List Nat} {γ γ1 : PyData → Ev → Option Ev} {tst tst1 : Ft} {fe : Fe}
theorem x_lc2_ok {wi wi1 : TI} (hS : ∀ i ∈ S, i ∈ own.map (·.2)) (hS1 : ∀ i ∈ S1, i ∈ vs1)
    (k : ∀ (m : Option Addr) (E : Ef) (G0 G : Hp) (e : Ev) (σ : St) (H : Hp) (ds : List PyData) (e' : Ev) (Q : It → Hp → Prop), Rl X.K m E G0 G e σ H → fi e = some (ds, e') → (∀ J G' H', Rl X.K m E G0 G' e' σ H' → Stp σ G H e G' H' e' → WalkD X.K G' J ds → Q J H') → wi σ H Q)
    (k1 : ∀ (m : Option Addr) (E : Ef) (G0 G : Hp) (e : Ev) (σ : St) (H : Hp) (ds : List PyData) (e' : Ev) (Q : It → Hp → Prop), Rl X.K m E G0 G e σ H → fi1 e = some (ds, e') → (∀ J G' H', Rl X.K m E G0 G' e' σ H' → Stp σ G H e G' H' e' → WalkD X.K G' J ds → Q J H') → wi1 σ H Q)
    (m : Option Addr) (E : Ef) (G0 G : Hp) (e : Ev) (σ : St) (H : Hp) (r : Rs) (e' : Ev) (Q : VK) (R : Rl X.K m E G0 G e σ H) (q : x_lc2 fi γ tst fi1 γ1 tst1 fe (own.map (·.2)) vs1 e = some (r, e')) (P : Po X.K m E G0 σ G H e r e' Q) :
    tLc2 wi (tgOf X.K S γ) (ttOf X.K tst) wi1 (tgOf X.K S1 γ1) (ttOf X.K tst1) (teOf X.K fe) (own.map (·.2)) vs1 σ H Q := by
  unfold x_lc2 at q
  cases h1 : fi e with
  | none => simp only [h1] at q; cases q
  | some z =>
    obtain ⟨ds, e1⟩ := z
    simp only [h1] at q
    by_cases h2 : noAc e1 (own.map (·.2)) = true
    · rw [if_pos h2] at q
      cases h3 : lcGo2 γ tst fi1 γ1 tst1 fe (own.map (·.2)) vs1 ds (wipeE e1 (own.map (·.2))) [] with
      | none => simp only [h3] at q; cases q
      | some z =>
        obtain ⟨acc, e2⟩ := z
        simp only [h3, Option.some.injEq, Prod.mk.injEq] at q
        obtain ⟨rfl, rfl⟩ := q
        refine k m E G0 G e σ H ds e1 _ R h1 fun J G1 H1 R1 S1' W1 D hD => ?_
        exact lc2_ok R1 W1 hS h2 hS1 k1 h3 hD fun G2 H2 R2 S2 V2 => P _ G2 H2 R2 (S1'.trans S2) V2 (nw_back S1' _ fun p z => by
          cases z
          exact hD)
    · rw [if_neg h2] at q
      cases q
/-- a source, by what it gives -/
def wiOf (K : PySem.W.Frag) (f : Fi) : TI := fun σ H Q => ∃ m E G0 G e ds e', Rl K m E G0 G e σ H ∧ f e = some (ds, e') ∧ ∀ J G' H', Rl K m E G0 G' e' σ H' → Stp σ G H e G' H' e' → WalkD K G' J ds → Q J H'
theorem ID.can {X : Cx} {tg it : Expr} {f : Fi} (h : ID X tg it f) : PI X tg it (wiOf X.K f) := by
  obtain ⟨wi, p, k⟩ := h
  exact ⟨fun pins s σ H Q I ⟨m, E, G0, G, e, ds, e', R, q, P⟩ => p.run pins s σ H Q I (k m E G0 G e σ H ds e' Q R q P)⟩
/-- [elt for tg in it if .. for tg1 in it1 if ..] -/
theorem ed_lc2 (hc : X.calm = true) (hN : X.N.Nodup) (hi : ID X tg it fi) (ok : blkC X.N X.env.scope scope own = true) (hv : ∀ i ∈ vs1, i ∈ own.map (·.2)) (hS : ∀ i ∈ S, i ∈ own.map (·.2)) (hS1 : ∀ i ∈ S1, i ∈ vs1)
    (hg : ∀ (s : Shared) (H : Hp) (C : Addr) (cl : List (Str × Addr)) (fp : List Addr), GD (X.blk s H scope (compEnvC scope cl C X.env) fp) tg S γ) (ht : ∀ (s : Shared) (H : Hp) (C : Addr) (cl : List (Str × Addr)) (fp : List Addr), PTD (X.blk s H scope (compEnvC scope cl C X.env) fp) ifs tst)
    (hi1 : ∀ (s : Shared) (H : Hp) (C : Addr) (cl : List (Str × Addr)) (fp : List Addr), ID (X.blk s H scope (compEnvC scope cl C X.env) fp) tg1 it1 fi1)
    (hg1 : ∀ (s : Shared) (H : Hp) (C : Addr) (cl : List (Str × Addr)) (fp : List Addr), GD (X.blk s H scope (compEnvC scope cl C X.env) fp) tg1 S1 γ1) (ht1 : ∀ (s : Shared) (H : Hp) (C : Addr) (cl : List (Str × Addr)) (fp : List Addr), PTD (X.blk s H scope (compEnvC scope cl C X.env) fp) ifs1 tst1)
    (he : ∀ (s : Shared) (H : Hp) (C : Addr) (cl : List (Str × Addr)) (fp : List Addr), ED (X.blk s H scope (compEnvC scope cl C X.env) fp) elt fe) (hs : ∀ x, foldedSetIterable it X.env x = pure x := by intro _; rfl) (hs1 : ∀ env x, foldedSetIterable it1 env x = pure x := by intro _ _; rfl) :
    ED X (.ListComp elt [⟨tg, it, ifs, 0⟩, ⟨tg1, it1, ifs1, 0⟩] scope pos) (x_lc2 fi γ tst fi1 γ1 tst1 fe (own.map (·.2)) vs1) := by
  obtain ⟨wi, pi, k⟩ := hi
  exact ⟨_, pe_lc2 hc hN pi (blkOk_by ok) hv (fun s H C cl fp => (hg s H C cl fp).can) (fun s H C cl fp => (ht s H C cl fp).ex) (wi1 := wiOf X.K fi1) (fun s H C cl fp => (hi1 s H C cl fp).can) (fun s H C cl fp => (hg1 s H C cl fp).can) (fun s H C cl fp => (ht1 s H C cl fp).ex) (fun s H C cl fp => (he s H C cl fp).can) hs hs1, x_lc2_ok hS hS1 k fun m E G0 G e σ H ds e' Q R q P => ⟨m, E, G0, G, e, ds, e', R, q, P⟩⟩
end
end DL
namespace DL
open L2 PySem PySem.Spec PySem.W PyProof.Rows
section
variable {K : PySem.W.Frag} {m : Option Addr} {E : Ef} {G0 G H : Hp} {e : Ev} {σ : St} {p : Addr} {i : Nat}
theorem Rl.newG {o : HO} (R : Rl K m E G0 G e σ H) (h : H p = none) :
    Rl K m E G0 (upd G p o) e σ (upd H p o) ∧ Stp σ G H e (upd G p o) (upd H p o) e := by
  obtain ⟨hG, hE, hO, hm⟩ := R.fresh h
  have s1 : Same G (upd G p o) := same_new hG
  have nb : ∀ {b : Addr}, H b ≠ none → b ≠ p := fun {b} z y => z (by rw [y]; exact h)
  have W := R.wl.keep0 (H' := upd H p o) s1 (fun b b1 b2 => by rw [upd_ne (nb (R.wl.out b b1).2.1)]; exact b2) (fun b u b1 _ => same_new h b u b1)
  refine ⟨⟨R.gg.trans s1, fun b u z => ?_, fun b u b1 b2 => ?_, fun b b1 => ⟨(R.mh b b1).1, ?_⟩, fun b b1 b2 => ?_, R.len, fun i d z => ?_, fun i ds' z => ?_, R.inj, fun i dss z => (R.ot i dss z).mono s1, W.1⟩, ⟨s1, fun b b1 b2 => ?_, fun b u b1 _ => same_new h b u b1, fun _ => rfl, fun b b1 => ?_, fun a z => .inl (W.2 a z)⟩⟩
  · by_cases y : b = p
    · subst y
      rw [upd_same] at z ⊢
      exact z
    · rw [upd_ne y] at z ⊢
      exact R.gh b u z
  · exact same_new h b u (R.eh b u b1 b2)
  · rw [upd_ne (nb (R.mh b b1).2)]
    exact (R.mh b b1).2
  · have y : b ≠ p := fun y => b2 (by rw [y]; exact hE)
    rw [upd_ne y]
    exact R.nw b b1 b2
  · obtain ⟨u, z1, z2⟩ := R.im i d z
    exact ⟨u, z1, dp_same s1 z2⟩
  · obtain ⟨p', ws', z1, z2, z3, z4, z5⟩ := R.ac i ds' z
    have y : p' ≠ p := nb (by rw [z3]; simp)
    exact ⟨p', ws', z1, by rw [upd_ne y]; exact z2, by rw [upd_ne y]; exact z3, dpAll_same s1 z4, z5⟩
  · rw [upd_ne (nb b2)]
    exact b1
  · rw [upd_ne (nb b1)]
    exact b1
theorem Rl.setO {dss : Ok} (R : Rl K m E G0 G e σ H) (h : ObF K G (some (some (.ref p))) dss) : Rl K m E G0 G (e.set i (some (.ob dss))) (σ.set i (some (.ref p))) H := by
  have hl := R.len
  have keep : ∀ {j : Nat} {s : Sl}, (e.set i (some (.ob dss)))[j]? = some (some s) → (∀ d, s ≠ .ob d) → e[j]? = some (some s) ∧ (σ.set i (some (V.ref p)))[j]? = σ[j]? := fun {j s} z ns => by
    rw [set_get] at z ⊢
    by_cases y : i = j ∧ j < e.length
    · rw [if_pos y] at z
      cases z
      exact absurd rfl (ns dss)
    · rw [if_neg y] at z
      exact ⟨z, if_neg (by omega)⟩
  refine ⟨R.gg, R.gh, R.eh, R.mh, R.nw, by rw [List.length_set, List.length_set]; exact hl, fun j d z => ?_, fun j ds z => ?_, fun j k dj dk q1 z1 z2 z3 z4 => ?_, fun j ds z => ?_, Wl.set R i (fun _ z => by cases z) (fun _ _ z => by cases z)⟩
  · obtain ⟨a1, a2⟩ := keep z fun _ y => by cases y
    rw [a2]
    exact R.im j d a1
  · obtain ⟨a1, a2⟩ := keep z fun _ y => by cases y
    rw [a2]
    exact R.ac j ds a1
  · obtain ⟨a1, a2⟩ := keep z1 fun _ y => by cases y
    obtain ⟨b1, b2⟩ := keep z2 fun _ y => by cases y
    rw [a2] at z3
    rw [b2] at z4
    exact R.inj j k dj dk q1 a1 b1 z3 z4
  · rw [set_get] at z ⊢
    by_cases y : i = j ∧ j < e.length
    · rw [if_pos y] at z
      cases z
      rw [if_pos ⟨y.1, by omega⟩]
      exact h
    · rw [if_neg y] at z
      rw [if_neg (by omega)]
      exact R.ot j ds z
theorem Rz.setO {k : Ok} (R : Rz K m E G0 G e σ H) (h : ObF K G (some (some (.ref p))) k) (ok : okS [i] e = true) : Rz K m E G0 G (e.set i (some (.ob k))) (σ.set i (some (.ref p))) H :=
  ⟨R.r.setO h, fun q z => by
    obtain ⟨z1, z2⟩ := R.z q z
    have n : i ≠ 0 := fun y => okS_no ok z1 (by rw [y]; exact List.mem_singleton.mpr rfl)
    rw [List.getElem?_set_ne n, List.getElem?_set_ne n]
    exact ⟨z1, z2⟩⟩
end
end DL
namespace DL
open L2 PySem PySem.Spec PySem.W PyProof.Rows
end DL
namespace DL
open L2 PySem PySem.Spec PySem.W PyProof.Rows
abbrev tp {α : Type} (f : α → PyData) (l : List α) : PyData := .tuple (l.map f)
abbrev ls {α : Type} (f : α → PyData) (l : List α) : PyData := .list (l.map f)
abbrev p2 {α β : Type} (f : α → PyData) (g : β → PyData) (x : α × β) : PyData := .tuple [f x.1, g x.2]
abbrev p3 {α β γ : Type} (f : α → PyData) (g : β → PyData) (h : γ → PyData) (x : α × β × γ) : PyData := .tuple [f x.1, g x.2.1, h x.2.2]
def opt {α : Type} (f : α → PyData) : Option α → PyData
  | none => .none
  | some a => f a
abbrev nn (_ : Unit) : PyData := .none
abbrev idD (d : PyData) : PyData := d
abbrev imo (o : Option PyData) : Option Sl := o.map Sl.im
theorem bnd {α β : Type} {o : Option α} {k : α → Option β} {b : β} (h : o.bind k = some b) : ∃ a, o = some a ∧ k a = some b := by
  cases o with
  | none => cases h
  | some a => exact ⟨a, rfl, h⟩
theorem if1 {α : Type} {c : Bool} {a b : α} (h : c = true) : (if c = true then a else b) = a := if_pos h
theorem if0 {α : Type} {c : Bool} {a b : α} (h : c = false) : (if c = true then a else b) = b := if_neg (by rw [h]; exact Bool.false_ne_true)
class EqE {α : Type} [DecidableEq α] (f : α → PyData) where
  d : Nat
  can : ∀ a, PyData.canLay0 (f a) = true
  dep : ∀ a, (f a).depth ≤ d
  eqv : ∀ a b, PyData.eqv (f a) (f b) = decide (a = b)
instance : EqE PyData.int := ⟨0, fun a => by rw [PyData.canLay0], fun a => by rw [PyData.depth]; omega, fun a b => by rw [PyData.eqv]; exact Bool.eq_iff_iff.mpr (by simp)⟩
instance : EqE PyData.bool := ⟨0, fun a => by rw [PyData.canLay0], fun a => by rw [PyData.depth]; omega, fun a b => by rw [PyData.eqv]; exact Bool.eq_iff_iff.mpr (by simp)⟩
instance : EqE nn := ⟨0, fun a => by rw [PyData.canLay0], fun a => by rw [PyData.depth]; omega, fun a b => by rw [PyData.eqv]; rfl⟩
section
variable {α : Type} [DecidableEq α] {f : α → PyData} [E : EqE f]
theorem can_all : ∀ l : List α, PyData.canLayAll0 (l.map f) = true
  | [] => by rw [List.map_nil, PyData.canLayAll0]
  | a :: l => by rw [List.map_cons, PyData.canLayAll0, can_all l, E.can]; rfl
theorem dep_all : ∀ l : List α, PyData.depthAll (l.map f) ≤ E.d
  | [] => by rw [List.map_nil, PyData.depthAll]; omega
  | a :: l => by
    rw [List.map_cons, PyData.depthAll]
    have := dep_all l
    have := E.dep a
    omega
theorem eqv_all : ∀ l m : List α, PyData.eqvAll (l.map f) (m.map f) = decide (l = m)
  | [], [] => by rw [List.map_nil, PyData.eqvAll]; rfl
  | [], b :: m => by simp [PyData.eqvAll]
  | a :: l, [] => by simp [PyData.eqvAll]
  | a :: l, b :: m => by
    rw [List.map_cons, List.map_cons, PyData.eqvAll, eqv_all l m, E.eqv]
    exact Bool.eq_iff_iff.mpr (by simp)
end
instance {α : Type} [DecidableEq α] {f : α → PyData} [E : EqE f] : EqE (tp f) := ⟨E.d + 1, fun a => by rw [PyData.canLay0]; exact can_all a, fun a => by rw [PyData.depth]; have := dep_all (f := f) a; omega, fun a b => by rw [PyData.eqv]; exact eqv_all a b⟩
instance {α : Type} [DecidableEq α] {f : α → PyData} [E : EqE f] : EqE (ls f) := ⟨E.d + 1, fun a => by rw [PyData.canLay0]; exact can_all a, fun a => by rw [PyData.depth]; have := dep_all (f := f) a; omega, fun a b => by rw [PyData.eqv]; exact eqv_all a b⟩
instance {α β : Type} [DecidableEq α] [DecidableEq β] {f : α → PyData} {g : β → PyData} [E : EqE f] [F : EqE g] : EqE (p2 f g) := ⟨max E.d F.d + 1, fun a => by simp [PyData.canLay0, PyData.canLayAll0, E.can, F.can], fun a => by
    rw [PyData.depth, PyData.depthAll, PyData.depthAll, PyData.depthAll]
    have := E.dep a.1
    have := F.dep a.2
    omega, fun a b => by
    rw [PyData.eqv, PyData.eqvAll, PyData.eqvAll, PyData.eqvAll, E.eqv, F.eqv]
    obtain ⟨a1, a2⟩ := a
    obtain ⟨b1, b2⟩ := b
    exact Bool.eq_iff_iff.mpr (by simp)⟩
instance {α β γ : Type} [DecidableEq α] [DecidableEq β] [DecidableEq γ] {f : α → PyData} {g : β → PyData} {h : γ → PyData} [E : EqE f] [F : EqE g] [G : EqE h] : EqE (p3 f g h) := ⟨max E.d (max F.d G.d) + 1, fun a => by simp [PyData.canLay0, PyData.canLayAll0, E.can, F.can, G.can], fun a => by
    rw [PyData.depth, PyData.depthAll, PyData.depthAll, PyData.depthAll, PyData.depthAll]
    have := E.dep a.1
    have := F.dep a.2.1
    have := G.dep a.2.2
    omega, fun a b => by
    rw [PyData.eqv, PyData.eqvAll, PyData.eqvAll, PyData.eqvAll, PyData.eqvAll, E.eqv, F.eqv, G.eqv]
    obtain ⟨a1, a2, a3⟩ := a
    obtain ⟨b1, b2, b3⟩ := b
    exact Bool.eq_iff_iff.mpr (by simp)⟩
section
variable {α : Type} [DecidableEq α] {f : α → PyData} [E : EqE f]
theorem shp1 (h : E.d ≤ 64) (a : α) : SeqAt.shaped (f a) = true := by
  unfold SeqAt.shaped
  rw [E.can, Bool.true_and, decide_eq_true_eq]
  exact Nat.le_trans (E.dep a) h
theorem o_eq (h : E.d ≤ 64) (a b : α) : p_eq (f a) (f b) = some (.im (.bool (decide (a = b)))) := by
  unfold p_eq
  rw [shp1 h, shp1 h, E.eqv]
  rfl
end
class Nn {α : Type} (f : α → PyData) : Prop where
  n : ∀ a, p_isN false (f a) .none = some (.bool false) ∧ p_isN true (f a) .none = some (.bool true)
instance : Nn PyData.int := ⟨fun _ => ⟨rfl, rfl⟩⟩
instance : Nn PyData.bool := ⟨fun _ => ⟨rfl, rfl⟩⟩
instance : Nn PyData.str := ⟨fun _ => ⟨rfl, rfl⟩⟩
instance {α : Type} {f : α → PyData} : Nn (tp f) := ⟨fun _ => ⟨rfl, rfl⟩⟩
instance {α : Type} {f : α → PyData} : Nn (ls f) := ⟨fun _ => ⟨rfl, rfl⟩⟩
instance {α β : Type} {f : α → PyData} {g : β → PyData} : Nn (p2 f g) := ⟨fun _ => ⟨rfl, rfl⟩⟩
instance {α β γ : Type} {f : α → PyData} {g : β → PyData} {h : γ → PyData} : Nn (p3 f g h) := ⟨fun _ => ⟨rfl, rfl⟩⟩
section
variable {α β : Type} {f : α → PyData} {l m r : List α} {a : α} {i j k : Int}
theorem atI_map : atI (l.map f) i = (atI l i).map f := by
  unfold atI
  rw [List.length_map]
  cases ixN l.length i with
  | none => rfl
  | some j => exact List.getElem?_map
theorem o_ixT (h : atI l i = some a) : p_ix (tp f l) (.int i) = some (.im (f a)) := by
  show (atI (l.map f) i).map Rs.im = _
  rw [atI_map, h]
  rfl
theorem o_ixL (h : atI l i = some a) : p_ix (ls f l) (.int i) = some (.im (f a)) := by
  show (atI (l.map f) i).map Rs.im = _
  rw [atI_map, h]
  rfl
def modO (i j : Int) : Option Int := if 0 < j then some (i % j) else none
theorem o_mod (h : modO i j = some k) : p_mod (.int i) (.int j) = some (.im (.int k)) := by
  unfold modO at h
  by_cases z : 0 < j
  · rw [if_pos z] at h
    cases h
    exact e_mod z
  · rw [if_neg z] at h
    cases h
def powO (i j : Int) : Option Int := if powC i j = true then some (i ^ j.toNat) else none
theorem o_pow (h : powO i j = some k) : p_pow (.int i) (.int j) = some (.im (.int k)) := by
  unfold powO at h
  by_cases z : powC i j = true
  · rw [if_pos z] at h
    cases h
    unfold p_pow d_int2
    simp only [z, if_true]
    rfl
  · rw [if_neg z] at h
    cases h
def catO (l m : List α) : Option (List α) := if l.length + m.length ≤ 16777216 then some (l ++ m) else none
theorem o_catT (h : catO l m = some r) : p_add (tp f l) (tp f m) = some (.im (tp f r)) := by
  unfold catO at h
  by_cases z : l.length + m.length ≤ 16777216
  · rw [if_pos z] at h
    cases h
    rw [e_catT (by rw [List.length_map, List.length_map]; exact z)]
    show _ = some (Rs.im (.tuple ((l ++ m).map f)))
    rw [List.map_append]
  · rw [if_neg z] at h
    cases h
theorem o_catL (h : catO l m = some r) : p_add (ls f l) (ls f m) = some (.ac (r.map f)) := by
  unfold catO at h
  by_cases z : l.length + m.length ≤ 16777216
  · rw [if_pos z] at h
    cases h
    rw [e_cat (by rw [List.length_map, List.length_map]; exact z), List.map_append]
  · rw [if_neg z] at h
    cases h
theorem cut_map {lo hi : Option Int} : cutD (l.map f) lo hi = (cutD l lo hi).map f := by
  unfold cutD
  rw [List.length_map, ← List.map_drop, ← List.map_take]
theorem o_lenT : c_len [tp f l] = some (.im (.int l.length)) := by
  show some (Rs.im (.int ((l.map f).length : Nat))) = _
  rw [List.length_map]
theorem o_lenL : c_len [ls f l] = some (.im (.int l.length)) := by
  show some (Rs.im (.int ((l.map f).length : Nat))) = _
  rw [List.length_map]
theorem o_allL {l : List Bool} : c_all [ls PyData.bool l] = some (.im (.bool (l.all id))) := n_all0
theorem o_sortedL {l : List Int} : c_sortedA [ls PyData.int l] = some (.ac ((upI l).map PyData.int)) := by
  have q : c_sortedI [ls PyData.int l] = some (.ac ((upI l).map PyData.int)) := by
    unfold c_sortedI c_intsL
    dsimp only
    rw [unI_ints]
  unfold c_sortedA orC
  rw [q]
theorem o_int : c_int [.int i] = some (.im (.int i)) := rfl
theorem o_abs : c_abs [.int i] = some (.im (.int (if i < 0 then -i else i))) := rfl
theorem o_max2 : c_max2 [.int i, .int j] = some (.im (.int (max i j))) := n_max2
theorem o_min2 : c_min2 [.int i, .int j] = some (.im (.int (min i j))) := n_min2
def rngO (i j : Int) : Option (List Int) := if (rgC i && rgC j) = true then some ((List.range (j - i).toNat).map fun (k : Nat) => i + (k : Int)) else none
def rng1O (j : Int) : Option (List Int) := if rgC j = true then some ((List.range j.toNat).map fun (k : Nat) => (k : Int)) else none
def rngDO (i j : Int) : Option (List Int) := if (rgC i && rgC j) = true then some ((List.range (i - j).toNat).map fun (k : Nat) => i - (k : Int)) else none
theorem zip_typed {g : β → PyData} {m : List β} : zipD (l.map f) (m.map g) = (l.zip m).map (p2 f g) := by
  unfold zipD
  rw [List.zipWith_map, List.zip_eq_zipWith, List.map_zipWith]
def lcO {γ : Type} (p : α → Option Bool) (g : α → Option γ) : List α → Option (List γ)
  | [] => some []
  | a :: l => (p a).bind fun b => if b = true then (g a).bind fun c => (lcO p g l).bind fun cs => some (c :: cs) else lcO p g l
def lcC {γ : Type} (p : α → Option Bool) (g : α → Option γ) (l : List α) : Option (List γ) := if l.length ≤ 16777216 then lcO p g l else none
def andO (a : Bool) (o : Option Bool) : Option Bool := if a = true then o else some false
def orO (a : Bool) (o : Option Bool) : Option Bool := if a = true then some true else o
def appO (l : List α) (a : α) : Option (List α) := if l.length + 1 ≤ 16777216 then some (l ++ [a]) else none
end
section
variable {x y z : Fe} {c d : Ft} {e e1 e2 e3 : Ev} {r r1 r2 r3 : Rs} {a b : PyData} {ds : List PyData} {fa fb : Fa}
theorem binX {φ : PyData → PyData → Option Rs} (h1 : x e = some (r1, e1)) (h2 : y e1 = some (r2, e2)) (l1 : lookR e2 (frzR r1) = some a) (l2 : lookR e2 (frzR r2) = some b) (h : φ a b = some r) : x_bin φ x y e = some (r, e2) := by
  rw [r_x_bin, r_two, h1]
  simp only [h2, look2, l1, l2, h]
theorem d0 : argsD a_nil e = some ([], e) := rfl
theorem dX (h1 : x e = some (r, e1)) (h2 : argsD fa e1 = some (ds, e2)) (l1 : lookR e2 (frzR r) = some a) : argsD (a_cons x fa) e = some (a :: ds, e2) := by
  rw [r_argsD] at h2 ⊢
  rw [r_a_cons, h1]
  dsimp only
  cases z : fa e1 with
  | none => rw [z] at h2; cases h2
  | some p =>
    obtain ⟨rs, e3⟩ := p
    rw [z] at h2
    dsimp only at h2 ⊢
    cases y : lookAll e3 rs with
    | none => rw [y] at h2; cases h2
    | some es =>
      rw [y] at h2
      cases h2
      rw [n_lookAll1, l1]
      dsimp only
      rw [y]
theorem cbX {φ : List PyData → Option Rs} (h : argsD fa e = some (ds, e1)) (k : φ ds = some r) : x_cb φ fa e = some (r, e1) := by
  rw [r_x_cb, h]
  simp only [k]
theorem isX {T : Ty} {b : Bool} (h1 : x e = some (r, e1)) (l1 : lookR e1 (frzR r) = some a) (k : isD T a = some b) : x_isi T x e = some (.im (.bool b), e1) := by
  rw [r_x_isi, h1]
  simp only [l1, k]
theorem lstX (h : argsI fa e = some (ds, e1)) (hl : ds.length ≤ 16777216) : x_lst fa e = some (.ac ds, e1) := by
  rw [r_x_lst, h]
  dsimp only
  rw [if_pos (okLen_yes hl)]
theorem notX {b : Bool} (h : x e = some (.im (.bool b), e1)) : x_not x e = some (.im (.bool (!b)), e1) := by
  rw [r_x_not, h]
theorem andX {p q : Bool} {o : Option Bool} (h : x e = some (.im (.bool p), e1)) (k : andO p o = some q) (hy : p = true → ∀ q', o = some q' → y e1 = some (.im (.bool q'), e1)) : x_and x y e = some (.im (.bool q), e1) := by
  rw [r_x_and, h]
  cases p with
  | false => cases k; rfl
  | true => exact hy rfl q k
theorem tandX {p q : Bool} {o : Option Bool} (h : c e = some (p, e1)) (k : andO p o = some q) (hy : p = true → ∀ q', o = some q' → d e1 = some (q', e1)) : t_and c d e = some (q, e1) := by
  rw [r_t_and, h]
  cases p with
  | false => cases k; rfl
  | true => exact hy rfl q k
theorem torX {p q : Bool} {o : Option Bool} (h : c e = some (p, e1)) (k : orO p o = some q) (hy : p = false → ∀ q', o = some q' → d e1 = some (q', e1)) : t_or c d e = some (q, e1) := by
  rw [r_t_or, h]
  cases p with
  | true => cases k; rfl
  | false => exact hy rfl q k
end
section
variable {α : Type} {f : α → PyData} {x y z : Fe} {e e1 e2 e3 : Ev} {r : Rs} {i j k : Int} {l : List α} {fa : Fa}
theorem cutTX {lo hi : Option Int} {fl fh : Fo} (h : x e = some (.im (tp f l), e1)) (h1 : fl e1 = some (lo, e2)) (h2 : fh e2 = some (hi, e3)) : x_sl x fl fh e = some (.im (tp f (cutD l lo hi)), e3) := by
  rw [r_x_sl, h]
  simp only [h1, h2, frzR, lookR, sliced, cut_map]
theorem cutLX {lo hi : Option Int} {fl fh : Fo} (h : x e = some (r, e1)) (h1 : fl e1 = some (lo, e2)) (h2 : fh e2 = some (hi, e3)) (hl : lookR e3 (frzR r) = some (ls f l)) : x_sl x fl fh e = some (.ac ((cutD l lo hi).map f), e3) := by
  rw [r_x_sl, h]
  simp only [h1, h2, hl, sliced, cut_map]
theorem oA (h : x e = some (.im (.int i), e1)) : o_at x e = some (some i, e1) := by
  rw [r_o_at, h]
theorem oN : o_no e = some (none, e) := rfl
theorem rvTX (h : x e = some (.im (tp f l), e1)) : x_rvs x e = some (.im (tp f l.reverse), e1) := by
  rw [r_x_rvs, h]
  show some (Rs.im (.tuple (l.map f).reverse), e1) = some (Rs.im (.tuple (l.reverse.map f)), e1)
  rw [List.map_reverse]
theorem seqTX (h : x e = some (.im (tp f l), e1)) : i_seq x e = some (l.map f, e1) := iseqT h
theorem seqLX (h : x e = some (.im (ls f l), e1)) : i_seq x e = some (l.map f, e1) := iseqL h
theorem seqAX (h : x e = some (.ac (l.map f), e1)) : i_seq x e = some (l.map f, e1) := iseqA h
theorem zipTI {β : Type} {g : β → PyData} {m : List β} (h : x e = some (.im (tp f l), e1)) (h2 : y e1 = some (.im (tp g m), e2)) : i_zip x y e = some ((l.zip m).map (p2 f g), e2) := by
  rw [r_i_zip, r_two, h]
  simp only [h2, frzR, zip_typed]
theorem rng_typed (n : Nat) : rngD i n 1 = ((List.range n).map fun (k : Nat) => i + (k : Int)).map PyData.int := by
  unfold rngD
  rw [List.map_map]
  refine List.map_congr_left fun k _ => ?_
  show PyData.int (i + (k : Int) * 1) = .int (i + k)
  rw [Int.mul_one]
theorem rng2I {is : List Int} (h : x e = some (.im (.int i), e1)) (h2 : y e1 = some (.im (.int j), e2)) (k : rngO i j = some is) : i_rng2 x y e = some (is.map PyData.int, e2) := by
  rw [r_i_rng2, h]
  dsimp only
  rw [h2]
  dsimp only
  unfold rngO at k
  by_cases z : (rgC i && rgC j) = true
  · rw [if_pos z] at k ⊢
    cases k
    rw [rng_typed]
  · rw [if_neg z] at k
    cases k
theorem rng1I {is : List Int} (h : x e = some (.im (.int j), e1)) (k : rng1O j = some is) : i_rng1 x e = some (is.map PyData.int, e1) := by
  rw [r_i_rng1, h]
  dsimp only
  unfold rng1O at k
  by_cases z : rgC j = true
  · rw [if_pos z] at k ⊢
    cases k
    rw [rng_typed]
    refine congrArg some (Prod.ext ?_ rfl)
    dsimp only
    congr 1
    refine List.map_congr_left fun k _ => ?_
    omega
  · rw [if_neg z] at k
    cases k
theorem rng3I {is : List Int} (h : x e = some (.im (.int i), e1)) (h2 : y e1 = some (.im (.int j), e2)) (h3 : z e2 = some (.im (.int (-1)), e3)) (k : rngDO i j = some is) : i_rng3 x y z e = some (is.map PyData.int, e3) := by
  rw [r_i_rng3, h]
  dsimp only
  rw [h2]
  dsimp only
  rw [h3]
  dsimp only
  unfold rngDO at k
  by_cases z : (rgC i && rgC j) = true
  · rw [if_pos z] at k
    cases k
    rw [if_pos (by rw [decide_eq_true rfl, Bool.and_true]; exact z)]
    unfold rngD
    rw [List.map_map]
    refine congrArg some (Prod.ext ?_ rfl)
    refine List.map_congr_left fun k _ => ?_
    show PyData.int (i + (k : Int) * -1) = .int (i - k)
    congr 1
    omega
  · rw [if_neg z] at k
    cases k
end
section
variable {X β : Type} {enc : X → PyData} {encB : β → PyData} {fi : Fi} {γ : PyData → Ev → Option Ev} {tst : Ft} {fe : Fe} {vs : List Nat} {e e1 : Ev}
theorem lcGo_typed (p : X → Option Bool) (g : X → Option β) (w : Ev) : ∀ (l : List X) (out : List β) (acc : List PyData), lcO p g l = some out → acc.length + l.length ≤ 16777216 →
    (∀ a ∈ l, ∃ a1, γ (enc a) w = some a1 ∧ wipeE a1 vs = w ∧ (∀ b, p a = some b → tst a1 = some (b, a1)) ∧ (p a = some true → ∀ c, g a = some c → ∃ z, fe a1 = some z ∧ imR (frzR z.1) = some (encB c) ∧ z.2 = a1)) →
    lcGo γ tst fe vs (l.map enc) w acc = some (acc ++ out.map encB, w)
  | [], out, acc, h, _, _ => by
    cases h
    show some (acc, _) = some (acc ++ [], _)
    rw [List.append_nil]
  | a :: l, out, acc, h, hl, k => by
    obtain ⟨b, hb, h⟩ := bnd h
    obtain ⟨a1, k1, k2, k3, k4⟩ := k a List.mem_cons_self
    rw [List.length_cons] at hl
    rw [List.map_cons]
    simp only [lcGo, k1, k3 b hb]
    cases b with
    | false =>
      rw [if_neg Bool.false_ne_true] at h
      simp only [k2]
      exact lcGo_typed p g w l out acc h (by omega) fun x m => k x (List.mem_cons_of_mem _ m)
    | true =>
      rw [if_pos rfl] at h
      obtain ⟨c, hc, h⟩ := bnd h
      obtain ⟨cs, hcs, h⟩ := bnd h
      cases h
      obtain ⟨⟨r, e3⟩, z1, z2, z3⟩ := k4 hb c hc
      simp only [z1, z2]
      dsimp only at z3
      rw [if_pos (okLen_yes (by omega)), z3, k2, lcGo_typed p g w l cs _ hcs (by simp only [List.length_append, List.length_cons, List.length_nil]; omega) fun x m => k x (List.mem_cons_of_mem _ m)]
      rw [List.map_cons, List.append_assoc]
      rfl
theorem lcX {items : List X} {p : X → Option Bool} {g : X → Option β} {out : List β} (h : lcC p g items = some out) (hi : fi e = some (items.map enc, e1)) (hn : noAc e1 vs = true)
    (k : ∀ a ∈ items, ∃ a1, γ (enc a) (wipeE e1 vs) = some a1 ∧ wipeE a1 vs = wipeE e1 vs ∧ (∀ b, p a = some b → tst a1 = some (b, a1)) ∧ (p a = some true → ∀ c, g a = some c → ∃ z, fe a1 = some z ∧ imR (frzR z.1) = some (encB c) ∧ z.2 = a1)) :
    x_lc fi γ tst fe vs e = some (.ac (out.map encB), e1) := by
  unfold lcC at h
  by_cases z : items.length ≤ 16777216
  · rw [if_pos z] at h
    unfold x_lc
    simp only [hi]
    rw [if_pos hn, lcGo_typed p g _ items out [] h (by simpa using z) k]
    simp only [rest_wipe, List.nil_append]
  · rw [if_neg z] at h
    cases h
end
section
open Classical
variable {ρ : Type}
noncomputable def chI (enc : ρ → PyData) (o : Option Rs) : Option ρ := if h : ∃ r, o = some (.im (enc r)) then some (choose h) else none
theorem chI_ok {enc : ρ → PyData} {o : Option Rs} {r : ρ} (h : chI enc o = some r) : o = some (.im (enc r)) := by
  unfold chI at h
  by_cases z : ∃ r, o = some (.im (enc r))
  · rw [dif_pos z] at h
    cases h
    exact choose_spec z
  · rw [dif_neg z] at h
    cases h
/-- what it is, where the data tell it -/
theorem chI_eq {enc : ρ → PyData} {o : Option Rs} {r : ρ} (inj : ∀ a b, enc a = enc b → a = b) (h : o = some (.im (enc r))) : chI enc o = some r := by
  have z : ∃ r, o = some (.im (enc r)) := ⟨r, h⟩
  unfold chI
  rw [dif_pos z]
  have q := h.symm.trans (choose_spec z)
  injection q with q
  injection q with q
  rw [inj _ _ q]
end
end DL
namespace DL
open L2 PySem PySem.Spec PySem.W PyProof.Rows
inductive Lp (σ ρ : Type) where
  | nx (s : σ) | bk (s : σ) | rt (r : ρ)
def PK {σ ρ : Type} (inv : σ → Ev → Prop) (rt : ρ → Rs → Ev → Prop) : Lp σ ρ → Fl → Prop
  | .nx s, .nx e => inv s e
  | .nx s, .ct e => inv s e
  | .bk s, .bk e => inv s e
  | .rt r, .rt r' e => rt r r' e
  | _, _ => False
def SK {σ : Type} (inv : σ → Ev → Prop) : σ → Fl → Prop
  | s, .nx e => inv s e
  | s, .ct e => inv s e
  | _, _ => False
def RK {ρ : Type} (rt : ρ → Rs → Ev → Prop) : ρ → Fl → Prop
  | r, .rt r' e => rt r r' e
  | r, .nx e => rt r (.im .none) e
  | _, _ => False
def forG {α σ ρ : Type} (body : α → σ → Option (Lp σ ρ)) : List α → σ → Option (Lp σ ρ)
  | [], s => some (.nx s)
  | a :: l, s => (body a s).bind fun r => match r with
    | .nx s' => forG body l s'
    | .bk s' => some (.nx s')
    | .rt r => some (.rt r)
def forS {α σ : Type} (body : α → σ → Option σ) : List α → σ → Option σ
  | [], s => some s
  | a :: l, s => (body a s).bind fun s' => forS body l s'
def thenL {σ ρ τ : Type} (o : Option (Lp σ ρ)) (rt : ρ → Option τ) (k : σ → Option τ) : Option τ := o.bind fun l => match l with
  | .nx s => k s
  | .bk s => k s
  | .rt r => rt r
theorem thenL_nx {σ ρ τ : Type} {o : Option (Lp σ ρ)} {s : σ} {rt : ρ → Option τ} {k : σ → Option τ} (h : o = some (.nx s)) : thenL o rt k = k s := by
  rw [h]; rfl
theorem thenL_rt {σ ρ τ : Type} {o : Option (Lp σ ρ)} {r : ρ} {rt : ρ → Option τ} {k : σ → Option τ} (h : o = some (.rt r)) : thenL o rt k = rt r := by
  rw [h]; rfl
section
variable {f g : Fs} {e e1 e2 : Ev} {Q : Fl → Prop} {x y : Fe} {i : Nat} {ds : List PyData}
theorem t_set {α : Type} {f : α → PyData} {v w : α} (hw : some v = some w) (h : x e = some (.im (f v), e1)) (ok : okS [i] e1 = true) (q : Q (.nx (e1.set i (some (.im (f w)))))) : wS (s_setF i x) e Q := by
  cases hw
  exact w_setI h ok q
theorem t_setB {α : Type} {f : α → PyData} {v w : α} (hw : some v = some w) (h : x e = some (.im (f v), e1)) (ok : okS [i] e1 = true) (q : Q (.nx (e1.set i (some (.im (f w)))))) : wS (s_set i x) e Q := by
  cases hw
  exact w_setB h ok q
theorem t_setL {α : Type} {f : α → PyData} {v w : List α} (hw : some v = some w) (h : x e = some (.ac (v.map f), e1)) (ok : okS [i] e1 = true) (q : Q (.nx (e1.set i (some (.im (ls f w)))))) : wS (s_setF i x) e Q := by
  cases hw
  exact w_setL h ok q
theorem t_setA {α : Type} {f : α → PyData} {v w : List α} (hw : some v = some w) (h : x e = some (.ac (v.map f), e1)) (ok : okS [i] e1 = true) (q : Q (.nx (e1.set i (some (.ac (w.map f)))))) : wS (s_set i x) e Q := by
  cases hw
  exact w_setA h ok q
theorem t_app {α : Type} {f : α → PyData} {l m : List α} {a : α} (hm : appO l a = some m) (h : ∃ r, x e = some (r, e1) ∧ imR (frzR r) = some (f a)) (h0 : isAc e[i]? = true) (hi : e1[i]? = some (some (.ac (l.map f)))) (q : Q (.nx (e1.set i (some (.ac (m.map f)))))) : wS (s_drop (x_app i x)) e Q := by
  unfold appO at hm
  by_cases z : l.length + 1 ≤ 16777216
  · rw [if_pos z] at hm
    cases hm
    obtain ⟨r, h, hr⟩ := h
    refine w_drop (r := .im .none) ?_ q
    rw [r_x_app, if_pos h0, h]
    simp only [hr, hi]
    rw [if_pos (okLen_yes (by rw [List.length_map]; exact z)), List.map_append]
    rfl
  · rw [if_neg z] at hm
    cases hm
def setO (l : List Int) : Option (List Int) := if l.length + 1 < 4096 then some l else none
def JK {σ τ : Type} (inv : σ → Ev → Prop) (seg : σ → Option τ) (t : τ) (Q : Fl → Prop) : Fl → Prop
  | .nx e => ∃ s, inv s e ∧ seg s = some t
  | fl => Q fl
theorem t_join {σ τ : Type} (inv : σ → Ev → Prop) (seg : σ → Option τ) {t : τ} (K : ∀ s e, inv s e → seg s = some t → wS g e Q) (h : wS f e (JK inv seg t Q)) : wS (s_seq f g) e Q := by
  obtain ⟨fl, h1, h2⟩ := h
  refine w_seq ⟨fl, h1, ?_⟩
  cases fl with
  | nx e => obtain ⟨s, h3, h4⟩ := h2; exact K s e h3 h4
  | bk e => exact h2
  | ct e => exact h2
  | rt r e => exact h2
end
section
variable {fi : Fi} {γ : PyData → Ev → Option Ev} {S : List Nat} {fb : Fs} {e e1 : Ev} {Q : Fl → Prop}
theorem t_forG {X σ ρ : Type} (enc : X → PyData) (items : List X) (body : X → σ → Option (Lp σ ρ)) (inv : σ → Ev → Prop) (rt : ρ → Rs → Ev → Prop) {s0 : σ} {l : Lp σ ρ} (hi : fi e = some (items.map enc, e1)) (h0 : inv s0 e1) (h : forG body items s0 = some l)
    (hb : ∀ x s l, body x s = some l → ∀ e, inv s e → okS S e = true ∧ ∃ e2, γ (enc x) e = some e2 ∧ wS fb e2 (PK inv rt l))
    (q1 : ∀ s, l = .nx s → ∀ e, inv s e → Q (.nx e)) (q2 : ∀ r, l = .rt r → ∀ r' e, rt r r' e → Q (.rt r' e)) : wS (s_for fi γ S fb) e Q := by
  have go : ∀ (items : List X) (s0 : σ) (e : Ev), inv s0 e → forG body items s0 = some l → ∃ fl, forGo γ S fb (items.map enc) e = some fl ∧ Q fl := by
    intro items
    induction items with
    | nil =>
      intro s0 e h0 h
      cases h
      exact ⟨_, rfl, q1 s0 rfl e h0⟩
    | cons x items ih =>
      intro s0 e h0 h
      obtain ⟨l1, hl1, h⟩ := bnd h
      obtain ⟨k1, e2, k2, fl, k3, k4⟩ := hb x s0 l1 hl1 e h0
      rw [List.map_cons]
      simp only [forGo, k1, k2, k3, if_true]
      cases l1 with
      | nx s1 =>
        cases fl with
        | nx e3 => exact ih s1 e3 k4 h
        | ct e3 => exact ih s1 e3 k4 h
        | bk e3 => exact k4.elim
        | rt r e3 => exact k4.elim
      | bk s1 =>
        cases h
        cases fl with
        | nx e3 => exact k4.elim
        | ct e3 => exact k4.elim
        | bk e3 => exact ⟨_, rfl, q1 s1 rfl e3 k4⟩
        | rt r e3 => exact k4.elim
      | rt r =>
        cases h
        cases fl with
        | nx e3 => exact k4.elim
        | ct e3 => exact k4.elim
        | bk e3 => exact k4.elim
        | rt r' e3 => exact ⟨_, rfl, q2 r rfl r' e3 k4⟩
  obtain ⟨fl, h1, h2⟩ := go items s0 e1 h0 h
  exact ⟨fl, sf hi h1, h2⟩
theorem t_forS {X σ : Type} (enc : X → PyData) (items : List X) (body : X → σ → Option σ) (inv : σ → Ev → Prop) {s0 s : σ} (hi : fi e = some (items.map enc, e1)) (h0 : inv s0 e1) (h : forS body items s0 = some s)
    (hb : ∀ x s s', body x s = some s' → ∀ e, inv s e → okS S e = true ∧ ∃ e2, γ (enc x) e = some e2 ∧ wS fb e2 (SK inv s'))
    (q1 : ∀ e, inv s e → Q (.nx e)) : wS (s_for fi γ S fb) e Q := by
  have go : ∀ (items : List X) (s0 : σ) (e : Ev), inv s0 e → forS body items s0 = some s → ∃ fl, forGo γ S fb (items.map enc) e = some fl ∧ Q fl := by
    intro items
    induction items with
    | nil =>
      intro s0 e h0 h
      cases h
      exact ⟨_, rfl, q1 e h0⟩
    | cons x items ih =>
      intro s0 e h0 h
      obtain ⟨l1, hl1, h⟩ := bnd h
      obtain ⟨k1, e2, k2, fl, k3, k4⟩ := hb x s0 l1 hl1 e h0
      rw [List.map_cons]
      simp only [forGo, k1, k2, k3, if_true]
      cases fl with
      | nx e3 => exact ih l1 e3 k4 h
      | ct e3 => exact ih l1 e3 k4 h
      | bk e3 => exact k4.elim
      | rt r e3 => exact k4.elim
  obtain ⟨fl, h1, h2⟩ := go items s0 e1 h0 h
  exact ⟨fl, sf hi h1, h2⟩
end
section
variable {x y : Fe} {c d : Ft} {e e1 e2 : Ev} {p q : Bool} {i : Nat} {ds : List PyData}
theorem vB (h : e[i]? = some (some (.ac ds))) : x_var i e = some (.br i, e) := by
  rw [r_x_var, h]
end
section
variable {ρ : Type} {n nl : Nat} {g : Fs} {ds : List PyData}
def rtI (enc : ρ → PyData) (r : ρ) (r' : Rs) (e : Ev) : Prop := finR r' e = some (.im (enc r))
def rtA (enc : ρ → PyData) (r : List ρ) (r' : Rs) (e : Ev) : Prop := finR r' e = some (.ac (r.map enc))
theorem t_fnI {enc : ρ → PyData} {r : ρ} (hl : ds.length = n) (h : wS g (env0 ds nl) (RK (rtI enc) r)) : runF n nl g ds = some (.im (enc r)) := by
  obtain ⟨fl, h1, h2⟩ := h
  unfold runF
  rw [if_pos hl, h1]
  cases fl with
  | nx e => exact h2
  | bk e => exact h2.elim
  | ct e => exact h2.elim
  | rt r e => exact h2
theorem t_fnA {enc : ρ → PyData} {r : List ρ} (hl : ds.length = n) (h : wS g (env0 ds nl) (RK (rtA enc) r)) : runF n nl g ds = some (.ac (r.map enc)) := by
  obtain ⟨fl, h1, h2⟩ := h
  unfold runF
  rw [if_pos hl, h1]
  cases fl with
  | nx e => exact h2
  | bk e => exact h2.elim
  | ct e => exact h2.elim
  | rt r e => exact h2
end
end DL
namespace DL
open L2 PySem PySem.Spec PySem.W PyProof.Rows
section
variable {X Y β : Type} {enc : X → PyData} {enc1 : Y → PyData} {encB : β → PyData} {fi fi1 : Fi} {γ γ1 : PyData → Ev → Option Ev} {tst tst1 : Ft} {fe : Fe} {vs vs1 : List Nat} {e e1 : Ev}
def lc2O (p : X → Option Bool) (i : X → Option (List Y)) (p1 : X → Y → Option Bool) (g : X → Y → Option β) : List X → Option (List β)
  | [] => some []
  | a :: l => (p a).bind fun b => if b = true then (i a).bind fun js => (lcO (p1 a) (g a) js).bind fun cs => (lc2O p i p1 g l).bind fun ds => some (cs ++ ds) else lc2O p i p1 g l
def lc2C (p : X → Option Bool) (i : X → Option (List Y)) (p1 : X → Y → Option Bool) (g : X → Y → Option β) (l : List X) : Option (List β) := (lc2O p i p1 g l).bind fun r => if r.length ≤ 16777216 then some r else none
/-- as lcGo_typed, bounded by what comes out -/
theorem lcGo_typed2 (p : X → Option Bool) (g : X → Option β) (w : Ev) : ∀ (l : List X) (out : List β) (acc : List PyData), lcO p g l = some out → acc.length + out.length ≤ 16777216 →
    (∀ a ∈ l, ∃ a1, γ (enc a) w = some a1 ∧ wipeE a1 vs = w ∧ (∀ b, p a = some b → tst a1 = some (b, a1)) ∧ (p a = some true → ∀ c, g a = some c → ∃ z, fe a1 = some z ∧ imR (frzR z.1) = some (encB c) ∧ z.2 = a1)) →
    lcGo γ tst fe vs (l.map enc) w acc = some (acc ++ out.map encB, w)
  | [], out, acc, h, _, _ => by
    cases h
    show some (acc, _) = some (acc ++ [], _)
    rw [List.append_nil]
  | a :: l, out, acc, h, hl, k => by
    obtain ⟨b, hb, h⟩ := bnd h
    obtain ⟨a1, k1, k2, k3, k4⟩ := k a List.mem_cons_self
    rw [List.map_cons]
    simp only [lcGo, k1, k3 b hb]
    cases b with
    | false =>
      rw [if_neg Bool.false_ne_true] at h
      simp only [k2]
      exact lcGo_typed2 p g w l out acc h hl fun x m => k x (List.mem_cons_of_mem _ m)
    | true =>
      rw [if_pos rfl] at h
      obtain ⟨c, hc, h⟩ := bnd h
      obtain ⟨cs, hcs, h⟩ := bnd h
      cases h
      rw [List.length_cons] at hl
      obtain ⟨⟨r, e3⟩, z1, z2, z3⟩ := k4 hb c hc
      simp only [z1, z2]
      dsimp only at z3
      rw [if_pos (okLen_yes (by omega)), z3, k2, lcGo_typed2 p g w l cs _ hcs (by simp only [List.length_append, List.length_cons, List.length_nil]; omega) fun x m => k x (List.mem_cons_of_mem _ m)]
      rw [List.map_cons, List.append_assoc]
      rfl
theorem lc2X {items : List X} {p : X → Option Bool} {i : X → Option (List Y)} {p1 : X → Y → Option Bool} {g : X → Y → Option β} {out : List β} (h : lc2C p i p1 g items = some out) (hi : fi e = some (items.map enc, e1)) (hn : noAc e1 vs = true)
    (k : ∀ a ∈ items, ∃ a1, γ (enc a) (wipeE e1 vs) = some a1 ∧ wipeE a1 vs = wipeE e1 vs ∧ (∀ b, p a = some b → tst a1 = some (b, a1)) ∧ (p a = some true → ∀ js, i a = some js → fi1 a1 = some (js.map enc1, a1) ∧ noAc a1 vs1 = true ∧ wipeE (restE a1 (wipeE a1 vs1) vs1) vs = wipeE e1 vs ∧
      ∀ c ∈ js, ∃ a2, γ1 (enc1 c) (wipeE a1 vs1) = some a2 ∧ wipeE a2 vs1 = wipeE a1 vs1 ∧ (∀ b, p1 a c = some b → tst1 a2 = some (b, a2)) ∧ (p1 a c = some true → ∀ y, g a c = some y → ∃ z, fe a2 = some z ∧ imR (frzR z.1) = some (encB y) ∧ z.2 = a2))) :
    x_lc2 fi γ tst fi1 γ1 tst1 fe vs vs1 e = some (.ac (out.map encB), e1) := by
  have go : ∀ (l : List X) (out : List β) (acc : List PyData), (∀ a ∈ l, a ∈ items) → lc2O p i p1 g l = some out → acc.length + out.length ≤ 16777216 → lcGo2 γ tst fi1 γ1 tst1 fe vs vs1 (l.map enc) (wipeE e1 vs) acc = some (acc ++ out.map encB, wipeE e1 vs) := by
    intro l
    induction l with
    | nil =>
      intro out acc _ h _
      cases h
      show some (acc, _) = some (acc ++ [], _)
      rw [List.append_nil]
    | cons a l ih =>
      intro out acc hm h hl
      obtain ⟨b, hb, h⟩ := bnd h
      obtain ⟨a1, k1, k2, k3, k4⟩ := k a (hm a List.mem_cons_self)
      rw [List.map_cons]
      simp only [lcGo2, k1, k3 b hb]
      cases b with
      | false =>
        rw [if_neg Bool.false_ne_true] at h
        simp only [k2]
        exact ih out acc (fun x m => hm x (List.mem_cons_of_mem _ m)) h hl
      | true =>
        rw [if_pos rfl] at h
        obtain ⟨js, hjs, h⟩ := bnd h
        obtain ⟨cs, hcs, h⟩ := bnd h
        obtain ⟨ds, hds, h⟩ := bnd h
        cases h
        rw [List.length_append] at hl
        obtain ⟨m1, m2, m3, m4⟩ := k4 hb js hjs
        simp only [m1]
        rw [if_pos m2, lcGo_typed2 (p1 a) (g a) _ js cs acc hcs (by omega) m4]
        dsimp only
        rw [m3, ih ds _ (fun x m => hm x (List.mem_cons_of_mem _ m)) hds (by rw [List.length_append, List.length_map]; omega), List.map_append, List.append_assoc]
  obtain ⟨r, hr, h⟩ := bnd h
  by_cases z : r.length ≤ 16777216
  · rw [if_pos z] at h
    cases h
    unfold x_lc2
    simp only [hi]
    rw [if_pos hn, go items _ [] (fun _ m => m) hr (by simpa using z)]
    simp only [rest_wipe, List.nil_append]
  · rw [if_neg z] at h
    cases h
end
end DL
namespace DL
open PySem PySem.Spec PyProof.Rows L2
structure Xc where
  c : Str
  fs : List (Str × PyData)
abbrev Ex (α : Type) := α ⊕ (Xc × Ev)
abbrev Fsx := Ev → Option (Ex Fl)
abbrev Fex := Ev → Option (Ex (Rs × Ev))
/-- its dict -/
def FsAt (K : PySem.W.Frag) (G : Hp) (fs : List (Str × V)) (ds : List (Str × PyData)) : Prop := fs.map (·.1) = ds.map (·.1) ∧ DpAll K G (fs.map (·.2)) (ds.map (·.2))
def XcAt (K : PySem.W.Frag) (mg : Str → Option Value) (G : Hp) (cls : Value) (d : Option Addr) (x : Xc) : Prop := ∃ (C dd : Addr) (fs : List (Str × V)), mg x.c = some (.ref C) ∧ cls = .ref C ∧ d = some dd ∧ G dd = some (.xd fs) ∧ FsAt K G fs x.fs
theorem FsAt.same {K : PySem.W.Frag} {G G' : Hp} {fs : List (Str × V)} {ds : List (Str × PyData)} (h : FsAt K G fs ds) (s : Same G G') : FsAt K G' fs ds := ⟨h.1, dpAll_same s h.2⟩
theorem XcAt.same {K : PySem.W.Frag} {mg : Str → Option Value} {G G' : Hp} {cls : Value} {d : Option Addr} {x : Xc} (h : XcAt K mg G cls d x) (s : Same G G') : XcAt K mg G' cls d x := by
  obtain ⟨C, dd, fs, h1, h2, h3, h4, h5⟩ := h
  exact ⟨C, dd, fs, h1, h2, h3, s dd _ h4, h5.same s⟩
def PoX (K : PySem.W.Frag) (mg : Str → Option Value) (m : Option Addr) (E : Ef) (G0 G : Hp) (D : Ends) (W : WX) : Ex Fl → Prop
  | .inl fl => PoS K m E G0 G D fl
  | .inr (x, e) => ∀ cls d G' σ H, Same G G' → Rz K m E G0 G' e σ H → XcAt K mg G' cls d x → W cls d σ H
theorem PoX.aft {K : PySem.W.Frag} {mg : Str → Option Value} {m : Option Addr} {E : Ef} {G0 G G' : Hp} {D : Ends} {W : WX} {o : Ex Fl} (P : PoX K mg m E G0 G D W o) (s : Same G G') : PoX K mg m E G0 G' D W o := by
  cases o with
  | inl fl => exact PoS.aft P s
  | inr y => exact fun cls d G2 σ H s2 R X => P cls d G2 σ H (s.trans s2) R X
/-- the weakest reading -/
def tsX (K : PySem.W.Frag) (mg : Str → Option Value) (f : Fsx) (W : WX) : TS := fun D σ H => ∃ m E G0 G e o, Rz K m E G0 G e σ H ∧ f e = some o ∧ PoX K mg m E G0 G D W o
structure SDX (X : Cx) (W : WX) (st : Stmt) (f : Fsx) : Prop where
  run : PS X st (tsX X.K X.mg f W)
structure SsDX (X : Cx) (W : WX) (sts : List Stmt) (f : Fsx) : Prop where
  run : PSs X sts (tsX X.K X.mg f W)
def PoE (K : PySem.W.Frag) (mg : Str → Option Value) (m : Option Addr) (E : Ef) (G0 : Hp) (σ : St) (G H : Hp) (e : Ev) (W : WX) (Q : VK) : Ex (Rs × Ev) → Prop
  | .inl (r, e') => Po K m E G0 σ G H e r e' Q
  | .inr (x, e') => ∀ cls d G' H', Rl K m E G0 G' e' σ H' → Stp σ G H e G' H' e' → XcAt K mg G' cls d x → W cls d σ H'
def teX (K : PySem.W.Frag) (mg : Str → Option Value) (f : Fex) (W : WX) : TE := fun σ H Q => ∃ m E G0 G e o, Rl K m E G0 G e σ H ∧ f e = some o ∧ PoE K mg m E G0 σ G H e W Q o
structure EDX (X : Cx) (W : WX) (x : Expr) (f : Fex) : Prop where
  run : PE X x (teX X.K X.mg f W)
theorem ps_imp {X : Cx} {st : Stmt} {t u : TS} (h : PS X st t) (k : ∀ D σ H, u D σ H → t D σ H) : PS X st u := ⟨fun pins s σ H D I q => h.run pins s σ H D I (k D σ H q)⟩
theorem pss_imp {X : Cx} {st : List Stmt} {t u : TS} (h : PSs X st t) (k : ∀ D σ H, u D σ H → t D σ H) : PSs X st u := ⟨fun pins s σ H D I q => h.run pins s σ H D I (k D σ H q)⟩
theorem pe_imp {X : Cx} {x : Expr} {t u : TE} (h : PE X x t) (k : ∀ σ H Q, u σ H Q → t σ H Q) : PE X x u := ⟨fun pins s σ H Q I q => h.run pins s σ H Q I (k σ H Q q)⟩
section
variable {X : Cx} {W : WX} {st : Stmt} {rest : List Stmt} {f g : Fsx} {fs : Fs} {pos : Pos} {a : Expr} {fe : Fe}
def xS (f : Fs) : Fsx := fun e => (f e).map .inl
def xE (f : Fe) : Fex := fun e => (f e).map .inl
theorem SD.x (h : SD X st fs) : SDX X W st (xS fs) := by
  obtain ⟨t, p, k⟩ := h
  refine ⟨ps_imp p fun D σ H ⟨m, E, G0, G, e, o, R, q, P⟩ => ?_⟩
  unfold xS at q
  cases h1 : fs e with
  | none => rw [h1] at q; cases q
  | some fl =>
    rw [h1] at q
    cases q
    exact k m E G0 G e σ H fl D R h1 P
theorem SsD.x {sts : List Stmt} (h : SsD X sts fs) : SsDX X W sts (xS fs) := by
  obtain ⟨t, p, k⟩ := h
  refine ⟨pss_imp p fun D σ H ⟨m, E, G0, G, e, o, R, q, P⟩ => ?_⟩
  unfold xS at q
  cases h1 : fs e with
  | none => rw [h1] at q; cases q
  | some fl =>
    rw [h1] at q
    cases q
    exact k m E G0 G e σ H fl D R h1 P
theorem ED.x (h : ED X a fe) : EDX X W a (xE fe) := by
  obtain ⟨t, p, k⟩ := h
  refine ⟨pe_imp p fun σ H Q ⟨m, E, G0, G, e, o, R, q, P⟩ => ?_⟩
  unfold xE at q
  cases h1 : fe e with
  | none => rw [h1] at q; cases q
  | some z =>
    obtain ⟨r, e'⟩ := z
    rw [h1] at q
    cases q
    exact k m E G0 G e σ H r e' Q R h1 P
def x_seq (f g : Fsx) : Fsx := fun e => match f e with
  | some (.inl (.nx e1)) => g e1
  | o => o
theorem ssdx_nil : SsDX X W [] (xS s_nx) := SsD.x ssd_nil
theorem ssdx_cons (h : SDX X W st f) (h2 : SsDX X W rest g) : SsDX X W (st :: rest) (x_seq f g) := by
  refine ⟨pss_imp (pss_cons h.run h2.run) fun D σ H ⟨m, E, G0, G, e, o, R, q, P⟩ => ?_⟩
  unfold x_seq at q
  show tsX X.K X.mg f W { D with nx := tsX X.K X.mg g W D } σ H
  split at q
  · rename_i e1 h1
    exact ⟨m, E, G0, G, e, _, R, h1, fun G' σ' H' s R' => ⟨m, E, G0, G', e1, o, R', q, P.aft s⟩⟩
  · rename_i h1
    refine ⟨m, E, G0, G, e, o, R, q, ?_⟩
    cases o with
    | inl fl =>
      cases fl with
      | nx e1 => exact absurd q (h1 e1)
      | bk e1 => exact P
      | ct e1 => exact P
      | rt r e1 => exact P
    | inr y => exact P
theorem ssdx_one (h : SDX X W st f) : SsDX X W [st] f := by
  refine ⟨pss_imp (pss_one h.run) fun D σ H q => q⟩
def x_ifS (c : Ft) (f g : Fsx) : Fsx := fun e => match c e with
  | some (true, e1) => f e1
  | some (false, e1) => g e1
  | none => none
theorem sdx_if {tst : Expr} {A B : List Stmt} {c : Ft} (hc : TD X tst c) (ha : SsDX X W A f) (hb : SsDX X W B g) : SDX X W (.If tst A B pos) (x_ifS c f g) := by
  obtain ⟨t, p, k⟩ := hc
  refine ⟨ps_imp (ps_if p ha.run hb.run) fun D σ H ⟨m, E, G0, G, e, o, R, q, P⟩ => ?_⟩
  unfold x_ifS at q
  split at q
  · rename_i e1 h1
    refine k m E G0 G e σ H true e1 _ R.r h1 fun G' H' R' S' => ?_
    rw [if_pos rfl]
    exact ⟨m, E, G0, G', e1, o, R.exp R' S', q, P.aft S'.gg⟩
  · rename_i e1 h1
    refine k m E G0 G e σ H false e1 _ R.r h1 fun G' H' R' S' => ?_
    rw [if_neg Bool.false_ne_true]
    exact ⟨m, E, G0, G', e1, o, R.exp R' S', q, P.aft S'.gg⟩
  · cases q
variable {fx : Fex}
def x_drop (f : Fex) : Fsx := fun e => match f e with
  | some (.inl (_, e1)) => some (.inl (.nx e1))
  | some (.inr y) => some (.inr y)
  | none => none
theorem sdx_expr (h : EDX X W a fx) (hs : swapsWith a none pos.line X.env = pure false := by rfl) : SDX X W (.Expr a pos) (x_drop fx) := by
  refine ⟨ps_imp (ps_expr h.run hs) fun D σ H ⟨m, E, G0, G, e, o, R, q, P⟩ => ?_⟩
  unfold x_drop at q
  split at q
  · rename_i r e1 h1
    cases q
    exact ⟨m, E, G0, G, e, _, R.r, h1, fun v G' H' R' S' V N => P G' σ H' S'.gg (R.exp R' S')⟩
  · rename_i y h1
    cases q
    obtain ⟨x, e1⟩ := y
    exact ⟨m, E, G0, G, e, _, R.r, h1, fun cls d G' H' R' S' X' => P cls d G' σ H' S'.gg (R.exp R' S') X'⟩
  · cases q
def x_ret (f : Fex) : Fsx := fun e => match f e with
  | some (.inl (r, e1)) => some (.inl (.rt r e1))
  | some (.inr y) => some (.inr y)
  | none => none
def x_set (i : Nat) (f : Fex) : Fsx := fun e => match f e with
  | some (.inl (r, e1)) => (s_setF i (fun _ => some (r, e1)) e).map .inl
  | some (.inr y) => some (.inr y)
  | none => none
end
end DL
namespace DL
open PySem PySem.Spec PyProof.Rows L2
abbrev Ro := Rs ⊕ Xc
def spX (K : PySem.W.Frag) (mg : Str → Option Value) (n : Nat) (φ : List PyData → Option Ro) : Sp := fun vs H Q E => ∃ G ds o, Same G H ∧ DpAll K G vs ds ∧ vs.length = n ∧ φ ds = some o ∧
  (∀ r, o = .inl r → ∀ v G' H', Same G G' → Same G' H' → Same H H' → (∀ a, G a = none → H a ≠ none → G' a = none) → VrF K G' H H' v r → Q v H') ∧
  (∀ x, o = .inr x → ∀ cls d G' H', Same G G' → Same G' H' → Same H H' → (∀ a, G a = none → H a ≠ none → G' a = none) → XcAt K mg G' cls d x → E cls d H')
inductive KfX (P : Program) (w : World) (K : PySem.W.Frag) (mg : Str → Option Value) (base : Heap) (k : Nat) (x : Str) (sp : Sp) (dvs : List V) : Prop where
  | kept (at_ : Addr) (fd : FuncData) (names : List Str) (given : List Value) (fn : FnOk P w K mg base (L2N.CX P w) k at_ fd names sp) (here : mg x = some (.ref at_)) (stays : PySem.W.keepIn K (.ref at_) = true) (binds : Binds K fd names given) (vals : Vals dvs given)
def runX (n nl : Nat) (g : Fsx) (ds : List PyData) : Option Ro := if ds.length = n then (match g (env0 ds nl) with
  | some (.inl (.rt r e)) => (finR r e).map .inl
  | some (.inl (.nx _)) => some (.inl (.im .none))
  | some (.inr (x, _)) => some (.inr x)
  | _ => none) else none
theorem runX_len {n nl : Nat} {g : Fsx} : ∀ ds, (runX n nl g ds).isSome = true → ds.length = n := fun ds h => by
  unfold runX at h
  by_cases z : ds.length = n
  · exact z
  · rw [if_neg z] at h
    cases h
section
variable {P : Program} {w : World} {K : PySem.W.Frag} {mg : Str → Option Value} {base : Heap} {x qual : Str} {params : Arguments} {body : List Stmt} {scope : Scope} {dvs : List V} {kws : List (Str × V)} {f : Addr} {fd : FuncData} {N ps : List Str} {k n nl : Nat} {g : Fsx}
theorem fnX (F : FunD K x qual params body scope dvs kws f fd) (S : FnScope N ps scope) (hp : ps.length = n) (hl : n + nl = N.length)
    (hb : ∀ (cdv : Value) (A : Around) (outer : List Env) (s : Shared) (H : Hp) (E : XK), Room k (A.deeper (envOfC qual scope s.heap.objs.size f cdv)) → L2N.Takes (cxOf (L2N.CX P w) P w K mg base N qual scope f cdv A outer s H E) (fun cls d _ H => E cls d H) →
      SsDX (cxOf (L2N.CX P w) P w K mg base N qual scope f cdv A outer s H E) (fun cls d _ H => E cls d H) body g) :
    FnOk P w K mg base (L2N.CX P w) (k + 1) f fd ps (spX K mg n (runX n nl g)) := by
  refine F.ok S (fun vs H Q E h => ?_) fun cdv A outer s H vs Q E hr h => ?_
  · obtain ⟨_, _, _, _, _, h, _⟩ := h
    rw [h, hp]
  · have b := hb cdv A outer s H E hr (L2N.takes_of rfl rfl rfl rfl)
    obtain ⟨G, ds, o, s1, hd, hv, hr2, hQ, hE⟩ := h
    refine ⟨_, b.run, ?_⟩
    have Rz0 : Rz K none (Ef.of H) G G (env0 ds nl) (L2.start N vs) H := rz_start s1 hd (by omega)
    unfold runX at hr2
    rw [if_pos (by rw [← dpAll_len hd]; exact hv)] at hr2
    have nw : ∀ {e' : Ev} {G' : Hp} {σ' : St} {H' : Hp}, Rz K none (Ef.of H) G G' e' σ' H' → (∀ a, G a = none → H a ≠ none → G' a = none) := fun R' => R'.r.nw
    have hh : ∀ {e' : Ev} {G' : Hp} {σ' : St} {H' : Hp}, Rz K none (Ef.of H) G G' e' σ' H' → Same H H' := fun R' a o z => R'.r.eh a o z (by simp)
    split at hr2
    · rename_i r' e' h1
      refine ⟨none, Ef.of H, G, G, _, _, Rz0, h1, fun v G' σ' H' s2 R' V' => ?_⟩
      unfold finR at hr2
      cases r' with
      | im d =>
        cases hr2
        exact hQ _ rfl v G' H' s2 R'.r.gh (hh R') (nw R') V'
      | ac d =>
        cases hr2
        obtain ⟨p, ws, a1, a2, a3, a4, a5, _⟩ := V'
        exact hQ _ rfl v G' H' s2 R'.r.gh (hh R') (nw R') ⟨p, ws, a1, a2, a3, a4, a5⟩
      | br i =>
        dsimp only at hr2
        split at hr2
        · rename_i d h2
          cases hr2
          have b2 : σ'[i]? = some (some v) := V'
          obtain ⟨p, ws, a1, a2, a3, a4, a5⟩ := R'.r.ac i d h2
          rw [a1] at b2
          cases b2
          have a5 : H p = none := by
            rcases a5 with a5 | a5
            · exact a5
            · cases a5.1
          exact hQ _ rfl _ G' H' s2 R'.r.gh (hh R') (nw R') ⟨p, ws, rfl, a5, a2, a3, a4⟩
        · cases hr2
    · rename_i e' h1
      cases hr2
      exact ⟨none, Ef.of H, G, G, _, _, Rz0, h1, fun G' σ' H' s2 R' => hQ _ rfl .non G' H' s2 R'.r.gh (hh R') (nw R') .non⟩
    · rename_i xc e' h1
      cases hr2
      exact ⟨none, Ef.of H, G, G, _, _, Rz0, h1, fun cls d G' σ' H' s2 R' X' => hE _ rfl cls d G' H' s2 R'.r.gh (hh R') (nw R') X'⟩
    · cases hr2
end
def x_callX (φ : List PyData → Option Ro) (dds : List PyData) (fa : Fa) : Fex := fun e => match argsI fa e with
  | some (ds, e1) => (match φ (ds ++ dds) with
    | some (.inl (.im d)) => some (.inl (.im d, e1))
    | some (.inl (.ac cs)) => some (.inl (.ac cs, e1))
    | some (.inr x) => some (.inr (x, e1))
    | _ => none)
  | none => none
def tCallX (sp : Sp) (dvs : List V) (W : WX) (t : TA) : TE := fun σ H Q => t σ H fun vs H1 => sp (vs ++ dvs) H1 Q (fun cls d H => W cls d σ H)
section
variable {X : Cx} {W : WX} {k j n : Nat} {f : Addr} {fd : FuncData} {ps : List Str} {sp : Sp} {x : Str} {p pos : Pos} {a : Expr} {es : List Expr} {t : TA} {dvs : List V} {ds : List Value} {dds : List PyData} {fa : Fa}
theorem pe_callXd (F : FnOk X.prog X.w X.K X.mg X.base (L2N.CX X.prog X.w) k f fd ps sp) (hr : Room k X.A) (hg : Gl X x) (hm : X.mg x = some (.ref f)) (hk : PySem.W.keepIn X.K (.ref f) = true) (hb : Binds X.K fd ps ds) (hd : Vals dvs ds) (tk : L2N.Takes X W)
    (ha : PA X (a :: es) t) (hdb : (x == ("__debug__" : Str)) = false := by decide) (he : starEach (a :: es) X.env = (false, eval a X.env) :: starEach es X.env := by rfl) (hpl : (backTo pos (starEach es X.env)).any (·.1) = false := by rfl) :
    PE X (.Call (.Name x p) (a :: es) [] pos) (tCallX sp dvs W t) := by
  refine ⟨fun pins s σ H Q I h => wpAny_Call_Name_kw (ld_glob I hg hm (PySem.W.callWith_K (h₀ := X.base) I.ok.mod.kin hk (thn (ha.run pos pins s σ H _ I h) fun us s1 y => ?_) he hpl) hdb)⟩
  obtain ⟨vs, H1, I1, r, q⟩ := y
  have v2 : Vals (vs ++ dvs) (us ++ ds) := r.append hd
  have hl : (us ++ ds).length = ps.length := v2.length.symm.trans (F.len _ _ _ _ q)
  refine ⟨I1.kIn, wpAny_call (codeAny_mono (F.run X.A X.stack s1 H1 ⟨us, []⟩ (us ++ ds) (vs ++ dvs) Q _ hr I1.env0 (hb s1 us I1.kIn hl) v2 q) fun e s' z => ?_)⟩
  match e, z with
  | .error e, z => exact L2N.passAt tk σ pins H1 s1 e s' I1 z
  | .ok (.ret u), z => exact I1.after z
theorem edx_call {φ : List PyData → Option Ro} (F : KfX X.prog X.w X.K X.mg X.base k x (spX X.K X.mg n φ) dvs) (hr : Room j X.A) (hk : k ≤ j) (hd : dvsD X.K dvs dds) (hn : ∀ ds, (φ ds).isSome = true → ds.length = n) (tk : L2N.Takes X W) (h : AD X (a :: es) fa) (hg : Gl X x := by rfl)
    (hdb : (x == ("__debug__" : Str)) = false := by decide) (he : starEach (a :: es) X.env = (false, eval a X.env) :: starEach es X.env := by rfl) (hpl : (backTo pos (starEach es X.env)).any (·.1) = false := by rfl) :
    EDX X W (.Call (.Name x p) (a :: es) [] pos) (x_callX φ dds fa) := by
  obtain ⟨f, fd, ps, ds, F, hm, kp, hb, hv⟩ := F
  obtain ⟨t, pa, kk⟩ := h
  refine ⟨pe_imp (pe_callXd F (hr.mono hk) hg hm kp hb hv tk pa hdb he hpl) fun σ H Q ⟨m, E, G0, G, e, o, R, q, P⟩ => ?_⟩
  unfold x_callX at q
  cases h1 : argsI fa e with
  | none => simp only [h1] at q; cases q
  | some z =>
    obtain ⟨ds, e1⟩ := z
    simp only [h1] at q
    obtain ⟨rs, q1, q2⟩ := argsI_ok h1
    refine kk m E G0 G e σ H rs e1 _ R q1 fun vs G1 H1 R1 S1 V1 => ?_
    have D1 := vr_imAll V1 q2
    have D2 := dpAll_app D1 (hd G1)
    cases h2 : φ (ds ++ dds) with
    | none => simp only [h2] at q; cases q
    | some y =>
      refine ⟨G1, ds ++ dds, y, R1.gh, D2, (by rw [dpAll_len D2]; exact hn _ (by rw [h2]; rfl)), h2, fun r hy v G' H' s1 s2 s3 nw vr => ?_, fun xc hy cls d G' H' s1 s2 s3 nw xt => ?_⟩
      · subst hy
        obtain ⟨R2, S2⟩ := R1.called s1 s2 s3 nw
        obtain ⟨V2, N2⟩ := R1.vrf vr fun a o z _ => s3 a o z
        cases r with
        | im d =>
          simp only [h2, Option.some.injEq] at q
          subst q
          exact P v G' H' R2 (S1.trans S2) V2 (nw_back S1 v N2)
        | ac d =>
          simp only [h2, Option.some.injEq] at q
          subst q
          exact P v G' H' R2 (S1.trans S2) V2 (nw_back S1 v N2)
        | br d => simp only [h2] at q; cases q
      · subst hy
        obtain ⟨R2, S2⟩ := R1.called s1 s2 s3 nw
        simp only [h2, Option.some.injEq] at q
        subst q
        exact P cls d G' H' R2 (S1.trans S2) xt
end
/-- __init__: a field for each name -/
def spI (C : Addr) (ns : List Str) : Sp := fun vs H Q _ => ∃ (a : Addr) (us : List V), vs = .ref a :: us ∧ us.length = ns.length ∧ H a = some (exo a C none) ∧
  ∀ (dx : Addr) (H' : Hp), H dx = none → dx ≠ a → H' a = some (exo a C (some dx)) → H' dx = some (exd dx (ns.zip us).reverse) → (∀ b, b ≠ a → b ≠ dx → H' b = H b) → Q .non H'
/-- what is told of such a class -/
structure ExT (P : Program) (w : World) (K : PySem.W.Frag) (mg : Str → Option Value) (base : Heap) (x : Str) (ns : List Str) : Prop where
  ex : ∃ (C fI : Addr) (fd : FuncData) (ps : List Str), mg x = some (.ref C) ∧ OexC K C ∧ PySem.W.findIn K (.ref C) "__init__" = some (some (.ref fI)) ∧ PySem.W.typeIn K (.ref fI) = some (.type "function") ∧ FnOk P w K mg base CX0 1 fI fd ps (spI C ns) ∧ Binds K fd ps []
def x_raise (c : Str) (ns : List Str) (fa : Fa) : Fsx := fun e => match argsI fa e with
  | some (ds, e1) => if ds.length = ns.length ∧ ns.length ≤ 1000 then some (.inr (⟨c, (ns.zip ds).reverse⟩, e1)) else none
  | none => none
theorem zip_fst {α : Type} : ∀ (ns : List Str) (us : List α), us.length = ns.length → (ns.zip us).map (·.1) = ns
  | [], _, _ => rfl
  | n :: ns, [], h => by cases h
  | n :: ns, u :: us, h => by
    rw [List.zip_cons_cons, List.map_cons, zip_fst ns us (by simpa using h)]
theorem zip_snd {α : Type} : ∀ (ns : List Str) (us : List α), us.length = ns.length → (ns.zip us).map (·.2) = us
  | [], [], _ => rfl
  | [], u :: us, h => by cases h
  | n :: ns, [], h => by cases h
  | n :: ns, u :: us, h => by
    rw [List.zip_cons_cons, List.map_cons, zip_snd ns us (by simpa using h)]
theorem dpAll_rev' {K : PySem.W.Frag} {G : Hp} {vs : List V} {ds : List PyData} (h : DpAll K G vs ds) : DpAll K G vs.reverse ds.reverse := dpAll_rev h
theorem fsAt_zip {K : PySem.W.Frag} {G : Hp} {ns : List Str} {vs : List V} {ds : List PyData} (h : DpAll K G vs ds) (hl : ds.length = ns.length) : FsAt K G (ns.zip vs).reverse (ns.zip ds).reverse := by
  have lv : vs.length = ns.length := by rw [dpAll_len h, hl]
  unfold FsAt
  rw [List.map_reverse, List.map_reverse, List.map_reverse, List.map_reverse, zip_fst ns vs lv, zip_fst ns ds hl, zip_snd ns vs lv, zip_snd ns ds hl]
  exact ⟨rfl, dpAll_rev' h⟩
theorem fin_oex {X : Cx} {pins : List (Addr × Obj)} {σ : St} {H0 H3 : Hp} {Q : XK} {s0 s3 : Shared} {h1 : Heap} {p C dd : Addr} {fs : List (Str × V)} (T : Raises X (.ref C)) (I0 : Inv X pins σ H0 s0) (hp : s0.heap.objs.size ≤ p)
    (kp : ∀ b u, s0.heap.get? b = some u → h1.get? b = some u) (n3 : Un (frs X.stack) [] (upd H0 p (exo p C none)) H3 h1 s3.heap) (ok3 : HOk X.prog X.w H3 s3.heap) (os3 : s3.os = s0.os) (bare3 : AllBare s3.gens)
    (e1 : H3 p = some (exo p C (some dd))) (e2 : H3 dd = some (exd dd fs)) (e3 : H0 dd = none) (q : Q (.ref C) (some dd) (upd (L2.del H3 p) dd (.xd fs))) : L2N.MkP X pins σ Q (.ref p) s3 := by
  obtain ⟨hh0, gg0, dd0, tt0, oo0⟩ := s0
  obtain ⟨hh3, gg3, dd3, tt3, oo3⟩ := s3
  obtain ⟨args, Gm, J, k3, none3, obj3, gone3⟩ := mk_end0 (d2 := dd3) (t2 := tt3) I0 hp kp n3 ok3 os3 bare3 e1 e2 e3
  refine ⟨p, _, _, ⟨Gm, gg3, dd3, tt3, oo3⟩, _, .ref C, some dd, rfl, J, k3, none3, obj3, ?_, rfl, rfl, gone3, rfl, bare3, T, q⟩
  exact ⟨rfl, rfl, fun ws hw => by
    cases hw
    rfl⟩
theorem pmk_oexN {X : Cx} {CX : CXT} {e0 : Expr} {rest : List Expr} {ta : TA} {np cp : Pos} {x : Str} {C fI : Addr} {k : Nat} {fd : FuncData} {ps : List Str} {sp : Sp} {gs : List Value} {gvs : List V} (T : OexC X.K C) (hi : PySem.W.findIn X.K (.ref C) "__init__" = some (some (.ref fI)))
    (ht : PySem.W.typeIn X.K (.ref fI) = some (.type "function")) (F : FnOk X.prog X.w X.K X.mg X.base CX k fI fd ps sp) (room : Room (k + 1) X.A) (hb : Binds X.K fd ps gs) (hv : Vals gvs gs) (hx : Passes CX X (fun _ _ _ => False)) (hg : Gl X x) (hm : X.mg x = some (.ref C))
    (ha : PA X (e0 :: rest) ta) (hdb : (x == ("__debug__" : Str)) = false := by decide) (hst : starEach (e0 :: rest) X.env = (false, eval e0 X.env) :: starEach rest X.env := by rfl) (hpl : (backTo cp (starEach rest X.env)).any (·.1) = false := by rfl) :
    L2N.PMk X (.Call (.Name x np) (e0 :: rest) [] cp) (tMkO C sp gvs ta) := by
  intro pins s σ H Q I q0
  have cls := T.cls
  obtain ⟨_, _, _, _, bmro, _, _, _, _, _, _, _, _, _, _, lookC, refs⟩ := cls
  refine wpAny_Call_Name_kw (ld_glob I hg hm (PySem.W.callWith_K (h₀ := X.base) I.ok.mod.kin T.kC ?_ hst hpl) hdb)
  refine thn (ha.run cp pins s σ H _ I q0) fun given sA ⟨vs, HA, IA, rel, few, mk⟩ => ⟨IA.kIn, ?_⟩
  show wpAny _ _ (call (.ref C) given) _ _ _
  -- the tuple of the arguments, then the exception
  have keep : ∀ b u, sA.heap.get? b = some u → ((sA.heap.push (PySem.W.kdv_tup given)).push (PySem.HandSPX.excO C sA.heap.objs.size)).get? b = some u := fun b u z => Heap.get?_push_of_some _ (Heap.get?_push_of_some _ z)
  have up : sA.heap.objs.size ≤ sA.heap.objs.size + 1 := Nat.le_succ _
  have fresh : HA (sA.heap.objs.size + 1) = none := IA.hok.fresh up
  have body := mk _ fresh
  obtain ⟨hp, gs0, dr, tk, os⟩ := sA
  have stands : ((hp.push (PySem.W.kdv_tup given)).push (PySem.HandSPX.excO C hp.objs.size)).get? (hp.objs.size + 1) = some (PySem.HandSPX.excO C hp.objs.size) := by
    heap_get
  have IB := IA.laid (t' := tk) (o := exo (hp.objs.size + 1) C none) keep up (exo_ok stands)
  have all : Vals (V.ref (hp.objs.size + 1) :: (vs ++ gvs)) (Value.ref (hp.objs.size + 1) :: (given ++ gs)) := .cons rfl (rel.append hv)
  have many : (Value.ref (hp.objs.size + 1) :: given ++ gs).length = ps.length := (all.length.symm.trans (F.len _ _ _ _ body) :)
  have small : given.length ≤ sizeLine := by
    have z := Paired.length rel
    rw [sizeLine_eq]
    omega
  have inits := F.run _ X.stack _ _ ⟨Value.ref (hp.objs.size + 1) :: given, []⟩ _ _ _ (fun _ _ _ => False) (room.make C given []) (IB.env0.make C given []) (hb _ (Value.ref (hp.objs.size + 1) :: given) IB.kIn many) all body
  refine wpAny_call (PySem.HandSPX.call_own PySem.F.excBase_ValueError (fun Y => PySem.HandSPX.refsVE_contains Y bmro refs) (IA.kIn _ _ lookC) (PySem.W.looks_findIn IA.kIn hi) (fun self => PySem.W.bind_fn IA.kIn self ht) small (codeAny_mono inits fun r sZ z => ?_))
  match r, z with
  | .error er, z => exact hx pins σ _ _ er sZ IB z
  | .ok .next, z => exact z.elim
  | .ok .brk, z => exact z.elim
  | .ok .cont, z => exact z.elim
  | .ok (.ret u), ⟨v, H2, os2, bare2, un2, hok2, rv, ev, dd, fs, ea, ed, hd1, q2⟩ =>
    subst ev
    exact ⟨rv, fin_oex (raises_own T.exC T.tyC) IA up keep un2 hok2 os2 bare2 ea ed hd1 q2⟩
section
variable {X : Cx} {W : WX} {x : Str} {ns : List Str} {p p2 pos : Pos} {a : Expr} {es : List Expr} {fa : Fa} {j : Nat}
theorem sdx_raise (T : ExT X.prog X.w X.K X.mg X.base x ns) (hr : Room j X.A) (hj : 2 ≤ j) (hc : X.calm = true) (tk : L2N.Takes X W) (h : AD X (a :: es) fa) (hg : Gl X x := by rfl)
    (hdb : (x == ("__debug__" : Str)) = false := by decide) (he : starEach (a :: es) X.env = (false, eval a X.env) :: starEach es X.env := by rfl) (hpl : (backTo p2 (starEach es X.env)).any (·.1) = false := by rfl) :
    SDX X W (.Raise (some (.Call (.Name x p) (a :: es) [] p2)) none pos) (x_raise x ns fa) := by
  obtain ⟨C, fI, fd, ps, gC, T1, iC, tI, F1, hb⟩ := T
  obtain ⟨t, pa, kk⟩ := h
  refine ⟨ps_imp (L2N.ps_raise hc tk (pmk_oexN T1 iC tI F1 (hr.mono hj) hb .nil (fun _ _ _ _ _ _ _ z => z.elim) hg gC pa hdb he hpl)) fun D σ H ⟨m, E, G0, G, e, o, R, q, P⟩ => ?_⟩
  unfold x_raise at q
  cases h1 : argsI fa e with
  | none => simp only [h1] at q; cases q
  | some z =>
    obtain ⟨ds, e1⟩ := z
    simp only [h1] at q
    by_cases hl : ds.length = ns.length ∧ ns.length ≤ 1000
    · rw [if_pos hl] at q
      cases q
      obtain ⟨rs, q1, q2⟩ := argsI_ok h1
      refine kk m E G0 G e σ H rs e1 _ R.r q1 fun vs G1 H1 R1 S1 V1 => ?_
      have D1 := vr_imAll V1 q2
      have lv : vs.length = ns.length := by rw [dpAll_len D1]; exact hl.1
      refine ⟨by omega, fun b hb1 => ⟨b, vs, by rw [List.append_nil], lv, upd_same, fun dx H' d1 d2 d3 d4 d5 => ⟨rfl, dx, (ns.zip vs).reverse, d3, d4, ?_, ?_⟩⟩⟩
      · rw [upd_ne d2] at d1
        exact d1
      · have d0 : H1 dx = none := by rwa [upd_ne d2] at d1
        have eq : upd (L2.del H' b) dx (.xd (ns.zip vs).reverse) = upd H1 dx (.xd (ns.zip vs).reverse) := by
          funext c
          by_cases y : c = dx
          · subst y
            rw [upd_same, upd_same]
          · rw [upd_ne y, upd_ne y]
            by_cases y2 : c = b
            · subst y2
              rw [L2.del_same]
              exact hb1.symm
            · rw [L2.del_ne y2, d5 c y2 y, upd_ne y2]
        rw [eq]
        obtain ⟨R2, S2⟩ := R1.newG (o := .xd (ns.zip vs).reverse) d0
        refine P (.ref C) (some dx) _ σ _ (S1.gg.trans S2.gg) (R.exp R2 (S1.trans S2)) ⟨C, dx, _, gC, rfl, rfl, upd_same, ?_⟩
        exact (fsAt_zip D1 hl.1).same S2.gg
    · rw [if_neg hl] at q
      cases q
end
end DL
namespace DL
open PySem PySem.Spec PyProof.Rows L2
section
variable {P : Program} {w : World} {K : PySem.W.Frag} {mg : Str → Option Value} {base : Heap} {x qual : Str} {params : Arguments} {body : List Stmt} {scope : Scope} {dvs : List V} {kws : List (Str × V)} {f C : Addr} {fd : FuncData} {N ps : List Str} {f1 f2 : Str}
theorem init2 (F : FunD K x qual params body scope dvs kws f fd) (S : FnScope N ps scope) (hp : ps.length = 3) (T : OexC K C) (n1 : PySem.W.findIn K (.ref C) f1 = some none) (n2 : PySem.W.findIn K (.ref C) f2 = some none)
    (hb : ∀ (cdv : Value) (A : Around) (outer : List Env) (s : Shared) (H : Hp) (E : XK), PSs (cxOf CX0 P w K mg base N qual scope f cdv A outer s H E) body (tSeq (tOst K f1 (tVar 0) (tVar 1)) (tSeq (tOst K f2 (tVar 0) (tVar 2)) tNext))) : FnOk P w K mg base CX0 1 f fd ps (spI C [f1, f2]) := by
  refine F.ok S (fun vs H Q E h => ?_) fun cdv A outer s H vs Q E hr h => ⟨_, hb cdv A outer s H E, ?_⟩
  · obtain ⟨a, us, rfl, h1, _⟩ := h
    rw [hp, List.length_cons, h1]
    rfl
  · obtain ⟨a, us, rfl, h1, h2, h3⟩ := h
    match us, h1 with
    | [u1, u2], _ =>
      refine ⟨u1, st_at rfl, .ref a, st_at rfl, a, C, rfl, T, n1, .inl ⟨h2, fun dx d1 d2 => ?_⟩⟩
      have e2 : a ≠ dx := fun z => d2 z.symm
      refine ⟨u2, st_at rfl, .ref a, st_at rfl, a, C, rfl, T, n2, .inr ⟨dx, [(f1, u1)], upd_same, by rw [upd_ne d2, upd_same], by show 1 ≤ 900; omega, ?_⟩⟩
      exact h3 dx _ d1 d2 (by rw [upd_ne e2, upd_same]) upd_same fun b b1 b2 => by rw [upd_ne b2, upd_ne b1, upd_ne b2]
end
section
variable {K : PySem.W.Frag} {m : Option Addr} {E : Ef} {G0 G H : Hp} {e : Ev} {σ : St} {i : Nat}
theorem Rl.drop (R : Rl K m E G0 G e σ H) (i : Nat) : Rl K m E G0 G (e.set i none) (σ.set i none) H := by
  have keep : ∀ {j : Nat} {s : Sl}, (e.set i none)[j]? = some (some s) → e[j]? = some (some s) ∧ (σ.set i none)[j]? = σ[j]? := fun {j s} z => by
    have z2 := R.len
    rw [set_get] at z ⊢
    by_cases y : i = j ∧ j < e.length
    · rw [if_pos y] at z
      cases z
    · rw [if_neg y] at z
      exact ⟨z, if_neg (by omega)⟩
  refine ⟨R.gg, R.gh, R.eh, R.mh, R.nw, by rw [List.length_set, List.length_set]; exact R.len, ?_, ?_, ?_, ?_, (R.wl.keep (Same.refl G) (fun _ _ z => z) (fun j t z => keep z) (fun a ⟨j, ds, z1, z2⟩ w => (R.wl.out a w).2.2.1 ⟨j, ds, (keep z1).1, by rw [← (keep z1).2]; exact z2⟩) (fun _ _ z _ => z)).1⟩
  · intro j d z
    rw [(keep z).2]
    exact R.im j d (keep z).1
  · intro j ds z
    rw [(keep z).2]
    exact R.ac j ds (keep z).1
  · intro j k dj dk q z1 z2 z3 z4
    rw [(keep z1).2] at z3
    rw [(keep z2).2] at z4
    exact R.inj j k dj dk q (keep z1).1 (keep z2).1 z3 z4
  · intro j s z
    rw [(keep z).2]
    exact R.ot j s (keep z).1
theorem Rz.drop (R : Rz K m E G0 G e σ H) (ok : okS [i] e = true) : Rz K m E G0 G (e.set i none) (σ.set i none) H := by
  refine ⟨R.r.drop i, fun p z => ?_⟩
  obtain ⟨z1, z2⟩ := R.z p z
  by_cases y : i = 0
  · subst y
    exact absurd (List.mem_singleton.mpr rfl) (okS_no ok z1)
  · rw [List.getElem?_set_ne y, List.getElem?_set_ne y]
    exact ⟨z1, z2⟩
end
def gone (i : Nat) (e : Ev) : Option Ev := if okS [i] e = true then some (e.set i none) else none
/-- behind a clause the name is gone -/
def goneF (i : Nat) : Fl → Option Fl
  | .nx e => (gone i e).map .nx
  | .bk e => (gone i e).map .bk
  | .ct e => (gone i e).map .ct
  | .rt (.im d) e => (gone i e).map (.rt (.im d))
  | .rt _ _ => none
abbrev Su := Str → Addr → Addr → Fs
/-- what a clause gives, wherever the exception stands -/
def caught (i : Nat) (g : Su) (x : Xc) (e : Ev) (fl : Fl) : Prop := ∀ (a dd : Addr) (fs : List (Str × V)), ∃ fl', g x.c a dd (e.set i (some (.ob (.xc a dd fs x.fs)))) = some fl' ∧ goneF i fl' = some fl
theorem caught_one {i : Nat} {g : Su} {x : Xc} {e : Ev} {fl fl2 : Fl} (h : caught i g x e fl) (h2 : caught i g x e fl2) : fl = fl2 := by
  obtain ⟨f1, a1, a2⟩ := h 0 0 []
  obtain ⟨f2, b1, b2⟩ := h2 0 0 []
  rw [a1] at b1
  cases b1
  rw [a2] at b2
  exact Option.some.inj b2
open Classical in
noncomputable def x_try (fb : Fsx) (sub : Str → Option Bool) (i : Nat) (g : Su) : Fsx := fun e => match fb e with
  | some (.inl fl) => some (.inl fl)
  | some (.inr (x, e1)) => (match sub x.c with
    | some true => if h : okS [i] e1 = true ∧ ∃ fl, caught i g x e1 fl then some (.inl (choose h.2)) else none
    | some false => some (.inr (x, e1))
    | none => none)
  | none => none
theorem x_try_no {fb : Fsx} {sub : Str → Option Bool} {i : Nat} {g : Su} {e : Ev} {fl : Fl} (h : fb e = some (.inl fl)) : x_try fb sub i g e = some (.inl fl) := by
  unfold x_try
  rw [h]
theorem x_try_yes {fb : Fsx} {sub : Str → Option Bool} {i : Nat} {g : Su} {e e1 : Ev} {x : Xc} {fl : Fl} (h : fb e = some (.inr (x, e1))) (hs : sub x.c = some true) (ok : okS [i] e1 = true) (c : caught i g x e1 fl) : x_try fb sub i g e = some (.inl fl) := by
  unfold x_try
  rw [h]
  dsimp only
  rw [hs]
  dsimp only
  rw [dif_pos ⟨ok, fl, c⟩]
  exact congrArg (fun z => some (Sum.inl z)) (caught_one (Classical.choose_spec (⟨fl, c⟩ : ∃ fl, caught i g x e1 fl)) c)
def SubT (K : PySem.W.Frag) (mg : Str → Option Value) (c : Value) (sub : Str → Option Bool) : Prop := ∀ x b, sub x = some b → ∀ C, mg x = some (.ref C) → PySem.W.exmOne K (.ref C) c = some b
def noW : WX := fun _ _ _ _ => False
/-- the clause's reading -/
def tsC (K : PySem.W.Frag) (mg : Str → Option Value) (g : Su) (a : Addr) (cls : Value) (d : Option Addr) : TS := fun D σ H => ∃ (c : Str) (C dd : Addr), mg c = some (.ref C) ∧ cls = .ref C ∧ d = some dd ∧ tsX K mg (xS (g c a dd)) noW D σ H
section
variable {X : Cx} {W : WX} {x n : Str} {c : Value} {i : Nat} {body suite : List Stmt} {b0 : Stmt} {np pos pos' : Pos} {fb : Fsx} {sub : Str → Option Bool} {g : Su}
theorem suite_read {a : Addr} {oe : Obj} {cls : Value} {d : Option Addr} {pn : List (Addr × Obj)} (hz : L2N.Zn cls d oe) (hv : ∃ vs, oe.data = .fields vs)
    (hsu : ∀ (k : Str) (C a dd : Addr) (oe : Obj) (pn : List (Addr × Obj)), X.mg k = some (.ref C) → L2N.Zn (.ref C) (some dd) oe → (∃ vs, oe.data = .fields vs) → SsD (X.suite a ((a, oe) :: pn)) (b0 :: suite) (g k a dd)) :
    PSs (X.suite a ((a, oe) :: pn)) (b0 :: suite) (tsC X.K X.mg g a cls d) := by
  refine ⟨fun pins s σ H D I ⟨k, C, dd, h1, h2, h3, h4⟩ => ?_⟩
  subst h2 h3
  exact ((hsu k C a dd oe pn h1 hz hv).x (W := noW)).run.run pins s σ H D I h4
theorem try_read {st : Stmt} (T : SubT X.K X.mg c sub) (h : PS X st (fun D σ H => tsX X.K X.mg fb (wAs X.K c i (tsC X.K X.mg g) W D) D σ H)) : SDX X W st (x_try fb sub i g) := by
  refine ⟨ps_imp h fun D σ H ⟨m, E, G0, G, e, o, R, q, P⟩ => ?_⟩
  unfold x_try at q
  split at q
  · rename_i fl h1
    cases q
    exact ⟨m, E, G0, G, e, _, R, h1, P⟩
  · rename_i y e1 h1
    refine ⟨m, E, G0, G, e, _, R, h1, ?_⟩
    intro cls d G' σ' H' s1 R1 A1
    obtain ⟨C, dd, fs, g1, g2, g3, g4, g5⟩ := A1
    subst g2 g3
    split at q
    · rename_i h2
      split at q
      · rename_i hh
        cases q
        have cc := Classical.choose_spec hh.2
        refine ⟨true, T _ _ h2 C g1, fun _ a na => ?_, fun z => by cases z⟩
        obtain ⟨fl', c1, c2⟩ := cc a dd fs
        have R2 : Rz X.K m E G0 G' (e1.set i (some (.ob (.xc a dd fs y.fs)))) (σ'.set i (some (.ref a))) H' := R1.setO ⟨rfl, g4, g5.1, g5.2⟩ hh.1
        refine ⟨y.c, C, dd, g1, rfl, rfl, m, E, G0, G', _, .inl fl', R2, (by show (g y.c a dd _).map Sum.inl = _; rw [c1]; rfl), ?_⟩
        have P2 := PoS.aft P s1
        generalize Classical.choose hh.2 = fl at c2 P2
        have drop : ∀ {e2 e3 : Ev}, gone i e2 = some e3 → okS [i] e2 = true ∧ e3 = e2.set i none := fun {e2 e3} z => by
          unfold gone at z
          by_cases k : okS [i] e2 = true
          · rw [if_pos k] at z
            exact ⟨k, (Option.some.inj z).symm⟩
          · rw [if_neg k] at z
            cases z
        match fl', c2 with
        | .nx e2, c2 =>
          cases h3 : gone i e2 with
          | none => rw [show goneF i (.nx e2) = (gone i e2).map .nx from rfl, h3] at c2; cases c2
          | some e3 =>
            rw [show goneF i (.nx e2) = (gone i e2).map .nx from rfl, h3] at c2
            cases c2
            obtain ⟨k1, rfl⟩ := drop h3
            exact fun G2 σ2 H2 s2 R3 => P2 G2 _ H2 s2 (R3.drop k1)
        | .bk e2, c2 =>
          cases h3 : gone i e2 with
          | none => rw [show goneF i (.bk e2) = (gone i e2).map .bk from rfl, h3] at c2; cases c2
          | some e3 =>
            rw [show goneF i (.bk e2) = (gone i e2).map .bk from rfl, h3] at c2
            cases c2
            obtain ⟨k1, rfl⟩ := drop h3
            exact fun G2 σ2 H2 s2 R3 => P2 G2 _ H2 s2 (R3.drop k1)
        | .ct e2, c2 =>
          cases h3 : gone i e2 with
          | none => rw [show goneF i (.ct e2) = (gone i e2).map .ct from rfl, h3] at c2; cases c2
          | some e3 =>
            rw [show goneF i (.ct e2) = (gone i e2).map .ct from rfl, h3] at c2
            cases c2
            obtain ⟨k1, rfl⟩ := drop h3
            exact fun G2 σ2 H2 s2 R3 => P2 G2 _ H2 s2 (R3.drop k1)
        | .rt (.im dv) e2, c2 =>
          cases h3 : gone i e2 with
          | none => rw [show goneF i (.rt (.im dv) e2) = (gone i e2).map (.rt (.im dv)) from rfl, h3] at c2; cases c2
          | some e3 =>
            rw [show goneF i (.rt (.im dv) e2) = (gone i e2).map (.rt (.im dv)) from rfl, h3] at c2
            cases c2
            obtain ⟨k1, rfl⟩ := drop h3
            exact fun v G2 σ2 H2 s2 R3 V => P2 v G2 _ H2 s2 (R3.drop k1) V
        | .rt (.ac dv) e2, c2 => cases c2
        | .rt (.br dv) e2, c2 => cases c2
      · cases q
    · rename_i h2
      cases q
      exact ⟨false, T _ _ h2 C g1, (fun z => by cases z), fun _ => P _ _ G' σ' H' s1 R1 ⟨C, dd, fs, g1, rfl, rfl, g4, g5⟩⟩
    · cases q
  · cases q
theorem sdx_try (hs : X.stack = X.env :: X.outer) (hf : X.env.frame = some X.env.locals) (hN : X.N.Nodup) (tk : L2N.Takes X W) (T : SubT X.K X.mg c sub) (hc : Names X x c)
    (hb : ∀ (W' : WX) (pn : List (Addr × Obj)) (xe : Value → Shared → Prop), L2N.Takes (X.tr pn xe) W' → PassesOwn (model X.prog X.w) X.A X.env xe → SsDX (X.tr pn xe) W' body fb)
    (hsu : ∀ (k : Str) (C a dd : Addr) (oe : Obj) (pn : List (Addr × Obj)), X.mg k = some (.ref C) → L2N.Zn (.ref C) (some dd) oe → (∃ vs, oe.data = .fields vs) → SsD (X.suite a ((a, oe) :: pn)) (b0 :: suite) (g k a dd))
    (hi : X.N[i]? = some n := by rfl) (hln : X.env.kindOf n = some .local := by rfl) :
    SDX X W (.Try body [.ExceptHandler (some (.Name x np)) (some n) (b0 :: suite) pos'] [] [] pos) (x_try fb sub i g) := by
  exact try_read T (L2N.ps_try_as (tb := fun W' => tsX X.K X.mg fb W') (ts := tsC X.K X.mg g) hs hf hN hi hln hc tk (fun W' pn xe t1 t2 => (hb W' pn xe t1 t2).run) fun a oe cls d pn hz hv => suite_read hz hv hsu)
end
def noX (f : Fsx) : Fs := fun e => match f e with
  | some (.inl fl) => some fl
  | _ => none
theorem sd_noX {X : Cx} {st : Stmt} {f : Fsx} (h : ∀ W, L2N.Takes X W → SDX X W st f) : SD X st (noX f) := by
  refine ⟨_, (h noW fun _ _ ⟨_, _, _, _, _, _, _, _, _, _, _, _, _, _, _, _, w⟩ => w.elim).run, fun m E G0 G e σ H fl D R q P => ?_⟩
  unfold noX at q
  split at q
  · rename_i fl' h1
    cases q
    exact ⟨m, E, G0, G, e, _, R, h1, P⟩
  · cases q
def x_fld (ok : Str → Bool) (k : Str) (a dd : Addr) (i : Nat) (f : Str) : Fe := fun e => if ok k = true then (match e[i]? with
  | some (some (.ob (.xc a' dd' _ ds))) => if a' = a ∧ dd' = dd then (ds.lookup f).map fun d => (.im d, e) else none
  | _ => none) else none
structure FldT (K : PySem.W.Frag) (mg : Str → Option Value) (f : Str) (ok : Str → Bool) : Prop where
  at_ : ∀ k, ok k = true → ∀ C, mg k = some (.ref C) → XfC K C ∧ PySem.W.findIn K (.ref C) f = some none
theorem look_fs {K : PySem.W.Frag} {G : Hp} {f : Str} {d : PyData} : ∀ {fs : List (Str × V)} {ds : List (Str × PyData)}, fs.map (·.1) = ds.map (·.1) → DpAll K G (fs.map (·.2)) (ds.map (·.2)) → ds.lookup f = some d → ∃ v, fs.lookup f = some v ∧ Dp K G v d
  | [], [], _, _, h => by cases h
  | [], _ :: _, h, _, _ => by cases h
  | _ :: _, [], h, _, _ => by cases h
  | (a, v) :: fs, (b, w) :: ds, h1, h2, h3 => by
    obtain ⟨ha, hr⟩ := List.cons.inj (show a :: fs.map (·.1) = b :: ds.map (·.1) from h1)
    subst ha
    rw [List.lookup_cons] at h3 ⊢
    cases h : (f == a) with
    | true =>
      rw [h] at h3
      cases h3
      exact ⟨v, rfl, by cases h2; assumption⟩
    | false =>
      rw [h] at h3
      exact look_fs hr (by cases h2; assumption) h3
section
variable {X : Cx} {a dd C : Addr} {oe : Obj} {pn : List (Addr × Obj)} {n f k : Str} {i : Nat} {pos np : Pos} {ok : Str → Bool}
theorem ed_fld (T : FldT X.K X.mg f ok) (hm : X.mg k = some (.ref C)) (hz : Zc (.ref C) (some dd) oe) (hf : ∃ vs, oe.data = .fields vs) (hN : X.N[i]? = some n := by rfl) (hv : Vis X.env.scope n := by first | exact Or.inl rfl | exact Or.inr (Or.inl rfl) | exact Or.inr (Or.inr rfl))
    (hd : (n == ("__debug__" : Str)) = false := by decide) (hcd : (n == ("__classdict__" : Str)) = false := by decide) (hb : attributeBase (.Name n np) f X.env (eval (.Name n np) X.env) = eval (.Name n np) X.env := by rfl) :
    ED (X.suite a ((a, oe) :: pn)) (.Attribute (.Name n np) f pos) (x_fld ok k a dd i f) := by
  by_cases hok : ok k = true
  · obtain ⟨t1, t2⟩ := T.at_ k hok C hm
    refine ⟨_, pe_xf (X := X) t1 t2 hz hf (pe_var (X := X.suite a ((a, oe) :: pn)) hN hv hd hcd) hb, fun m E G0 G e σ H r e' Q R q P => ?_⟩
    unfold x_fld at q
    rw [if_pos hok] at q
    split at q
    · rename_i a' dd' fs ds h1
      split at q
      · rename_i h2
        obtain ⟨rfl, rfl⟩ := h2
        cases h3 : ds.lookup f with
        | none => rw [h3] at q; cases q
        | some d =>
          rw [h3] at q
          cases q
          obtain ⟨o1, o2, o3, o4⟩ := R.ot i _ h1
          obtain ⟨v, l1, l2⟩ := look_fs o3 o4 h3
          exact ⟨.ref _, o1, rfl, rfl, _, fs, v, rfl, R.gh _ _ o2, l1, P v G H R Stp.refl l2 True.intro⟩
      · cases q
    · cases q
  · refine ⟨fun _ _ _ => False, ⟨fun _ _ _ _ _ _ z => z.elim⟩, fun m E G0 G e σ H r e' Q R q P => ?_⟩
    unfold x_fld at q
    rw [if_neg hok] at q
    cases q
end
end DL
namespace DL
open PySem PySem.Spec PyProof.Rows L2
def x_isE (kit : Str → Option Bool) (k : Str) (a dd : Addr) (i : Nat) : Fe := fun e => match e[i]? with
  | some (some (.ob (.xc a' dd' _ _))) => if a' = a ∧ dd' = dd then (kit k).map fun b => (.im (.bool b), e) else none
  | _ => none
structure KitOk (K : PySem.W.Frag) (D : Addr) : Prop where
  cl : (PySem.W.clsIn K D).isSome = true
  hg : PySem.W.findIn K (.ref D) "__getattribute__" = some (some (.builtin "BaseException.__getattribute__"))
  hk : PySem.W.findIn K (.ref D) "__getattr__" = some none
  hs : PySem.W.subIn K (.ref D) (.type "BaseException") = some true
  ha : PySem.W.findIn K (.ref D) "__class__" = some (some (.builtin "object.__class__"))
  hn : PySem.W.specialIn K (.builtin "object.__class__") "__get__" = some (some (.builtin "getset_descriptor.__get__"))
  ht : PySem.W.takesIn K (.builtin "object.__class__") = some true
  hm : PySem.W.mroIn K D (.type "object") = some true
structure KitT (K : PySem.W.Frag) (mg : Str → Option Value) (T : Addr) (kit : Str → Option Bool) : Prop where
  at_ : ∀ k b, kit k = some b → ∀ C, mg k = some (.ref C) → KitOk K C ∧ PySem.W.kitOne K (.ref C) (.ref T) = some b
def rIsX (K : PySem.W.Frag) (D T a dd : Addr) : List V → Hp → VK → Prop := fun xs H Q => ∃ (fs : List (Str × V)) (b : Bool), xs = [.ref a, .ref T] ∧ H dd = some (.xd fs) ∧ PySem.W.kitOne K (.ref D) (.ref T) = some b ∧ Q (.bl b) H
section
variable {X : Cx} {a dd C T : Addr} {oe : Obj} {pn : List (Addr × Obj)} {n y k : Str} {i : Nat} {pos p p2 np : Pos} {kit : Str → Option Bool}
theorem call_isX (h : KitOk X.K C) (hz : Zc (.ref C) (some dd) oe) (hf : ∃ vs, oe.data = .fields vs) : CallR (X.suite a ((a, oe) :: pn)) (.builtin "isinstance") (rIsX X.K C T a dd) := by
  rintro pins s σ H xs us Q I r ⟨fs, b, rfl, hd, e, q⟩
  match us, r with
  | [u1, u2], .cons r1 (.cons r2 .nil) =>
    obtain rfl : u1 = Value.ref a := r1
    obtain rfl : u2 = Value.ref T := r2
    have hp := I.pin (a, oe) (List.mem_append_left _ List.mem_cons_self)
    obtain ⟨vs, hv⟩ := hf
    obtain ⟨mA, ns, _⟩ := (I.hok dd _ hd : ObjOk X.prog X.w H s.heap dd (.xd fs))
    obtain ⟨od, ho, _⟩ := lookIn_ns ns
    have J : PySem.W.InstAt s.heap a oe C (some od) := by
      refine ⟨hp.1, hz.1, ?_, ?_⟩
      · unfold PySem.W.notCls
        rw [hv] <;> rfl
      · rw [hz.2]
        exact ho
    exact PySem.W.kia_one (PySem.W.kitx_exc h.cl h.hg h.hk h.hs h.ha h.hn h.ht h.hm) I.kIn J e (fun z => nomatch z) fun tk => ⟨.bl b, H, I.kept (t' := tk) fun _ _ z => z, rfl, q⟩
theorem ed_isE (h : KitT X.K X.mg T kit) (hk : X.mg k = some (.ref C)) (hz : Zc (.ref C) (some dd) oe) (hf : ∃ vs, oe.data = .fields vs) (hm : X.mg "isinstance" = none) (hy : X.mg y = some (.ref T)) (hN : X.N[i]? = some n := by rfl) (hv : Vis X.env.scope n := by first | exact Or.inl rfl | exact Or.inr (Or.inl rfl) | exact Or.inr (Or.inr rfl))
    (hd : (n == ("__debug__" : Str)) = false := by decide) (hcd : (n == ("__classdict__" : Str)) = false := by decide) (hg : Gl X "isinstance" := by rfl) (hgT : Gl X y := by rfl) (hdy : (y == ("__debug__" : Str)) = false := by decide)
    (h1 : starEach [.Name y p2] X.env = (false, eval (.Name y p2) X.env) :: starEach [] X.env := by rfl)
    (he : starEach [.Name n np, .Name y p2] X.env = (false, eval (.Name n np) X.env) :: starEach [.Name y p2] X.env := by rfl) (hpl : (backTo pos (starEach [.Name y p2] X.env)).any (·.1) = false := by rfl) :
    ED (X.suite a ((a, oe) :: pn)) (.Call (.Name "isinstance" p) [.Name n np, .Name y p2] [] pos) (x_isE kit k a dd i) := by
  by_cases hb : ∃ b, kit k = some b
  · obtain ⟨b, hb⟩ := hb
    obtain ⟨t1, t2⟩ := h.at_ k b hb C hk
    refine ⟨_, pe_callB (X := X.suite a ((a, oe) :: pn)) (call_isX (T := T) t1 hz hf) hg hm (by decide +kernel) (pa_cons (pe_var (X := X.suite a ((a, oe) :: pn)) hN hv hd hcd) (pa_cons (pe_glob (X := X.suite a ((a, oe) :: pn)) (v := .ref T) hgT hy rfl hdy) pa_nil h1) he) (by decide) (by decide) he hpl, fun m E G0 G e σ H r e' Q R q P => ?_⟩
    unfold x_isE at q
    split at q
    · rename_i a' dd' fs ds h3
      split at q
      · rename_i h4
        obtain ⟨rfl, rfl⟩ := h4
        rw [hb] at q
        cases q
        obtain ⟨o1, o2, _, _⟩ := R.ot i _ h3
        exact ⟨.ref _, o1, fs, b, rfl, R.gh _ _ o2, t2, P (.bl b) G H R Stp.refl (.bl _) True.intro⟩
      · cases q
    · cases q
  · refine ⟨fun _ _ _ => False, ⟨fun _ _ _ _ _ _ z => z.elim⟩, fun m E G0 G e σ H r e' Q R q P => ?_⟩
    unfold x_isE at q
    split at q
    · split at q
      · cases h5 : kit k with
        | none => rw [h5] at q; cases q
        | some b => exact absurd ⟨b, h5⟩ hb
      · cases q
    · cases q
end
end DL
namespace DL
open PySem PySem.Spec PyProof.Rows L2
abbrev XTab := List ((Str × Str) × Bool)
def tabF (tab : XTab) (y : Str) : Str → Option Bool := fun k => tab.lookup (k, y)
structure XcC (K : PySem.W.Frag) (C : Addr) : Prop where
  ox : OexC K C
  xf : XfC K C
  ki : KitOk K C
structure Xi (K : PySem.W.Frag) (mg : Str → Option Value) (cs ys fs : List Str) (tab : XTab) : Prop where
  cl : ∀ x, cs.contains x = true → ∃ C, mg x = some (.ref C) ∧ XcC K C ∧ ∀ f, fs.contains f = true → PySem.W.findIn K (.ref C) f = some none
  gl : ∀ y, ys.contains y = true → ∃ D, mg y = some (.ref D)
  rel : ∀ k y b, tab.lookup (k, y) = some b → cs.contains k = true ∧ ∀ C D, mg k = some (.ref C) → mg y = some (.ref D) → PySem.W.exmOne K (.ref C) (.ref D) = some b ∧ PySem.W.kitOne K (.ref C) (.ref D) = some b
section
variable {K : PySem.W.Frag} {mg : Str → Option Value} {cs ys fs : List Str} {tab : XTab}
theorem Xi.sub (T : Xi K mg cs ys fs tab) (y : Str) (h : ys.contains y = true := by decide +kernel) : ∃ D, mg y = some (.ref D) ∧ SubT K mg (.ref D) (tabF tab y) := by
  obtain ⟨D, hD⟩ := T.gl y h
  exact ⟨D, hD, fun k b z C hC => ((T.rel k y b z).2 C D hC hD).1⟩
theorem Xi.kit (T : Xi K mg cs ys fs tab) (y : Str) (h : ys.contains y = true := by decide +kernel) : ∃ D, mg y = some (.ref D) ∧ KitT K mg D (tabF tab y) := by
  obtain ⟨D, hD⟩ := T.gl y h
  refine ⟨D, hD, ⟨fun k b z C hC => ?_⟩⟩
  obtain ⟨z1, z2⟩ := T.rel k y b z
  obtain ⟨C', h1, h2, _⟩ := T.cl k z1
  rw [hC] at h1
  cases h1
  exact ⟨h2.ki, (z2 C D hC hD).2⟩
theorem Xi.fld (T : Xi K mg cs ys fs tab) (f : Str) (h : fs.contains f = true := by decide +kernel) : FldT K mg f (fun k => cs.contains k) := by
  refine ⟨fun k z C hC => ?_⟩
  obtain ⟨C', h1, h2, h3⟩ := T.cl k z
  rw [hC] at h1
  cases h1
  exact ⟨h2.xf, h3 f h⟩
end
section
variable {X : Cx} {W : WX} {x n : Str} {i : Nat} {body suite : List Stmt} {b0 : Stmt} {np pos pos' : Pos} {fb : Fsx} {sub : Str → Option Bool} {g : Su}
theorem sdx_tryT (hs : X.stack = X.env :: X.outer) (hf : X.env.frame = some X.env.locals) (hN : X.N.Nodup) (tk : L2N.Takes X W) (T : ∃ D, X.mg x = some (.ref D) ∧ SubT X.K X.mg (.ref D) sub)
    (hb : ∀ (W' : WX) (pn : List (Addr × Obj)) (xe : Value → Shared → Prop), L2N.Takes (X.tr pn xe) W' → PassesOwn (model X.prog X.w) X.A X.env xe → SsDX (X.tr pn xe) W' body fb)
    (hsu : ∀ (k : Str) (C a dd : Addr) (oe : Obj) (pn : List (Addr × Obj)), X.mg k = some (.ref C) → L2N.Zn (.ref C) (some dd) oe → (∃ vs, oe.data = .fields vs) → SsD (X.suite a ((a, oe) :: pn)) (b0 :: suite) (g k a dd))
    (hi : X.N[i]? = some n := by rfl) (hln : X.env.kindOf n = some .local := by rfl) (hg : Gl X x := by rfl) (hdb : (x == ("__debug__" : Str)) = false := by decide) :
    SDX X W (.Try body [.ExceptHandler (some (.Name x np)) (some n) (b0 :: suite) pos'] [] [] pos) (x_try fb sub i g) := by
  obtain ⟨D, h1, h2⟩ := T
  exact sdx_try hs hf hN tk h2 ⟨hg, hdb, .inl h1⟩ hb hsu hi hln
theorem sd_tryT (hs : X.stack = X.env :: X.outer) (hf : X.env.frame = some X.env.locals) (hN : X.N.Nodup) (T : ∃ D, X.mg x = some (.ref D) ∧ SubT X.K X.mg (.ref D) sub)
    (hb : ∀ (W' : WX) (pn : List (Addr × Obj)) (xe : Value → Shared → Prop), L2N.Takes (X.tr pn xe) W' → PassesOwn (model X.prog X.w) X.A X.env xe → SsDX (X.tr pn xe) W' body fb)
    (hsu : ∀ (k : Str) (C a dd : Addr) (oe : Obj) (pn : List (Addr × Obj)), X.mg k = some (.ref C) → L2N.Zn (.ref C) (some dd) oe → (∃ vs, oe.data = .fields vs) → SsD (X.suite a ((a, oe) :: pn)) (b0 :: suite) (g k a dd))
    (hi : X.N[i]? = some n := by rfl) (hln : X.env.kindOf n = some .local := by rfl) (hg : Gl X x := by rfl) (hdb : (x == ("__debug__" : Str)) = false := by decide) :
    SD X (.Try body [.ExceptHandler (some (.Name x np)) (some n) (b0 :: suite) pos'] [] [] pos) (noX (x_try fb sub i g)) := sd_noX fun _ tk => sdx_tryT hs hf hN tk T hb hsu hi hln hg hdb
theorem ed_isT {X : Cx} {a dd C : Addr} {oe : Obj} {pn : List (Addr × Obj)} {n y k : Str} {i : Nat} {pos p p2 np : Pos} {kit : Str → Option Bool}
    (h : ∃ D, X.mg y = some (.ref D) ∧ KitT X.K X.mg D kit) (hk : X.mg k = some (.ref C)) (hz : Zc (.ref C) (some dd) oe) (hf : ∃ vs, oe.data = .fields vs) (hm : X.mg "isinstance" = none) (hN : X.N[i]? = some n := by rfl) (hv : Vis X.env.scope n := by first | exact Or.inl rfl | exact Or.inr (Or.inl rfl) | exact Or.inr (Or.inr rfl))
    (hd : (n == ("__debug__" : Str)) = false := by decide) (hcd : (n == ("__classdict__" : Str)) = false := by decide) (hg : Gl X "isinstance" := by rfl) (hgT : Gl X y := by rfl) (hdy : (y == ("__debug__" : Str)) = false := by decide)
    (h1 : starEach [.Name y p2] X.env = (false, eval (.Name y p2) X.env) :: starEach [] X.env := by rfl)
    (he : starEach [.Name n np, .Name y p2] X.env = (false, eval (.Name n np) X.env) :: starEach [.Name y p2] X.env := by rfl) (hpl : (backTo pos (starEach [.Name y p2] X.env)).any (·.1) = false := by rfl) :
    ED (X.suite a ((a, oe) :: pn)) (.Call (.Name "isinstance" p) [.Name n np, .Name y p2] [] pos) (x_isE kit k a dd i) := by
  obtain ⟨D, h1', h2⟩ := h
  exact ed_isE h2 hk hz hf hm h1' hN hv hd hcd hg hgT hdy h1 he hpl
end
def oexB (K : PySem.W.Frag) (C : Addr) : Bool := match K.lookup C with
  | some ⟨.type "type", _, .cls cd, sl⟩ => (match cd.mro, sl.toList with
    | .ref C' :: bm, [_, _, _, _, some (.builtin n), _] => decide (C' = C) && (decide (n = "ValueError.__new__") && (cd.hasDict && (!cd.hasDel && PySem.HandSPX.refsVE bm)))
    | _, _ => false)
  | _ => false
theorem oexB_ok {K : PySem.W.Frag} {C : Addr} (h : oexB K C = true) : ∃ nm q N bs bm sn sub ab col dd k0 k1 k2 k3 k5, K.lookup C = some (excClassObj nm q C N bs bm true sn sub ab col dd k0 k1 k2 k3 k5 "ValueError.__new__") ∧ PySem.HandSPX.refsVE bm = true := by
  unfold oexB at h
  split at h
  · rename_i dd cd sl ho
    split at h
    · rename_i C' bm k0 k1 k2 k3 n k5 hm hs
      obtain ⟨h1, h⟩ := He.ba h
      obtain ⟨h2, h⟩ := He.ba h
      obtain ⟨h3, h⟩ := He.ba h
      obtain ⟨h4, h5⟩ := He.ba h
      have e1 := of_decide_eq_true h1
      have e2 := of_decide_eq_true h2
      subst e1 e2
      obtain ⟨nm, bs, mro, ns, qn, hd, sn, sub, ab, col, del⟩ := cd
      dsimp only at hm h3 h4
      subst hm h3
      have e4 : del = false := by simpa using h4
      subst e4
      obtain ⟨l⟩ := sl
      have e5 : l = [k0, k1, k2, k3, some (.builtin "ValueError.__new__"), k5] := hs
      subst e5
      exact ⟨nm, qn, ns, bs, bm, sn, sub, ab, col, dd, k0, k1, k2, k3, k5, ho, h5⟩
    · cases h
  · cases h
def xcB (K : PySem.W.Frag) (C : Addr) : Bool := oexB K C && (decide (PySem.W.findIn K (.ref C) "__setattr__" = some (some (.builtin "object.__setattr__"))) && (decide (PySem.W.subIn K (.ref C) (.type "BaseException") = some true) && (decide (PySem.W.typeIn K (.ref C) = some (.type "type")) && (PySem.W.keepIn K (.ref C) && (xfB K C &&
  ((PySem.W.clsIn K C).isSome && (decide (PySem.W.findIn K (.ref C) "__class__" = some (some (.builtin "object.__class__"))) && (decide (PySem.W.specialIn K (.builtin "object.__class__") "__get__" = some (some (.builtin "getset_descriptor.__get__"))) && (decide (PySem.W.takesIn K (.builtin "object.__class__") = some true) && decide (PySem.W.mroIn K C (.type "object") = some true))))))))))
theorem xcB_ok {K : PySem.W.Frag} {C : Addr} (h : xcB K C = true) : XcC K C := by
  obtain ⟨h1, h⟩ := He.ba h
  obtain ⟨h2, h⟩ := He.ba h
  obtain ⟨h3, h⟩ := He.ba h
  obtain ⟨h4, h⟩ := He.ba h
  obtain ⟨h5, h⟩ := He.ba h
  obtain ⟨h6, h⟩ := He.ba h
  obtain ⟨h7, h⟩ := He.ba h
  obtain ⟨h8, h⟩ := He.ba h
  obtain ⟨h9, h⟩ := He.ba h
  obtain ⟨h10, h11⟩ := He.ba h
  have x := xfB_ok h6
  exact ⟨⟨oexB_ok h1, of_decide_eq_true h2, of_decide_eq_true h3, of_decide_eq_true h4, h5⟩, x, ⟨h7, x.ga, x.gg, x.exC, of_decide_eq_true h8, of_decide_eq_true h9, of_decide_eq_true h10, of_decide_eq_true h11⟩⟩
/-- a class with its __init__ -/
def iniB (K : PySem.W.Frag) (x : Str) : Bool := decide (PySem.W.findIn K (.ref (He.ga K x)) "__init__" = some (some (.ref (He.ma K (He.ga K x) "__init__")))) && decide (PySem.W.typeIn K (.ref (He.ma K (He.ga K x) "__init__")) = some (.type "function"))
def exB (cs ys fs : List Str) (tab : XTab) (K : PySem.W.Frag) : Bool :=
  (cs.all fun x => (He.Fa.glo x).ok K && (xcB K (He.ga K x) && (iniB K x && fs.all fun f => decide (PySem.W.findIn K (.ref (He.ga K x)) f = some none)))) &&
    ((ys.all fun y => (He.Fa.glo y).ok K) && (tab.all fun t => cs.contains t.1.1 && (ys.contains t.1.2 && (decide (PySem.W.exmOne K (.ref (He.ga K t.1.1)) (.ref (He.ga K t.1.2)) = some t.2) && decide (PySem.W.kitOne K (.ref (He.ga K t.1.1)) (.ref (He.ga K t.1.2)) = some t.2)))))
section
variable {K : PySem.W.Frag} {h : Heap} {mg : Str → Option Value} {cs ys fs : List Str} {tab : XTab}
theorem look_mem {α β : Type} [BEq α] [LawfulBEq α] {a : α} {b : β} : ∀ {l : List (α × β)}, l.lookup a = some b → (a, b) ∈ l
  | [], h => by cases h
  | (c, d) :: l, h => by
    rw [List.lookup_cons] at h
    cases q : (a == c) with
    | true =>
      rw [q] at h
      cases h
      rw [eq_of_beq q]
      exact List.mem_cons_self
    | false =>
      rw [q] at h
      exact List.mem_cons_of_mem _ (look_mem h)
theorem exB_xi (X : K.In h) (G : h.Ns mainGlobals mg) (c : exB cs ys fs tab K = true) : Xi K mg cs ys fs tab := by
  obtain ⟨c1, c⟩ := He.ba c
  obtain ⟨c2, c3⟩ := He.ba c
  refine ⟨fun x hx => ?_, fun y hy => ?_, fun k y b z => ?_⟩
  · obtain ⟨h1, h2⟩ := He.ba (List.all_eq_true.mp c1 x (List.contains_iff_mem.mp hx))
    obtain ⟨h2, h3⟩ := He.ba h2
    obtain ⟨h3, h4⟩ := He.ba h3
    exact ⟨_, He.glo_ok X G h1, xcB_ok h2, fun f hf => of_decide_eq_true (List.all_eq_true.mp h4 f (List.contains_iff_mem.mp hf))⟩
  · exact ⟨_, He.glo_ok X G (List.all_eq_true.mp c2 y (List.contains_iff_mem.mp hy))⟩
  · obtain ⟨h1, h2⟩ := He.ba (List.all_eq_true.mp c3 ((k, y), b) (look_mem z))
    obtain ⟨h2, h3⟩ := He.ba h2
    obtain ⟨h3, h4⟩ := He.ba h3
    refine ⟨h1, fun C D hC hD => ?_⟩
    have g1 := He.glo_ok X G (He.ba (List.all_eq_true.mp c1 k (List.contains_iff_mem.mp h1))).1
    have g2 := He.glo_ok X G (List.all_eq_true.mp c2 y (List.contains_iff_mem.mp h2))
    rw [hC] at g1
    rw [hD] at g2
    cases g1
    cases g2
    exact ⟨of_decide_eq_true h3, of_decide_eq_true h4⟩
theorem exB_ini {P : Program} {w : World} {base : Heap} (X : K.In h) (G : h.Ns mainGlobals mg) (c : exB cs ys fs tab K = true) {x : Str} {ns ps : List Str} {fd : FuncData} (hx : cs.contains x = true)
    (F1 : ∀ C, mg x = some (.ref C) → XcC K C → (∀ f, fs.contains f = true → PySem.W.findIn K (.ref C) f = some none) → FnOk P w K mg base CX0 1 (He.fAd K (x, some "__init__")) fd ps (spI C ns)) (hb : Binds K fd ps []) : ExT P w K mg base x ns := by
  obtain ⟨c1, _⟩ := He.ba c
  obtain ⟨h1, h2⟩ := He.ba (List.all_eq_true.mp c1 x (List.contains_iff_mem.mp hx))
  obtain ⟨h2, h3⟩ := He.ba h2
  obtain ⟨h3, h4⟩ := He.ba h3
  obtain ⟨h5, h6⟩ := He.ba h3
  have g1 := He.glo_ok X G h1
  have x1 := xcB_ok h2
  exact ⟨_, _, fd, ps, g1, x1.ox, of_decide_eq_true h5, of_decide_eq_true h6, F1 _ g1 x1 fun f hf => of_decide_eq_true (List.all_eq_true.mp h4 f (List.contains_iff_mem.mp hf)), hb⟩
end
def obsX (fa : List He.Fa) (fn : List He.DefD) (ex : PySem.W.Frag → Bool) (K : PySem.W.Frag) : He.AlD × Bool := (He.obsD fa fn K, ex K)
def SaysX (fa : List He.Fa) (fn : List He.DefD) (ex : PySem.W.Frag → Bool) (K : PySem.W.Frag) : Prop := obsX fa fn ex K = (He.valD fn, true)
theorem SaysX.d {fa : List He.Fa} {fn : List He.DefD} {ex : PySem.W.Frag → Bool} {K : PySem.W.Frag} (c : SaysX fa fn ex K) : He.SaysD fa fn K := congrArg Prod.fst c
theorem SaysX.x {fa : List He.Fa} {fn : List He.DefD} {ex : PySem.W.Frag → Bool} {K : PySem.W.Frag} (c : SaysX fa fn ex K) : ex K = true := congrArg Prod.snd c
end DL
namespace DL
open PySem PySem.Spec PyProof.Rows L2
/-- a class's j-th statement -/
def inCls (s : Stmt) (j : Nat) : Stmt := match s with
  | .ClassDef _ _ _ b _ _ _ _ _ _ _ => b.getD j (.Pass ⟨0, 0, 0, 0⟩)
  | _ => .Pass ⟨0, 0, 0, 0⟩
section
variable {X : Cx} {W : WX} {st : Stmt} {f : Fsx}
def x_fz (j : Nat) (f : Fsx) : Fsx := fun e => f (fzE j e)
theorem SDX.fz (j : Nat) (h : SDX X W st f) (hj : j ≠ 0 := by decide) : SDX X W st (x_fz j f) := by
  refine ⟨ps_imp h.run fun D σ H ⟨m, E, G0, G, e, o, R, q, P⟩ => ?_⟩
  obtain ⟨G', s, R'⟩ := R.fz hj
  exact ⟨m, E, G0, G', _, o, R', q, P.aft s⟩
end
section
variable {P : Program} {w : World} {K : PySem.W.Frag} {mg : Str → Option Value} {base : Heap} {x qual : Str} {params : Arguments} {body : List Stmt} {scope : Scope} {dvs dvs' : List V} {kws : List (Str × V)} {f : Addr} {fd : FuncData} {k : Nat} {sp : Sp} {ps : List Str}
theorem kfX (F : FunD K x qual params body scope dvs kws f fd) (ok : FnOk P w K mg base (L2N.CX P w) k f fd ps sp) (g : mg x = some (.ref f)) (b : ∃ ds, Vals dvs' ds ∧ Binds K fd ps ds) : KfX P w K mg base k x sp dvs' := by
  obtain ⟨ds, h1, h2⟩ := b
  exact ⟨f, fd, ps, ds, ok, g, F.kp, h2, h1⟩
theorem kfXN (F : FunD K x qual params body scope [] kws f fd) (ok : FnOk P w K mg base (L2N.CX P w) k f fd ps sp) (g : mg x = some (.ref f))
    (h : ∀ (kV doc pm : Value) (an : Option Addr) (cdv ct : Value) (us : List Value), us.length = ps.length → bindArgs (PySem.W.fnOf x qual params body scope .none kV doc pm an cdv ct) ⟨us, []⟩ = pure (ps.zip us)) : KfX P w K mg base k x sp [] :=
  kfX F ok g ⟨[], .nil, F.bindsN h⟩
end
end DL
namespace DL
open PySem PySem.Spec PyProof.Rows L2
def blB (l : List (Str × String)) (K : PySem.W.Frag) : Bool := l.all fun p => decide (PySem.W.nsIn K mainGlobals p.1 = some (some (.builtin p.2)))
end DL
namespace DL
open L2 PySem PySem.Spec PySem.W PyProof.Rows
def bD : Option Rs → Option Bool
  | some (.im (.bool b)) => some b
  | _ => none
def iD : Option Rs → Option Int
  | some (.im (.int i)) => some i
  | _ => none
def vD : Option Rs → Option PyData
  | some (.im d) => some d
  | _ => none
theorem bD_ok {o : Option Rs} {b : Bool} (h : bD o = some b) : o = some (.im (.bool b)) := by
  unfold bD at h
  split at h
  · cases h
    rfl
  · cases h
theorem iD_ok {o : Option Rs} {i : Int} (h : iD o = some i) : o = some (.im (.int i)) := by
  unfold iD at h
  split at h
  · cases h
    rfl
  · cases h
theorem vD_ok {o : Option Rs} {d : PyData} (h : vD o = some d) : o = some (.im d) := by
  unfold vD at h
  split at h
  · cases h
    rfl
  · cases h
/-- what a walk over it gives -/
def wkD : PyData → Option (List PyData)
  | .list ds => some ds
  | .tuple ds => some ds
  | _ => none
section
variable {x y z : Fe} {c d : Ft} {e e1 e2 e3 : Ev} {r r1 r2 r3 : Rs} {a b : PyData} {ds : List PyData} {fa fb : Fa}
theorem wkX (h : x e = some (.im a, e1)) (k : wkD a = some ds) : i_seq x e = some (ds.map idD, e1) := by
  rw [show ds.map idD = ds from List.map_id' ds]
  cases a with
  | list l =>
    cases k
    rw [r_i_seq, h]
    rfl
  | tuple l =>
    cases k
    rw [r_i_seq, h]
    rfl
  | _ => cases k
end
end DL
namespace DL
open L2 PySem PySem.Spec PySem.W PyProof.Rows
end DL
namespace DL
open PySem PySem.Spec PySem.W PyProof.Rows L2 Calls SeqAt
section
variable {prog : Program} {w : World} {A : Around} {E : Value → Shared → Prop} {s : Shared}
/-- tuple's own __lt__ -/
theorem oneLt_two {xs ys : List PyData} {a b : Value} {as bs : List Addr} {Q : Bool → Shared → Prop} (ra : Reads s.heap a (.tuple xs) as) (rb : Reads s.heap b (.tuple ys) bs) (hal : alikeAll xs ys = true)
    (hu : A.units + min (PyData.tuple xs).depth (PyData.tuple ys).depth < cLine) (hq : Q (dataLt (.tuple xs) (.tuple ys)) s) : wpAny (model prog w) A (oneLt' true a b) Q E s := by
  cases ra with
  | @tuple p o vs n _ _ h1 h2 h3 h4 =>
    cases rb with
    | @tuple p2 o2 vs2 n2 _ _ k1 k2 k3 k4 =>
      have e1 : vs.size = xs.length := by simpa using ReadsAll.length _ _ _ h4
      have e2 : vs2.size = ys.length := by simpa using ReadsAll.length _ _ _ k4
      rw [dataLt_tuple, ← firstLt_toks xs ys hal, ← e1, ← e2] at hq
      obtain ⟨cls, dd, data, sl⟩ := o
      obtain ⟨cls2, dd2, data2, sl2⟩ := o2
      dsimp only at h2 h3 k2 k3
      subst h2 h3 k2 k3
      rw [oneLt'_eq]
      simp only [if_true]
      refine wpAny_bind (wpAny_cRoomFor (room_here hu) (wpAny_bind (wpAny_callSpecialIfBound?_slot (T := "tuple") ⟨_, h1, rfl⟩ F.slot_tuple_lt ?_)))
      refine call_meets F.slot_tuple_lt ⟨_, h1, rfl⟩ F.entry_tuple_lt (F.args_tuple_lt_2 _ _) (tuple_ltAt p p2 vs vs2 n n2 dd dd2 sl sl2 (pairEq xs ys) fun j => dataLt (xs.getD j .none) (ys.getD j .none)) ⟨h1, k1, fun j j1 j2 => ?_, fun j j1 j2 hj => ?_, ?_⟩
      · have z := eqAt_alikeAll xs ys A.in1 s vs.toList vs2.toList _ _ h4 k4 hal (room_in hu) j (by simpa using j1) (by simpa using j2)
        simpa using z
      · have z := rcLt_alikeAll xs ys A.in1 s vs.toList vs2.toList _ _ h4 k4 hal (room_in hu) j (by simpa using j1) (by simpa using j2) hj
        simpa using z
      · exact wpAny_truthy_bool hq
/-- the first items of tuples -/
theorem firsts_mix {M : Model} : ∀ (vs : List Value) (ks : List (List Int)) {Q : List (Option Value) → Shared → Prop}, EachIs (fun v k => ∃ as, Reads s.heap v (tI k) as) vs ks → (∀ L : List (Option Value), L.map Option.isSome = ks.map (fun k => !k.isEmpty) → Q L s) → wpAny M A (vs.mapM firstOfTuple') Q E s
  | _, _, Q, .nil, h => by
    rw [List.mapM_nil]
    exact wpAny_pure (h [] rfl)
  | v :: vs, k :: ks, Q, .cons r t, h => by
    obtain ⟨as, r⟩ := r
    cases r with
    | @tuple p o xs n _ _ h1 h2 h3 h4 =>
      rw [List.mapM_cons]
      refine wpAny_bind ?_
      rw [kas_first_eq]
      refine wpAny_bind (Looks.here (show Looks M s.heap (typeOf (.ref p)) o.cls from (Looks.ld h1).andThen .now) ?_)
      rw [h2, if_neg (by first | decide | simp)]
      refine wpAny_bind (listItems_at h1 h3 (wpAny_pure ?_))
      refine wpAny_bind (firsts_mix vs ks t fun L hL => wpAny_pure (h (xs[0]? :: L) ?_))
      rw [List.map_cons, List.map_cons, hL]
      congr 1
      have e : xs.size = (k.map PyData.int).length := by simpa using ReadsAll.length _ _ _ h4
      rw [List.length_map] at e
      cases k with
      | nil =>
        have z : xs[0]? = none := Array.getElem?_eq_none (by rw [e]; exact Nat.le_refl _)
        rw [z]
        rfl
      | cons i k =>
        have l0 : 0 < xs.size := by
          rw [e]
          exact Nat.succ_pos _
        rw [Array.getElem?_eq_getElem l0]
        rfl
def mixKind (ks : List (List Int)) : SortKind := match ks with
  | [] :: _ => oneType'
  | _ => general'
theorem kind_mix {M : Model} {vs : List Value} {ks : List (List Int)} {Q : SortKind → Shared → Prop} (e : EachIs (fun v k => ∃ as, Reads s.heap v (tI k) as) vs ks) (h2 : 2 ≤ vs.length) (hk : (ks.all fun k => !k.isEmpty) = false) (h : Q (mixKind ks) s) : wpAny M A (keyKind' vs.toArray) Q E s := by
  rw [kat_kind_eq, List.mapM_toArray, map_eq_pure_bind]
  refine wpAny_bind (wpAny_bind (firsts_mix vs ks e fun L hL => wpAny_pure ?_))
  have a1 : (L.toArray.all fun x => x.isSome) = false := by
    have z : (L.map Option.isSome).all id = (ks.map fun k => !k.isEmpty).all id := by rw [hL]
    rw [List.all_map, List.all_map] at z
    rw [List.all_toArray]
    exact z.trans hk
  rw [if_neg (by rw [a1]; exact Bool.false_ne_true)]
  have looks : ∀ v ∈ vs, Looks M s.heap (typeOf v) (.type "tuple") := fun v hv => by
    obtain ⟨k, _, as, r⟩ := e.left v hv
    exact looks_reads r
  match ks, L, hL, h with
  | [], _, _, _ => cases hk
  | [] :: ks, x :: L, hL, h =>
    have hx : x = none := by
      have := (List.cons.inj hL).1
      cases x with
      | none => rfl
      | some y => cases this
    subst hx
    rw [if_neg (by simp)]
    rw [oneTypeOnly'_eq, List.mapM_toArray, map_eq_pure_bind]
    refine wpAny_bind (wpAny_bind (wpAny_bind (kas_mapM (r := .type "tuple") _ (fun v hv Q' hq => (looks v hv).here hq) (wpAny_pure ?_))))
    have all : ((List.map (fun _ => Value.type "tuple") vs).toArray.all fun x => x == Value.type "tuple") = true := by
      simp only [List.all_toArray, List.all_map, List.all_eq_true]
      exact fun _ _ => beq_self_eq_true _
    have at0 : (List.map (fun _ => Value.type "tuple") vs).toArray[0]? = some (.type "tuple") := by
      cases vs with
      | nil => exact absurd h2 (by decide)
      | cons v vs => rfl
    rw [at0]
    simp only [all, if_true]
    exact wpAny_pure (wpAny_pure h)
  | (i :: k) :: ks, x :: L, hL, h =>
    obtain ⟨y, rfl⟩ : ∃ y, x = some y := by
      have := (List.cons.inj hL).1
      cases x with
      | none => cases this
      | some y => exact ⟨y, rfl⟩
    rw [if_pos (by simp)]
    exact wpAny_pure h
theorem sorts_mix {vs : List Value} {ks : List (List Int)} (e : EachIs (fun v k => ∃ as, Reads s.heap v (tI k) as) vs ks) (hk : (ks.all fun k => !k.isEmpty) = false) (hu : ∀ k, k ∈ ks → A.units + (tI k).depth < cLine) : SortsAt prog w A s (dataKind s.heap (ks.map tI)) vs := by
  have hal : AllAlike (ks.map tI) := AllAlike.of alike_tI
  have e' : EachIs (fun v d => ∃ as, Reads s.heap v d as) vs (ks.map tI) := each_map (R := fun v d => ∃ as, Reads s.heap v d as) tI e
  refine ⟨fun v hv => ?_, mixKind ks, ?_, fun h2 E Q hq => kind_mix e h2 hk hq⟩
  · obtain ⟨d, hd, as, r⟩ := e'.left v hv
    exact ⟨_, dataKind_some hal hd r⟩
  · intro E x y a b Q ha hb hq
    obtain ⟨d, as, hd, ra, rfl⟩ := dataKind_inv ha
    obtain ⟨d', as', hd', rb, rfl⟩ := dataKind_inv hb
    obtain ⟨k, mk, rfl⟩ := List.mem_map.mp hd
    obtain ⟨k', mk', rfl⟩ := List.mem_map.mp hd'
    have hdd := hal _ hd _ hd'
    have room : A.units + min (tI k).depth (tI k').depth < cLine := Nat.lt_of_le_of_lt (Nat.add_le_add_left (Nat.min_le_left _ _) _) (hu k mk)
    have hq' : Q (dataLt (tI k) (tI k')) s := hq
    have one : wpAny (model prog w) A (oneLt' true x y) Q E s := oneLt_two ra rb (by simpa [tI, alike] using hdd) room hq'
    have gen : wpAny (model prog w) A (oneLt' false x y) Q E s := oneLt_alike (fun z => by cases z) ra rb hdd (by intro z; cases z) room hq'
    unfold mixKind
    split
    · exact one
    · exact gen
end
section
variable {X : Cx}
def rSortM (K : PySem.W.Frag) : List V → Hp → VK → Prop := fun vs H Q => ∃ (G : Hp) (a : Addr) (ws : List V) (ks : List (List Int)), Same G H ∧ vs = [.ref a] ∧ SqL K H a ws ∧ DpAll K G ws (ks.map tI) ∧ (ks.all fun k => !k.isEmpty) = false ∧
  ∀ ys p, DpAll K G ys ((upT ks).map tI) → H p = none → Q (.ref p) (upd H p (.lst ys))
theorem cr_sortM (hu : X.A.units + 64 < cLine) : CallR X (.builtin "sorted") (rSortM X.K) := by
  rintro pins s σ H vs us Q I r ⟨G, a, ws, ks, sg, rfl, hs, hd, ok, q⟩
  obtain ⟨its, rv, pl, hz⟩ := I.list hs
  rw [Vals.ref1 r]
  have e := isK_all hd rv
  have hl : its.length ≤ sizeLine := by
    rw [← rv.length]
    exact hz
  have er := (isK_reads I sg e).mono fun v k (h : ∃ as, Reads s.heap v (tI k) as) => (⟨h.choose, PyProof.Rows.Reads.keeps (fun _ _ => sorting_copy_old) h.choose_spec⟩ : ∃ as, Reads (sortingHeap (copyHeap s.heap its) (s.heap.objs.size + 1) its) v (tI k) as)
  refine sorted_vals pl.isList (sorts_mix (s := { s with heap := sortingHeap (copyHeap s.heap its) (s.heap.objs.size + 1) its }) er ok fun k _ => ?_) hl ?_
  · have := depth_tI k
    show X.A.units + 2 + _ < _
    omega
  · have eo := sortVals_data false e er (AllAlike.of alike_tI)
    rw [dataLe_tups] at eo
    obtain ⟨ys, r2, d2⟩ := isK_back eo
    obtain ⟨c, hat⟩ := sortedAll_at s.heap its (List.toArray (sortVals (dataKind (sortingHeap (copyHeap s.heap its) (s.heap.objs.size + 1) its) (ks.map tI)) false its its))
    have hl2 : ys.length ≤ sizeLine := by
      have z := (upT_perm ks).length_eq
      unfold upT at z
      rw [dpAll_len d2, List.length_map, z, ← e.length]
      exact hl
    exact ⟨.ref _, upd H (s.heap.objs.size + 1) (.lst ys), I.laid (t' := s.toks) (fun _ _ => sortedAll_old) (Nat.le_succ _) ⟨hl2, _, c, r2, hat⟩, rfl, q ys _ d2 (I.hok.fresh (Nat.le_succ _))⟩
end
def c_sortedM : List PyData → Option Rs
  | [.list ds] => (match unT ds with
    | some ks => if (ks.all fun k => !k.isEmpty) = false then some (.ac ((upT ks).map tI)) else none
    | none => none)
  | _ => none
theorem vc_sortedM {K : PySem.W.Frag} : VC K (rSortM K) c_sortedM := by
  intro m E G0 G e σ H vs ds rr Q R l q P
  unfold c_sortedM at q
  split at q
  · split at q
    · rename_i ks h
      split at q
      · rename_i ok
        cases q
        rw [unT_ok h] at l
        obtain ⟨v, rfl, lv⟩ := lv1 l
        obtain ⟨p, ws, rfl, s1, k⟩ := lv.list R.gh
        refine ⟨G, p, ws, ks, R.gh, rfl, s1, k, ok, fun ys p2 d hp => ?_⟩
        obtain ⟨R', S', V', N'⟩ := R.newL hp d
        exact P _ _ _ R' S' V' N'
      · cases q
    · cases q
  · cases q
def c_sortedB : List PyData → Option Rs := orC c_sortedA c_sortedM
theorem vc_sortedB {K : PySem.W.Frag} : VC K (fun vs H Q => (rSortedI K vs H Q ∨ rSortTL K vs H Q) ∨ rSortM K vs H Q) c_sortedB := VC.or vc_sortedA vc_sortedM
theorem cr_sortedB {X : Cx} (hu : X.A.units + 64 < cLine) : CallR X (.builtin "sorted") (fun vs H Q => (rSortedI X.K vs H Q ∨ rSortTL X.K vs H Q) ∨ rSortM X.K vs H Q) := CallR.or (cr_sortedA hu) (cr_sortM hu)
theorem o_sortedBI {l : List Int} : c_sortedB [ls PyData.int l] = some (.ac ((upI l).map PyData.int)) := by
  unfold c_sortedB orC
  rw [o_sortedL]
theorem o_sortedBT {l : List (List Int)} : c_sortedB [ls (tp PyData.int) l] = some (.ac ((upT l).map (tp PyData.int))) := by
  have u : unT (l.map (tp PyData.int)) = some l := unT_map l
  cases l with
  | nil =>
    show c_sortedB [ls PyData.int []] = _
    rw [o_sortedBI]
    simp [upI, upT, sortB]
  | cons k l =>
    have n1 : c_sortedI [ls (tp PyData.int) (k :: l)] = none := rfl
    by_cases ok : okT (k :: l) = true
    · have q : c_sortedT [ls (tp PyData.int) (k :: l)] = some (.ac ((upT (k :: l)).map tI)) := by
        unfold c_sortedT
        dsimp only
        rw [u]
        dsimp only
        rw [if_pos ok]
      unfold c_sortedB c_sortedA orC
      rw [n1]
      dsimp only
      rw [q]
      rfl
    · have q : c_sortedT [ls (tp PyData.int) (k :: l)] = none := by
        unfold c_sortedT
        dsimp only
        rw [u]
        dsimp only
        rw [if_neg ok]
      have all : ((k :: l).all fun k => !k.isEmpty) = false := by
        unfold okT at ok
        rw [Bool.or_eq_true, not_or] at ok
        exact Bool.eq_false_iff.mpr ok.2
      have q2 : c_sortedM [ls (tp PyData.int) (k :: l)] = some (.ac ((upT (k :: l)).map tI)) := by
        unfold c_sortedM
        dsimp only
        rw [u]
        dsimp only
        rw [if_pos all]
      unfold c_sortedB c_sortedA orC
      rw [n1]
      dsimp only
      rw [q]
      dsimp only
      rw [q2]
      rfl
end DL
namespace DL
open L2 PySem PySem.Spec PySem.W PyProof.Rows
abbrev p1 {α : Type} (f : α → PyData) (x : α) : PyData := .tuple [f x]
instance {α : Type} {f : α → PyData} : Nn (p1 f) := ⟨fun _ => ⟨rfl, rfl⟩⟩
instance {α : Type} [DecidableEq α] {f : α → PyData} [E : EqE f] : EqE (p1 f) := ⟨E.d + 1, fun a => by simp [PyData.canLay0, PyData.canLayAll0, E.can], fun a => by
    rw [PyData.depth, PyData.depthAll, PyData.depthAll]
    have := E.dep a
    omega, fun a b => by
    rw [PyData.eqv, PyData.eqvAll, PyData.eqvAll, E.eqv]
    exact Bool.and_true _⟩
end DL
namespace DL
open L2 PySem PySem.Spec PySem.W PyProof.Rows
def valD (kvs : List (Key × PyData)) (k : Key) : Option PyData := (kvs.find? fun kv => decide (kv.1 = k)).map (·.2)
section
variable {K : PySem.W.Frag} {G : Hp} {v : V} {d : PyData} {k : Key}
theorem Dkv.same {G' : Hp} {ws : List (Key × V)} {kvs : List (Key × PyData)} (q : Dkv K G ws kvs) (s : Same G G') : Dkv K G' ws kvs := ⟨q.1, dpAll_same s q.2⟩
end
end DL
namespace DL
open L2 PySem PySem.Spec PySem.W PyProof.Rows
end DL
namespace DL
open L2 PySem PySem.Spec PySem.W PyProof.Rows
section
variable {α β γ δ ε ζ : Type}
abbrev q2 (f : α → PyData) (g : β → PyData) (x : α × β) : List PyData := [f x.1, g x.2]
abbrev q3 (f : α → PyData) (g : β → PyData) (h : γ → PyData) (x : α × β × γ) : List PyData := [f x.1, g x.2.1, h x.2.2]
abbrev q4 (f : α → PyData) (g : β → PyData) (h : γ → PyData) (k : δ → PyData) (x : α × β × γ × δ) : List PyData := [f x.1, g x.2.1, h x.2.2.1, k x.2.2.2]
abbrev q5 (f : α → PyData) (g : β → PyData) (h : γ → PyData) (k : δ → PyData) (l : ε → PyData) (x : α × β × γ × δ × ε) : List PyData := [f x.1, g x.2.1, h x.2.2.1, k x.2.2.2.1, l x.2.2.2.2]
end
end DL
namespace DL
open L2 PySem PySem.Spec PySem.W PyProof.Rows
end DL
namespace DL
open L2 PySem PySem.Spec PySem.W PyProof.Rows
end DL
namespace DL
open L2 PySem PySem.Spec PySem.W PyProof.Rows
theorem _root_.L2H.RoomH.units {k : Nat} {A : Around} (r : L2H.RoomH k A) : A.units + 64 < cLine := by
  have := r.un
  omega
theorem hot_suite {X : Cx} {a dd C : Addr} {oe : Obj} {pn : List (Addr × Obj)} (hz : L2N.Zn (.ref C) (some dd) oe) (hf : ∃ vs, oe.data = .fields vs) : L2H.HotC (X.suite a ((a, oe) :: pn)) := by
  obtain ⟨vs, hv⟩ := hf
  exact ⟨(a, oe), ⟨rfl, vs, hv, hz.2.2 vs hv⟩, List.mem_cons_self ..⟩
theorem room_suite {X : Cx} {j : Nat} {a : Addr} {pn : List (Addr × Obj)} (hr : Room j X.A) : L2H.RoomH j (X.suite a pn).A := ⟨hr.dp, hr.un⟩
inductive KfH (P : Program) (w : World) (K : PySem.W.Frag) (mg : Str → Option Value) (base : Heap) (k : Nat) (x : Str) (sp : Sp) : Prop where
  | kept (at_ : Addr) (fd : FuncData) (names : List Str) (fn : L2H.FnH P w K mg base CX0 k at_ fd names sp) (here : mg x = some (.ref at_)) (stays : PySem.W.keepIn K (.ref at_) = true) (binds : Binds K fd names [])
section
variable {X : Cx} {k j n : Nat} {x : Str} {p pos : Pos} {a : Expr} {es : List Expr} {fa : Fa}
theorem ed_callH {φ : List PyData → Option Rs} (F : KfH X.prog X.w X.K X.mg X.base k x (spD X.K n φ)) (hr : L2H.RoomH j X.A) (hot : L2H.HotC X) (hk : k ≤ j) (hn : ∀ ds, (φ ds).isSome = true → ds.length = n) (h : AD X (a :: es) fa) (hg : Gl X x := by rfl)
    (hdb : (x == ("__debug__" : Str)) = false := by decide) (he : starEach (a :: es) X.env = (false, eval a X.env) :: starEach es X.env := by rfl) (hpl : (backTo pos (starEach es X.env)).any (·.1) = false := by rfl) :
    ED X (.Call (.Name x p) (a :: es) [] pos) (x_call φ [] fa) := by
  obtain ⟨f, fd, ps, F, hm, kp, hb⟩ := F
  obtain ⟨t, pa, kk⟩ := h
  refine ⟨_, L2H.pe_callH F (hr.mono hk) hot hg hm kp hb (E := fun _ => E0) (fun _ _ _ _ _ _ _ z => z.elim) pa hdb he hpl, ?_⟩
  intro m E G0 G e σ H r e' Q R q P
  have z := call_ok (dvs := []) (dds := []) (fun G => .nil) hn kk m E G0 G e σ H r e' Q R q P
  unfold tCall at z
  simp only [List.append_nil] at z
  exact z
theorem sd_forH {tg e : Expr} {body : List Stmt} {f : Fe} {S : List Nat} {γ : PyData → Ev → Option Ev} {fb : Fs} {q : Pos} (hot : L2H.HotC X) (hp : PassesOwn (model X.prog X.w) X.A X.env X.xe) (ha : ED X e f) (hm : X.mg "range" = none) (hg : GD X tg S γ) (hb : SsD X body fb)
    (hgl : Gl X "range" := by rfl) (hs1 : starEach [e] X.env = [(false, eval e X.env)] := by rfl) (hs : ∀ x, foldedSetIterable (.Call (.Name "range" p) [e] [] q) X.env x = pure x := by intro _; rfl) :
    SD X (.For tg (.Call (.Name "range" p) [e] [] q) body [] pos) (s_for (i_rng1 f) γ S fb) := by
  obtain ⟨t, pa, k⟩ := ha
  exact sd_forG (PIx := L2H.PIH X tg (.Call (.Name "range" p) [e] [] q)) (fun pi pg pb => L2H.ps_forH hp hot pi pg pb hs) ⟨_, L2H.pi_range1H hgl hm (pa_cons pa pa_nil hs1) hs1, rng1_read k⟩ hg hb
end
section
variable {P : Program} {w : World} {K : PySem.W.Frag} {mg : Str → Option Value} {base : Heap} {x qual : Str} {params : Arguments} {body : List Stmt} {scope : Scope} {dvs : List V} {kws : List (Str × V)} {f : Addr} {fd : FuncData} {N ps : List Str} {k n nl : Nat} {g : Fs}
/-- what the body gives, out of what the def promises -/
theorem fn_read {X : Cx} {t : TS} {vs : List V} {H : Hp} {Q : VK} {E : XK} (hK : X.K = K) (hl : n + nl = N.length) (kt : ∀ (m : Option Addr) (E : Ef) (G0 G : Hp) (e : Ev) (σ : St) (H : Hp) (fl : Fl) (D : Ends), Rz X.K m E G0 G e σ H → g e = some fl → PoS X.K m E G0 G D fl → t D σ H)
    (h : spD K n (runF n nl g) vs H Q E) : t { nx := fun _ H' => Q .non H', rt := Q } (L2.start N vs) H := by
  subst hK
  obtain ⟨G, ds, r, s1, hd, hv, hr2, hQ⟩ := h
  have Rz0 : Rz X.K none (Ef.of H) G G (env0 ds nl) (L2.start N vs) H := rz_start s1 hd (by omega)
  unfold runF at hr2
  rw [if_pos (by rw [← dpAll_len hd]; exact hv)] at hr2
  split at hr2
  · rename_i r' e' h1
    refine kt none (Ef.of H) G G _ _ H _ _ Rz0 h1 fun v G' σ' H' s2 R' V' => ?_
    refine hQ v G' H' s2 R'.r.gh (fun a o z => R'.r.eh a o z (by simp)) R'.r.nw ?_
    unfold finR at hr2
    cases r' with
    | im d =>
      cases hr2
      exact V'
    | ac d =>
      cases hr2
      obtain ⟨p, ws, a1, a2, a3, a4, a5, _⟩ := V'
      exact ⟨p, ws, a1, a2, a3, a4, a5⟩
    | br i =>
      dsimp only at hr2
      split at hr2
      · rename_i d h2
        cases hr2
        have b2 : σ'[i]? = some (some v) := V'
        obtain ⟨p, ws, a1, a2, a3, a4, a5⟩ := R'.r.ac i d h2
        rw [a1] at b2
        cases b2
        have a5 : H p = none := by
          rcases a5 with a5 | a5
          · exact a5
          · cases a5.1
        exact ⟨p, ws, rfl, a5, a2, a3, a4⟩
      · cases hr2
  · rename_i e' h1
    cases hr2
    exact kt none (Ef.of H) G G _ _ H _ _ Rz0 h1 fun G' σ' H' s2 R' => hQ .non G' H' s2 R'.r.gh (fun a o z => R'.r.eh a o z (by simp)) R'.r.nw .non
  · cases hr2
theorem fnDH (F : FunD K x qual params body scope dvs kws f fd) (S : FnScope N ps scope) (hp : ps.length = n) (hl : n + nl = N.length)
    (hb : ∀ (cdv : Value) (A : Around) (outer : List Env) (s : Shared) (H : Hp) (E : XK) (p : Addr × Obj), L2H.RoomH k (A.deeper (envOfC qual scope s.heap.objs.size f cdv)) → L2H.HotC (L2H.cxH CX0 P w K mg base N qual scope f cdv A outer s H E p).nox → SsD (L2H.cxH CX0 P w K mg base N qual scope f cdv A outer s H E p).nox body g) :
    L2H.FnH P w K mg base CX0 (k + 1) f fd ps (spD K n (runF n nl g)) := by
  obtain ⟨oc, od, dV, kV, doc, pm, an, cdv, ct, osl, rfl, lk, hcd, _, _⟩ := F.ex
  refine L2H.fn_ofH lk hcd S (fun vs H Q E h => ?_) fun A outer s H vs Q E p hot hr h => ?_
  · obtain ⟨_, _, _, _, _, h, _⟩ := h
    rw [h, hp]
  · obtain ⟨t, pt, kt⟩ := hb cdv A outer s H E p hr ⟨p, hot, List.mem_singleton.mpr rfl⟩
    exact ⟨t, pt.nox, fn_read (K := K) rfl hl kt h⟩
theorem fnH_void {CX : CXT} : L2H.FnH P w K mg base CX k f fd ps (spD K n (fun _ => none)) := by
  refine ⟨fun _ _ _ _ h => (spD_void h).elim, ?_⟩
  intros
  exact (spD_void (by assumption)).elim
theorem kfHN {sp : Sp} (F : FunD K x qual params body scope [] kws f fd) (ok : L2H.FnH P w K mg base CX0 k f fd ps sp) (gm : mg x = some (.ref f))
    (h : ∀ (kV doc pm : Value) (an : Option Addr) (cdv ct : Value) (us : List Value), us.length = ps.length → bindArgs (PySem.W.fnOf x qual params body scope .none kV doc pm an cdv ct) ⟨us, []⟩ = pure (ps.zip us)) : KfH P w K mg base k x sp := ⟨_, _, _, ok, gm, F.kp, F.bindsN h⟩
end
end DL
namespace DL
open L2 PySem PySem.Spec PySem.W PyProof.Rows
def x_m1 (φ : PyData → PyData → Option Int) (fo fa : Fe) : Fe := fun e => match fo e with
  | some (r1, e1) => (match imR (frzR r1) with
    | some d1 => (match fa e1 with
      | some (r2, e2) => (match imR (frzR r2) with
        | some d2 => (φ d1 d2).map fun i => (.im (.int i), e2)
        | none => none)
      | none => none)
    | none => none)
  | none => none
theorem imR_ok {r : Rs} {d : PyData} (h : imR r = some d) : r = .im d := by
  cases r with
  | im x => cases h; rfl
  | ac x => cases h
  | br x => cases h
theorem u65 {k : Nat} {A : Around} (r : Room k A) : A.units + 65 < cLine := by
  have := r.un
  omega
end DL
namespace DL
open PySem PySem.Spec PySem.W PyProof.Rows L2
section
variable {prog : Program} {w : World} {A : Around} {E : Value → Shared → Prop} {z : Shared}
/-- where the new list of what a tuple holds stands -/
def gotH (g : Heap) (vs : List Value) : Heap := (g.push (seqObj "list" #[] 0)).update g.objs.size (Obj.mapSeq (· ++ vs.toArray))
theorem got_size (g : Heap) (vs : List Value) : (gotH g vs).objs.size = g.objs.size + 1 := by unfold gotH; rw [Heap.size_update, size_push']
theorem got_at (g : Heap) (vs : List Value) : ∃ n, (gotH g vs).get? g.objs.size = some (seqObj "list" vs.toArray n) :=
  ⟨_, (get?_update_seq (Heap.get?_push_size _ rfl) _).trans (by rw [show (#[] : Array Value) ++ vs.toArray = vs.toArray by simp])⟩
/-- xs += t, of a new list -/
theorem tup_ext {t r : Addr} {ob : Obj} {vs : List Value} {k n : Nat} {g : Heap} {Q : PySem.Fin → Shared → Prop} (h1 : g.get? t = some ob) (h2 : ob.cls = .type "tuple") (h3 : ob.data = .seq vs.toArray k)
    (hr : g.get? r = some (seqObj "list" #[] n)) (hn : vs.length ≤ sizeLine) (q : Q (.done (.ret (.ref r))) { z with heap := g.update r (Obj.mapSeq (· ++ vs.toArray)) }) :
    wpAny (model prog w) A (Builtin.List.listExtendWith (.ref r) (.ref t) (.ref r)) Q E { z with heap := g } := by
  unfold Builtin.List.listExtendWith
  refine wpAny_bind (wpAny_typeOf (T := "tuple") ⟨ob, h1, h2⟩ ?_)
  rw [if_pos (by simp)]
  refine wpAny_bind (listItems_at h1 h3 <| wpAny_bind <| listItems_at hr rfl ?_)
  rw [if_neg (by simp)]
  exact wpAny_bind (listUpdate_at hr rfl (wpAny_pure q) (Nat.zero_le _) (by show (#[] ++ vs.toArray).size ≤ sizeLine + 1; simp only [Array.size_append, List.size_toArray, List.length_nil]; omega))
theorem tup_got {t : Addr} {vs : List Value} {Q : List Value → Shared → Prop} (ht : IsTup z.heap t vs.toArray) (hn : vs.length ≤ sizeLine) (q : Q vs { z with heap := gotH z.heap vs }) :
    wpAny (model prog w) A (collect (.ref t)) Q E z := by
  obtain ⟨ob, h1, h2, k, h3⟩ := ht
  obtain ⟨n, hg⟩ := got_at z.heap vs
  unfold collect
  refine wpAny_bind (wpAny_runValue (codeAny_builtin entry_proto_collect' (?_ : wpAny _ _ (do again (.builtin "list.__iadd__" ⟨[← newList [], .ref t], []⟩)) _ _ z)))
  refine wpAny_bind <| wpAny_newList <| wpAny_pure ⟨Code.quiet_builtin _ (by decide +kernel), codeAny_builtin entry_list_iadd' ?_⟩
  refine tup_ext (z := z) (Heap.get?_push_of_some _ h1) h2 h3 (Heap.get?_push_size _ rfl) hn ?_
  show wpAny (model prog w) A (load z.heap.objs.size >>= fun o => match o.data with
      | .seq xs _ => pure xs.toList
      | _ => unsupported "internal:collect") Q E _
  exact wpAny_bind (wpAny_load hg (wpAny_pure q))
/-- sorted of a tuple, by keywords that say reverse=b -/
theorem tup_srt {t : Addr} {vs : List Value} {b : Bool} {lt : Value → Value → Bool} {Q : Value → Shared → Prop} (O : SrtO.Swo lt) (ht : IsTup z.heap t vs.toArray) (hn : vs.length ≤ sizeLine)
    (hS : 2 ≤ vs.length → ∀ (g : Heap) (a : Addr), SrtO.SortableO prog w A.in1.in1 { z with heap := g } a vs lt)
    (q : ∀ out : List Value, SrtO.Srtd lt out → SrtO.Stb lt out (if b = true then vs.reverse else vs) → Q (.ref (z.heap.objs.size + 1)) { z with heap := sortedAll z.heap vs (if b = true then out.toArray.reverse else out.toArray) }) :
    wpAny (model prog w) A (call (.builtin "sorted") [.ref t] [(Str.ofString "reverse", .bool b)]) Q E z := by
  obtain ⟨n, hg⟩ := got_at z.heap vs
  have hnew : ((gotH z.heap vs).push (seqObj "list" vs.toArray 0)).get? (z.heap.objs.size + 1) = some (seqObj "list" vs.toArray 0) := got_size z.heap vs ▸ Heap.get?_push_size _ rfl
  refine call_function_entry_kw kind_sorted plain_sorted entry_sorted (PyProof.Rows.args_sorted_rev _ _) ?_
  unfold Builtin.«sorted»
  refine wpAny_bind (wpAny_pure (wpAny_bind (tup_got ht hn <| wpAny_bind <| wpAny_newList ?_ hn)))
  show wpAny _ _ _ _ _ { z with heap := (gotH z.heap vs).push (seqObj "list" vs.toArray 0) }
  rw [got_size]
  refine wpAny_bind (wpAny_holding (wpAny_call_entry_kw slot_list_sort ⟨_, hnew, rfl⟩ entry_list_sort (SrtR.list_sort_ordR O hnew hn (fun h2 => hS h2 _ _) fun out h1 h2 => ?_) (PyProof.Rows.args_list_sort_rev _ _)))
  exact ⟨_, rfl, wpAny_pure ⟨_, rfl, q out h1 h2⟩⟩
end
theorem crk_or {X : L2.Cx} {f : Value} {ks : List Str} {r r' : List V → List V → Hp → VK → Prop} (h : CallRK X f ks r) (h' : CallRK X f ks r') : CallRK X f ks fun vs zs H Q => r vs zs H Q ∨ r' vs zs H Q :=
  fun pins s σ H xs zs us ws Q I a b c => c.elim (h pins s σ H xs zs us ws Q I a b) (h' pins s σ H xs zs us ws Q I a b)
def rSrtT (K : PySem.W.Frag) : List V → List V → Hp → VK → Prop := fun vs zs H Q => ∃ (a : Addr) (ns : List Int), vs = [V.ref a] ∧ zs = [V.bl true] ∧ SqT K H a (ns.map V.int) ∧
  ∀ p : Addr, H p = none → Q (.ref p) (upd H p (.lst ((downI ns).map V.int)))
theorem cr_srtT {X : L2.Cx} : CallRK X (.builtin "sorted") [Str.ofString "reverse"] (rSrtT X.K) := by
  intro pins z σ H vs zs us ws Q I r rz h
  obtain ⟨t, ns, rfl, rfl, hs, q⟩ := h
  obtain ⟨its, rv, tp, hz⟩ := I.tuple hs
  rw [Vals.ref1 r]
  obtain ⟨w1, rfl, e1⟩ := vals1 rz
  have e1 : w1 = Value.bool true := e1
  subst e1
  have hI := rv.ints
  have hn : its.length ≤ sizeLine := rv.length ▸ hz
  refine tup_srt SrtO.swo_int tp hn (fun h2 g a => SrtO.ints_sortable hI h2) fun out o1 o2 => ?_
  obtain ⟨ms, k1, k2, k3⟩ := SrtR.ints_outR hI o1 o2
  have k3 : ms.Pairwise (· ≥ ·) := k3
  rw [downI_uniq k2 k3] at k1
  obtain ⟨ep, at1⟩ := PyProof.Rows.sortedAll_at z.heap its (if true = true then out.toArray.reverse else out.toArray)
  have nf : H (z.heap.objs.size + 1) = none := I.hok.fresh (Nat.le_succ _)
  have hl : ((downI ns).map V.int).length ≤ sizeLine := by
    have e : (downI ns).length = ns.length := (sortB_perm _ ns).length_eq
    rw [List.length_map, e]
    rw [List.length_map] at hz
    exact hz
  refine ⟨.ref _, _, I.laid (t' := z.toks) (fun _ _ => PyProof.Rows.sortedAll_old) (Nat.le_succ _) (o := .lst ((downI ns).map V.int)) ⟨hl, _, ep, vals_of_ints k1, ?_⟩, rfl, q _ nf⟩
  rw [Array.toArray_toList]
  exact at1
/-- sorted(e, reverse=True), of a list or a tuple of ints -/
def c_srt : List PyData → Option Rs := orC (c_intsL fun ns => some (.ac ((downI ns).map PyData.int))) (c_intsT fun ns => some (.ac ((downI ns).map PyData.int)))
def x_srt (fa : Fa) : Fe := x_cb c_srt fa
theorem ed_srt {X : L2.Cx} {a : Expr} {fa : Fa} {pos p kp : Pos} {j : Nat} {cp : Pos} (h : AD X [a] fa) (hm : X.mg "sorted" = none) (hg : Gl X "sorted" := by rfl)
    (hk : L2.PK X [⟨some (Str.ofString "reverse"), .Constant (.bool true) j cp, kp⟩] (tCons (tC (.bl true)) tNil) := by exact pk_cons pe_bl pk_nil)
    (he : backTo pos (starEach [a] X.env) = (false, eval a X.env) :: backTo pos (starEach [] X.env) := by rfl) (hpl : (backTo pos (starEach [a] X.env)).any (·.1) = false := by rfl)
    (hall : (backToKw pos (keywordEach [⟨some (Str.ofString "reverse"), .Constant (.bool true) j cp, kp⟩] X.env)).all (·.1.isSome) = true := by rfl) (hnone : (backToKw pos (keywordEach [⟨some (Str.ofString "reverse"), .Constant (.bool true) j cp, kp⟩] X.env)).any (·.1.isNone) = false := by rfl)
    (hks : (backToKw pos (keywordEach [⟨some (Str.ofString "reverse"), .Constant (.bool true) j cp, kp⟩] X.env)).filterMap (·.1) = [Str.ofString "reverse"] := by rfl) :
    ED X (.Call (.Name "sorted" p) [a] [⟨some (Str.ofString "reverse"), .Constant (.bool true) j cp, kp⟩] pos) (x_srt fa) := by
  obtain ⟨t, pa, k⟩ := h
  refine ⟨_, pe_callBK (crk_or (cr_sortedRev (b := true)) cr_srtT) hg hm (by decide +kernel) pa hk (by decide) (by decide) he hpl hall hnone hks, fun m E G0 G e σ H r e' Q R q P => ?_⟩
  unfold x_srt x_cb at q
  cases h1 : argsD fa e with
  | none => simp only [h1] at q; cases q
  | some y =>
    obtain ⟨ds, e1⟩ := y
    simp only [h1] at q
    cases h2 : c_srt ds with
    | none => simp only [h2] at q; cases q
    | some r2 =>
      simp only [h2, Option.some.injEq, Prod.mk.injEq] at q
      obtain ⟨rfl, rfl⟩ := q
      obtain ⟨rs, q1, q2⟩ := argsD_ok h1
      refine k m E G0 G e σ H rs e1 _ R q1 fun vs G1 H1 R1 S1 V1 => ?_
      have fin : ∀ (ns : List Int) (p : Addr), r2 = .ac ((downI ns).map PyData.int) → H1 p = none → Q (.ref p) (upd H1 p (.lst ((downI ns).map V.int))) := fun ns p e2 hp => by
        subst e2
        obtain ⟨R', S', V', N'⟩ := R1.newL hp (dpAll_ints (K := X.K) (G := G1) (downI ns))
        exact P _ _ _ R' (S1.trans S') V' (nw_back S1 _ N')
      unfold c_srt orC at h2
      split at h2
      · rename_i r3 h3
        cases h2
        obtain ⟨ns, rfl, h4⟩ := intsL_ok h3
        cases h4
        obtain ⟨p, rfl, s1⟩ := lv_ints R1.gh (R1.lookAll V1 q2)
        refine .inl ⟨p, ns, rfl, rfl, s1, fun ms p2 z1 z2 hp => ?_⟩
        have z2 : ms.Pairwise (· ≥ ·) := z2
        rw [downI_uniq z1 z2]
        exact fin ns p2 rfl hp
      · obtain ⟨ns, rfl, h4⟩ := intsT_ok h2
        cases h4
        obtain ⟨p, rfl, s1⟩ := lv_intsT R1.gh (R1.lookAll V1 q2)
        exact .inr ⟨p, ns, rfl, rfl, s1, fun p2 hp => fin ns p2 rfl hp⟩
theorem srtLX {e : Ev} {ns : List Int} {fa : Fa} (h : argsD fa e = some ([ls PyData.int ns], e1)) : x_srt fa e = some (.ac ((downI ns).map PyData.int), e1) := by
  have c : c_srt [ls PyData.int ns] = some (.ac ((downI ns).map PyData.int)) := by
    show c_srt [PyData.list (ns.map PyData.int)] = _
    unfold c_srt orC
    rw [n_intsL]
  unfold x_srt x_cb
  rw [h]
  dsimp only
  rw [c]
end DL
namespace DL
open PySem PySem.Spec PySem.W PyProof.Rows L2
def orRx (φ : List PyData → Option Rs) (ψ : List PyData → Option Ro) : List PyData → Option Ro := fun ds => match φ ds with
  | some r => some (.inl r)
  | none => ψ ds
theorem orRx_len {φ : List PyData → Option Rs} {ψ : List PyData → Option Ro} {n : Nat} (h : ∀ ds, (φ ds).isSome = true → ds.length = n) (k : ∀ ds, (ψ ds).isSome = true → ds.length = n) : ∀ ds, (orRx φ ψ ds).isSome = true → ds.length = n := fun ds q => by
  unfold orRx at q
  cases e : φ ds with
  | some r => exact h ds (by rw [e]; rfl)
  | none =>
    rw [e] at q
    exact k ds q
theorem orRx_of {φ : List PyData → Option Rs} {ψ : List PyData → Option Ro} {ds : List PyData} {r : Rs} (h : φ ds = some r) : orRx φ ψ ds = some (.inl r) := by
  unfold orRx
  rw [h]
theorem fn_orX {P : Program} {w : World} {K : PySem.W.Frag} {mg : Str → Option Value} {base : Heap} {k n : Nat} {f : Addr} {fd : FuncData} {ps : List Str} {φ : List PyData → Option Rs} {ψ : List PyData → Option Ro}
    (F : FnOk P w K mg base CX0 k f fd ps (spD K n φ)) (Y : FnOk P w K mg base (L2N.CX P w) k f fd ps (spX K mg n ψ)) : FnOk P w K mg base (L2N.CX P w) k f fd ps (spX K mg n (orRx φ ψ)) := by
  have two : ∀ {vs : List V} {H : Hp} {Q : VK} {E : XK}, spX K mg n (orRx φ ψ) vs H Q E → spD K n φ vs H Q E ∨ spX K mg n ψ vs H Q E := fun {vs H Q E} z => by
    obtain ⟨G, ds, o, a1, a2, a3, a4, a5, a6⟩ := z
    unfold orRx at a4
    cases e : φ ds with
    | some r =>
      rw [e] at a4
      cases a4
      exact .inl ⟨G, ds, r, a1, a2, a3, e, a5 r rfl⟩
    | none =>
      rw [e] at a4
      exact .inr ⟨G, ds, o, a1, a2, a3, a4, a5, a6⟩
  refine ⟨fun vs H Q E z => ?_, fun A outer s H args us vs Q E r e0 b v z => ?_⟩
  · rcases two z with z | z
    · exact F.len _ _ _ _ z
    · exact Y.len _ _ _ _ z
  · rcases two z with z | z
    · refine codeAny_mono (F.run A outer s H args us vs Q E r e0 b v z) fun q s' y => ?_
      match q, y with
      | .ok (.ret u), y => exact y
      | .error e, y => exact False.elim y
    · exact Y.run A outer s H args us vs Q E r e0 b v z
abbrev Fax := Ev → Option (Ex (List Rs × Ev))
def PoA (K : PySem.W.Frag) (mg : Str → Option Value) (m : Option Addr) (E : Ef) (G0 : Hp) (σ : St) (G H : Hp) (e : Ev) (W : WX) (Q : List V → Hp → Prop) : Ex (List Rs × Ev) → Prop
  | .inl (rs, e') => ∀ vs G' H', Rl K m E G0 G' e' σ H' → Stp σ G H e G' H' e' → VrAll K E G' H' σ e' vs rs → Q vs H'
  | .inr (x, e') => ∀ cls d G' H', Rl K m E G0 G' e' σ H' → Stp σ G H e G' H' e' → XcAt K mg G' cls d x → W cls d σ H'
def taX (K : PySem.W.Frag) (mg : Str → Option Value) (f : Fax) (W : WX) : TA := fun σ H Q => ∃ m E G0 G e o, Rl K m E G0 G e σ H ∧ f e = some o ∧ PoA K mg m E G0 σ G H e W Q o
structure ADX (X : Cx) (W : WX) (xs : List Expr) (f : Fax) : Prop where
  run : PA X xs (taX X.K X.mg f W)
theorem pa_imp {X : Cx} {xs : List Expr} {t u : TA} (h : PA X xs t) (k : ∀ σ H Q, u σ H Q → t σ H Q) : PA X xs u := ⟨fun pos pins s σ H Q I q => h.run pos pins s σ H Q I (k σ H Q q)⟩
section
variable {X : Cx} {W : WX} {a : Expr} {es : List Expr} {fx : Fex} {fa : Fa} {fr : Fax} {pos : Pos}
def xA (f : Fa) : Fax := fun e => (f e).map .inl
theorem AD.x (h : AD X es fa) : ADX X W es (xA fa) := by
  obtain ⟨t, p, k⟩ := h
  refine ⟨pa_imp p fun σ H Q ⟨m, E, G0, G, e, o, R, q, P⟩ => ?_⟩
  unfold xA at q
  cases h1 : fa e with
  | none => rw [h1] at q; cases q
  | some z =>
    obtain ⟨rs, e'⟩ := z
    rw [h1] at q
    cases q
    exact k m E G0 G e σ H rs e' Q R h1 P
def ax_cons (fx : Fex) (fr : Fax) : Fax := fun e => match fx e with
  | some (.inl (r, e1)) => (match fr e1 with
    | some (.inl (rs, e2)) => some (.inl (frzR r :: rs, e2))
    | some (.inr y) => some (.inr y)
    | none => none)
  | some (.inr y) => some (.inr y)
  | none => none
def x_tupX (f : Fax) : Fex := fun e => match f e with
  | some (.inl (rs, e1)) => (match imAll rs with
    | some ds => if okLen ds.length = true then some (.inl (.im (.tuple ds), e1)) else none
    | none => none)
  | some (.inr y) => some (.inr y)
  | none => none
def forGoX (γ : PyData → Ev → Option Ev) (S : List Nat) (fb : Fsx) : List PyData → Ev → Option (Ex Fl)
  | [], e => some (.inl (.nx e))
  | d :: ds, e => if okS S e = true then (match γ d e with
    | some e2 => (match fb e2 with
      | some (.inl (.nx e3)) => forGoX γ S fb ds e3
      | some (.inl (.ct e3)) => forGoX γ S fb ds e3
      | some (.inl (.bk e3)) => some (.inl (.nx e3))
      | some (.inl (.rt r e3)) => some (.inl (.rt r e3))
      | some (.inr y) => some (.inr y)
      | none => none)
    | none => none) else none
def x_for (fi : Fi) (γ : PyData → Ev → Option Ev) (S : List Nat) (fb : Fsx) : Fsx := fun e => match fi e with
  | some (ds, e1) => forGoX γ S fb ds e1
  | none => none
end
end DL
namespace DL
open L2 PySem PySem.Spec PySem.W PyProof.Rows
end DL
namespace DL
open PySem PySem.Spec PySem.W PyProof.Rows L2
end DL
namespace DL
open PySem PySem.Spec PySem.W PyProof.Rows L2
section
variable {α : Type} {f : α → PyData} {l : List α} {x : Fe} {e e1 : Ev}
theorem map_any : (l.map f).map idD = l.map f := by
  rw [List.map_map]
  rfl
theorem imAnyT (h : x e = some (.im (tp f l), e1)) : x e = some (.im (tp idD (l.map f)), e1) := by
  show x e = some (.im (.tuple ((l.map f).map idD)), e1)
  rw [map_any]
  exact h
end
end DL
namespace DL
open PySem PySem.Spec PySem.W PyProof.Rows L2
end DL
namespace DL
open PySem PySem.Spec PyProof.Rows L2
end DL
namespace DL
open PySem PySem.Spec PyProof.Rows L2
end DL
namespace DL
open PySem PySem.Spec PySem.W PyProof.Rows L2
end DL
namespace DL
open PySem PySem.Spec PyProof.Rows L2
end DL
namespace DL
open PySem PySem.Spec PySem.W PyProof.Rows L2
def anI : PyData → Option Int
  | .int i => some i
  | _ => none
theorem anI_ok {d : PyData} {i : Int} (h : anI d = some i) : d = .int i := by
  unfold anI at h
  split at h
  · cases h
    rfl
  · cases h
end DL
namespace DL
open PySem PySem.Spec PySem.W PyProof.Rows L2
end DL
namespace DL
open PySem PySem.Spec PyProof.Rows L2
section
variable {X : Cx} {W : WX} {f g : Fsx} {pos : Pos}
def x_ifX (c : Fex) (f g : Fsx) : Fsx := fun e => match c e with
  | some (.inl (.im (.bool true), e1)) => f e1
  | some (.inl (.im (.bool false), e1)) => g e1
  | some (.inr y) => some (.inr y)
  | _ => none
end
end DL
namespace DL
open PySem PySem.Spec PySem.W PyProof.Rows L2
end DL
namespace DL
open PySem PySem.Spec PyProof.Rows L2
def fldL (n : Str) : List (PyData × PyData) → Option PyData
  | [] => none
  | (.str m, d) :: r => if n = m then some d else fldL n r
  | _ :: r => fldL n r
section
variable {K : PySem.W.Frag} {G : Hp}
theorem fld_of {n : Str} {d : PyData} : ∀ {fs : List (Str × V)} {ds : List PyData}, DpAll K G (fs.map (·.2)) ds → fldL n (((fs.map (·.1)).zip ds).map fun p => (PyData.str p.1, p.2)) = some d → ∃ v, fs.lookup n = some v ∧ Dp K G v d
  | [], _, _, q => by cases q
  | (m, v) :: fs, [], h, _ => by cases h
  | (m, v) :: fs, d0 :: ds, .cons h1 h2, q => by
    have q : (if n = m then some d0 else fldL n (((fs.map (·.1)).zip ds).map fun p => (PyData.str p.1, p.2))) = some d := q
    by_cases z : n = m
    · subst z
      rw [if_pos rfl] at q
      cases q
      exact ⟨v, by rw [List.lookup_cons, beq_self_eq_true], h1⟩
    · rw [if_neg z] at q
      obtain ⟨w, w1, w2⟩ := fld_of h2 q
      exact ⟨w, by rw [List.lookup_cons, beq_eq_false_iff_ne.mpr z]; exact w1, w2⟩
end
end DL
namespace DL
open PySem PySem.Spec PyProof.Rows L2
end DL
namespace DL
open PySem PySem.Spec PyProof.Rows L2
end DL
namespace DL
open PySem PySem.Spec PyProof.Rows L2
end DL
namespace DL
open PySem PySem.Spec PyProof.Rows L2
end DL
namespace DL
open PySem PySem.Spec PySem.W PyProof.Rows L2
end DL
namespace DL
open PySem PySem.Spec PySem.W PyProof.Rows L2
end DL
namespace DL
open PySem PySem.Spec PySem.W PyProof.Rows L2
instance {α : Type} [DecidableEq α] {f : α → PyData} [E : EqE (tp f)] : EqE (opt (tp f)) := ⟨E.d, fun a => by
    cases a with
    | none => show PyData.canLay0 .none = true; rw [PyData.canLay0]
    | some a => exact E.can a, fun a => by
    cases a with
    | none => show PyData.depth .none ≤ _; rw [PyData.depth]; omega
    | some a => exact E.dep a, fun a b => by
    cases a with
    | none =>
      cases b with
      | none => show PyData.eqv .none .none = _; rw [PyData.eqv]; rfl
      | some b => show PyData.eqv .none (.tuple (b.map f)) = _; rw [PyData.eqv] <;> first | rfl | (intros; simp_all)
    | some a =>
      cases b with
      | none => show PyData.eqv (.tuple (a.map f)) .none = _; rw [PyData.eqv] <;> first | rfl | (intros; simp_all)
      | some b =>
        show PyData.eqv (tp f a) (tp f b) = _
        rw [E.eqv]
        exact decide_eq_decide.mpr ⟨fun h => by rw [h], fun h => Option.some.inj h⟩⟩
end DL
namespace DL
open PySem PySem.Spec PySem.W PyProof.Rows L2
def faOf (f : Fax) : Fa := fun e => match f e with
  | some (.inl z) => some z
  | _ => none
def x_upX (f : Fax) (g : Fex) : Fex := fun e => match f e with
  | some (.inr y) => some (.inr y)
  | _ => g e
end DL
namespace DL
open PySem PySem.Spec PySem.W PyProof.Rows L2
end DL
namespace DL
open PySem PySem.Spec PyProof.Rows L2
end DL
namespace DL
open PySem PySem.Spec PySem.W PyProof.Rows L2
end DL
namespace DL
open PySem PySem.Spec PyProof.Rows L2
def x_frz (f : Fe) : Fe := fun e => match f e with
  | some (.ac ds, e1) => some (.im (.list ds), e1)
  | some (.im d, e1) => some (.im d, e1)
  | _ => none
section
variable {X : Cx} {a : Expr} {fa : Fe}
theorem ed_frz (ha : ED X a fa) : ED X a (x_frz fa) := by
  obtain ⟨t, pa, k⟩ := ha
  refine ⟨t, pa, fun m E G0 G e σ H r e' Q R q P => ?_⟩
  unfold x_frz at q
  split at q
  · rename_i ds e1 h1
    cases q
    refine k m E G0 G e σ H _ _ _ R h1 fun v G1 H1 R1 S1 V1 N1 => ?_
    obtain ⟨G2, R2, S2, s2, V2⟩ := R1.freeze S1 V1 N1
    exact P _ _ _ R2 S2 V2 True.intro
  · rename_i d e1 h1
    cases q
    exact k m E G0 G e σ H _ _ _ R h1 P
  · cases q
end
theorem frzX {fa : Fe} {e e1 : Ev} {ds : List PyData} (h : fa e = some (.ac ds, e1)) : x_frz fa e = some (.im (.list ds), e1) := by
  unfold x_frz
  rw [h]
end DL
namespace DL
open PySem PySem.Spec PyProof.Rows L2
/-- a def's promise where nobody is being told -/
structure FnG (P : Program) (w : World) (K : PySem.W.Frag) (mg : Str → Option Value) (base : Heap) (k : Nat) (f : Addr) (fd : FuncData) (ps : List Str) (sp : Sp) : Prop where
  few : ∀ vs H Q E, sp vs H Q E → vs.length = ps.length
  goes : ∀ {A : Around} {outer : List Env} {s : Shared} {H : Hp} {args : Args} {us : List Value} {vs : List V} {Q : VK} {E : XK}, A.guards = some [] → Room k A → Env0 P w K mg base A outer s H →
    BindsTo s fd args (ps.zip us) → Vals vs us → sp vs H Q E → codeAny (model P w) A (.call (.ref f) args) (CR CX0 outer P w H s Q E) s
theorem FnOk.calm {P : Program} {w : World} {K : PySem.W.Frag} {mg : Str → Option Value} {base : Heap} {k : Nat} {f : Addr} {fd : FuncData} {ps : List Str} {sp : Sp} (F : FnOk P w K mg base CX0 k f fd ps sp) : FnG P w K mg base k f fd ps sp :=
  ⟨F.len, fun _ h1 h2 h3 h4 h5 => F.run _ _ _ _ _ _ _ _ _ h1 h2 h3 h4 h5⟩
theorem FnG.imp {P : Program} {w : World} {K : PySem.W.Frag} {mg : Str → Option Value} {base : Heap} {k : Nat} {f : Addr} {fd : FuncData} {ps : List Str} {sp sp2 : Sp} (F : FnG P w K mg base k f fd ps sp) (h : ∀ vs H Q E, sp2 vs H Q E → sp vs H Q E) : FnG P w K mg base k f fd ps sp2 :=
  ⟨fun vs H Q E z => F.few vs H Q E (h _ _ _ _ z), fun h1 h2 h3 h4 h5 h6 => F.goes h1 h2 h3 h4 h5 (h _ _ _ _ h6)⟩
end DL
namespace DL
open PySem PySem.Spec PySem.W PyProof.Rows L2
end DL
namespace DL
open PySem PySem.Spec PyProof.Rows L2
open Classical
end DL
namespace DL
open PySem PySem.Spec PyProof.Rows L2
end DL
namespace DL
open PySem PySem.Spec PyProof.Rows L2 HandSHeadRun
end DL
namespace DL
open PySem PySem.Spec PyProof.Rows L2
end DL
namespace DL
open PySem PySem.Spec PyProof.Rows L2
end DL
namespace DL
open PySem PySem.Spec PyProof.Rows L2
structure PrD where
  c : Str
  p : Str
  d : He.DefD
def prAd (K : PySem.W.Frag) (c p : Str) : Addr := match PySem.W.findIn K (.ref (He.ga K c)) p with
  | some (some (.ref pa)) => pa
  | _ => 0
def gtAd (K : PySem.W.Frag) (pa : Addr) : Addr := match PySem.W.recIn K pa "property" with
  | some (.ref g :: _) => g
  | _ => 0
def fnA (K : PySem.W.Frag) (a : Addr) : He.FnW := match K.lookup a with
  | some ⟨_, _, .func fd, _⟩ => some (fd.name, fd.qualname, fd.params, fd.body, fd.scope, fd.globals, fd.closure, fd.builtins)
  | _ => none
def fnP (K : PySem.W.Frag) (q : PrD) : He.FnW := fnA K (gtAd K (prAd K q.c q.p))
def okA (K : PySem.W.Frag) (d : He.DefD) (a : Addr) : Bool := PySem.W.keepIn K (.ref a) && (match K.lookup a with
  | some ⟨_, _, .func fd, _⟩ => PySem.W.codeIn K fd.code d.qual && (He.dflB K fd.defaults (d.dvs K) && He.kwdB K fd.kwdefaults (d.kws K))
  | _ => false)
def PrD.ok (K : PySem.W.Frag) (q : PrD) : Bool :=
  decide (PySem.W.findIn K (.ref (He.ga K q.c)) q.p = some (some (.ref (prAd K q.c q.p)))) && (decide (PySem.W.specialIn K (.ref (prAd K q.c q.p)) "__get__" = some (some (.builtin "property.__get__"))) &&
    (decide (PySem.W.takesIn K (.ref (prAd K q.c q.p)) = some true) && ((match PySem.W.recIn K (prAd K q.c q.p) "property" with
      | some (.ref _ :: _) => true
      | _ => false) && okA K q.d (gtAd K (prAd K q.c q.p)))))
theorem funA {K : PySem.W.Frag} {d : He.DefD} {a : Addr} (e : fnA K a = d.val) (c : okA K d a = true) : ∃ fd, FunD K d.name d.qual d.params d.body d.scope (d.dvs K) (d.kws K) a fd := by
  obtain ⟨kp, c2⟩ := He.ba c
  unfold fnA at e
  cases q : K.lookup a with
  | none =>
    rw [q] at c2
    cases c2
  | some o =>
    obtain ⟨oc, od, dt, osl⟩ := o
    rw [q] at c2 e
    cases dt with
    | func fd =>
      obtain ⟨n1, n2, n3, n4, n5, n6, n7, n8, n9, n10, n11, n12, n13, n14, n15⟩ := fd
      have e2 : (some (n1, n2, n3, n4, n5, n6, n7, n15) : He.FnW) = some (d.name, d.qual, d.params, .stmts d.body, d.scope, mainGlobals, [], builtinsNs) := e
      simp only [Option.some.injEq, Prod.mk.injEq] at e2
      obtain ⟨h1, h2, h3, h4, h5, h6, h7, h8⟩ := e2
      subst h1 h2 h3 h4 h5 h6 h7 h8
      have c3 : (PySem.W.codeIn K n13 d.qual && (He.dflB K n8 (d.dvs K) && He.kwdB K n9 (d.kws K))) = true := c2
      obtain ⟨k1, k2⟩ := He.ba c3
      obtain ⟨k3, k4⟩ := He.ba k2
      exact ⟨_, ⟨oc, od, n8, n9, n10, n11, n12, n13, n14, osl, rfl, q, k1, He.dflB_ok k3, He.kwdB_ok k4⟩, kp⟩
    | _ => cases c2
theorem PrD.get {K : PySem.W.Frag} {q : PrD} (e : fnP K q = q.d.val) (c : q.ok K = true) :
    ∃ fd, FunD K q.d.name q.d.qual q.d.params q.d.body q.d.scope (q.d.dvs K) (q.d.kws K) (gtAd K (prAd K q.c q.p)) fd ∧ PropOf K (He.ga K q.c) q.p (prAd K q.c q.p) (gtAd K (prAd K q.c q.p)) := by
  obtain ⟨c1, c⟩ := He.ba c
  obtain ⟨c2, c⟩ := He.ba c
  obtain ⟨c3, c⟩ := He.ba c
  obtain ⟨c4, c5⟩ := He.ba c
  obtain ⟨fd, F⟩ := funA e c5
  refine ⟨fd, F, of_decide_eq_true c1, of_decide_eq_true c2, of_decide_eq_true c3, ?_⟩
  unfold gtAd
  split at c4
  · rename_i g rest h
    rw [h]
    exact ⟨rest, rfl⟩
  · cases c4
def exP (pr : List PrD) (ex : PySem.W.Frag → Bool) (K : PySem.W.Frag) : Bool := (pr.all fun q => q.ok K) && ex K
abbrev AlP : Type := (He.AlD × Bool) × List He.FnW
def obsP (fa : List He.Fa) (fn : List He.DefD) (pr : List PrD) (ex : PySem.W.Frag → Bool) (K : PySem.W.Frag) : AlP := (obsX fa fn (exP pr ex) K, pr.map (fnP K))
def valP (fn : List He.DefD) (pr : List PrD) : AlP := ((He.valD fn, true), pr.map fun q => q.d.val)
def SaysP (fa : List He.Fa) (fn : List He.DefD) (pr : List PrD) (ex : PySem.W.Frag → Bool) (K : PySem.W.Frag) : Prop := obsP fa fn pr ex K = valP fn pr
section
variable {fa : List He.Fa} {fn : List He.DefD} {pr : List PrD} {ex : PySem.W.Frag → Bool} {K : PySem.W.Frag}
theorem SaysP.s (c : SaysP fa fn pr ex K) : SaysX fa fn (exP pr ex) K := congrArg Prod.fst c
theorem SaysP.d (c : SaysP fa fn pr ex K) : He.SaysD fa fn K := c.s.d
theorem SaysP.x (c : SaysP fa fn pr ex K) : ex K = true := (He.ba c.s.x).2
end
end DL
namespace DL
open PySem PySem.Spec PyProof.Rows L2
end DL
namespace DL
open PySem PySem.Spec PyProof.Rows L2
def hasB (m a : Nat) : Bool := Nat.beq (Nat.land (Nat.shiftRight m a) 1) 1
def addB : List Addr → Nat → List Addr → Nat × List Addr
  | [], m, acc => (m, acc)
  | a :: as, m, acc => match hasB m a with
    | true => addB as m acc
    | false => addB as (Nat.lor m (Nat.shiftLeft 1 a)) (a :: acc)
def refsB (g : Addr → Option Obj) (a : Addr) : List Addr := match g a with
  | some o => He.refsD o
  | none => []
def visB (g : Addr → Option Obj) : List Addr → Nat → List Addr → Nat × List Addr
  | [], m, acc => (m, acc)
  | a :: as, m, acc => match addB (refsB g a) m acc with
    | (m', acc') => visB g as m' acc'
def rndB (g : Addr → Option Obj) : Nat → Nat → List Addr → List Addr
  | 0, _, fr => fr
  | n + 1, m, fr => match visB g fr m [] with
    | (m', fr') => fr ++ rndB g n m' fr'
def asB (g : Addr → Option Obj) (n : Nat) : List Addr := rndB g n (Nat.shiftLeft 1 mainGlobals) [mainGlobals]
def obsBG (n : Nat) (fa : List He.Fa) (fn : List He.DefD) (ex : PySem.W.Frag → Bool) (g : Addr → Option Obj) : He.AlD × Bool := obsX fa fn ex (He.frG g (asB g n))
def hookB (n : Nat) (fa : List He.Fa) (fn : List He.DefD) (ex : PySem.W.Frag → Bool) : PySem.W.Hook where
  α := He.AlD × Bool
  obs := fun s => obsBG n fa fn ex s.heap.get?
  val := fun _ => (He.valD fn, true)
  says := fun _ h => ∃ K : PySem.W.Frag, K.In h ∧ SaysX fa fn ex K
  of := fun _ _ e => ⟨_, He.frG_in, e⟩
  keeps := fun _ _ _ ⟨K, hK, c⟩ k => ⟨K, PySem.W.Frag.In.keeps hK k, c⟩
theorem obsBG_eq {n : Nat} {fa : List He.Fa} {fn : List He.DefD} {ex : PySem.W.Frag → Bool} {g : Addr → Option Obj} {s : Shared} (h : ∀ a, g a = s.heap.get? a) : obsBG n fa fn ex g = (hookB n fa fn ex).obs s := by
  have e : g = s.heap.get? := funext h
  subst e
  rfl
end DL
namespace DL
open PySem PySem.Spec PyProof.Rows L2
end DL
namespace DL
open PySem PySem.Spec PyProof.Rows L2
end DL
namespace DL
open PySem PySem.Spec PyProof.Rows L2
end DL
namespace DL
open PySem PySem.Spec PySem.W PyProof.Rows L2
end DL
namespace DL
open PySem PySem.Spec PyProof.Rows L2
/-- a record of ours that may turn: it was not there at the entry -/
def FpW (X : Cx) (pins : List (Addr × Obj)) (H : Hp) (b : Addr) : Prop :=
  H b = none ∧ b ≠ X.env.locals ∧ b ∉ X.fs ∧ (b ∈ X.ex ∨ X.s_0.heap.get? b = none) ∧ (∀ x c, X.env.cells.lookup x = some c → c ≠ b) ∧ ∀ p ∈ X.pn ++ pins, p.1 ≠ b
section
variable {X : Cx} {pins : List (Addr × Obj)} {σ : St} {H H' : Hp} {s : Shared} {h' : Heap} {ch : List Addr}
theorem FpW.of {b : Addr} (f : FpOk X pins H b) : FpW X pins H b := ⟨f.1, f.2.1, f.2.2.1, f.2.2.2.1.imp id Heap.get?_none_of_le, f.2.2.2.2.1, f.2.2.2.2.2⟩
end
/-- what stands behind zip(o, u) -/
structure ZipSt (X : Cx) (pins : List (Addr × Obj)) (K : PySem.W.Frag) (H : Hp) (h : Heap) (z TI TO i1 i2 l1 l2 : Addr) (i : Nat) : Prop where
  D : ZipApart z TI TO i1 i2 l1 l2
  tI : IsPair h TI (.ref i1) (.ref i2)
  t1 : h.IsListIter i1 l1 i
  t2 : h.IsListIter i2 l2 i
  fp : ∀ b ∈ [z, TO, i1, i2], FpW X pins H b
  z0 : (i = 0 ∧ IsZip h z TI TO .none ∧ IsPair h TO .none .none) ∨ ∃ (T : Addr) (g : Bool) (xs : List V) (ob : Obj), IsZipHeld h z TI TO T g ∧ H T = some (.frz ob (.tup xs))
section
variable {X : Cx} {pins : List (Addr × Obj)} {σ : St} {H : Hp} {s : Shared} {z TI TO i1 i2 l1 l2 q : Addr} {i : Nat} {zs1 zs2 : List V} {A : Around}
theorem ZipSt.lt {h : Heap} (Z : ZipSt X pins X.K H h z TI TO i1 i2 l1 l2 i) (hO : ∃ o, h.get? TO = some o) : ∀ b ∈ [z, TO, i1, i2], b < h.objs.size := by
  intro b hb
  simp only [List.mem_cons, List.not_mem_nil, or_false] at hb
  rcases hb with rfl | rfl | rfl | rfl
  · rcases Z.z0 with ⟨e, a1, a2⟩ | ⟨T, g, xs, ob, a1, a2⟩
    · exact Heap.lt_size a1
    · exact Heap.lt_size a1
  · obtain ⟨o, e⟩ := hO
    exact Heap.lt_size e
  · obtain ⟨o, e, _⟩ := Z.t1
    exact Heap.lt_size e
  · obtain ⟨o, e, _⟩ := Z.t2
    exact Heap.lt_size e
end
end DL
namespace DL
open PySem PySem.Spec PyProof.Rows L2
end DL
namespace DL
open PySem PySem.Spec PySem.W PyProof.Rows L2 Calls
class NoN {α : Type} (f : α → PyData) where
  l : ∀ a, PyData.eqv .none (f a) = false
  r : ∀ a, PyData.eqv (f a) .none = false
instance : NoN PyData.int := ⟨fun a => by simp [PyData.eqv], fun a => by simp [PyData.eqv]⟩
instance : NoN PyData.bool := ⟨fun a => by simp [PyData.eqv], fun a => by simp [PyData.eqv]⟩
instance {α : Type} {f : α → PyData} : NoN (tp f) := ⟨fun a => by simp [PyData.eqv], fun a => by simp [PyData.eqv]⟩
instance {α : Type} {f : α → PyData} : NoN (ls f) := ⟨fun a => by simp [PyData.eqv], fun a => by simp [PyData.eqv]⟩
instance {α β : Type} {f : α → PyData} {g : β → PyData} : NoN (p2 f g) := ⟨fun a => by simp [PyData.eqv], fun a => by simp [PyData.eqv]⟩
instance {α β γ : Type} {f : α → PyData} {g : β → PyData} {h : γ → PyData} : NoN (p3 f g h) := ⟨fun a => by simp [PyData.eqv], fun a => by simp [PyData.eqv]⟩
instance {α : Type} [DecidableEq α] {f : α → PyData} [E : EqE f] [N : NoN f] : EqE (opt f) := ⟨E.d, fun a => by
    cases a with
    | none => show PyData.canLay0 .none = true; rw [PyData.canLay0]
    | some a => exact E.can a, fun a => by
    cases a with
    | none => show PyData.depth .none ≤ _; rw [PyData.depth]; omega
    | some a => exact E.dep a, fun a b => by
    cases a with
    | none =>
      cases b with
      | none => show PyData.eqv .none .none = _; rw [PyData.eqv]; rfl
      | some b => show PyData.eqv .none (f b) = _; rw [N.l]; rfl
    | some a =>
      cases b with
      | none => show PyData.eqv (f a) .none = _; rw [N.r]; rfl
      | some b =>
        show PyData.eqv (f a) (f b) = _
        rw [E.eqv]
        exact Bool.eq_iff_iff.mpr (by simp)⟩
end DL
namespace DL
open PySem PySem.Spec PyProof.Rows L2
inductive Sh where
  | mk (l : List (Int × Int × Sh)) : Sh
def Sh.l : Sh → List (Int × Int × Sh)
  | .mk l => l
end DL
namespace DL
open L2 PySem PySem.Spec PySem.W PyProof.Rows
end DL
namespace DL
open L2 PySem PySem.Spec PySem.W PyProof.Rows
end DL
namespace DL
open L2 PySem PySem.Spec PySem.W PyProof.Rows
end DL
namespace DL
open PySem PySem.Spec PySem.W PyProof.Rows L2
end DL
namespace DL
open PySem PySem.Spec PySem.W PyProof.Rows L2
end DL
namespace DL
open PySem PySem.Spec PySem.W PyProof.Rows L2
/-- what a second name tells: the list in the thing at i, item k -/
def alD (e : Ev) (j : Nat) : Option (Nat × Nat × List Ot × List PyData) := match e[j]? with
  | some (some (.ow (.al i k))) => (match e[i]? with
    | some (some (.ow (.lst ts))) => (match ts[k]? with
      | some (.ls ds) => some (i, k, ts, ds)
      | _ => none)
    | _ => none)
  | _ => none
end DL
namespace DL
open PySem PySem.Spec PySem.W PyProof.Rows L2
/-- name.pop(k), the name a second one -/
def x_alP (j : Nat) (fa : Fe) : Fe := fun e => if (alD e j).isSome = true then (match fa e with
  | some (.im (.int k), e1) => (match alD e1 j with
    | some (i, n, ts, ds) => if -(2 ^ 62) ≤ k ∧ k < 2 ^ 62 then (match seqIndex? k ds.length with
      | some l => (match ds[l]? with
        | some d => some (.im d, e1.set i (some (.ow (.lst (ts.set n (.ls (ds.eraseIdx l)))))))
        | none => none)
      | none => none) else none
    | none => none)
  | _ => none) else none
end DL
namespace DL
open PySem PySem.Spec PySem.W PyProof.Rows L2
section
variable {K : PySem.W.Frag} {E : Ef} {G0 G H : Hp} {e : Ev} {σ : St}
theorem VrAll.len : ∀ {vs : List V} {rs : List Rs}, VrAll K E G H σ e vs rs → vs.length = rs.length
  | [], [], _ => rfl
  | _ :: _, _ :: _, h => congrArg (· + 1) (VrAll.len h.2)
  | [], _ :: _, h => h.elim
  | _ :: _, [], h => h.elim
end
end DL
namespace DL
open L2 PySem PySem.Spec PySem.W PyProof.Rows
section
variable {e e1 e2 : Ev} {i j k : Nat} {d : PyData} {ds : List PyData} {o : Option PyData} {x y : Fe} {Q : Fl → Prop} {fa : Fa}
theorem alP {ts : List Ot} {z : Int} {l : Nat} (h0 : (alD e j).isSome = true) (hb : y e = some (.im (.int z), e1)) (h2 : alD e1 j = some (i, k, ts, ds)) (b : -(2 ^ 62) ≤ z ∧ z < 2 ^ 62) (h3 : seqIndex? z ds.length = some l) (h4 : ds[l]? = some d) : x_alP j y e = some (.im d, e1.set i (some (.ow (.lst (ts.set k (.ls (ds.eraseIdx l))))))) := by
  unfold x_alP
  rw [if_pos h0]
  simp only [hb, h2]
  rw [if_pos b]
  simp only [h3, h4]
end
end DL
namespace DL
open PySem PySem.Spec PySem.W PyProof.Rows L2
end DL
namespace DL
open PySem PySem.Spec PySem.W PyProof.Rows L2
end DL
namespace DL
open PySem PySem.Spec PySem.W PyProof.Rows L2
section
variable {e e1 e2 : Ev} {i k : Nat} {d : PyData} {ds ds2 : List PyData} {fa : Fa} {f : Fe} {rs : List Rs} {r : Rs}
theorem ac0 : a_nil e = some ([], e) := rfl
end
end DL
namespace DL
open PySem PySem.Spec PySem.W PyProof.Rows L2
end DL
namespace DL
open PySem PySem.Spec PySem.W PyProof.Rows L2
def Le {α : Type} (f g : Ev → Option α) : Prop := ∀ e r, f e = some r → g e = some r
theorem le_refl {α : Type} {f : Ev → Option α} : Le f f := fun _ _ h => h
end DL
namespace DL
open PySem PySem.Spec PyProof.Rows L2 RT
end DL
namespace DL
open L2 PySem PySem.Spec PySem.W PyProof.Rows
end DL
namespace DL
open L2 PySem PySem.Spec PySem.W PyProof.Rows
end DL
namespace DL
open PySem PySem.Spec PyProof.Rows L2
end DL
namespace DL
open L2 PySem PySem.Spec PySem.W PyProof.Rows
end DL
namespace DL
open L2 PySem PySem.Spec PySem.W PyProof.Rows
end DL
namespace DL
open PySem PySem.Spec PySem.W PyProof.Rows L2
def vOf : PyData → Option V
  | .none => some .non
  | .bool b => some (.bl b)
  | .int i => some (.int i)
  | .str z => some (.str z)
  | _ => none
abbrev Tb := List (Str × PyData)
structure TabC (K : PySem.W.Frag) (w : World) (d : Addr) (kvs : Tb) : Prop where
  kd : ∃ es n, KDict K w d es n
  at_ : ∀ z, (∃ x v u, kvs.lookup z = some x ∧ vOf x = some v ∧ PySem.W.nsIn K d z = some (some u) ∧ L2.RelV v u) ∨ (kvs.lookup z = none ∧ PySem.W.nsIn K d z = some none)
section
variable {X : Cx} {kvs : Tb} {x : Str} {a : Expr} {fa : Fe} {pos p : Pos}
theorem TabC.isSome {K : PySem.W.Frag} {w : World} {d : Addr} {z : Str} (T : TabC K w d kvs) : ∃ r, PySem.W.nsIn K d z = some r ∧ r.isSome = (kvs.lookup z).isSome := by
  rcases T.at_ z with ⟨x, v, u, h1, h2, h3, h4⟩ | ⟨h1, h2⟩
  · exact ⟨_, h3, by rw [h1]; rfl⟩
  · exact ⟨_, h2, by rw [h1]; rfl⟩
end
structure TbD where
  x : Str
  kvs : Tb
def TbD.ok (K : PySem.W.Frag) (t : TbD) : Bool := (He.Fa.glo t.x).ok K && t.kvs.all fun p => match PySem.W.nsIn K (He.ga K t.x) p.1, vOf p.2 with
  | some (some u), some v => He.relB v u
  | _, _ => false
def tbW (K : PySem.W.Frag) (t : TbD) : Option (List (Option (Str × Int))) := He.dicW K (He.ga K t.x)
abbrev AlTb : Type := AlP × List (Option (List (Option (Str × Int))))
def obsTb (fa : List He.Fa) (fn : List He.DefD) (pr : List PrD) (ts : List TbD) (ex : PySem.W.Frag → Bool) (K : PySem.W.Frag) : AlTb := (obsP fa fn pr (fun K => (ts.all fun t => t.ok K) && ex K) K, ts.map (tbW K))
def valTb (fn : List He.DefD) (pr : List PrD) (ts : List TbD) (w : World) : AlTb := (valP fn pr, ts.map fun t => some (He.keysIn w.params (t.kvs.map (·.1))))
def SaysTb (fa : List He.Fa) (fn : List He.DefD) (pr : List PrD) (ts : List TbD) (ex : PySem.W.Frag → Bool) (w : World) (K : PySem.W.Frag) : Prop := obsTb fa fn pr ts ex K = valTb fn pr ts w
section
variable {fa : List He.Fa} {fn : List He.DefD} {pr : List PrD} {ts : List TbD} {ex : PySem.W.Frag → Bool} {K : PySem.W.Frag} {w : World}
theorem SaysTb.p (c : SaysTb fa fn pr ts ex w K) : SaysP fa fn pr (fun K => (ts.all fun t => t.ok K) && ex K) K := congrArg Prod.fst c
theorem SaysTb.s (c : SaysTb fa fn pr ts ex w K) : SaysX fa fn (exP pr fun K => (ts.all fun t => t.ok K) && ex K) K := c.p.s
theorem SaysTb.d (c : SaysTb fa fn pr ts ex w K) : He.SaysD fa fn K := c.p.d
theorem SaysTb.x (c : SaysTb fa fn pr ts ex w K) : ex K = true := (He.ba c.p.x).2
end
end DL
namespace DL
open PySem PySem.Spec PySem.W PyProof.Rows L2
end DL
namespace DL
open PySem PySem.Spec PySem.W PyProof.Rows L2
theorem pe_t {X : Cx} {a : Expr} {t : TE} (h : PE X a t) : PET X a t := fun pins s σ H Q _ I q => h.run pins s σ H Q I q
theorem ps_t {X : Cx} {st : Stmt} {t : TS} (h : PS X st t) : PST X st t := fun pins s σ H D _ I q => h.run pins s σ H D I q
theorem pss_t {X : Cx} {st : List Stmt} {t : TS} (h : PSs X st t) : PSsT X st t := fun pins s σ H D _ I q => h.run pins s σ H D I q
structure EDT (X : Cx) (a : Expr) (f : Fe) : Prop where
  ex : ∃ t : TE, PET X a t ∧ ∀ (m : Option Addr) (E : Ef) (G0 G : Hp) (e : Ev) (σ : St) (H : Hp) (r : Rs) (e' : Ev) (Q : VK),
    Rl X.K m E G0 G e σ H → f e = some (r, e') → Po X.K m E G0 σ G H e r e' Q → t σ H Q
structure SDT (X : Cx) (st : Stmt) (f : Fs) : Prop where
  ex : ∃ t : TS, PST X st t ∧ ∀ (m : Option Addr) (E : Ef) (G0 G : Hp) (e : Ev) (σ : St) (H : Hp) (fl : Fl) (D : Ends),
    Rz X.K m E G0 G e σ H → f e = some fl → PoSN X.K m E.b G0 G D fl → t D σ H
structure SsDT (X : Cx) (sts : List Stmt) (f : Fs) : Prop where
  ex : ∃ t : TS, PSsT X sts t ∧ ∀ (m : Option Addr) (E : Ef) (G0 G : Hp) (e : Ev) (σ : St) (H : Hp) (fl : Fl) (D : Ends),
    Rz X.K m E G0 G e σ H → f e = some fl → PoSN X.K m E.b G0 G D fl → t D σ H
section
variable {X : Cx} {st : Stmt} {sts rest A B : List Stmt} {f g : Fs} {a : Expr} {es : List Expr} {fe : Fe} {fa : Fa} {c : Ft} {tst : Expr} {pos : Pos} {k : Nat}
theorem ED.t (h : ED X a fe) : EDT X a fe := by
  obtain ⟨t, p, k⟩ := h
  exact ⟨t, pe_t p, k⟩
theorem SDN.t (h : SDN X st f) : SDT X st f := by
  obtain ⟨t, p, k⟩ := h
  exact ⟨t, ps_t p, k⟩
theorem SsDN.t (h : SsDN X sts f) : SsDT X sts f := by
  obtain ⟨t, p, k⟩ := h
  exact ⟨t, pss_t p, k⟩
end
end DL
namespace DL
open PySem PySem.Spec PySem.W PyProof.Rows L2
end DL
namespace DL
open PySem PySem.Spec PySem.W PyProof.Rows L2
end DL
namespace DL
open PySem PySem.Spec PySem.W PyProof.Rows L2
end DL
namespace DL
open PySem PySem.Spec PySem.W PyProof.Rows L2
end DL
namespace DL
open PySem PySem.Spec PySem.W PyProof.Rows L2
end DL
namespace DL
open L2 PySem PySem.Spec PySem.W PyProof.Rows
end DL
namespace DL
open L2 PySem PySem.Spec PySem.W PyProof.Rows
end DL
namespace DL
open L2 PySem PySem.Spec PySem.W PyProof.Rows
end DL
namespace DL
open PySem PySem.Spec PySem.W PyProof.Rows L2
end DL
namespace DL
open PySem PySem.Spec PySem.W PyProof.Rows L2
end DL
namespace DL
open PySem PySem.Spec PySem.W PyProof.Rows L2
end DL
namespace DL
open PySem PySem.Spec PySem.W PyProof.Rows L2
end DL
namespace DL
open PySem PySem.Spec PySem.W PyProof.Rows L2
end DL
namespace DL
open PySem PySem.Spec PySem.W PyProof.Rows L2
end DL
namespace DL
open PySem PySem.Spec PySem.W PyProof.Rows L2
end DL
namespace DL
open PySem PySem.Spec PySem.W PyProof.Rows L2
end DL
namespace DL
open PySem PySem.Spec PySem.W PyProof.Rows L2
def xcF (p : Str × PyData) : PyData := .tuple [.str p.1, p.2]
def xcD (m : Bool) (x : Xc) : PyData := .tuple [.bool m, .str x.c, .tuple (x.fs.map xcF)]
theorem xcF_inj : ∀ {a b : List (Str × PyData)}, a.map xcF = b.map xcF → a = b
  | [], [], _ => rfl
  | [], _ :: _, h => by cases h
  | _ :: _, [], h => by cases h
  | (x, y) :: a, (z, w) :: b, h => by
    simp only [List.map_cons, List.cons.injEq] at h
    obtain ⟨h1, h2⟩ := h
    unfold xcF at h1
    simp only [PyData.tuple.injEq, List.cons.injEq, PyData.str.injEq, and_true] at h1
    obtain ⟨rfl, rfl⟩ := h1
    rw [xcF_inj h2]
theorem xcD_inj {m : Bool} {x y : Xc} (h : xcD m x = xcD m y) : x = y := by
  obtain ⟨c, fs⟩ := x
  obtain ⟨c2, fs2⟩ := y
  unfold xcD at h
  simp only [PyData.tuple.injEq, List.cons.injEq, PyData.str.injEq, and_true, true_and] at h
  obtain ⟨rfl, h2⟩ := h
  rw [xcF_inj h2]
theorem xcD_ne {x y : Xc} (h : xcD true x = xcD false y) : False := by
  unfold xcD at h
  simp only [PyData.tuple.injEq, List.cons.injEq, PyData.bool.injEq] at h
  exact absurd h.1 (by decide)
def cvO (m : Bool) : DL.Ex Fl → Fl
  | .inl fl => fl
  | .inr (x, e) => .rt (.im (xcD m x)) e
def cv (m : Bool) (g : Fsx) : Fs := fun e => (g e).map (cvO m)
def cvE (m : Bool) (f : Fex) : Fe := fun e => (f e).map fun o => match o with
  | .inl p => p
  | .inr (x, e1) => (.im (xcD m x), e1)
/-- the new statements -/
def s_rse (m : Bool) (c : Str) (ns : List Str) (fa : Fa) : Fs := cv m (x_raise c ns fa)
def s_chk (m : Bool) (f : Fex) : Fs := cv m (x_drop f)
def s_setC (m : Bool) (i : Nat) (f : Fex) : Fs := cv m (x_set i f)
def s_ifC (m : Bool) (c : Fex) (f g : Fs) : Fs := fun e => match c e with
  | some (.inl (.im (.bool true), e1)) => f e1
  | some (.inl (.im (.bool false), e1)) => g e1
  | some (.inr (x, e1)) => some (.rt (.im (xcD m x)) e1)
  | _ => none
section
variable {m : Bool} {f g : Fsx} {h : Fs} {c : Ft} {fe : Fex} {i : Nat}
theorem cv_S : cv m (xS h) = h := by
  funext e
  unfold cv xS
  cases h e <;> rfl
theorem cv_seq : cv m (x_seq f g) = s_seq (cv m f) (cv m g) := by
  funext e
  unfold cv x_seq s_seq
  dsimp only
  cases q : f e with
  | none => rfl
  | some o =>
    cases o with
    | inl fl => cases fl <;> rfl
    | inr y => rfl
theorem cv_if : cv m (x_ifS c f g) = s_if c (cv m f) (cv m g) := by
  funext e
  unfold cv x_ifS s_if
  cases q : c e with
  | none => rfl
  | some o =>
    obtain ⟨b, e1⟩ := o
    cases b <;> rfl
theorem cv_ret : cv m (x_ret fe) = s_ret (cvE m fe) := by
  funext e
  unfold cv x_ret s_ret cvE
  cases q : fe e with
  | none => rfl
  | some o =>
    cases o with
    | inl p => rfl
    | inr y => rfl
theorem cv_fz {j : Nat} : cv m (x_fz j f) = s_fz j (cv m f) := rfl
theorem cv_ifX : cv m (x_ifX fe f g) = s_ifC m fe (cv m f) (cv m g) := by
  funext e
  unfold cv x_ifX s_ifC
  dsimp only
  cases q : fe e with
  | none => rfl
  | some o =>
    cases o with
    | inl p =>
      obtain ⟨r, e1⟩ := p
      cases r with
      | im d =>
        cases d with
        | bool b => cases b <;> rfl
        | _ => rfl
      | ac ds => rfl
      | br j => rfl
    | inr y => rfl
theorem cv_go {γ : PyData → Ev → Option Ev} {S : List Nat} : ∀ (ds : List PyData) (e : Ev), (forGoX γ S f ds e).map (cvO m) = forGo γ S (cv m f) ds e
  | [], e => rfl
  | d :: ds, e => by
    unfold forGoX forGo
    by_cases ok : okS S e = true
    · rw [if_pos ok, if_pos ok]
      cases q : γ d e with
      | none => rfl
      | some e2 =>
        dsimp only
        show Option.map (cvO m) (match f e2 with
          | some (.inl (.nx e3)) => forGoX γ S f ds e3
          | some (.inl (.ct e3)) => forGoX γ S f ds e3
          | some (.inl (.bk e3)) => some (.inl (.nx e3))
          | some (.inl (.rt r e3)) => some (.inl (.rt r e3))
          | some (.inr y) => some (.inr y)
          | none => none) = match (f e2).map (cvO m) with
          | some (.nx e3) => forGo γ S (cv m f) ds e3
          | some (.ct e3) => forGo γ S (cv m f) ds e3
          | some (.bk e3) => some (.nx e3)
          | some (.rt r e3) => some (.rt r e3)
          | none => none
        cases q2 : f e2 with
        | none => rfl
        | some o =>
          cases o with
          | inl fl =>
            cases fl with
            | nx e3 => exact cv_go ds e3
            | ct e3 => exact cv_go ds e3
            | bk e3 => rfl
            | rt r e3 => rfl
          | inr y => rfl
    · rw [if_neg ok, if_neg ok]
      rfl
theorem cv_for {fi : Fi} {γ : PyData → Ev → Option Ev} {S : List Nat} : cv m (x_for fi γ S f) = s_for fi γ S (cv m f) := by
  funext e
  unfold cv x_for s_for
  cases q : fi e with
  | none => rfl
  | some p => exact cv_go p.1 p.2
theorem cv_raise {k : Str} {ns : List Str} {fa : Fa} : cv m (x_raise k ns fa) = s_rse m k ns fa := rfl
theorem cv_drop : cv m (x_drop fe) = s_chk m fe := rfl
theorem cv_set : cv m (x_set i fe) = s_setC m i fe := rfl
end
def roX {ρ : Type} (K : ρ → Rs) : Xc ⊕ ρ → Ro
  | .inl x => .inr x
  | .inr v => .inl (K v)
abbrev RXs {ρ : Type} (φ : List PyData → Option Ro) (K : ρ → Rs) (ds : List PyData) (r : Xc ⊕ ρ) : Prop := φ ds = some (roX K r)
def kX {ρ : Type} (m : Bool) (K : ρ → Rs) : Xc ⊕ ρ → Rs
  | .inl x => .im (xcD m x)
  | .inr v => K v
def rtX {ρ : Type} (m : Bool) (K : ρ → Rs) (r : Xc ⊕ ρ) (r' : Rs) (e : Ev) : Prop := finR r' e = some (kX m K r)
theorem kX_ne {ρ : Type} {K : ρ → Rs} {x : Xc} {v : ρ} (h1 : K v = .im (xcD true x)) (h2 : K v = .im (xcD false x)) : False := by
  rw [h1] at h2
  simp only [Rs.im.injEq] at h2
  exact xcD_ne h2
theorem t_fnX {ρ : Type} {K : ρ → Rs} {r : Xc ⊕ ρ} {n nl : Nat} {g : Fsx} {ds : List PyData} (hl : ds.length = n) (h : ∀ m, wS (cv m g) (env0 ds nl) (RK (rtX m K) r)) : RXs (runX n nl g) K ds r := by
  obtain ⟨f1, h1, h2⟩ := h true
  obtain ⟨f2, h3, h4⟩ := h false
  unfold RXs runX
  rw [if_pos hl]
  unfold cv at h1 h3
  cases q : g (env0 ds nl) with
  | none => rw [q] at h1; cases h1
  | some o =>
    rw [q] at h1 h3
    cases o with
    | inl fl =>
      cases h1
      cases h3
      cases fl with
      | nx e1 =>
        have a : finR (.im .none) e1 = some (kX true K r) := h2
        have b : finR (.im .none) e1 = some (kX false K r) := h4
        cases r with
        | inl x => rw [a] at b; exact absurd (Rs.im.inj (Option.some.inj b)) fun z => xcD_ne z
        | inr v => exact congrArg (fun z => some (Sum.inl z)) (Option.some.inj a)
      | bk e1 => exact h2.elim
      | ct e1 => exact h2.elim
      | rt r' e1 =>
        have a : finR r' e1 = some (kX true K r) := h2
        have b : finR r' e1 = some (kX false K r) := h4
        cases r with
        | inl x => rw [a] at b; exact absurd (Rs.im.inj (Option.some.inj b)) fun z => xcD_ne z
        | inr v =>
          show (finR r' e1).map Sum.inl = _
          rw [a]
          rfl
    | inr y =>
      obtain ⟨x', e1⟩ := y
      cases h1
      cases h3
      have a : some (Rs.im (xcD true x')) = some (kX true K r) := h2
      have b : some (Rs.im (xcD false x')) = some (kX false K r) := h4
      cases r with
      | inl x =>
        have z : x' = x := xcD_inj (m := true) (Rs.im.inj (Option.some.inj a))
        subst z
        rfl
      | inr v => exact (kX_ne (Option.some.inj a).symm (Option.some.inj b).symm).elim
def Rf (g : Fs) (gx : Fsx) : Prop := ∀ e fl, g e = some fl → gx e = some (.inl fl)
def Re (f : Fe) (fx : Fex) : Prop := ∀ e p, f e = some p → fx e = some (.inl p)
section
variable {f g : Fs} {fx gx : Fsx} {a : Fe} {ax : Fex} {c : Ft}
theorem rf_S : Rf f (xS f) := fun e fl h => by
  unfold xS
  rw [h]
  rfl
theorem rf_no : Rf s_no gx := fun e fl h => by cases h
theorem rf_seq (h1 : Rf f fx) (h2 : Rf g gx) : Rf (s_seq f g) (x_seq fx gx) := fun e fl h => by
  unfold s_seq at h
  unfold x_seq
  cases q : f e with
  | none => rw [q] at h; cases h
  | some o =>
    rw [q] at h
    rw [h1 _ _ q]
    cases o with
    | nx e1 => exact h2 _ _ h
    | bk e1 => cases h; rfl
    | ct e1 => cases h; rfl
    | rt r e1 => cases h; rfl
theorem rf_if (h1 : Rf f fx) (h2 : Rf g gx) : Rf (s_if c f g) (x_ifS c fx gx) := fun e fl h => by
  unfold s_if at h
  unfold x_ifS
  cases q : c e with
  | none => rw [q] at h; cases h
  | some o =>
    rw [q] at h
    obtain ⟨b, e1⟩ := o
    cases b with
    | true => exact h1 _ _ h
    | false => exact h2 _ _ h
theorem rf_fz {j : Nat} (h1 : Rf f fx) : Rf (s_fz j f) (x_fz j fx) := fun e fl h => h1 _ _ h
theorem rf_drop (h1 : Re a ax) : Rf (s_drop a) (x_drop ax) := fun e fl h => by
  unfold s_drop at h
  unfold x_drop
  cases q : a e with
  | none => rw [q] at h; cases h
  | some o =>
    rw [q] at h
    rw [h1 _ _ q]
    cases h
    rfl
theorem rf_ret (h1 : Re a ax) : Rf (s_ret a) (x_ret ax) := fun e fl h => by
  unfold s_ret at h
  unfold x_ret
  cases q : a e with
  | none => rw [q] at h; cases h
  | some o =>
    rw [q] at h
    rw [h1 _ _ q]
    cases h
    rfl
theorem rf_set {i : Nat} (h1 : Re a ax) : Rf (s_setF i a) (x_set i ax) := fun e fl h => by
  unfold x_set
  cases q : a e with
  | none =>
    rw [r_s_setF, q] at h
    cases h
  | some o =>
    rw [h1 _ _ q]
    show (s_setF i (fun _ => some o) e).map Sum.inl = _
    have z : s_setF i (fun _ => some o) e = s_setF i a e := by rw [r_s_setF, r_s_setF, q]
    rw [z, h]
    rfl
theorem rf_ifX (h0 : Re a ax) (h1 : Rf f fx) (h2 : Rf g gx) : Rf (s_if (t_of a) f g) (x_ifX ax fx gx) := fun e fl h => by
  unfold s_if t_of at h
  unfold x_ifX
  cases q : a e with
  | none => rw [q] at h; cases h
  | some o =>
    rw [q] at h
    rw [h0 _ _ q]
    obtain ⟨r, e1⟩ := o
    cases r with
    | im d =>
      cases d with
      | bool b =>
        cases b with
        | true => exact h1 _ _ h
        | false => exact h2 _ _ h
      | _ => cases h
    | ac ds => cases h
    | br j => cases h
theorem rf_go {γ : PyData → Ev → Option Ev} {S : List Nat} (h1 : Rf f fx) : ∀ (ds : List PyData) (e : Ev) (fl : Fl), forGo γ S f ds e = some fl → forGoX γ S fx ds e = some (.inl fl)
  | [], e, fl, h => by
    cases h
    rfl
  | d :: ds, e, fl, h => by
    unfold forGo at h
    unfold forGoX
    by_cases ok : okS S e = true
    · rw [if_pos ok] at h ⊢
      cases q : γ d e with
      | none => rw [q] at h; cases h
      | some e2 =>
        rw [q] at h
        dsimp only at h ⊢
        cases q2 : f e2 with
        | none => rw [q2] at h; cases h
        | some o =>
          rw [q2] at h
          rw [h1 _ _ q2]
          cases o with
          | nx e3 => exact rf_go h1 ds e3 fl h
          | ct e3 => exact rf_go h1 ds e3 fl h
          | bk e3 => cases h; rfl
          | rt r e3 => cases h; rfl
    · rw [if_neg ok] at h
      cases h
theorem rf_for {fi : Fi} {γ : PyData → Ev → Option Ev} {S : List Nat} (h1 : Rf f fx) : Rf (s_for fi γ S f) (x_for fi γ S fx) := fun e fl h => by
  unfold s_for at h
  unfold x_for
  cases q : fi e with
  | none => rw [q] at h; cases h
  | some p =>
    rw [q] at h
    exact rf_go h1 p.1 p.2 fl h
theorem re_call {φ : List PyData → Option Rs} {ψ : List PyData → Option Ro} {dds : List PyData} {fa : Fa} (hφ : ∀ ds r, φ ds = some r → ψ ds = some (.inl r)) : Re (x_call φ dds fa) (x_callX ψ dds fa) := fun e p h => by
  unfold x_call at h
  unfold x_callX
  cases q : argsI fa e with
  | none => rw [q] at h; cases h
  | some o =>
    obtain ⟨ds, e1⟩ := o
    rw [q] at h
    dsimp only at h ⊢
    cases q2 : φ (ds ++ dds) with
    | none => rw [q2] at h; cases h
    | some r =>
      rw [q2] at h
      rw [hφ _ _ q2]
      cases r with
      | im d => cases h; rfl
      | ac cs => cases h; rfl
      | br i => cases h
theorem re_E : Re a (xE a) := fun e p h => by
  unfold xE
  rw [h]
  rfl
end
def Ra (f : Fa) (fx : Fax) : Prop := ∀ e p, f e = some p → fx e = some (.inl p)
section
variable {f : Fa} {fx : Fax} {a : Fe} {ax : Fex}
theorem ra_A : Ra f (xA f) := fun e p h => by
  unfold xA
  rw [h]
  rfl
theorem ra_cons (h1 : Re a ax) (h2 : Ra f fx) : Ra (a_cons a f) (ax_cons ax fx) := fun e p h => by
  unfold a_cons at h
  unfold ax_cons
  cases q : a e with
  | none => rw [q] at h; cases h
  | some o =>
    rw [q] at h
    rw [h1 _ _ q]
    obtain ⟨r, e1⟩ := o
    dsimp only at h ⊢
    cases q2 : f e1 with
    | none => rw [q2] at h; cases h
    | some o2 =>
      rw [q2] at h
      rw [h2 _ _ q2]
      cases h
      rfl
theorem re_tupX (h1 : Ra f fx) : Re (x_tup f) (x_tupX fx) := fun e p h => by
  unfold x_tup argsI at h
  unfold x_tupX
  cases q : f e with
  | none => rw [q] at h; cases h
  | some o =>
    rw [q] at h
    rw [h1 _ _ q]
    obtain ⟨rs, e1⟩ := o
    dsimp only at h ⊢
    cases q2 : imAll rs with
    | none => rw [q2] at h; cases h
    | some ds =>
      rw [q2] at h
      dsimp only at h ⊢
      by_cases z : okLen ds.length = true
      · rw [if_pos z] at h ⊢
        cases h
        rfl
      · rw [if_neg z] at h
        cases h
theorem re_up {φ : List PyData → Option Rs} {ψ : List PyData → Option Ro} {dds : List PyData} (hφ : ∀ ds r, φ ds = some r → ψ ds = some (.inl r)) (h1 : Ra f fx) : Re (x_call φ dds f) (x_upX fx (x_callX ψ dds (faOf fx))) := fun e p h => by
  have z : f e = faOf fx e ∧ ∃ o, fx e = some (.inl o) := by
    cases q : f e with
    | none =>
      unfold x_call argsI at h
      rw [q] at h
      cases h
    | some o =>
      refine ⟨?_, o, h1 _ _ q⟩
      unfold faOf
      rw [h1 _ _ q]
  obtain ⟨z1, o, z2⟩ := z
  unfold x_upX
  rw [z2]
  dsimp only
  refine re_call (fa := faOf fx) hφ e p ?_
  unfold x_call argsI at h ⊢
  rw [← z1]
  exact h
end
theorem t_orX {ρ : Type} {K : ρ → Rs} {r : Xc ⊕ ρ} {n nl : Nat} {g : Fs} {gx : Fsx} {ds : List PyData} (hr : Rf g gx) (h : RXs (runX n nl gx) K ds r) : RXs (orRx (runF n nl g) (runX n nl gx)) K ds r := by
  unfold RXs at h ⊢
  unfold orRx
  cases q : runF n nl g ds with
  | none => exact h
  | some v =>
    have z : runX n nl gx ds = some (.inl v) := by
      unfold runF at q
      unfold runX
      by_cases hl : ds.length = n
      · rw [if_pos hl] at q ⊢
        cases q2 : g (env0 ds nl) with
        | none => rw [q2] at q; cases q
        | some fl =>
          rw [q2] at q
          rw [hr _ _ q2]
          cases fl with
          | nx e1 => cases q; rfl
          | rt r' e1 =>
            show (finR r' e1).map Sum.inl = _
            have q : finR r' e1 = some v := q
            rw [q]
            rfl
          | bk e1 => cases q
          | ct e1 => cases q
      · rw [if_neg hl] at q
        cases q
    rw [z] at h
    exact h
section
variable {m : Bool} {e e1 : Ev} {Q : Fl → Prop} {ρ : Type} {K : ρ → Rs}
theorem w_rse {c : Str} {ns : List Str} {fa : Fa} {ds : List PyData} (ha : argsI fa e = some (ds, e1)) (hl : ds.length = ns.length) (h2 : ns.length ≤ 1000) (q : Q (.rt (.im (xcD m ⟨c, (ns.zip ds).reverse⟩)) e1)) : wS (s_rse m c ns fa) e Q := by
  refine ⟨_, ?_, q⟩
  unfold s_rse cv x_raise
  rw [ha]
  dsimp only
  rw [if_pos ⟨hl, h2⟩]
  rfl
end
def anL {α : Type} (g : PyData → Option α) : List PyData → Option (List α)
  | [] => some []
  | d :: ds => (g d).bind fun a => (anL g ds).map (a :: ·)
def anTp {α : Type} (g : PyData → Option α) : PyData → Option (List α)
  | .tuple ds => anL g ds
  | _ => none
/-- what it reads is so written -/
def AnOk {α : Type} (g : PyData → Option α) (f : α → PyData) : Prop := (∀ d v, g d = some v → d = f v) ∧ ∀ v, g (f v) = some v
theorem an_int : AnOk anI PyData.int := ⟨fun d v h => anI_ok h, fun v => rfl⟩
section
variable {α β : Type} {g : PyData → Option α} {f : α → PyData} {g2 : PyData → Option β} {f2 : β → PyData}
theorem anL_ok (h : AnOk g f) : ∀ {ds : List PyData} {l : List α}, anL g ds = some l → ds = l.map f
  | [], l, q => by
    cases q
    rfl
  | d :: ds, l, q => by
    unfold anL at q
    cases q1 : g d with
    | none => rw [q1] at q; cases q
    | some a =>
      cases q2 : anL g ds with
      | none => rw [q1, q2] at q; cases q
      | some r =>
        rw [q1, q2] at q
        cases q
        rw [h.1 d a q1, anL_ok h q2]
        rfl
theorem anL_of (h : AnOk g f) : ∀ l : List α, anL g (l.map f) = some l
  | [] => rfl
  | a :: l => by
    rw [List.map_cons]
    unfold anL
    rw [h.2 a, anL_of h l]
    rfl
theorem an_tp (h : AnOk g f) : AnOk (anTp g) (tp f) := ⟨fun d v q => (by
  unfold anTp at q
  split at q
  · rw [anL_ok h q]; done
  · cases q), fun v => anL_of h v⟩
theorem anY {d : PyData} {v : α} (k : AnOk g f) (q : g d = some v) : d = f v := k.1 d v q
end
end DL
namespace DL
open L2 PySem PySem.Spec PySem.W PyProof.Rows
def tyX (x : V) (H : Hp) : Prop := ∃ a ys, x = .ref a ∧ SqX H a ys
theorem tyX_is {X : Cx} {pins : List (Addr × Obj)} {σ : St} {H : Hp} {s : Shared} {x : V} {v : Value} (I : Inv X pins σ H s) (r : RelV x v) (ty : tyX x H) :
    s.TypeIs v "tuple" ∧ ∀ a, v = .ref a → ∃ ob, s.heap.get? a = some ob ∧ ob.dict = none := by
  obtain ⟨a, ys, rfl, ob, h, h1, h2⟩ := ty
  cases r
  obtain ⟨g, _⟩ := I.hok a _ h
  exact ⟨⟨ob, g, h1⟩, fun b e => by cases e; exact ⟨ob, g, h2⟩⟩
def tBMX (r : V → List V → Hp → VK → Prop) (to : TE) (t : TA) : TE := fun σ H Q => to σ H fun x H1 => tyX x H1 ∧ t σ H1 fun xs H2 => r x xs H2 Q
theorem pe_bmX {X : Cx} {o e : Expr} {es : List Expr} {to : TE} {t : TA} {name : Str} {apos cpos : Pos} {id : String} {r : V → List V → Hp → VK → Prop}
    (slot : Slot "tuple" name id) (hty : typeOf (.builtin id) = pure (.type "method_descriptor")) (hm : MtR X id r) (ho : PE X o to) (ha : PA X (e :: es) t)
    (hbase : attributeBase o name X.env (eval o X.env) = eval o X.env := by rfl)
    (hfew : ((backTo cpos (starEach (e :: es) X.env)).all (fun x => !x.1) && (backToKw cpos (keywordEach [] X.env)).all (fun x => x.1.isSome)
      && decide ((e :: es).length + ([] : List Keyword).length + (if ([] : List Keyword).isEmpty then 0 else 1) < 30)) = true := by rfl)
    (hline : (apos.endLine == cpos.line) = true := by rfl) (hs : starEach (e :: es) X.env = (false, eval e X.env) :: starEach es X.env := by rfl) (hplain : (backTo cpos (starEach es X.env)).any (·.1) = false := by rfl) :
    PE X (.Call (.Attribute o name apos) (e :: es) [] cpos) (tBMX r to t) := by
  refine ⟨fun pins s σ H Q I h => ?_⟩
  refine wpAny_Call_method_late hbase hfew hline rfl (thn (ho.run pins s σ H _ I h) fun v s1 ⟨x, H1, I1, r1, ty, q1⟩ => ?_)
  obtain ⟨h1, h2⟩ := tyX_is I1 r1 ty
  refine ⟨"tuple", id, PySem.F.plainAttrs_tuple, slot, hty, h1, h2, ?_⟩
  have hA := ha.run cpos pins s1 σ H1 _ I1 q1
  rw [hs] at hA ⊢
  refine Calls.callWith_builtin (by show (false || (backTo cpos (starEach es X.env)).any (·.1)) = false; rw [hplain] <;> rfl) (Calls.evalArgs_plain ?_)
  exact thn hA fun us s2 ⟨vs, H2, I2, r2, q2⟩ => hm pins s2 σ H2 x vs v us Q I2 r1 r2 q2
section
variable {X : Cx} {o a : Expr} {fo fa : Fe} {name : Str} {apos cpos : Pos} {id : String} {r : V → List V → Hp → VK → Prop} {φ : PyData → PyData → Option Int}
theorem ed_m1X (slot : Slot "tuple" name id) (hty : typeOf (.builtin id) = pure (.type "method_descriptor")) (hm : MtR X id r) (hy : ∀ {d1 d2 : PyData} {i : Int}, φ d1 d2 = some i → ∃ ds, d1 = .tuple ds)
    (hr : ∀ {G H : Hp} {v w : V} {d1 d2 : PyData} {i : Int} {Q : VK}, φ d1 d2 = some i → Same G H → Dp X.K G v d1 → Dp X.K G w d2 → Q (.int i) H → r v [w] H Q) (ho : ED X o fo) (ha : ED X a fa)
    (hbase : attributeBase o name X.env (eval o X.env) = eval o X.env := by rfl)
    (hfew : ((backTo cpos (starEach [a] X.env)).all (fun x => !x.1) && (backToKw cpos (keywordEach [] X.env)).all (fun x => x.1.isSome) && decide (([a] : List Expr).length + ([] : List Keyword).length + (if ([] : List Keyword).isEmpty then 0 else 1) < 30)) = true := by rfl)
    (hline : (apos.endLine == cpos.line) = true := by rfl) (hs : starEach [a] X.env = (false, eval a X.env) :: starEach [] X.env := by rfl) (hplain : (backTo cpos (starEach [] X.env)).any (·.1) = false := by rfl) :
    ED X (.Call (.Attribute o name apos) [a] [] cpos) (x_m1 φ fo fa) := by
  obtain ⟨to, po, ko⟩ := ho
  obtain ⟨ta, pe, ka⟩ := ha
  refine ⟨_, pe_bmX slot hty hm po (pa_cons pe pa_nil hs) hbase hfew hline hs hplain, fun m E G0 G e σ H rr e' Q R q P => ?_⟩
  unfold x_m1 at q
  split at q
  · rename_i r1 e1 h1
    split at q
    · rename_i d1 h2
      split at q
      · rename_i r2 e2 h3
        split at q
        · rename_i d2 h4
          cases h5 : φ d1 d2 with
          | none => rw [h5] at q; cases q
          | some i =>
            rw [h5] at q
            obtain ⟨rfl, rfl⟩ := Prod.mk.inj (Option.some.inj (show some (Rs.im (.int i), e2) = some (rr, e') from q))
            refine ko m E G0 G e σ H r1 e1 _ R h1 fun v G1 H1 R1 S1 V1 N1 => ?_
            obtain ⟨G2, R2, S2, s2, V2⟩ := R1.freeze S1 V1 N1
            rw [imR_ok h2] at V2
            have V2 : Dp X.K G2 v d1 := V2
            obtain ⟨ds, rfl⟩ := hy h5
            refine ⟨by
              cases V2 with
              | tup x _ => exact ⟨_, _, rfl, x.same R2.gh⟩, ?_⟩
            refine ka m E G0 G2 e1 σ H1 r2 e2 _ R2 h3 fun w G3 H3 R3 S3 V3 N3 => ?_
            obtain ⟨G4, R4, S4, s4, V4⟩ := R3.freeze S3 V3 N3
            rw [imR_ok h4] at V4
            exact hr h5 R4.gh (dp_same S4.gg V2) V4 (P (.int i) G4 H3 R4 (S2.trans S4) (.int i) True.intro)
        · cases q
      · cases q
    · cases q
  · cases q
end
def rCntT (K : PySem.W.Frag) : V → List V → Hp → VK → Prop := fun x xs H Q => ∃ (a : Addr) (ns : List Int) (k : Int), x = .ref a ∧ xs = [.int k] ∧ SqT K H a (ns.map V.int) ∧ Q (.int ((ns.count k : Nat) : Int)) H
theorem cnt_eqv (k : Int) : ∀ ns : List Int, (ns.map PyData.int).countP (fun y => PyData.eqv y (.int k)) = ns.count k
  | [] => rfl
  | n :: ns => by
    rw [List.map_cons, List.countP_cons, cnt_eqv k ns, List.count_cons]
    have e : PyData.eqv (.int n) (.int k) = (n == k) := by
      have := EqE.eqv (f := PyData.int) n k
      rw [this]
      rfl
    rw [e]
theorem plain_ints : ∀ ns : List Int, PyData.plainAll (ns.map PyData.int) = true
  | [] => rfl
  | n :: ns => by
    show (PyData.plain (.int n) && PyData.plainAll (ns.map PyData.int)) = true
    rw [plain_ints ns]
    rfl
theorem mt_cntT {X : Cx} (hu : X.A.units + 65 < cLine) : MtR X "tuple.count" (rCntT X.K) := by
  intro pins s σ H x xs v us Q I rx rxs h
  obtain ⟨a, ns, k, rfl, rfl, hs, q⟩ := h
  cases rx
  obtain ⟨u, rfl, t, rfl⟩ : ∃ u, us = [u] ∧ L2.RelV (.int k) u := by
    cases rxs with
    | cons h t =>
      cases t with
      | nil => exact ⟨_, rfl, h⟩
  obtain ⟨its, r, p, hz⟩ := I.tuple hs
  obtain ⟨bs, r1⟩ := L2.Dp.reads I (.int k) (.int k) _ (.int k) ⟨t, rfl⟩
  have all : ∀ ms : List Int, L2.DpAll X.K H (ms.map V.int) (ms.map PyData.int) := fun ms => by
    induction ms with
    | nil => exact .nil
    | cons m ms ih => exact .cons (.int m) ih
  obtain ⟨as, h4⟩ := L2.Dp.readsAll I (ns.map PyData.int) _ its (all ns) r
  refine SeqAt.count_tuple_data (vs := its.toArray) (xs := ns.map PyData.int) (d := .int k) p (by simpa using h4) r1 (plain_ints ns) rfl ?_ ?_
  · have : min (PyData.depthAll (ns.map PyData.int)) (PyData.depth (.int k)) ≤ PyData.depth (.int k) := Nat.min_le_right _ _
    have : PyData.depth (.int k) ≤ 1 := Nat.le_of_ble_eq_true rfl
    omega
  · rw [cnt_eqv]
    exact ⟨.int _, H, I.kept (t' := s.toks + 1) fun _ _ z => z, ⟨_, rfl⟩, q⟩
def q_countT : PyData → PyData → Option Int
  | .tuple ds, .int k => match unI ds with
    | some ns => some ((ns.count k : Nat) : Int)
    | none => none
  | _, _ => none
theorem q_countT_ok {d1 d2 : PyData} {i : Int} (h : q_countT d1 d2 = some i) : ∃ (ns : List Int) (k : Int), d1 = .tuple (ns.map PyData.int) ∧ d2 = .int k ∧ i = ((ns.count k : Nat) : Int) := by
  unfold q_countT at h
  split at h
  · rename_i ds k
    split at h
    · rename_i ns h1
      cases h
      exact ⟨ns, k, by rw [unI_ok h1], rfl, rfl⟩
    · cases h
  · cases h
section
variable {X : Cx} {o a : Expr} {fo fa : Fe} {apos cpos : Pos}
theorem ed_countT (hu : X.A.units + 65 < cLine) (ho : ED X o fo) (ha : ED X a fa)
    (hbase : attributeBase o "count" X.env (eval o X.env) = eval o X.env := by rfl)
    (hfew : ((backTo cpos (starEach [a] X.env)).all (fun x => !x.1) && (backToKw cpos (keywordEach [] X.env)).all (fun x => x.1.isSome) && decide (([a] : List Expr).length + ([] : List Keyword).length + (if ([] : List Keyword).isEmpty then 0 else 1) < 30)) = true := by rfl)
    (hline : (apos.endLine == cpos.line) = true := by rfl) (hs : starEach [a] X.env = (false, eval a X.env) :: starEach [] X.env := by rfl) (hplain : (backTo cpos (starEach [] X.env)).any (·.1) = false := by rfl) :
    ED X (.Call (.Attribute o "count" apos) [a] [] cpos) (x_m1 q_countT fo fa) := by
  refine ed_m1X PySem.F.slot_tuple_count PySem.F.type_tuple_count (mt_cntT hu) (fun h => ?_) (fun {G H v w d1 d2 i Q} h s q q2 k => ?_) ho ha hbase hfew hline hs hplain
  · obtain ⟨ns, k, rfl, _⟩ := q_countT_ok h
    exact ⟨_, rfl⟩
  · obtain ⟨ns, j, rfl, rfl, rfl⟩ := q_countT_ok h
    cases q2
    cases q with
    | tup h1 h2 =>
      rw [dp_ints h2] at h1
      exact ⟨_, ns, j, rfl, rfl, (h1.same s).t, k⟩
end
section
variable {l : List Int} {a i : Int} {fo fa : Fe} {e e1 e2 : Ev} {r1 r2 : Rs}
theorem countTX (ho : fo e = some (r1, e1)) (l1 : imR (frzR r1) = some (tp PyData.int l)) (ha : fa e1 = some (r2, e2)) (l2 : imR (frzR r2) = some (.int a)) : x_m1 q_countT fo fa e = some (.im (.int ((l.count a : Nat) : Int)), e2) := by
  unfold x_m1
  rw [ho]
  dsimp only
  rw [l1]
  dsimp only
  rw [ha]
  dsimp only
  rw [l2]
  dsimp only
  have q : q_countT (tp PyData.int l) (.int a) = some ((l.count a : Nat) : Int) := by
    show (match unI (l.map PyData.int) with
      | some ns => some ((ns.count a : Nat) : Int)
      | none => none) = _
    rw [unI_map]
  rw [q]
  rfl
end
end DL
namespace DL
open L2 PySem PySem.Spec PySem.W PyProof.Rows
def PoSJ (K : PySem.W.Frag) (m : Option Addr) (E : Ef) (G0 G : Hp) (D : Ends) (j : Nat) (σ0 : St) : Fl → Prop
  | .nx e => ∀ G' σ H, σ[j]? = σ0[j]? → Same G G' → Rz K m E G0 G' e σ H → D.nx σ H
  | .bk e => ∀ G' σ H, σ[j]? = σ0[j]? → Same G G' → Rz K m E G0 G' e σ H → D.bk σ H
  | .ct e => ∀ G' σ H, σ[j]? = σ0[j]? → Same G G' → Rz K m E G0 G' e σ H → D.ct σ H
  | .rt r e => ∀ v G' σ H, Same G G' → Rz K m E G0 G' e σ H → Vr K E G' H σ e v r → D.rt v H
theorem PoSJ.aft {K : PySem.W.Frag} {m : Option Addr} {E : Ef} {G0 G G' : Hp} {D : Ends} {j : Nat} {σ : St} {fl : Fl} (P : PoSJ K m E G0 G D j σ fl) (s : Same G G') : PoSJ K m E G0 G' D j σ fl := by
  cases fl with
  | nx e => exact fun G2 σ H z s2 R => P G2 σ H z (s.trans s2) R
  | bk e => exact fun G2 σ H z s2 R => P G2 σ H z (s.trans s2) R
  | ct e => exact fun G2 σ H z s2 R => P G2 σ H z (s.trans s2) R
  | rt r e => exact fun v G2 σ H s2 R V => P v G2 σ H (s.trans s2) R V
end DL
namespace K13
open PySem PySem.Spec PyProof.Rows L2 DL
def xcs : List Str := ["NotUsable", "Faulty"]
def xys : List Str := ["NotUsable", "Faulty", "BookError"]
def xfs : List Str := ["at", "change", "version", "word"]
def xtab : XTab := [(("NotUsable", "NotUsable"), true), (("NotUsable", "Faulty"), false), (("NotUsable", "BookError"), true), (("Faulty", "NotUsable"), false), (("Faulty", "Faulty"), true), (("Faulty", "BookError"), true)]
def xok : Str → Bool := fun k => xcs.contains k
noncomputable section
def g_is_integer : Fs :=
  (s_ret (x_and (x_isi .int (x_var 0)) (x_not (x_isi .bool (x_var 0)))))
def F_is_integer : List PyData → Option Rs := runF 1 0 g_is_integer
def g_falling : Fs :=
  (s_ret (x_cb c_tuple (a_cons (x_srt (a_cons (x_var 0) a_nil)) a_nil)))
def F_falling : List PyData → Option Rs := runF 1 0 g_falling
def g_row_after : Fs :=
  (s_seq (s_setF 3 (x_var 1))
  (s_seq (s_if (t_and (t_of (x_bin q_ge (x_cb c_len (a_cons (x_var 2) a_nil)) (x_var 0))) (t_of (x_bin q_ge (x_ix (x_var 2) (x_bin p_sub (x_var 0) (x_c (.int 1)))) (x_var 1))))
  (s_setF 3 (x_bin p_add (x_ix (x_var 2) (x_bin p_sub (x_var 0) (x_c (.int 1)))) (x_c (.int 1))))
  s_nx)
  (s_seq (s_ret (x_bin p_add (x_cb c_tuple (a_cons (x_lc (i_seq (x_var 2)) (g_name 4) (t_of (x_bin q_ge (x_var 4) (x_var 3))) (x_var 4) [4]) a_nil)) (x_tup (a_cons (x_var 3) a_nil))))
  s_nx)))
def F_row_after : List PyData → Option Rs := runF 3 2 g_row_after
def g__law_draw : Fs :=
  (s_seq (s_if (t_of (x_bin p_eq (x_cb c_len (a_cons (x_var 0) a_nil)) (x_c (.int 0))))
  (s_ret (x_lc (i_rng1 (x_var 2)) (g_name 6) t_yes (x_c (.int 0)) [6]))
  s_nx)
  (s_seq (s_setF 3 (x_cb c_int (a_cons (x_ix (x_var 0) (x_bin p_mod (x_cb c_int (a_cons (x_var 1) a_nil)) (x_cb c_len (a_cons (x_var 0) a_nil)))) a_nil)))
  (s_seq (s_set 4 (x_lst a_nil))
  (s_seq (s_if (t_and (t_of (x_bin q_lt (x_var 1) (x_cb c_len (a_cons (x_var 0) a_nil)))) (t_of (x_bin q_ge (x_cb c_abs (a_cons (x_var 3) a_nil)) (x_bin p_pow (x_c (.int 10)) (x_c (.int 18))))))
  (s_seq (s_for (i_rng1 (x_var 2)) (g_name 6) [6]
  (s_seq (s_drop (x_app 4 (x_bin p_mod (x_cb c_int (a_cons (x_var 3) a_nil)) (x_c (.int 9949)))))
  (s_seq (s_setF 3 (x_bin p_div (x_var 3) (x_c (.int 9949))))
  s_nx)))
  (s_seq (s_ret (x_var 4))
  s_nx))
  s_nx)
  (s_seq (s_setF 5 (x_bin p_mod (x_cb c_int (a_cons (x_bin p_add (x_bin p_add (x_bin p_add (x_bin p_mul (x_var 3) (x_c (.int 39373))) (x_bin p_mul (x_var 1) (x_c (.int 5077)))) (x_bin p_mul (x_cb c_len (a_cons (x_var 0) a_nil)) (x_c (.int 1217)))) (x_c (.int 29))) a_nil)) (x_c (.int 2147483563))))
  (s_seq (s_for (i_rng1 (x_var 2)) (g_name 6) [6]
  (s_seq (s_setF 5 (x_bin p_mod (x_cb c_int (a_cons (x_bin p_add (x_bin p_mul (x_var 5) (x_c (.int 40692))) (x_c (.int 7793))) a_nil)) (x_c (.int 2147483399))))
  (s_seq (s_drop (x_app 4 (x_bin p_mod (x_cb c_int (a_cons (x_bin p_div (x_var 5) (x_c (.int 13))) a_nil)) (x_c (.int 9949)))))
  s_nx)))
  (s_seq (s_ret (x_var 4))
  s_nx)))))))
def F__law_draw : List PyData → Option Rs := runF 3 4 g__law_draw
def g__law_listing : Fs :=
  (s_seq (s_setF 2 (x_lst (a_cons (x_tup a_nil) a_nil)))
  (s_seq (s_setF 3 (x_lst (a_cons (x_tup a_nil) a_nil)))
  (s_seq (s_for (i_rng1 (x_var 0)) (g_name 4) [4]
  (s_seq (s_set 5 (x_lst a_nil))
  (s_seq (s_for (i_seq (x_cb c_list (a_cons (x_var 2) a_nil))) (g_name 6) [6]
  (s_for (i_rng2 (x_c (.int 1)) (x_bin p_add (x_c (.int 1)) (x_var 1))) (g_name 7) [7]
  (s_if (t_or (t_of (x_bin p_eq (x_cb c_len (a_cons (x_var 6) a_nil)) (x_c (.int 0)))) (t_of (x_bin q_le (x_var 7) (x_ix (x_var 6) (x_neg (x_c (.int 1)))))))
  (s_drop (x_app 5 (x_bin p_add (x_var 6) (x_tup (a_cons (x_var 7) a_nil)))))
  s_nx)))
  (s_seq (s_fz 5 (s_setF 2 (x_var 5)))
  (s_seq (s_setF 3 (x_bin p_add (x_var 3) (x_var 5)))
  s_nx)))))
  (s_seq (s_ret (x_cb c_sortedB (a_cons (x_var 3) a_nil)))
  s_nx))))
def F__law_listing : List PyData → Option Rs := runF 2 6 g__law_listing
def g__law_row : Fs :=
  (s_seq (s_set 3 (x_lst a_nil))
  (s_seq (s_for (i_seq (x_var 0)) (g_name 4) [4]
  (s_if (t_of (x_bin p_eq (x_bin p_mod (x_cb c_int (a_cons (x_var 2) a_nil)) (x_c (.int 5))) (x_c (.int 3))))
  (s_drop (x_app 3 (x_bin p_add (x_bin p_pow (x_c (.int 10)) (x_c (.int 29))) (x_bin p_mod (x_cb c_int (a_cons (x_var 4) a_nil)) (x_c (.int 3))))))
  (s_if (t_of (x_bin p_eq (x_bin p_mod (x_cb c_int (a_cons (x_var 2) a_nil)) (x_c (.int 5))) (x_c (.int 4))))
  (s_drop (x_app 3 (x_ix (x_tup (a_cons (x_c (.int 1)) (a_cons (x_c (.int 2)) (a_cons (x_bin p_pow (x_c (.int 10)) (x_c (.int 15))) (a_cons (x_bin p_pow (x_c (.int 10)) (x_c (.int 28))) (a_cons (x_bin p_add (x_bin p_pow (x_c (.int 10)) (x_c (.int 28))) (x_c (.int 1))) a_nil)))))) (x_bin p_mod (x_cb c_int (a_cons (x_var 4) a_nil)) (x_c (.int 5))))))
  (s_drop (x_app 3 (x_bin p_add (x_c (.int 1)) (x_bin p_mod (x_cb c_int (a_cons (x_var 4) a_nil)) (x_var 1))))))))
  (s_seq (s_ret (x_cb c_tuple (a_cons (x_srt (a_cons (x_var 3) a_nil)) a_nil)))
  s_nx)))
def F__law_row : List PyData → Option Rs := runF 3 2 g__law_row
def g__law_counted : Fs :=
  (s_seq (s_setF 3 (x_c .none))
  (s_seq (s_for (i_seq (x_bin p_add (x_lst (a_cons (x_var 1) a_nil)) (x_lc (i_seq (x_var 2)) (g_name 5) t_yes (x_bin p_add (x_var 5) (x_c (.int 1))) [5]))) (g_name 4) [4]
  (s_if (t_and (t_of (x_bin q_ge (x_var 4) (x_var 1))) (t_of (x_bin q_lt (x_cb c_len (a_cons (x_lc (i_seq (x_var 2)) (g_name 5) (t_of (x_bin q_ge (x_var 5) (x_var 4))) (x_var 5) [5]) a_nil)) (x_var 0))))
  (s_if (t_or (t_of (x_bin p_is (x_var 3) (x_c .none))) (t_of (x_bin q_lt (x_var 4) (x_var 3))))
  (s_setF 3 (x_var 4))
  s_nx)
  s_nx))
  (s_seq (s_ret (x_cb c_tuple (a_cons (x_bin p_add (x_lc (i_seq (x_var 2)) (g_name 5) (t_of (x_bin q_ge (x_var 5) (x_var 3))) (x_var 5) [5]) (x_lst (a_cons (x_var 3) a_nil))) a_nil)))
  s_nx)))
def F__law_counted : List PyData → Option Rs := runF 3 3 g__law_counted
def g__law_bent : Fs :=
  (s_seq (s_setF 2 (x_bin p_mod (x_cb c_int (a_cons (x_ix (x_var 0) (x_c (.int 0))) a_nil)) (x_c (.int 8))))
  (s_seq (s_if (t_of (x_bin p_eq (x_var 2) (x_c (.int 0))))
  (s_ret (x_frz (x_cb c_list (a_cons (x_var 1) a_nil))))
  s_nx)
  (s_seq (s_if (t_of (x_bin p_eq (x_var 2) (x_c (.int 1))))
  (s_ret (x_bin p_add (x_var 1) (x_tup (a_cons (x_c (.int 0)) a_nil))))
  s_nx)
  (s_seq (s_if (t_of (x_bin p_eq (x_var 2) (x_c (.int 2))))
  (s_ret (x_bin p_add (x_var 1) (x_tup (a_cons (x_c (.int 1)) (a_cons (x_c (.int 2)) a_nil)))))
  s_nx)
  (s_seq (s_if (t_of (x_bin p_eq (x_var 2) (x_c (.int 3))))
  (s_ret (x_ix (x_tup (a_cons (x_c .none) (a_cons (x_c (.int 3)) (a_cons (x_c (.str "1")) (a_cons (x_c (.bool true)) (a_cons (x_c (.str "")) a_nil)))))) (x_bin p_mod (x_cb c_int (a_cons (x_ix (x_var 0) (x_c (.int 1))) a_nil)) (x_c (.int 5)))))
  s_nx)
  (s_seq (s_if (t_of (x_bin p_eq (x_var 2) (x_c (.int 4))))
  (s_ret (x_bin p_add (x_var 1) (x_tup (a_cons (x_c (.bool true)) a_nil))))
  s_nx)
  (s_seq (s_if (t_of (x_bin p_eq (x_var 2) (x_c (.int 5))))
  (s_ret (x_bin p_add (x_tup (a_cons (x_c (.int 2)) (a_cons (x_c (.int 1)) (a_cons (x_c (.int 2)) a_nil)))) (x_var 1)))
  s_nx)
  (s_seq (s_if (t_of (x_bin p_eq (x_var 2) (x_c (.int 6))))
  (s_ret (x_bin p_add (x_var 1) (x_tup (a_cons (x_neg (x_c (.int 1))) a_nil))))
  s_nx)
  (s_seq (s_ret (x_bin p_add (x_tup (a_cons (x_c (.str "2")) a_nil)) (x_var 1)))
  s_nx)))))))))
def F__law_bent : List PyData → Option Rs := runF 2 1 g__law_bent
def g_is_natural : Fs :=
  (s_ret (x_and (x_call F_is_integer [] (a_cons (x_var 0) a_nil)) (x_bin q_ge (x_var 0) (x_c (.int 1)))))
def F_is_natural : List PyData → Option Rs := runF 1 0 g_is_natural
def g_is_row : Fs :=
  (s_seq (s_if (t_not (t_of (x_isi .tuple (x_var 0))))
  (s_ret (x_c (.bool false)))
  s_nx)
  (s_seq (s_if (t_not (t_of (x_cb c_all (a_cons (x_lc (i_seq (x_var 0)) (g_name 2) t_yes (x_call F_is_natural [] (a_cons (x_var 2) a_nil)) [2]) a_nil))))
  (s_ret (x_c (.bool false)))
  s_nx)
  (s_seq (s_ret (x_cb c_all (a_cons (x_lc (i_rng1 (x_bin p_sub (x_cb c_len (a_cons (x_var 0) a_nil)) (x_c (.int 1)))) (g_name 1) t_yes (x_bin q_ge (x_ix (x_var 0) (x_var 1)) (x_ix (x_var 0) (x_bin p_add (x_var 1) (x_c (.int 1))))) [1]) a_nil)))
  s_nx)))
def F_is_row : List PyData → Option Rs := runF 1 2 g_is_row
def gx_merged : Fsx :=
  (x_seq (x_ifS (t_or (t_not (t_of (x_isi .tuple (x_var 0)))) (t_not (t_of (x_cb c_all (a_cons (x_lc (i_seq (x_var 0)) (g_name 1) t_yes (x_call F_is_row [] (a_cons (x_var 1) a_nil)) [1]) a_nil)))))
  (x_raise "NotUsable" ["word", "at"] (a_cons (x_c (.str "rows")) (a_cons (x_neg (x_c (.int 1))) a_nil)))
  (xS s_nx))
  (x_seq (xS (s_ret (x_call F_falling [] (a_cons (x_lc2 (i_seq (x_var 0)) (g_name 1) t_yes (i_seq (x_var 1)) (g_name 2) t_yes (x_var 2) [1, 2] [2]) a_nil))))
  (xS s_nx)))
def FY_merged : List PyData → Option Ro := runX 1 2 gx_merged
def g_merged : Fs :=
  (s_seq (s_if (t_or (t_not (t_of (x_isi .tuple (x_var 0)))) (t_not (t_of (x_cb c_all (a_cons (x_lc (i_seq (x_var 0)) (g_name 1) t_yes (x_call F_is_row [] (a_cons (x_var 1) a_nil)) [1]) a_nil)))))
  s_no
  s_nx)
  (s_seq (s_ret (x_call F_falling [] (a_cons (x_lc2 (i_seq (x_var 0)) (g_name 1) t_yes (i_seq (x_var 1)) (g_name 2) t_yes (x_var 2) [1, 2] [2]) a_nil)))
  s_nx))
def F_merged : List PyData → Option Rs := runF 1 2 g_merged
def FX_merged : List PyData → Option Ro := orRx F_merged FY_merged
def gx_stepped : Fsx :=
  (x_seq (x_ifS (t_not (t_of (x_call F_is_natural [] (a_cons (x_var 0) a_nil))))
  (x_raise "NotUsable" ["word", "at"] (a_cons (x_c (.str "width")) (a_cons (x_neg (x_c (.int 1))) a_nil)))
  (xS s_nx))
  (x_seq (x_ifS (t_not (t_of (x_call F_is_natural [] (a_cons (x_var 1) a_nil))))
  (x_raise "NotUsable" ["word", "at"] (a_cons (x_c (.str "floor")) (a_cons (x_neg (x_c (.int 1))) a_nil)))
  (xS s_nx))
  (x_seq (x_ifS (t_not (t_of (x_call F_is_row [] (a_cons (x_var 2) a_nil))))
  (x_raise "NotUsable" ["word", "at"] (a_cons (x_c (.str "row")) (a_cons (x_neg (x_c (.int 1))) a_nil)))
  (xS s_nx))
  (x_seq (xS (s_ret (x_call F_row_after [] (a_cons (x_var 0) (a_cons (x_var 1) (a_cons (x_var 2) a_nil))))))
  (xS s_nx)))))
def FY_stepped : List PyData → Option Ro := runX 3 0 gx_stepped
def g_stepped : Fs :=
  (s_seq (s_if (t_not (t_of (x_call F_is_natural [] (a_cons (x_var 0) a_nil))))
  s_no
  s_nx)
  (s_seq (s_if (t_not (t_of (x_call F_is_natural [] (a_cons (x_var 1) a_nil))))
  s_no
  s_nx)
  (s_seq (s_if (t_not (t_of (x_call F_is_row [] (a_cons (x_var 2) a_nil))))
  s_no
  s_nx)
  (s_seq (s_ret (x_call F_row_after [] (a_cons (x_var 0) (a_cons (x_var 1) (a_cons (x_var 2) a_nil)))))
  s_nx))))
def F_stepped : List PyData → Option Rs := runF 3 0 g_stepped
def FX_stepped : List PyData → Option Ro := orRx F_stepped FY_stepped
def gx_unlike_at : Fsx :=
  (x_seq (x_ifS (t_not (t_of (x_call F_is_row [] (a_cons (x_var 0) a_nil))))
  (x_raise "NotUsable" ["word", "at"] (a_cons (x_c (.str "one")) (a_cons (x_neg (x_c (.int 1))) a_nil)))
  (xS s_nx))
  (x_seq (x_ifS (t_not (t_of (x_call F_is_row [] (a_cons (x_var 1) a_nil))))
  (x_raise "NotUsable" ["word", "at"] (a_cons (x_c (.str "other")) (a_cons (x_neg (x_c (.int 1))) a_nil)))
  (xS s_nx))
  (x_seq (xS (s_for (i_zip (x_var 0) (x_var 1)) (g_tup [2, 3]) [2, 3]
  (s_if (t_of (x_bin p_ne (x_var 2) (x_var 3)))
  (s_ret (x_cb c_max2 (a_cons (x_var 2) (a_cons (x_var 3) a_nil))))
  s_nx)))
  (x_seq (xS (s_if (t_of (x_bin q_gt (x_cb c_len (a_cons (x_var 0) a_nil)) (x_cb c_len (a_cons (x_var 1) a_nil))))
  (s_ret (x_ix (x_var 0) (x_cb c_len (a_cons (x_var 1) a_nil))))
  s_nx))
  (x_seq (xS (s_if (t_of (x_bin q_gt (x_cb c_len (a_cons (x_var 1) a_nil)) (x_cb c_len (a_cons (x_var 0) a_nil))))
  (s_ret (x_ix (x_var 1) (x_cb c_len (a_cons (x_var 0) a_nil))))
  s_nx))
  (x_seq (xS (s_ret (x_c (.int 0))))
  (xS s_nx)))))))
def FY_unlike_at : List PyData → Option Ro := runX 2 2 gx_unlike_at
def g_unlike_at : Fs :=
  (s_seq (s_if (t_not (t_of (x_call F_is_row [] (a_cons (x_var 0) a_nil))))
  s_no
  s_nx)
  (s_seq (s_if (t_not (t_of (x_call F_is_row [] (a_cons (x_var 1) a_nil))))
  s_no
  s_nx)
  (s_seq (s_for (i_zip (x_var 0) (x_var 1)) (g_tup [2, 3]) [2, 3]
  (s_if (t_of (x_bin p_ne (x_var 2) (x_var 3)))
  (s_ret (x_cb c_max2 (a_cons (x_var 2) (a_cons (x_var 3) a_nil))))
  s_nx))
  (s_seq (s_if (t_of (x_bin q_gt (x_cb c_len (a_cons (x_var 0) a_nil)) (x_cb c_len (a_cons (x_var 1) a_nil))))
  (s_ret (x_ix (x_var 0) (x_cb c_len (a_cons (x_var 1) a_nil))))
  s_nx)
  (s_seq (s_if (t_of (x_bin q_gt (x_cb c_len (a_cons (x_var 1) a_nil)) (x_cb c_len (a_cons (x_var 0) a_nil))))
  (s_ret (x_ix (x_var 1) (x_cb c_len (a_cons (x_var 0) a_nil))))
  s_nx)
  (s_seq (s_ret (x_c (.int 0)))
  s_nx))))))
def F_unlike_at : List PyData → Option Rs := runF 2 2 g_unlike_at
def FX_unlike_at : List PyData → Option Ro := orRx F_unlike_at FY_unlike_at
def R__law_same : Nat → List PyData → Option Rs
  | 0 => fun _ => none
  | N + 1 => runF 2 1 (s_seq (s_if (t_of (x_isi .tuple (x_var 1)))
  (s_seq (s_if (t_or (t_not (t_of (x_isi .tuple (x_var 0)))) (t_of (x_bin p_ne (x_cb c_len (a_cons (x_var 0) a_nil)) (x_cb c_len (a_cons (x_var 1) a_nil)))))
  (s_ret (x_c (.bool false)))
  s_nx)
  (s_seq (s_for (i_rng1 (x_cb c_len (a_cons (x_var 1) a_nil))) (g_name 2) [2]
  (s_if (t_not (t_of (x_call (R__law_same N) [] (a_cons (x_ix (x_var 0) (x_var 2)) (a_cons (x_ix (x_var 1) (x_var 2)) a_nil)))))
  (s_ret (x_c (.bool false)))
  s_nx))
  (s_seq (s_ret (x_c (.bool true)))
  s_nx)))
  s_nx)
  (s_seq (s_if (t_of (x_bin p_is (x_var 1) (x_c .none)))
  (s_ret (x_bin p_is (x_var 0) (x_c .none)))
  s_nx)
  (s_seq (s_if (t_of (x_isi .bool (x_var 1)))
  (s_ret (x_and (x_isi .bool (x_var 0)) (x_bin p_eq (x_var 0) (x_var 1))))
  s_nx)
  (s_seq (s_if (t_of (x_isi .int (x_var 1)))
  (s_ret (x_and (x_isi .int (x_var 0)) (x_and (x_not (x_isi .bool (x_var 0))) (x_bin p_eq (x_var 0) (x_var 1)))))
  s_nx)
  (s_seq (s_ret (x_and (x_isi .str (x_var 0)) (x_bin p_eq (x_var 0) (x_var 1))))
  s_nx)))))
theorem len__law_same : ∀ N ds, (R__law_same N ds).isSome = true → ds.length = 2
  | 0 => fun _ h => nomatch h
  | N + 1 => runF_len
def F__law_same : List PyData → Option Rs := R__law_same 8
def g__law_unlike : Fs :=
  (s_seq (s_setF 3 (x_call F_unlike_at [] (a_cons (x_ix (x_var 0) (x_var 1)) (a_cons (x_ix (x_var 0) (x_var 2)) a_nil))))
  (s_seq (s_if (t_not (t_of (x_call F__law_same [] (a_cons (x_callK F_unlike_at [1, 0] a_nil (a_cons (x_ix (x_var 0) (x_var 1)) (a_cons (x_ix (x_var 0) (x_var 2)) a_nil))) (a_cons (x_var 3) a_nil)))))
  (s_ret (x_c (.bool false)))
  s_nx)
  (s_seq (s_if (t_of (x_bin p_eq (x_var 1) (x_var 2)))
  (s_ret (x_call F__law_same [] (a_cons (x_var 3) (a_cons (x_c (.int 0)) a_nil))))
  s_nx)
  (s_seq (s_for (i_rng3 (x_c (.int 5)) (x_c (.int 0)) (x_neg (x_c (.int 1)))) (g_name 4) [4]
  (s_if (t_of (x_bin p_ne (x_m1 q_countT (x_ix (x_var 0) (x_var 1)) (x_var 4)) (x_m1 q_countT (x_ix (x_var 0) (x_var 2)) (x_var 4))))
  (s_ret (x_and (x_call F__law_same [] (a_cons (x_var 3) (a_cons (x_var 4) a_nil))) (x_bin q_lt (x_m1 q_countT (x_ix (x_var 0) (x_var 1)) (x_var 4)) (x_m1 q_countT (x_ix (x_var 0) (x_var 2)) (x_var 4)))))
  s_nx))
  (s_seq (s_ret (x_c (.bool false)))
  s_nx)))))
def F__law_unlike : List PyData → Option Rs := runF 3 2 g__law_unlike
def g__law_steps : Fs :=
  (s_seq (s_setF 3 (x_call F__law_counted [] (a_cons (x_var 1) (a_cons (x_var 2) (a_cons (x_var 0) a_nil)))))
  (s_seq (s_setF 4 (x_call F_stepped [] (a_cons (x_var 1) (a_cons (x_var 2) (a_cons (x_var 0) a_nil)))))
  (s_seq (s_if (t_or (t_not (t_of (x_call F__law_same [] (a_cons (x_var 4) (a_cons (x_var 3) a_nil))))) (t_not (t_of (x_call F__law_same [] (a_cons (x_callK F_stepped [2, 1, 0] a_nil (a_cons (x_var 0) (a_cons (x_var 2) (a_cons (x_var 1) a_nil)))) (a_cons (x_var 3) a_nil))))))
  (s_ret (x_c (.bool false)))
  s_nx)
  (s_seq (s_for (i_rng1 (x_cb c_min2 (a_cons (x_c (.int 3)) (a_cons (x_cb c_len (a_cons (x_var 0) a_nil)) a_nil)))) (g_name 5) [5]
  (s_seq (s_setF 6 (x_bin p_add (x_sl (x_var 0) o_no (o_at (x_var 5))) (x_sl (x_var 0) (o_at (x_bin p_add (x_var 5) (x_c (.int 1)))) o_no)))
  (s_seq (s_if (t_not (t_of (x_call F__law_same [] (a_cons (x_call F_stepped [] (a_cons (x_var 1) (a_cons (x_var 2) (a_cons (x_var 6) a_nil)))) (a_cons (x_call F__law_counted [] (a_cons (x_var 1) (a_cons (x_var 2) (a_cons (x_var 6) a_nil)))) a_nil)))))
  (s_ret (x_c (.bool false)))
  s_nx)
  s_nx)))
  (s_seq (s_ret (x_call F__law_same [] (a_cons (x_call F_stepped [] (a_cons (x_var 1) (a_cons (x_var 2) (a_cons (x_sl (x_var 0) o_no (o_at (x_cb c_min2 (a_cons (x_var 1) (a_cons (x_cb c_len (a_cons (x_var 0) a_nil)) a_nil))))) a_nil)))) (a_cons (x_var 3) a_nil))))
  s_nx)))))
def F__law_steps : List PyData → Option Rs := runF 3 4 g__law_steps
def g__law_placed : Fs :=
  (s_seq (s_setF 3 (x_call F__law_listing [] (a_cons (x_var 1) (a_cons (x_c (.int 4)) a_nil))))
  (s_seq (s_setF 4 (x_sl (x_cb c_tuple (a_cons (x_lc (i_seq (x_var 0)) (g_name 8) (t_of (x_bin q_ge (x_var 8) (x_var 2))) (x_bin p_add (x_bin p_sub (x_var 8) (x_var 2)) (x_c (.int 1))) [8]) a_nil)) o_no (o_at (x_var 1))))
  (s_seq (s_setF 5 (x_c (.int 0)))
  (s_seq (s_for (i_rng1 (x_cb c_len (a_cons (x_var 3) a_nil))) (g_name 6) [6]
  (s_if (t_of (x_bin p_eq (x_ix (x_var 3) (x_var 6)) (x_var 4)))
  (s_setF 5 (x_var 6))
  s_nx))
  (s_seq (s_setF 7 (x_tup (a_cons (x_c (.int 5)) a_nil)))
  (s_seq (s_if (t_of (x_bin q_lt (x_bin p_add (x_var 5) (x_c (.int 1))) (x_cb c_len (a_cons (x_var 3) a_nil))))
  (s_setF 7 (x_ix (x_var 3) (x_bin p_add (x_var 5) (x_c (.int 1)))))
  s_nx)
  (s_seq (s_ret (x_call F__law_same [] (a_cons (x_call F_stepped [] (a_cons (x_var 1) (a_cons (x_var 2) (a_cons (x_var 0) a_nil)))) (a_cons (x_cb c_tuple (a_cons (x_lc (i_seq (x_var 7)) (g_name 8) t_yes (x_bin p_sub (x_bin p_add (x_var 8) (x_var 2)) (x_c (.int 1))) [8]) a_nil)) a_nil))))
  s_nx)))))))
def F__law_placed : List PyData → Option Rs := runF 3 6 g__law_placed
def g__law_merges : Fs :=
  (s_seq (s_set 1 (x_lst a_nil))
  (s_seq (s_for (i_seq (x_var 0)) (g_name 2) [2]
  (s_for (i_seq (x_var 2)) (g_name 6) [6]
  (s_drop (x_app 1 (x_var 6)))))
  (s_seq (s_setF 3 (x_cb c_tuple (a_cons (x_srt (a_cons (x_var 1) a_nil)) a_nil)))
  (s_seq (s_if (t_or (t_not (t_of (x_call F__law_same [] (a_cons (x_call F_merged [] (a_cons (x_var 0) a_nil)) (a_cons (x_var 3) a_nil))))) (t_not (t_of (x_call F__law_same [] (a_cons (x_callK F_merged [0] a_nil (a_cons (x_sl (x_var 0) o_no (o_at (x_c (.int 0)))) a_nil)) (a_cons (x_tup a_nil) a_nil))))))
  (s_ret (x_c (.bool false)))
  s_nx)
  (s_seq (s_setF 4 (x_cb c_tuple (a_cons (x_srt (a_cons (x_cb c_list (a_cons (x_bin p_add (x_var 3) (x_var 3)) a_nil)) a_nil)) a_nil)))
  (s_seq (s_if (t_or (t_not (t_of (x_call F__law_same [] (a_cons (x_call F_merged [] (a_cons (x_tup (a_cons (x_var 3) a_nil)) a_nil)) (a_cons (x_var 3) a_nil))))) (t_not (t_of (x_call F__law_same [] (a_cons (x_call F_merged [] (a_cons (x_tup (a_cons (x_var 3) (a_cons (x_var 3) a_nil))) a_nil)) (a_cons (x_var 4) a_nil))))))
  (s_ret (x_c (.bool false)))
  s_nx)
  (s_seq (s_setF 5 (x_c (.int 0)))
  (s_seq (s_for (i_seq (x_var 3)) (g_name 6) [6]
  (s_if (t_and (t_of (x_bin p_eq (x_var 5) (x_c (.int 0)))) (t_of (x_bin p_ne (x_m1 q_countT (x_ix (x_var 0) (x_c (.int 0))) (x_var 6)) (x_m1 q_countT (x_ix (x_var 0) (x_c (.int 1))) (x_var 6)))))
  (s_setF 5 (x_var 6))
  s_nx))
  (s_seq (s_if (t_or (t_not (t_of (x_call F__law_same [] (a_cons (x_call F_unlike_at [] (a_cons (x_ix (x_var 0) (x_c (.int 0))) (a_cons (x_ix (x_var 0) (x_c (.int 1))) a_nil))) (a_cons (x_var 5) a_nil))))) (t_not (t_of (x_call F__law_same [] (a_cons (x_call F_unlike_at [] (a_cons (x_ix (x_var 0) (x_c (.int 1))) (a_cons (x_ix (x_var 0) (x_c (.int 0))) a_nil))) (a_cons (x_var 5) a_nil))))))
  (s_ret (x_c (.bool false)))
  s_nx)
  (s_seq (s_if (t_not (t_of (x_call F__law_same [] (a_cons (x_tup (a_cons (x_call F_unlike_at [] (a_cons (x_var 3) (a_cons (x_var 3) a_nil))) (a_cons (x_callK F_is_row [0] a_nil (a_cons (x_var 3) a_nil)) a_nil))) (a_cons (x_tup (a_cons (x_c (.int 0)) (a_cons (x_c (.bool true)) a_nil))) a_nil)))))
  (s_ret (x_c (.bool false)))
  s_nx)
  (s_seq (s_setF 7 (x_cb c_tuple (a_cons (x_srt (a_cons (x_cb c_list (a_cons (x_bin p_add (x_bin p_add (x_var 3) (x_var 3)) (x_var 3)) a_nil)) a_nil)) a_nil)))
  (s_seq (s_if (t_not (t_of (x_call F__law_same [] (a_cons (x_call F_merged [] (a_cons (x_bin p_add (x_bin p_add (x_var 0) (x_tup (a_cons (x_tup a_nil) (a_cons (x_var 3) a_nil)))) (x_rvs (x_var 0))) a_nil)) (a_cons (x_var 7) a_nil)))))
  (s_ret (x_c (.bool false)))
  s_nx)
  (s_seq (s_setF 8 (x_cb c_tuple (a_cons (x_srt (a_cons (x_cb c_list (a_cons (x_bin p_add (x_ix (x_var 0) (x_c (.int 2))) (x_ix (x_var 0) (x_c (.int 0)))) a_nil)) a_nil)) a_nil)))
  (s_seq (s_ret (x_and (x_call F__law_same [] (a_cons (x_call F_merged [] (a_cons (x_tup (a_cons (x_ix (x_var 0) (x_c (.int 2))) (a_cons (x_tup a_nil) (a_cons (x_ix (x_var 0) (x_c (.int 0))) a_nil)))) a_nil)) (a_cons (x_var 8) a_nil))) (x_call F__law_same [] (a_cons (x_call F_merged [] (a_cons (x_tup (a_cons (x_ix (x_var 0) (x_c (.int 0))) (a_cons (x_ix (x_var 0) (x_c (.int 2))) a_nil))) a_nil)) (a_cons (x_var 8) a_nil)))))
  s_nx))))))))))))))
def F__law_merges : List PyData → Option Rs := runF 1 8 g__law_merges
def g__law_ask : Fs :=
  (s_seq (noX (x_try (x_ifS (t_of (x_bin p_eq (x_var 0) (x_c (.int 0))))
  (x_drop (x_callX FX_merged [] (a_cons (x_var 1) a_nil)))
  (x_ifS (t_of (x_bin p_eq (x_var 0) (x_c (.int 1))))
  (x_drop (x_callX FX_stepped [] (a_cons (x_var 1) (a_cons (x_var 2) (a_cons (x_var 3) a_nil)))))
  (x_drop (x_callX FX_unlike_at [] (a_cons (x_var 1) (a_cons (x_var 2) a_nil)))))) (tabF xtab "NotUsable") 4 (fun k a dd =>
  (s_seq (s_if (t_and (t_of (x_isE (tabF xtab "BookError") k a dd 4)) (t_and (t_not (t_of (x_isE (tabF xtab "Faulty") k a dd 4))) (t_of (x_call F__law_same [] (a_cons (x_fld xok k a dd 4 "at") (a_cons (x_neg (x_c (.int 1))) a_nil))))))
  (s_ret (x_fld xok k a dd 4 "word"))
  s_nx)
  (s_seq (s_ret (x_c (.str "family")))
  s_nx)))))
  (s_seq (s_ret (x_c .none))
  s_nx))
def F__law_ask : List PyData → Option Rs := runF 4 1 g__law_ask
def g__law_listed : Fs :=
  (s_seq (s_setF 2 (x_call F__law_listing [] (a_cons (x_var 0) (a_cons (x_var 1) a_nil))))
  (s_seq (s_for (i_rng1 (x_cb c_len (a_cons (x_var 2) a_nil))) (g_name 3) [3]
  (s_seq (s_setF 4 (x_tup (a_cons (x_bin p_add (x_var 1) (x_c (.int 1))) a_nil)))
  (s_seq (s_if (t_of (x_bin q_lt (x_bin p_add (x_var 3) (x_c (.int 1))) (x_cb c_len (a_cons (x_var 2) a_nil))))
  (s_setF 4 (x_ix (x_var 2) (x_bin p_add (x_var 3) (x_c (.int 1)))))
  s_nx)
  (s_seq (s_if (t_or (t_not (t_of (x_call F__law_same [] (a_cons (x_call F_stepped [] (a_cons (x_var 0) (a_cons (x_c (.int 1)) (a_cons (x_ix (x_var 2) (x_var 3)) a_nil)))) (a_cons (x_var 4) a_nil))))) (t_not (t_of (x_call F__law_same [] (a_cons (x_call F_is_row [] (a_cons (x_ix (x_var 2) (x_var 3)) a_nil)) (a_cons (x_c (.bool true)) a_nil))))))
  (s_ret (x_c (.bool false)))
  s_nx)
  (s_seq (s_setF 5 (x_bin p_mod (x_cb c_int (a_cons (x_bin p_add (x_bin p_mul (x_var 3) (x_c (.int 7))) (x_c (.int 3))) a_nil)) (x_cb c_len (a_cons (x_var 2) a_nil))))
  (s_seq (s_if (t_not (t_of (x_call F__law_unlike [] (a_cons (x_var 2) (a_cons (x_cb c_min2 (a_cons (x_var 3) (a_cons (x_var 5) a_nil))) (a_cons (x_cb c_max2 (a_cons (x_var 3) (a_cons (x_var 5) a_nil))) a_nil))))))
  (s_ret (x_c (.bool false)))
  s_nx)
  s_nx))))))
  (s_seq (s_ret (x_c (.bool true)))
  s_nx)))
def F__law_listed : List PyData → Option Rs := runF 2 4 g__law_listed
def g__law_refused : Fs :=
  (s_seq (s_setF 4 (x_call F__law_bent [] (a_cons (x_var 3) (a_cons (x_ix (x_var 0) (x_c (.int 0))) a_nil))))
  (s_seq (s_setF 5 (x_ix (x_tup (a_cons (x_c (.int 0)) (a_cons (x_neg (x_c (.int 1))) (a_cons (x_c (.bool true)) (a_cons (x_c .none) (a_cons (x_c (.str "2")) (a_cons (x_neg (x_bin p_pow (x_c (.int 10)) (x_c (.int 20)))) (a_cons (x_tup (a_cons (x_c (.int 1)) a_nil)) a_nil)))))))) (x_bin p_mod (x_cb c_int (a_cons (x_ix (x_var 3) (x_c (.int 2))) a_nil)) (x_c (.int 7)))))
  (s_seq (s_if (t_or (t_not (t_of (x_call F__law_same [] (a_cons (x_call F_is_row [] (a_cons (x_var 4) a_nil)) (a_cons (x_c (.bool false)) a_nil))))) (t_not (t_of (x_call F__law_same [] (a_cons (x_call F_is_row [] (a_cons (x_ix (x_var 0) (x_c (.int 0))) a_nil)) (a_cons (x_c (.bool true)) a_nil))))))
  (s_ret (x_c (.bool false)))
  s_nx)
  (s_seq (s_for (i_seq (x_tup (a_cons (x_tup (a_cons (x_ix (x_var 0) (x_c (.int 1))) (a_cons (x_var 4) a_nil))) (a_cons (x_cb c_list (a_cons (x_var 0) a_nil)) (a_cons (x_bin p_add (x_tup (a_cons (x_var 4) a_nil)) (x_var 0)) (a_cons (x_tup (a_cons (x_c (.int 1)) a_nil)) (a_cons (x_bin p_add (x_ix (x_var 0) (x_c (.int 0))) (x_tup (a_cons (x_c (.int 2)) a_nil))) (a_cons (x_c .none) a_nil)))))))) (g_name 6) [6]
  (s_if (t_not (t_of (x_call F__law_same [] (a_cons (x_call F__law_ask [] (a_cons (x_c (.int 0)) (a_cons (x_var 6) (a_cons (x_c (.int 0)) (a_cons (x_c (.int 0)) a_nil))))) (a_cons (x_c (.str "rows")) a_nil)))))
  (s_ret (x_c (.bool false)))
  s_nx))
  (s_seq (s_if (t_or (t_not (t_of (x_call F__law_same [] (a_cons (x_call F__law_ask [] (a_cons (x_c (.int 1)) (a_cons (x_var 5) (a_cons (x_var 5) (a_cons (x_var 4) a_nil))))) (a_cons (x_c (.str "width")) a_nil))))) (t_not (t_of (x_call F__law_same [] (a_cons (x_call F__law_ask [] (a_cons (x_c (.int 1)) (a_cons (x_var 1) (a_cons (x_var 5) (a_cons (x_var 4) a_nil))))) (a_cons (x_c (.str "floor")) a_nil))))))
  (s_ret (x_c (.bool false)))
  s_nx)
  (s_seq (s_if (t_or (t_not (t_of (x_call F__law_same [] (a_cons (x_call F__law_ask [] (a_cons (x_c (.int 1)) (a_cons (x_var 1) (a_cons (x_var 2) (a_cons (x_var 4) a_nil))))) (a_cons (x_c (.str "row")) a_nil))))) (t_not (t_of (x_call F__law_same [] (a_cons (x_call F__law_ask [] (a_cons (x_c (.int 1)) (a_cons (x_c (.int 1)) (a_cons (x_c (.int 1)) (a_cons (x_tup a_nil) a_nil))))) (a_cons (x_c .none) a_nil))))))
  (s_ret (x_c (.bool false)))
  s_nx)
  (s_seq (s_if (t_or (t_not (t_of (x_call F__law_same [] (a_cons (x_call F__law_ask [] (a_cons (x_c (.int 2)) (a_cons (x_var 4) (a_cons (x_var 4) (a_cons (x_c (.int 0)) a_nil))))) (a_cons (x_c (.str "one")) a_nil))))) (t_not (t_of (x_call F__law_same [] (a_cons (x_call F__law_ask [] (a_cons (x_c (.int 2)) (a_cons (x_ix (x_var 0) (x_c (.int 1))) (a_cons (x_var 4) (a_cons (x_c (.int 0)) a_nil))))) (a_cons (x_c (.str "other")) a_nil))))))
  (s_ret (x_c (.bool false)))
  s_nx)
  (s_seq (s_ret (x_and (x_call F__law_same [] (a_cons (x_call F__law_ask [] (a_cons (x_c (.int 2)) (a_cons (x_ix (x_var 0) (x_c (.int 1))) (a_cons (x_ix (x_var 0) (x_c (.int 0))) (a_cons (x_c (.int 0)) a_nil))))) (a_cons (x_c .none) a_nil))) (x_call F__law_same [] (a_cons (x_call F__law_ask [] (a_cons (x_c (.int 0)) (a_cons (x_var 0) (a_cons (x_c (.int 0)) (a_cons (x_c (.int 0)) a_nil))))) (a_cons (x_c .none) a_nil)))))
  s_nx))))))))
def F__law_refused : List PyData → Option Rs := runF 4 3 g__law_refused
def g_law : Fs :=
  (s_seq (s_setF 1 (x_call F__law_draw [] (a_cons (x_var 0) (a_cons (x_c (.int 0)) (a_cons (x_c (.int 8)) a_nil)))))
  (s_seq (s_setF 2 (x_ix (x_tup (a_cons (x_tup (a_cons (x_c (.int 2)) (a_cons (x_c (.int 2)) a_nil))) (a_cons (x_tup (a_cons (x_c (.int 1)) (a_cons (x_c (.int 4)) a_nil))) (a_cons (x_tup (a_cons (x_c (.int 3)) (a_cons (x_c (.int 3)) a_nil))) (a_cons (x_tup (a_cons (x_c (.int 2)) (a_cons (x_c (.int 4)) a_nil))) (a_cons (x_tup (a_cons (x_c (.int 4)) (a_cons (x_c (.int 3)) a_nil))) (a_cons (x_tup (a_cons (x_c (.int 3)) (a_cons (x_c (.int 4)) a_nil))) (a_cons (x_tup (a_cons (x_c (.int 4)) (a_cons (x_c (.int 2)) a_nil))) (a_cons (x_tup (a_cons (x_c (.int 1)) (a_cons (x_c (.int 1)) a_nil))) (a_cons (x_tup (a_cons (x_c (.int 2)) (a_cons (x_c (.int 3)) a_nil))) a_nil)))))))))) (x_bin p_mod (x_cb c_int (a_cons (x_ix (x_var 1) (x_c (.int 0))) a_nil)) (x_c (.int 9)))))
  (s_seq (s_if (t_not (t_of (x_call F__law_listed [] (a_cons (x_ix (x_var 2) (x_c (.int 0))) (a_cons (x_ix (x_var 2) (x_c (.int 1))) a_nil)))))
  (s_ret (x_c (.bool false)))
  s_nx)
  (s_seq (s_set 3 (x_lst a_nil))
  (s_seq (s_for (i_rng1 (x_c (.int 3))) (g_name 4) [4]
  (s_seq (s_setF 10 (x_ix (x_tup (a_cons (x_c (.int 2)) (a_cons (x_c (.int 0)) (a_cons (x_c (.int 3)) (a_cons (x_c (.int 1)) (a_cons (x_c (.int 5)) (a_cons (x_c (.int 4)) (a_cons (x_c (.int 7)) (a_cons (x_c (.int 9)) (a_cons (x_c (.int 30)) (a_cons (x_c (.int 6)) a_nil))))))))))) (x_bin p_mod (x_cb c_int (a_cons (x_ix (x_var 1) (x_bin p_add (x_c (.int 5)) (x_var 4))) a_nil)) (x_c (.int 10)))))
  (s_seq (s_drop (x_app 3 (x_call F__law_row [] (a_cons (x_call F__law_draw [] (a_cons (x_var 0) (a_cons (x_bin p_add (x_c (.int 1)) (x_var 4)) (a_cons (x_var 10) a_nil)))) (a_cons (x_bin p_add (x_c (.int 2)) (x_bin p_mod (x_cb c_int (a_cons (x_ix (x_var 1) (x_c (.int 1))) a_nil)) (x_c (.int 8)))) (a_cons (x_ix (x_var 1) (x_bin p_add (x_c (.int 2)) (x_var 4))) a_nil))))))
  s_nx)))
  (s_seq (s_set 3 (x_cb c_tuple (a_cons (x_var 3) a_nil)))
  (s_seq (s_setF 5 (x_call F__law_draw [] (a_cons (x_var 0) (a_cons (x_c (.int 4)) (a_cons (x_c (.int 10)) a_nil)))))
  (s_seq (s_setF 6 (x_ix (x_tup (a_cons (x_c (.int 1)) (a_cons (x_c (.int 2)) (a_cons (x_c (.int 3)) (a_cons (x_c (.int 4)) (a_cons (x_c (.int 2)) (a_cons (x_bin p_pow (x_c (.int 10)) (x_c (.int 15))) (a_cons (x_c (.int 3)) (a_cons (x_c (.int 39)) a_nil))))))))) (x_bin p_mod (x_cb c_int (a_cons (x_ix (x_var 5) (x_c (.int 0))) a_nil)) (x_c (.int 8)))))
  (s_seq (s_setF 7 (x_ix (x_tup (a_cons (x_c (.int 1)) (a_cons (x_c (.int 2)) (a_cons (x_c (.int 3)) (a_cons (x_c (.int 1)) (a_cons (x_c (.int 5)) (a_cons (x_bin p_pow (x_c (.int 10)) (x_c (.int 29))) (a_cons (x_c (.int 4)) (a_cons (x_c (.int 1)) a_nil))))))))) (x_bin p_mod (x_cb c_int (a_cons (x_ix (x_var 5) (x_c (.int 1))) a_nil)) (x_c (.int 8)))))
  (s_seq (s_if (t_not (t_of (x_call F__law_steps [] (a_cons (x_ix (x_var 3) (x_c (.int 0))) (a_cons (x_var 6) (a_cons (x_var 7) a_nil))))))
  (s_ret (x_c (.bool false)))
  s_nx)
  (s_seq (s_if (t_not (t_of (x_call F__law_steps [] (a_cons (x_ix (x_var 3) (x_c (.int 1))) (a_cons (x_bin p_add (x_c (.int 1)) (x_bin p_mod (x_cb c_int (a_cons (x_ix (x_var 5) (x_c (.int 2))) a_nil)) (x_c (.int 4)))) (a_cons (x_bin p_add (x_c (.int 1)) (x_bin p_mod (x_cb c_int (a_cons (x_ix (x_var 5) (x_c (.int 3))) a_nil)) (x_c (.int 6)))) a_nil))))))
  (s_ret (x_c (.bool false)))
  s_nx)
  (s_seq (s_setF 8 (x_bin p_add (x_c (.int 1)) (x_bin p_mod (x_cb c_int (a_cons (x_ix (x_var 5) (x_c (.int 4))) a_nil)) (x_c (.int 5)))))
  (s_seq (s_setF 9 (x_call F__law_row [] (a_cons (x_call F__law_draw [] (a_cons (x_var 0) (a_cons (x_c (.int 5)) (a_cons (x_bin p_mod (x_cb c_int (a_cons (x_ix (x_var 5) (x_c (.int 5))) a_nil)) (x_c (.int 9))) a_nil)))) (a_cons (x_bin p_add (x_var 8) (x_c (.int 3))) (a_cons (x_c (.int 0)) a_nil)))))
  (s_seq (s_if (t_not (t_of (x_call F__law_placed [] (a_cons (x_var 9) (a_cons (x_bin p_add (x_c (.int 1)) (x_bin p_mod (x_cb c_int (a_cons (x_ix (x_var 5) (x_c (.int 6))) a_nil)) (x_c (.int 3)))) (a_cons (x_var 8) a_nil))))))
  (s_ret (x_c (.bool false)))
  s_nx)
  (s_seq (s_fz 3 (s_ret (x_and (x_call F__law_merges [] (a_cons (x_var 3) a_nil)) (x_call F__law_refused [] (a_cons (x_var 3) (a_cons (x_var 6) (a_cons (x_var 7) (a_cons (x_sl (x_var 5) (o_at (x_c (.int 7))) o_no) a_nil))))))))
  s_nx)))))))))))))))
def F_law : List PyData → Option Rs := runF 1 10 g_law
end
end K13
namespace K13
open PySem PySem.Spec PyProof.Rows L2 DL
def top (i : Nat) : Stmt := PySem.Challenge.pw_sincemarks_k13_whole_steps_go_to_the_nex.main.body.getD i (.Pass ⟨0, 0, 0, 0⟩)
abbrev s_is_integer : Stmt := top 6
abbrev s_is_natural : Stmt := top 7
abbrev s_falling : Stmt := top 9
abbrev s_row_after : Stmt := top 10
abbrev s_is_row : Stmt := top 12
abbrev s_merged : Stmt := top 13
abbrev s_stepped : Stmt := top 14
abbrev s_unlike_at : Stmt := top 15
abbrev s__law_draw : Stmt := top 17
abbrev s__law_same : Stmt := top 18
abbrev s__law_listing : Stmt := top 19
abbrev s__law_listed : Stmt := top 20
abbrev s__law_unlike : Stmt := top 21
abbrev s__law_row : Stmt := top 22
abbrev s__law_counted : Stmt := top 23
abbrev s__law_steps : Stmt := top 24
abbrev s__law_placed : Stmt := top 25
abbrev s__law_merges : Stmt := top 26
abbrev s__law_ask : Stmt := top 27
abbrev s__law_bent : Stmt := top 28
abbrev s__law_refused : Stmt := top 29
abbrev s_law : Stmt := top 30
def d_is_integer : He.DefD := ⟨("is_integer", none), "is_integer", "is_integer", defArgs s_is_integer, defBody s_is_integer, defScope s_is_integer, [], []⟩
def d_is_natural : He.DefD := ⟨("is_natural", none), "is_natural", "is_natural", defArgs s_is_natural, defBody s_is_natural, defScope s_is_natural, [], []⟩
def d_falling : He.DefD := ⟨("falling", none), "falling", "falling", defArgs s_falling, defBody s_falling, defScope s_falling, [], []⟩
def d_row_after : He.DefD := ⟨("row_after", none), "row_after", "row_after", defArgs s_row_after, defBody s_row_after, defScope s_row_after, [], []⟩
def d_is_row : He.DefD := ⟨("is_row", none), "is_row", "is_row", defArgs s_is_row, defBody s_is_row, defScope s_is_row, [], []⟩
def d_merged : He.DefD := ⟨("merged", none), "merged", "merged", defArgs s_merged, defBody s_merged, defScope s_merged, [], []⟩
def d_stepped : He.DefD := ⟨("stepped", none), "stepped", "stepped", defArgs s_stepped, defBody s_stepped, defScope s_stepped, [], []⟩
def d_unlike_at : He.DefD := ⟨("unlike_at", none), "unlike_at", "unlike_at", defArgs s_unlike_at, defBody s_unlike_at, defScope s_unlike_at, [], []⟩
def d__law_draw : He.DefD := ⟨("_law_draw", none), "_law_draw", "_law_draw", defArgs s__law_draw, defBody s__law_draw, defScope s__law_draw, [], []⟩
def d__law_same : He.DefD := ⟨("_law_same", none), "_law_same", "_law_same", defArgs s__law_same, defBody s__law_same, defScope s__law_same, [], []⟩
def d__law_listing : He.DefD := ⟨("_law_listing", none), "_law_listing", "_law_listing", defArgs s__law_listing, defBody s__law_listing, defScope s__law_listing, [], []⟩
def d__law_listed : He.DefD := ⟨("_law_listed", none), "_law_listed", "_law_listed", defArgs s__law_listed, defBody s__law_listed, defScope s__law_listed, [], []⟩
def d__law_unlike : He.DefD := ⟨("_law_unlike", none), "_law_unlike", "_law_unlike", defArgs s__law_unlike, defBody s__law_unlike, defScope s__law_unlike, [], []⟩
def d__law_row : He.DefD := ⟨("_law_row", none), "_law_row", "_law_row", defArgs s__law_row, defBody s__law_row, defScope s__law_row, [], []⟩
def d__law_counted : He.DefD := ⟨("_law_counted", none), "_law_counted", "_law_counted", defArgs s__law_counted, defBody s__law_counted, defScope s__law_counted, [], []⟩
def d__law_steps : He.DefD := ⟨("_law_steps", none), "_law_steps", "_law_steps", defArgs s__law_steps, defBody s__law_steps, defScope s__law_steps, [], []⟩
def d__law_placed : He.DefD := ⟨("_law_placed", none), "_law_placed", "_law_placed", defArgs s__law_placed, defBody s__law_placed, defScope s__law_placed, [], []⟩
def d__law_merges : He.DefD := ⟨("_law_merges", none), "_law_merges", "_law_merges", defArgs s__law_merges, defBody s__law_merges, defScope s__law_merges, [], []⟩
def d__law_ask : He.DefD := ⟨("_law_ask", none), "_law_ask", "_law_ask", defArgs s__law_ask, defBody s__law_ask, defScope s__law_ask, [], []⟩
def d__law_bent : He.DefD := ⟨("_law_bent", none), "_law_bent", "_law_bent", defArgs s__law_bent, defBody s__law_bent, defScope s__law_bent, [], []⟩
def d__law_refused : He.DefD := ⟨("_law_refused", none), "_law_refused", "_law_refused", defArgs s__law_refused, defBody s__law_refused, defScope s__law_refused, [], []⟩
def d_law : He.DefD := ⟨("law", none), "law", "law", defArgs s_law, defBody s_law, defScope s_law, [], []⟩
def ex : PySem.W.Frag → Bool := fun K => exB xcs xys xfs xtab K && blB [] K
abbrev s_i_NotUsable : Stmt := inCls (top 3) 0
def d_i_NotUsable : He.DefD := ⟨("NotUsable", some "__init__"), "__init__", "NotUsable.__init__", defArgs s_i_NotUsable, defBody s_i_NotUsable, defScope s_i_NotUsable, [], []⟩
abbrev s_i_Faulty : Stmt := inCls (top 4) 0
def d_i_Faulty : He.DefD := ⟨("Faulty", some "__init__"), "__init__", "Faulty.__init__", defArgs s_i_Faulty, defBody s_i_Faulty, defScope s_i_Faulty, [], []⟩
def fn : List He.DefD := [d_is_integer, d_is_natural, d_falling, d_row_after, d_is_row, d_merged, d_stepped, d_unlike_at, d__law_draw, d__law_same, d__law_listing, d__law_listed, d__law_unlike, d__law_row, d__law_counted, d__law_steps, d__law_placed, d__law_merges, d__law_ask, d__law_bent, d__law_refused, d_law, d_i_NotUsable, d_i_Faulty]
def fa : List He.Fa := [.glo "is_integer", .glo "is_natural", .glo "falling", .glo "row_after", .glo "is_row", .glo "merged", .glo "stepped", .glo "unlike_at", .glo "_law_draw", .glo "_law_same", .glo "_law_listing", .glo "_law_listed", .glo "_law_unlike", .glo "_law_row", .glo "_law_counted", .glo "_law_steps", .glo "_law_placed", .glo "_law_merges", .glo "_law_ask", .glo "_law_bent", .glo "_law_refused", .glo "law", .free "ValueError", .free "abs", .free "all", .free "bool", .free "int", .free "isinstance", .free "len", .free "list", .free "max", .free "min", .free "range", .free "sorted", .free "str", .free "tuple", .free "zip"]
def names0 : List Str := ["BookError", "Faulty", "MarkError", "NotUsable", "_law_ask", "_law_bent", "_law_counted", "_law_draw", "_law_listed", "_law_listing", "_law_merges", "_law_placed", "_law_refused", "_law_row", "_law_same", "_law_steps", "_law_unlike", "falling", "is_integer", "is_natural", "is_row", "merged", "row_after", "stepped", "unlike_at"]
def names : List Str := names0
abbrev R : PySem.W.OpenRow := PySem.W.OpenLaw.row PySem.Challenge.rw_sincemarks_k13_whole_steps_go_to_the_nex
abbrev hk : PySem.W.Hook := hookB 4 fa fn ex
def ob (s : PySem.W.SharedT) : He.AlD × Bool := obsBG 4 fa fn ex (HandSHeadRun.getT s)
theorem ob_eq (s : PySem.W.SharedT) : ob s = hk.obs s.abs := obsBG_eq (HandSHeadRun.getT_eq s)
theorem run (w : World) : HandSHeadRun.RunEq R (PySem.W.view R.prog [30]) hk ob 6000 names w := by
  intro os
  kernel_rfl
end K13
namespace K13
open PySem PySem.Spec PyProof.Rows L2 DL
structure Bi (mg : Str → Option Value) : Prop where
  abs : mg ("abs" : Str) = none
  all : mg ("all" : Str) = none
  bool : mg ("bool" : Str) = none
  int : mg ("int" : Str) = none
  isinstance : mg ("isinstance" : Str) = none
  len : mg ("len" : Str) = none
  list : mg ("list" : Str) = none
  max : mg ("max" : Str) = none
  min : mg ("min" : Str) = none
  range : mg ("range" : Str) = none
  sorted : mg ("sorted" : Str) = none
  str : mg ("str" : Str) = none
  tuple : mg ("tuple" : Str) = none
  zip : mg ("zip" : Str) = none
theorem sc_is_integer : FnScope ["thing"] ["thing"] (defScope s_is_integer) := ⟨rfl, rfl, rfl, by decide +kernel, rfl, by decide +kernel, by decide +kernel⟩
theorem sc_falling : FnScope ["members"] ["members"] (defScope s_falling) := ⟨rfl, rfl, rfl, by decide +kernel, rfl, by decide +kernel, by decide +kernel⟩
theorem sc_row_after : FnScope ["width", "floor", "row", "height", "member"] ["width", "floor", "row"] (defScope s_row_after) := ⟨rfl, rfl, rfl, by decide +kernel, rfl, by decide +kernel, by decide +kernel⟩
theorem sc__law_draw : FnScope ["_law_script", "_law_at", "_law_many", "_law_cell", "_law_row_here", "_law_mixed", "_law_k"] ["_law_script", "_law_at", "_law_many"] (defScope s__law_draw) := ⟨rfl, rfl, rfl, by decide +kernel, rfl, by decide +kernel, by decide +kernel⟩
theorem sc__law_listing : FnScope ["_law_width", "_law_greatest", "_law_layer", "_law_rows", "_law_k", "_law_longer", "_law_row_here", "_law_value"] ["_law_width", "_law_greatest"] (defScope s__law_listing) := ⟨rfl, rfl, rfl, by decide +kernel, rfl, by decide +kernel, by decide +kernel⟩
theorem sc__law_row : FnScope ["_law_row_here", "_law_most", "_law_manner", "_law_members", "_law_pick"] ["_law_row_here", "_law_most", "_law_manner"] (defScope s__law_row) := ⟨rfl, rfl, rfl, by decide +kernel, rfl, by decide +kernel, by decide +kernel⟩
theorem sc__law_counted : FnScope ["_law_width", "_law_floor", "_law_row_here", "_law_best", "_law_height", "_law_member"] ["_law_width", "_law_floor", "_law_row_here"] (defScope s__law_counted) := ⟨rfl, rfl, rfl, by decide +kernel, rfl, by decide +kernel, by decide +kernel⟩
theorem sc__law_bent : FnScope ["_law_row_here", "_law_good", "_law_kind"] ["_law_row_here", "_law_good"] (defScope s__law_bent) := ⟨rfl, rfl, rfl, by decide +kernel, rfl, by decide +kernel, by decide +kernel⟩
theorem sc_is_natural : FnScope ["thing"] ["thing"] (defScope s_is_natural) := ⟨rfl, rfl, rfl, by decide +kernel, rfl, by decide +kernel, by decide +kernel⟩
theorem sc_is_row : FnScope ["thing", "k", "member"] ["thing"] (defScope s_is_row) := ⟨rfl, rfl, rfl, by decide +kernel, rfl, by decide +kernel, by decide +kernel⟩
theorem sc_merged : FnScope ["rows", "row", "member"] ["rows"] (defScope s_merged) := ⟨rfl, rfl, rfl, by decide +kernel, rfl, by decide +kernel, by decide +kernel⟩
theorem sc_stepped : FnScope ["width", "floor", "row"] ["width", "floor", "row"] (defScope s_stepped) := ⟨rfl, rfl, rfl, by decide +kernel, rfl, by decide +kernel, by decide +kernel⟩
theorem sc_unlike_at : FnScope ["one", "other", "left", "right"] ["one", "other"] (defScope s_unlike_at) := ⟨rfl, rfl, rfl, by decide +kernel, rfl, by decide +kernel, by decide +kernel⟩
theorem sc__law_same : FnScope ["_law_one", "_law_other", "_law_k"] ["_law_one", "_law_other"] (defScope s__law_same) := ⟨rfl, rfl, rfl, by decide +kernel, rfl, by decide +kernel, by decide +kernel⟩
theorem sc__law_unlike : FnScope ["_law_rows", "_law_low", "_law_high", "_law_told", "_law_value"] ["_law_rows", "_law_low", "_law_high"] (defScope s__law_unlike) := ⟨rfl, rfl, rfl, by decide +kernel, rfl, by decide +kernel, by decide +kernel⟩
theorem sc__law_steps : FnScope ["_law_row_here", "_law_width", "_law_floor", "_law_due", "_law_told", "_law_k", "_law_less"] ["_law_row_here", "_law_width", "_law_floor"] (defScope s__law_steps) := ⟨rfl, rfl, rfl, by decide +kernel, rfl, by decide +kernel, by decide +kernel⟩
theorem sc__law_placed : FnScope ["_law_row_here", "_law_width", "_law_floor", "_law_rows", "_law_seen", "_law_place", "_law_k", "_law_due", "_law_member"] ["_law_row_here", "_law_width", "_law_floor"] (defScope s__law_placed) := ⟨rfl, rfl, rfl, by decide +kernel, rfl, by decide +kernel, by decide +kernel⟩
theorem sc__law_merges : FnScope ["_law_rows", "_law_together", "_law_row_here", "_law_due", "_law_twice", "_law_apart", "_law_member", "_law_many", "_law_pair"] ["_law_rows"] (defScope s__law_merges) := ⟨rfl, rfl, rfl, by decide +kernel, rfl, by decide +kernel, by decide +kernel⟩
theorem sc__law_ask : FnScope ["_law_number", "_law_one", "_law_two", "_law_three", "e"] ["_law_number", "_law_one", "_law_two", "_law_three"] (defScope s__law_ask) := ⟨rfl, rfl, rfl, by decide +kernel, rfl, by decide +kernel, by decide +kernel⟩
theorem sc__law_listed : FnScope ["_law_width", "_law_greatest", "_law_rows", "_law_k", "_law_due", "_law_other"] ["_law_width", "_law_greatest"] (defScope s__law_listed) := ⟨rfl, rfl, rfl, by decide +kernel, rfl, by decide +kernel, by decide +kernel⟩
theorem sc__law_refused : FnScope ["_law_rows", "_law_width", "_law_floor", "_law_row_here", "_law_bad", "_law_odd", "_law_wrong"] ["_law_rows", "_law_width", "_law_floor", "_law_row_here"] (defScope s__law_refused) := ⟨rfl, rfl, rfl, by decide +kernel, rfl, by decide +kernel, by decide +kernel⟩
theorem sc_law : FnScope ["_law_script", "_law_first", "_law_size", "_law_rows", "_law_k", "_law_bounds", "_law_width", "_law_floor", "_law_lift", "_law_small", "_law_many"] ["_law_script"] (defScope s_law) := ⟨rfl, rfl, rfl, by decide +kernel, rfl, by decide +kernel, by decide +kernel⟩
theorem sc_i_NotUsable : FnScope ["self", "word", "at"] ["self", "word", "at"] (defScope s_i_NotUsable) := ⟨rfl, rfl, rfl, by decide +kernel, rfl, by decide +kernel, by decide +kernel⟩
section
variable {P : Program} {w : World} {K : PySem.W.Frag} {mg : Str → Option Value} {base : Heap} {f : Addr} {fd : FuncData} {dvs : List V} {kws : List (Str × V)}
theorem ok_is_integer (B : Bi mg) (F : FunD K "is_integer" "is_integer" (defArgs s_is_integer) (defBody s_is_integer) (defScope s_is_integer) dvs kws f fd) : FnOk P w K mg base CX0 1 f fd ["thing"] (spD K 1 F_is_integer) :=
  fnD F sc_is_integer rfl rfl fun cdv A outer s H E hr => (ssd_one (sd_ret (ed_and (ed_isi .int (ed_var 0) B.isinstance B.int) (ed_one (ed_not (ed_isi .bool (ed_var 0) B.isinstance B.bool))))))
theorem ok_falling (B : Bi mg) (F : FunD K "falling" "falling" (defArgs s_falling) (defBody s_falling) (defScope s_falling) dvs kws f fd) : FnOk P w K mg base CX0 1 f fd ["members"] (spD K 1 F_falling) :=
  fnD F sc_falling rfl rfl fun cdv A outer s H E hr => (ssd_one (sd_ret (ed_ct vc_tuple call_tuple_ofE B.tuple (ad_cons (ed_srt (ad_cons (ed_var 0) ad_nil) B.sorted) ad_nil))))
theorem ok_row_after (B : Bi mg) (F : FunD K "row_after" "row_after" (defArgs s_row_after) (defBody s_row_after) (defScope s_row_after) dvs kws f fd) : FnOk P w K mg base CX0 1 f fd ["width", "floor", "row"] (spD K 3 F_row_after) :=
  fnD F sc_row_after rfl rfl fun cdv A outer s H E hr => (ssd_cons (sd_setF 3 sc_row_after.nd (ed_var 1))
  (ssd_cons (sd_if (WD.td (wd_and (td_cmp vq_ge (oq_ge hr.units) (nomark _) (ed_cb vc_len call_len_seq B.len (ad_cons (ed_var 2) ad_nil)) (ed_var 0)) (wd_and1 (td_cmp vq_ge (oq_ge hr.units) (nomark _) (ed_ix (ed_var 2) (ed_op vb_sub op_sub (ed_var 0) ed_int)) (ed_var 1)))))
  (ssd_one (sd_setF 3 sc_row_after.nd (ed_op vb_add op_add3 (ed_ix (ed_var 2) (ed_op vb_sub op_sub (ed_var 0) ed_int)) ed_int)))
  ssd_nil)
  (ssd_cons (sd_ret (ed_op vb_add op_add3 (ed_ct vc_tuple call_tuple_ofE B.tuple (ad_cons (ed_lc (own := [("member", 4)]) rfl sc_row_after.nd (id_seq (ed_var 2)) (by first | decide | with_unfolding_all rfl) (by decide) (fun _ _ _ _ _ => (gd_name (i := 4) sc_row_after.nd rfl (by first | exact .inl rfl | exact .inr rfl))) (fun _ _ _ _ _ => (ptd_one (td_cmp vq_ge (oq_ge hr.units) (nomark _) (ed_var 4) (ed_var 3)))) (fun _ _ _ _ _ => (ed_var 4))) ad_nil)) (ed_tup (ad_cons (ed_var 3) ad_nil))))
  ssd_nil)))
theorem ok__law_draw (B : Bi mg) (F : FunD K "_law_draw" "_law_draw" (defArgs s__law_draw) (defBody s__law_draw) (defScope s__law_draw) dvs kws f fd) : FnOk P w K mg base CX0 1 f fd ["_law_script", "_law_at", "_law_many"] (spD K 3 F__law_draw) :=
  fnD F sc__law_draw rfl rfl fun cdv A outer s H E hr => (ssd_cons (sd_if (td_cmp vb_eq (op_eqD hr.units) (nomark _) (ed_cb vc_len call_len_seq B.len (ad_cons (ed_var 0) ad_nil)) ed_int)
  (ssd_one (sd_ret (ed_lc (own := [("_law_k", 6)]) rfl sc__law_draw.nd (id_rng1 (ed_var 2) B.range) (by first | decide | with_unfolding_all rfl) (by decide) (fun _ _ _ _ _ => (gd_name (i := 6) sc__law_draw.nd rfl (by first | exact .inl rfl | exact .inr rfl))) (fun _ _ _ _ _ => ptd_nil) (fun _ _ _ _ _ => ed_int))))
  ssd_nil)
  (ssd_cons (sd_setF 3 sc__law_draw.nd (ed_ct vc_int call_int1 B.int (ad_cons (ed_ix (ed_var 0) (ed_op vb_mod op_mod (ed_ct vc_int call_int1 B.int (ad_cons (ed_var 1) ad_nil)) (ed_cb vc_len call_len_seq B.len (ad_cons (ed_var 0) ad_nil)))) ad_nil)))
  (ssd_cons (sd_set 4 sc__law_draw.nd (ed_lst ad_nil))
  (ssd_cons (sd_if (WD.td (wd_and (td_cmp vq_lt (oq_lt hr.units) (nomark _) (ed_var 1) (ed_cb vc_len call_len_seq B.len (ad_cons (ed_var 0) ad_nil))) (wd_and1 (td_cmp vq_ge (oq_ge hr.units) (nomark _) (ed_cb vc_abs call_abs B.abs (ad_cons (ed_var 3) ad_nil)) (ed_op vb_pow op_pow ed_int ed_int)))))
  (ssd_cons (sd_for rfl PassesOwn.never (id_rng1 (ed_var 2) B.range) (gd_name (i := 6) sc__law_draw.nd rfl (by first | exact .inl rfl | exact .inr rfl))
  (ssd_cons (sd_expr (ed_app 4 (ed_op vb_mod op_mod (ed_ct vc_int call_int1 B.int (ad_cons (ed_var 3) ad_nil)) ed_int)))
  (ssd_cons (sd_setF 3 sc__law_draw.nd (ed_op vb_div op_fdivW (ed_var 3) ed_int))
  ssd_nil)))
  (ssd_cons (sd_ret (ed_var 4))
  ssd_nil))
  ssd_nil)
  (ssd_cons (sd_setF 5 sc__law_draw.nd (ed_op vb_mod op_mod (ed_ct vc_int call_int1 B.int (ad_cons (ed_op vb_add op_add3 (ed_op vb_add op_add3 (ed_op vb_add op_add3 (ed_op vb_mul op_mul2 (ed_var 3) ed_int) (ed_op vb_mul op_mul2 (ed_var 1) ed_int)) (ed_op vb_mul op_mul2 (ed_cb vc_len call_len_seq B.len (ad_cons (ed_var 0) ad_nil)) ed_int)) ed_int) ad_nil)) ed_int))
  (ssd_cons (sd_for rfl PassesOwn.never (id_rng1 (ed_var 2) B.range) (gd_name (i := 6) sc__law_draw.nd rfl (by first | exact .inl rfl | exact .inr rfl))
  (ssd_cons (sd_setF 5 sc__law_draw.nd (ed_op vb_mod op_mod (ed_ct vc_int call_int1 B.int (ad_cons (ed_op vb_add op_add3 (ed_op vb_mul op_mul2 (ed_var 5) ed_int) ed_int) ad_nil)) ed_int))
  (ssd_cons (sd_expr (ed_app 4 (ed_op vb_mod op_mod (ed_ct vc_int call_int1 B.int (ad_cons (ed_op vb_div op_fdivW (ed_var 5) ed_int) ad_nil)) ed_int)))
  ssd_nil)))
  (ssd_cons (sd_ret (ed_var 4))
  ssd_nil)))))))
theorem ok__law_listing (B : Bi mg) (F : FunD K "_law_listing" "_law_listing" (defArgs s__law_listing) (defBody s__law_listing) (defScope s__law_listing) dvs kws f fd) : FnOk P w K mg base CX0 1 f fd ["_law_width", "_law_greatest"] (spD K 2 F__law_listing) :=
  fnD F sc__law_listing rfl rfl fun cdv A outer s H E hr => (ssd_cons (sd_setF 2 sc__law_listing.nd (ed_lst (ad_cons (ed_tup ad_nil) ad_nil)))
  (ssd_cons (sd_setF 3 sc__law_listing.nd (ed_lst (ad_cons (ed_tup ad_nil) ad_nil)))
  (ssd_cons (sd_for rfl PassesOwn.never (id_rng1 (ed_var 0) B.range) (gd_name (i := 4) sc__law_listing.nd rfl (by first | exact .inl rfl | exact .inr rfl))
  (ssd_cons (sd_set 5 sc__law_listing.nd (ed_lst ad_nil))
  (ssd_cons (sd_for rfl PassesOwn.never (id_seq (ed_ct vc_list call_list_of B.list (ad_cons (ed_var 2) ad_nil))) (gd_name (i := 6) sc__law_listing.nd rfl (by first | exact .inl rfl | exact .inr rfl))
  (ssd_one (sd_for rfl PassesOwn.never (id_rng2 ed_int (ed_op vb_add op_add3 ed_int (ed_var 1)) B.range) (gd_name (i := 7) sc__law_listing.nd rfl (by first | exact .inl rfl | exact .inr rfl))
  (ssd_one (sd_if (WD.td (wd_or (td_cmp vb_eq (op_eqD hr.units) (nomark _) (ed_cb vc_len call_len_seq B.len (ad_cons (ed_var 6) ad_nil)) ed_int) (wd_or1 (td_cmp vq_le (oq_le hr.units) (nomark _) (ed_var 7) (ed_ix (ed_var 6) (ed_neg ed_int))))))
  (ssd_one (sd_expr (ed_app 5 (ed_op vb_add op_add3 (ed_var 6) (ed_tup (ad_cons (ed_var 7) ad_nil))))))
  ssd_nil)))))
  (ssd_cons (SD.fz 5 (sd_setF 2 sc__law_listing.nd (ed_var 5)))
  (ssd_cons (sd_setF 3 sc__law_listing.nd (ed_op vb_add op_add3 (ed_var 3) (ed_var 5)))
  ssd_nil)))))
  (ssd_cons (sd_ret (ed_cb vc_sortedB (cr_sortedB hr.units) B.sorted (ad_cons (ed_var 3) ad_nil)))
  ssd_nil))))
theorem ok__law_row (B : Bi mg) (F : FunD K "_law_row" "_law_row" (defArgs s__law_row) (defBody s__law_row) (defScope s__law_row) dvs kws f fd) : FnOk P w K mg base CX0 1 f fd ["_law_row_here", "_law_most", "_law_manner"] (spD K 3 F__law_row) :=
  fnD F sc__law_row rfl rfl fun cdv A outer s H E hr => (ssd_cons (sd_set 3 sc__law_row.nd (ed_lst ad_nil))
  (ssd_cons (sd_for rfl PassesOwn.never (id_seq (ed_var 0)) (gd_name (i := 4) sc__law_row.nd rfl (by first | exact .inl rfl | exact .inr rfl))
  (ssd_one (sd_if (td_cmp vb_eq (op_eqD hr.units) (nomark _) (ed_op vb_mod op_mod (ed_ct vc_int call_int1 B.int (ad_cons (ed_var 2) ad_nil)) ed_int) ed_int)
  (ssd_one (sd_expr (ed_app 3 (ed_op vb_add op_add3 (ed_op vb_pow op_pow ed_int ed_int) (ed_op vb_mod op_mod (ed_ct vc_int call_int1 B.int (ad_cons (ed_var 4) ad_nil)) ed_int)))))
  (ssd_one (sd_if (td_cmp vb_eq (op_eqD hr.units) (nomark _) (ed_op vb_mod op_mod (ed_ct vc_int call_int1 B.int (ad_cons (ed_var 2) ad_nil)) ed_int) ed_int)
  (ssd_one (sd_expr (ed_app 3 (ed_ix (ed_tup (ad_cons ed_int (ad_cons ed_int (ad_cons (ed_op vb_pow op_pow ed_int ed_int) (ad_cons (ed_op vb_pow op_pow ed_int ed_int) (ad_cons (ed_op vb_add op_add3 (ed_op vb_pow op_pow ed_int ed_int) ed_int) ad_nil)))))) (ed_op vb_mod op_mod (ed_ct vc_int call_int1 B.int (ad_cons (ed_var 4) ad_nil)) ed_int)))))
  (ssd_one (sd_expr (ed_app 3 (ed_op vb_add op_add3 ed_int (ed_op vb_mod op_mod (ed_ct vc_int call_int1 B.int (ad_cons (ed_var 4) ad_nil)) (ed_var 1)))))))))))
  (ssd_cons (sd_ret (ed_ct vc_tuple call_tuple_ofE B.tuple (ad_cons (ed_srt (ad_cons (ed_var 3) ad_nil) B.sorted) ad_nil)))
  ssd_nil)))
theorem ok__law_counted (B : Bi mg) (F : FunD K "_law_counted" "_law_counted" (defArgs s__law_counted) (defBody s__law_counted) (defScope s__law_counted) dvs kws f fd) : FnOk P w K mg base CX0 1 f fd ["_law_width", "_law_floor", "_law_row_here"] (spD K 3 F__law_counted) :=
  fnD F sc__law_counted rfl rfl fun cdv A outer s H E hr => (ssd_cons (sd_setF 3 sc__law_counted.nd ed_non)
  (ssd_cons (sd_for rfl PassesOwn.never (id_seq (ed_op vb_add op_add3 (ed_lst (ad_cons (ed_var 1) ad_nil)) (ed_lc (own := [("_law_member", 5)]) rfl sc__law_counted.nd (id_seq (ed_var 2)) (by first | decide | with_unfolding_all rfl) (by decide) (fun _ _ _ _ _ => (gd_name (i := 5) sc__law_counted.nd rfl (by first | exact .inl rfl | exact .inr rfl))) (fun _ _ _ _ _ => ptd_nil) (fun _ _ _ _ _ => (ed_op vb_add op_add3 (ed_var 5) ed_int))))) (gd_name (i := 4) sc__law_counted.nd rfl (by first | exact .inl rfl | exact .inr rfl))
  (ssd_one (sd_if (WD.td (wd_and (td_cmp vq_ge (oq_ge hr.units) (nomark _) (ed_var 4) (ed_var 1)) (wd_and1 (td_cmp vq_lt (oq_lt hr.units) (nomark _) (ed_cb vc_len call_len_seq B.len (ad_cons (ed_lc (own := [("_law_member", 5)]) rfl sc__law_counted.nd (id_seq (ed_var 2)) (by first | decide | with_unfolding_all rfl) (by decide) (fun _ _ _ _ _ => (gd_name (i := 5) sc__law_counted.nd rfl (by first | exact .inl rfl | exact .inr rfl))) (fun _ _ _ _ _ => (ptd_one (td_cmp vq_ge (oq_ge hr.units) (nomark _) (ed_var 5) (ed_var 4)))) (fun _ _ _ _ _ => (ed_var 5))) ad_nil)) (ed_var 0)))))
  (ssd_one (sd_if (WD.td (wd_or (td_cmp vb_is op_is2 (nomark _) (ed_var 3) ed_non) (wd_or1 (td_cmp vq_lt (oq_lt hr.units) (nomark _) (ed_var 4) (ed_var 3)))))
  (ssd_one (sd_setF 3 sc__law_counted.nd (ed_var 4)))
  ssd_nil))
  ssd_nil)))
  (ssd_cons (sd_ret (ed_ct vc_tuple call_tuple_ofE B.tuple (ad_cons (ed_op vb_add op_add3 (ed_lc (own := [("_law_member", 5)]) rfl sc__law_counted.nd (id_seq (ed_var 2)) (by first | decide | with_unfolding_all rfl) (by decide) (fun _ _ _ _ _ => (gd_name (i := 5) sc__law_counted.nd rfl (by first | exact .inl rfl | exact .inr rfl))) (fun _ _ _ _ _ => (ptd_one (td_cmp vq_ge (oq_ge hr.units) (nomark _) (ed_var 5) (ed_var 3)))) (fun _ _ _ _ _ => (ed_var 5))) (ed_lst (ad_cons (ed_var 3) ad_nil))) ad_nil)))
  ssd_nil)))
theorem ok__law_bent (B : Bi mg) (F : FunD K "_law_bent" "_law_bent" (defArgs s__law_bent) (defBody s__law_bent) (defScope s__law_bent) dvs kws f fd) : FnOk P w K mg base CX0 1 f fd ["_law_row_here", "_law_good"] (spD K 2 F__law_bent) :=
  fnD F sc__law_bent rfl rfl fun cdv A outer s H E hr => (ssd_cons (sd_setF 2 sc__law_bent.nd (ed_op vb_mod op_mod (ed_ct vc_int call_int1 B.int (ad_cons (ed_ix (ed_var 0) ed_int) ad_nil)) ed_int))
  (ssd_cons (sd_if (td_cmp vb_eq (op_eqD hr.units) (nomark _) (ed_var 2) ed_int)
  (ssd_one (sd_ret (ed_frz (ed_ct vc_list call_list_of B.list (ad_cons (ed_var 1) ad_nil)))))
  ssd_nil)
  (ssd_cons (sd_if (td_cmp vb_eq (op_eqD hr.units) (nomark _) (ed_var 2) ed_int)
  (ssd_one (sd_ret (ed_op vb_add op_add3 (ed_var 1) (ed_tup (ad_cons ed_int ad_nil)))))
  ssd_nil)
  (ssd_cons (sd_if (td_cmp vb_eq (op_eqD hr.units) (nomark _) (ed_var 2) ed_int)
  (ssd_one (sd_ret (ed_op vb_add op_add3 (ed_var 1) (ed_tup (ad_cons ed_int (ad_cons ed_int ad_nil))))))
  ssd_nil)
  (ssd_cons (sd_if (td_cmp vb_eq (op_eqD hr.units) (nomark _) (ed_var 2) ed_int)
  (ssd_one (sd_ret (ed_ix (ed_tup (ad_cons ed_non (ad_cons ed_int (ad_cons ed_str (ad_cons ed_bl (ad_cons ed_str ad_nil)))))) (ed_op vb_mod op_mod (ed_ct vc_int call_int1 B.int (ad_cons (ed_ix (ed_var 0) ed_int) ad_nil)) ed_int))))
  ssd_nil)
  (ssd_cons (sd_if (td_cmp vb_eq (op_eqD hr.units) (nomark _) (ed_var 2) ed_int)
  (ssd_one (sd_ret (ed_op vb_add op_add3 (ed_var 1) (ed_tup (ad_cons ed_bl ad_nil)))))
  ssd_nil)
  (ssd_cons (sd_if (td_cmp vb_eq (op_eqD hr.units) (nomark _) (ed_var 2) ed_int)
  (ssd_one (sd_ret (ed_op vb_add op_add3 (ed_tup (ad_cons ed_int (ad_cons ed_int (ad_cons ed_int ad_nil)))) (ed_var 1))))
  ssd_nil)
  (ssd_cons (sd_if (td_cmp vb_eq (op_eqD hr.units) (nomark _) (ed_var 2) ed_int)
  (ssd_one (sd_ret (ed_op vb_add op_add3 (ed_var 1) (ed_tup (ad_cons (ed_neg ed_int) ad_nil)))))
  ssd_nil)
  (ssd_cons (sd_ret (ed_op vb_add op_add3 (ed_tup (ad_cons ed_str ad_nil)) (ed_var 1)))
  ssd_nil)))))))))
theorem ok_is_natural (F : FunD K "is_natural" "is_natural" (defArgs s_is_natural) (defBody s_is_natural) (defScope s_is_natural) dvs kws f fd) (c_is_integer : Kf P w K mg base 1 "is_integer" (spD K 1 F_is_integer) []) : FnOk P w K mg base CX0 2 f fd ["thing"] (spD K 1 F_is_natural) :=
  fnD F sc_is_natural rfl rfl fun cdv A outer s H E hr => (ssd_one (sd_ret (ed_and (ed_call c_is_integer hr (by decide) dvs0 runF_len (ad_cons (ed_var 0) ad_nil)) (ed_one (ed_cmp vq_ge (oq_ge hr.units) (nomark _) (ed_var 0) ed_int)))))
theorem ok_is_row (B : Bi mg) (F : FunD K "is_row" "is_row" (defArgs s_is_row) (defBody s_is_row) (defScope s_is_row) dvs kws f fd) (c_is_natural : Kf P w K mg base 2 "is_natural" (spD K 1 F_is_natural) []) : FnOk P w K mg base CX0 3 f fd ["thing"] (spD K 1 F_is_row) :=
  fnD F sc_is_row rfl rfl fun cdv A outer s H E hr => (ssd_cons (sd_if (td_not (td_val (ed_isi .tuple (ed_var 0) B.isinstance B.tuple)))
  (ssd_one (sd_ret ed_bl))
  ssd_nil)
  (ssd_cons (sd_if (td_not (td_val (ed_cb vc_all (cr_all rfl) B.all (ad_cons (ed_lc (own := [("member", 2)]) rfl sc_is_row.nd (id_seq (ed_var 0)) (by first | decide | with_unfolding_all rfl) (by decide) (fun _ _ _ _ _ => (gd_name (i := 2) sc_is_row.nd rfl (by first | exact .inl rfl | exact .inr rfl))) (fun _ _ _ _ _ => ptd_nil) (fun _ _ _ _ _ => (ed_call c_is_natural hr (by decide) dvs0 runF_len (ad_cons (ed_var 2) ad_nil)))) ad_nil))))
  (ssd_one (sd_ret ed_bl))
  ssd_nil)
  (ssd_cons (sd_ret (ed_cb vc_all (cr_all rfl) B.all (ad_cons (ed_lc (own := [("k", 1)]) rfl sc_is_row.nd (id_rng1 (ed_op vb_sub op_sub (ed_cb vc_len call_len_seq B.len (ad_cons (ed_var 0) ad_nil)) ed_int) B.range) (by first | decide | with_unfolding_all rfl) (by decide) (fun _ _ _ _ _ => (gd_name (i := 1) sc_is_row.nd rfl (by first | exact .inl rfl | exact .inr rfl))) (fun _ _ _ _ _ => ptd_nil) (fun _ _ _ _ _ => (ed_cmp vq_ge (oq_ge hr.units) (nomark _) (ed_ix (ed_var 0) (ed_var 1)) (ed_ix (ed_var 0) (ed_op vb_add op_add3 (ed_var 1) ed_int))))) ad_nil)))
  ssd_nil)))
theorem okx_merged (B : Bi mg) (XI : Xi K mg xcs xys xfs xtab) (XT_NotUsable : ExT P w K mg base "NotUsable" ["word", "at"]) (F : FunD K "merged" "merged" (defArgs s_merged) (defBody s_merged) (defScope s_merged) dvs kws f fd) (c_falling : Kf P w K mg base 1 "falling" (spD K 1 F_falling) []) (c_is_row : Kf P w K mg base 3 "is_row" (spD K 1 F_is_row) []) : FnOk P w K mg base (L2N.CX P w) 4 f fd ["rows"] (spX K mg 1 FY_merged) :=
  fnX F sc_merged rfl rfl fun cdv A outer s H E hr tk => (ssdx_cons (sdx_if (WD.td (wd_or (td_not (td_val (ed_isi .tuple (ed_var 0) B.isinstance B.tuple))) (wd_or1 (td_not (td_val (ed_cb vc_all (cr_all rfl) B.all (ad_cons (ed_lc (own := [("row", 1)]) rfl sc_merged.nd (id_seq (ed_var 0)) (by first | decide | with_unfolding_all rfl) (by decide) (fun _ _ _ _ _ => (gd_name (i := 1) sc_merged.nd rfl (by first | exact .inl rfl | exact .inr rfl))) (fun _ _ _ _ _ => ptd_nil) (fun _ _ _ _ _ => (ed_call c_is_row hr (by decide) dvs0 runF_len (ad_cons (ed_var 1) ad_nil)))) ad_nil)))))))
  (ssdx_one (sdx_raise XT_NotUsable hr (by decide) rfl tk (ad_cons ed_str (ad_cons (ed_neg ed_int) ad_nil))))
  ssdx_nil)
  (ssdx_cons (SD.x (sd_ret (ed_call c_falling hr (by decide) dvs0 runF_len (ad_cons (ed_lc2 (own := [("row", 1), ("member", 2)]) (vs1 := [2]) rfl sc_merged.nd (id_seq (ed_var 0)) (by first | decide | with_unfolding_all rfl) (by decide) (by decide) (by decide) (fun _ _ _ _ _ => (gd_name (i := 1) sc_merged.nd rfl (by first | exact .inl rfl | exact .inr rfl))) (fun _ _ _ _ _ => ptd_nil) (fun _ _ _ _ _ => (id_seq (ed_var 1))) (fun _ _ _ _ _ => (gd_name (i := 2) sc_merged.nd rfl (by first | exact .inl rfl | exact .inr rfl))) (fun _ _ _ _ _ => ptd_nil) (fun _ _ _ _ _ => (ed_var 2))) ad_nil))))
  ssdx_nil))
theorem ok_merged (B : Bi mg) (F : FunD K "merged" "merged" (defArgs s_merged) (defBody s_merged) (defScope s_merged) dvs kws f fd) (c_falling : Kf P w K mg base 1 "falling" (spD K 1 F_falling) []) (c_is_row : Kf P w K mg base 3 "is_row" (spD K 1 F_is_row) []) : FnOk P w K mg base CX0 4 f fd ["rows"] (spD K 1 F_merged) :=
  fnD F sc_merged rfl rfl fun cdv A outer s H E hr => (ssd_cons (sd_if (WD.td (wd_or (td_not (td_val (ed_isi .tuple (ed_var 0) B.isinstance B.tuple))) (wd_or1 (td_not (td_val (ed_cb vc_all (cr_all rfl) B.all (ad_cons (ed_lc (own := [("row", 1)]) rfl sc_merged.nd (id_seq (ed_var 0)) (by first | decide | with_unfolding_all rfl) (by decide) (fun _ _ _ _ _ => (gd_name (i := 1) sc_merged.nd rfl (by first | exact .inl rfl | exact .inr rfl))) (fun _ _ _ _ _ => ptd_nil) (fun _ _ _ _ _ => (ed_call c_is_row hr (by decide) dvs0 runF_len (ad_cons (ed_var 1) ad_nil)))) ad_nil)))))))
  (ssd_one sd_never)
  ssd_nil)
  (ssd_cons (sd_ret (ed_call c_falling hr (by decide) dvs0 runF_len (ad_cons (ed_lc2 (own := [("row", 1), ("member", 2)]) (vs1 := [2]) rfl sc_merged.nd (id_seq (ed_var 0)) (by first | decide | with_unfolding_all rfl) (by decide) (by decide) (by decide) (fun _ _ _ _ _ => (gd_name (i := 1) sc_merged.nd rfl (by first | exact .inl rfl | exact .inr rfl))) (fun _ _ _ _ _ => ptd_nil) (fun _ _ _ _ _ => (id_seq (ed_var 1))) (fun _ _ _ _ _ => (gd_name (i := 2) sc_merged.nd rfl (by first | exact .inl rfl | exact .inr rfl))) (fun _ _ _ _ _ => ptd_nil) (fun _ _ _ _ _ => (ed_var 2))) ad_nil)))
  ssd_nil))
theorem okx_stepped (XI : Xi K mg xcs xys xfs xtab) (XT_NotUsable : ExT P w K mg base "NotUsable" ["word", "at"]) (F : FunD K "stepped" "stepped" (defArgs s_stepped) (defBody s_stepped) (defScope s_stepped) dvs kws f fd) (c_is_natural : Kf P w K mg base 2 "is_natural" (spD K 1 F_is_natural) []) (c_is_row : Kf P w K mg base 3 "is_row" (spD K 1 F_is_row) []) (c_row_after : Kf P w K mg base 1 "row_after" (spD K 3 F_row_after) []) : FnOk P w K mg base (L2N.CX P w) 4 f fd ["width", "floor", "row"] (spX K mg 3 FY_stepped) :=
  fnX F sc_stepped rfl rfl fun cdv A outer s H E hr tk => (ssdx_cons (sdx_if (td_not (td_val (ed_call c_is_natural hr (by decide) dvs0 runF_len (ad_cons (ed_var 0) ad_nil))))
  (ssdx_one (sdx_raise XT_NotUsable hr (by decide) rfl tk (ad_cons ed_str (ad_cons (ed_neg ed_int) ad_nil))))
  ssdx_nil)
  (ssdx_cons (sdx_if (td_not (td_val (ed_call c_is_natural hr (by decide) dvs0 runF_len (ad_cons (ed_var 1) ad_nil))))
  (ssdx_one (sdx_raise XT_NotUsable hr (by decide) rfl tk (ad_cons ed_str (ad_cons (ed_neg ed_int) ad_nil))))
  ssdx_nil)
  (ssdx_cons (sdx_if (td_not (td_val (ed_call c_is_row hr (by decide) dvs0 runF_len (ad_cons (ed_var 2) ad_nil))))
  (ssdx_one (sdx_raise XT_NotUsable hr (by decide) rfl tk (ad_cons ed_str (ad_cons (ed_neg ed_int) ad_nil))))
  ssdx_nil)
  (ssdx_cons (SD.x (sd_ret (ed_call c_row_after hr (by decide) dvs0 runF_len (ad_cons (ed_var 0) (ad_cons (ed_var 1) (ad_cons (ed_var 2) ad_nil))))))
  ssdx_nil))))
theorem ok_stepped (F : FunD K "stepped" "stepped" (defArgs s_stepped) (defBody s_stepped) (defScope s_stepped) dvs kws f fd) (c_is_natural : Kf P w K mg base 2 "is_natural" (spD K 1 F_is_natural) []) (c_is_row : Kf P w K mg base 3 "is_row" (spD K 1 F_is_row) []) (c_row_after : Kf P w K mg base 1 "row_after" (spD K 3 F_row_after) []) : FnOk P w K mg base CX0 4 f fd ["width", "floor", "row"] (spD K 3 F_stepped) :=
  fnD F sc_stepped rfl rfl fun cdv A outer s H E hr => (ssd_cons (sd_if (td_not (td_val (ed_call c_is_natural hr (by decide) dvs0 runF_len (ad_cons (ed_var 0) ad_nil))))
  (ssd_one sd_never)
  ssd_nil)
  (ssd_cons (sd_if (td_not (td_val (ed_call c_is_natural hr (by decide) dvs0 runF_len (ad_cons (ed_var 1) ad_nil))))
  (ssd_one sd_never)
  ssd_nil)
  (ssd_cons (sd_if (td_not (td_val (ed_call c_is_row hr (by decide) dvs0 runF_len (ad_cons (ed_var 2) ad_nil))))
  (ssd_one sd_never)
  ssd_nil)
  (ssd_cons (sd_ret (ed_call c_row_after hr (by decide) dvs0 runF_len (ad_cons (ed_var 0) (ad_cons (ed_var 1) (ad_cons (ed_var 2) ad_nil)))))
  ssd_nil))))
theorem okx_unlike_at (B : Bi mg) (XI : Xi K mg xcs xys xfs xtab) (XT_NotUsable : ExT P w K mg base "NotUsable" ["word", "at"]) (F : FunD K "unlike_at" "unlike_at" (defArgs s_unlike_at) (defBody s_unlike_at) (defScope s_unlike_at) dvs kws f fd) (c_is_row : Kf P w K mg base 3 "is_row" (spD K 1 F_is_row) []) : FnOk P w K mg base (L2N.CX P w) 4 f fd ["one", "other"] (spX K mg 2 FY_unlike_at) :=
  fnX F sc_unlike_at rfl rfl fun cdv A outer s H E hr tk => (ssdx_cons (sdx_if (td_not (td_val (ed_call c_is_row hr (by decide) dvs0 runF_len (ad_cons (ed_var 0) ad_nil))))
  (ssdx_one (sdx_raise XT_NotUsable hr (by decide) rfl tk (ad_cons ed_str (ad_cons (ed_neg ed_int) ad_nil))))
  ssdx_nil)
  (ssdx_cons (sdx_if (td_not (td_val (ed_call c_is_row hr (by decide) dvs0 runF_len (ad_cons (ed_var 1) ad_nil))))
  (ssdx_one (sdx_raise XT_NotUsable hr (by decide) rfl tk (ad_cons ed_str (ad_cons (ed_neg ed_int) ad_nil))))
  ssdx_nil)
  (ssdx_cons (SD.x (sd_for rfl (passes_of rfl) (id_zip (ed_var 0) (ed_var 1) B.zip) (gd_tup rfl (gsd_cons (i := 2) sc_unlike_at.nd rfl (by first | exact .inl rfl | exact .inr rfl) (gsd_cons (i := 3) sc_unlike_at.nd rfl (by first | exact .inl rfl | exact .inr rfl) gsd_nil)))
  (ssd_one (sd_if (td_cmp vb_ne (op_neD hr.units) (nomark _) (ed_var 2) (ed_var 3))
  (ssd_one (sd_ret (ed_cb vc_max2 (call_max2 rfl) B.max (ad_cons (ed_var 2) (ad_cons (ed_var 3) ad_nil)))))
  ssd_nil))))
  (ssdx_cons (SD.x (sd_if (td_cmp vq_gt (oq_gt hr.units) (nomark _) (ed_cb vc_len call_len_seq B.len (ad_cons (ed_var 0) ad_nil)) (ed_cb vc_len call_len_seq B.len (ad_cons (ed_var 1) ad_nil)))
  (ssd_one (sd_ret (ed_ix (ed_var 0) (ed_cb vc_len call_len_seq B.len (ad_cons (ed_var 1) ad_nil)))))
  ssd_nil))
  (ssdx_cons (SD.x (sd_if (td_cmp vq_gt (oq_gt hr.units) (nomark _) (ed_cb vc_len call_len_seq B.len (ad_cons (ed_var 1) ad_nil)) (ed_cb vc_len call_len_seq B.len (ad_cons (ed_var 0) ad_nil)))
  (ssd_one (sd_ret (ed_ix (ed_var 1) (ed_cb vc_len call_len_seq B.len (ad_cons (ed_var 0) ad_nil)))))
  ssd_nil))
  (ssdx_cons (SD.x (sd_ret ed_int))
  ssdx_nil))))))
theorem ok_unlike_at (B : Bi mg) (F : FunD K "unlike_at" "unlike_at" (defArgs s_unlike_at) (defBody s_unlike_at) (defScope s_unlike_at) dvs kws f fd) (c_is_row : Kf P w K mg base 3 "is_row" (spD K 1 F_is_row) []) : FnOk P w K mg base CX0 4 f fd ["one", "other"] (spD K 2 F_unlike_at) :=
  fnD F sc_unlike_at rfl rfl fun cdv A outer s H E hr => (ssd_cons (sd_if (td_not (td_val (ed_call c_is_row hr (by decide) dvs0 runF_len (ad_cons (ed_var 0) ad_nil))))
  (ssd_one sd_never)
  ssd_nil)
  (ssd_cons (sd_if (td_not (td_val (ed_call c_is_row hr (by decide) dvs0 runF_len (ad_cons (ed_var 1) ad_nil))))
  (ssd_one sd_never)
  ssd_nil)
  (ssd_cons (sd_for rfl PassesOwn.never (id_zip (ed_var 0) (ed_var 1) B.zip) (gd_tup rfl (gsd_cons (i := 2) sc_unlike_at.nd rfl (by first | exact .inl rfl | exact .inr rfl) (gsd_cons (i := 3) sc_unlike_at.nd rfl (by first | exact .inl rfl | exact .inr rfl) gsd_nil)))
  (ssd_one (sd_if (td_cmp vb_ne (op_neD hr.units) (nomark _) (ed_var 2) (ed_var 3))
  (ssd_one (sd_ret (ed_cb vc_max2 (call_max2 rfl) B.max (ad_cons (ed_var 2) (ad_cons (ed_var 3) ad_nil)))))
  ssd_nil)))
  (ssd_cons (sd_if (td_cmp vq_gt (oq_gt hr.units) (nomark _) (ed_cb vc_len call_len_seq B.len (ad_cons (ed_var 0) ad_nil)) (ed_cb vc_len call_len_seq B.len (ad_cons (ed_var 1) ad_nil)))
  (ssd_one (sd_ret (ed_ix (ed_var 0) (ed_cb vc_len call_len_seq B.len (ad_cons (ed_var 1) ad_nil)))))
  ssd_nil)
  (ssd_cons (sd_if (td_cmp vq_gt (oq_gt hr.units) (nomark _) (ed_cb vc_len call_len_seq B.len (ad_cons (ed_var 1) ad_nil)) (ed_cb vc_len call_len_seq B.len (ad_cons (ed_var 0) ad_nil)))
  (ssd_one (sd_ret (ed_ix (ed_var 1) (ed_cb vc_len call_len_seq B.len (ad_cons (ed_var 0) ad_nil)))))
  ssd_nil)
  (ssd_cons (sd_ret ed_int)
  ssd_nil))))))
theorem okh__law_same (B : Bi mg) (F : FunD K "_law_same" "_law_same" (defArgs s__law_same) (defBody s__law_same) (defScope s__law_same) dvs kws f fd) (hc : ∀ {k : Nat} {sp : Sp}, L2H.FnH P w K mg base CX0 k f fd ["_law_one", "_law_other"] sp → KfH P w K mg base k "_law_same" sp) : ∀ N, L2H.FnH P w K mg base CX0 (1 + N) f fd ["_law_one", "_law_other"] (spD K 2 (R__law_same N)) := by
  intro N
  induction N with
  | zero => exact fnH_void
  | succ N ih =>
    have c__law_same := hc ih
    exact fnDH F sc__law_same rfl rfl fun cdv A outer s H E p hr hot => (ssd_cons (sd_if (td_val (ed_isi .tuple (ed_var 1) B.isinstance B.tuple))
  (ssd_cons (sd_if (WD.td (wd_or (td_not (td_val (ed_isi .tuple (ed_var 0) B.isinstance B.tuple))) (wd_or1 (td_cmp vb_ne (op_neD hr.units) (nomark _) (ed_cb vc_len call_len_seq B.len (ad_cons (ed_var 0) ad_nil)) (ed_cb vc_len call_len_seq B.len (ad_cons (ed_var 1) ad_nil))))))
  (ssd_one (sd_ret ed_bl))
  ssd_nil)
  (ssd_cons (sd_forH hot PassesOwn.never (ed_cb vc_len call_len_seq B.len (ad_cons (ed_var 1) ad_nil)) B.range (gd_name (i := 2) sc__law_same.nd rfl (by first | exact .inl rfl | exact .inr rfl))
  (ssd_one (sd_if (td_not (td_val (ed_callH c__law_same hr hot (Nat.le_refl _) (len__law_same N) (ad_cons (ed_ix (ed_var 0) (ed_var 2)) (ad_cons (ed_ix (ed_var 1) (ed_var 2)) ad_nil)))))
  (ssd_one (sd_ret ed_bl))
  ssd_nil)))
  (ssd_cons (sd_ret ed_bl)
  ssd_nil)))
  ssd_nil)
  (ssd_cons (sd_if (td_cmp vb_is op_is2 (nomark _) (ed_var 1) ed_non)
  (ssd_one (sd_ret (ed_cmp vb_is op_is2 (nomark _) (ed_var 0) ed_non)))
  ssd_nil)
  (ssd_cons (sd_if (td_val (ed_isi .bool (ed_var 1) B.isinstance B.bool))
  (ssd_one (sd_ret (ed_and (ed_isi .bool (ed_var 0) B.isinstance B.bool) (ed_one (ed_cmp vb_eq (op_eqD hr.units) (nomark _) (ed_var 0) (ed_var 1))))))
  ssd_nil)
  (ssd_cons (sd_if (td_val (ed_isi .int (ed_var 1) B.isinstance B.int))
  (ssd_one (sd_ret (ed_and (ed_isi .int (ed_var 0) B.isinstance B.int) (ed_and (ed_not (ed_isi .bool (ed_var 0) B.isinstance B.bool)) (ed_one (ed_cmp vb_eq (op_eqD hr.units) (nomark _) (ed_var 0) (ed_var 1)))))))
  ssd_nil)
  (ssd_cons (sd_ret (ed_and (ed_isi .str (ed_var 0) B.isinstance B.str) (ed_one (ed_cmp vb_eq (op_eqD hr.units) (nomark _) (ed_var 0) (ed_var 1)))))
  ssd_nil)))))
theorem ok__law_same (B : Bi mg) (F : FunD K "_law_same" "_law_same" (defArgs s__law_same) (defBody s__law_same) (defScope s__law_same) dvs kws f fd) (hc : ∀ {k : Nat} {sp : Sp}, FnOk P w K mg base CX0 k f fd ["_law_one", "_law_other"] sp → Kf P w K mg base k "_law_same" sp []) : ∀ N, FnOk P w K mg base CX0 (1 + N) f fd ["_law_one", "_law_other"] (spD K 2 (R__law_same N)) := by
  intro N
  induction N with
  | zero => exact fn_void
  | succ N ih =>
    have c__law_same := hc ih
    exact fnD F sc__law_same rfl rfl fun cdv A outer s H E hr => (ssd_cons (sd_if (td_val (ed_isi .tuple (ed_var 1) B.isinstance B.tuple))
  (ssd_cons (sd_if (WD.td (wd_or (td_not (td_val (ed_isi .tuple (ed_var 0) B.isinstance B.tuple))) (wd_or1 (td_cmp vb_ne (op_neD hr.units) (nomark _) (ed_cb vc_len call_len_seq B.len (ad_cons (ed_var 0) ad_nil)) (ed_cb vc_len call_len_seq B.len (ad_cons (ed_var 1) ad_nil))))))
  (ssd_one (sd_ret ed_bl))
  ssd_nil)
  (ssd_cons (sd_for rfl PassesOwn.never (id_rng1 (ed_cb vc_len call_len_seq B.len (ad_cons (ed_var 1) ad_nil)) B.range) (gd_name (i := 2) sc__law_same.nd rfl (by first | exact .inl rfl | exact .inr rfl))
  (ssd_one (sd_if (td_not (td_val (ed_call c__law_same hr (Nat.le_refl _) dvs0 (len__law_same N) (ad_cons (ed_ix (ed_var 0) (ed_var 2)) (ad_cons (ed_ix (ed_var 1) (ed_var 2)) ad_nil)))))
  (ssd_one (sd_ret ed_bl))
  ssd_nil)))
  (ssd_cons (sd_ret ed_bl)
  ssd_nil)))
  ssd_nil)
  (ssd_cons (sd_if (td_cmp vb_is op_is2 (nomark _) (ed_var 1) ed_non)
  (ssd_one (sd_ret (ed_cmp vb_is op_is2 (nomark _) (ed_var 0) ed_non)))
  ssd_nil)
  (ssd_cons (sd_if (td_val (ed_isi .bool (ed_var 1) B.isinstance B.bool))
  (ssd_one (sd_ret (ed_and (ed_isi .bool (ed_var 0) B.isinstance B.bool) (ed_one (ed_cmp vb_eq (op_eqD hr.units) (nomark _) (ed_var 0) (ed_var 1))))))
  ssd_nil)
  (ssd_cons (sd_if (td_val (ed_isi .int (ed_var 1) B.isinstance B.int))
  (ssd_one (sd_ret (ed_and (ed_isi .int (ed_var 0) B.isinstance B.int) (ed_and (ed_not (ed_isi .bool (ed_var 0) B.isinstance B.bool)) (ed_one (ed_cmp vb_eq (op_eqD hr.units) (nomark _) (ed_var 0) (ed_var 1)))))))
  ssd_nil)
  (ssd_cons (sd_ret (ed_and (ed_isi .str (ed_var 0) B.isinstance B.str) (ed_one (ed_cmp vb_eq (op_eqD hr.units) (nomark _) (ed_var 0) (ed_var 1)))))
  ssd_nil)))))
theorem ok__law_unlike (B : Bi mg) (F : FunD K "_law_unlike" "_law_unlike" (defArgs s__law_unlike) (defBody s__law_unlike) (defScope s__law_unlike) dvs kws f fd) (c__law_same : Kf P w K mg base 9 "_law_same" (spD K 2 F__law_same) []) (c_unlike_at : Kf P w K mg base 4 "unlike_at" (spD K 2 F_unlike_at) []) (c_unlike_at_kw0_1_0 : KfK P w K mg base 4 "unlike_at" (spD K 2 F_unlike_at) 0 ["other", "one"] [1, 0]) : FnOk P w K mg base CX0 10 f fd ["_law_rows", "_law_low", "_law_high"] (spD K 3 F__law_unlike) :=
  fnD F sc__law_unlike rfl rfl fun cdv A outer s H E hr => (ssd_cons (sd_setF 3 sc__law_unlike.nd (ed_call c_unlike_at hr (by decide) dvs0 runF_len (ad_cons (ed_ix (ed_var 0) (ed_var 1)) (ad_cons (ed_ix (ed_var 0) (ed_var 2)) ad_nil))))
  (ssd_cons (sd_if (td_not (td_val (ed_call c__law_same hr (by decide) dvs0 (len__law_same 8) (ad_cons (ed_callK0 c_unlike_at_kw0_1_0 hr (by decide) runF_len (kd_cons (ed_ix (ed_var 0) (ed_var 1)) (kd_cons (ed_ix (ed_var 0) (ed_var 2)) kd_nil)) (len_cons (len_cons len_nil))) (ad_cons (ed_var 3) ad_nil)))))
  (ssd_one (sd_ret ed_bl))
  ssd_nil)
  (ssd_cons (sd_if (td_cmp vb_eq (op_eqD hr.units) (nomark _) (ed_var 1) (ed_var 2))
  (ssd_one (sd_ret (ed_call c__law_same hr (by decide) dvs0 (len__law_same 8) (ad_cons (ed_var 3) (ad_cons ed_int ad_nil)))))
  ssd_nil)
  (ssd_cons (sd_for rfl PassesOwn.never (id_rng3 ed_int ed_int (ed_neg ed_int) B.range) (gd_name (i := 4) sc__law_unlike.nd rfl (by first | exact .inl rfl | exact .inr rfl))
  (ssd_one (sd_if (td_cmp vb_ne (op_neD hr.units) (nomark _) (ed_countT (u65 hr) (ed_ix (ed_var 0) (ed_var 1)) (ed_var 4)) (ed_countT (u65 hr) (ed_ix (ed_var 0) (ed_var 2)) (ed_var 4)))
  (ssd_one (sd_ret (ed_and (ed_call c__law_same hr (by decide) dvs0 (len__law_same 8) (ad_cons (ed_var 3) (ad_cons (ed_var 4) ad_nil))) (ed_one (ed_cmp vq_lt (oq_lt hr.units) (nomark _) (ed_countT (u65 hr) (ed_ix (ed_var 0) (ed_var 1)) (ed_var 4)) (ed_countT (u65 hr) (ed_ix (ed_var 0) (ed_var 2)) (ed_var 4)))))))
  ssd_nil)))
  (ssd_cons (sd_ret ed_bl)
  ssd_nil)))))
theorem ok__law_steps (B : Bi mg) (F : FunD K "_law_steps" "_law_steps" (defArgs s__law_steps) (defBody s__law_steps) (defScope s__law_steps) dvs kws f fd) (c__law_counted : Kf P w K mg base 1 "_law_counted" (spD K 3 F__law_counted) []) (c__law_same : Kf P w K mg base 9 "_law_same" (spD K 2 F__law_same) []) (c_stepped : Kf P w K mg base 4 "stepped" (spD K 3 F_stepped) []) (c_stepped_kw0_2_1_0 : KfK P w K mg base 4 "stepped" (spD K 3 F_stepped) 0 ["row", "floor", "width"] [2, 1, 0]) : FnOk P w K mg base CX0 10 f fd ["_law_row_here", "_law_width", "_law_floor"] (spD K 3 F__law_steps) :=
  fnD F sc__law_steps rfl rfl fun cdv A outer s H E hr => (ssd_cons (sd_setF 3 sc__law_steps.nd (ed_call c__law_counted hr (by decide) dvs0 runF_len (ad_cons (ed_var 1) (ad_cons (ed_var 2) (ad_cons (ed_var 0) ad_nil)))))
  (ssd_cons (sd_setF 4 sc__law_steps.nd (ed_call c_stepped hr (by decide) dvs0 runF_len (ad_cons (ed_var 1) (ad_cons (ed_var 2) (ad_cons (ed_var 0) ad_nil)))))
  (ssd_cons (sd_if (WD.td (wd_or (td_not (td_val (ed_call c__law_same hr (by decide) dvs0 (len__law_same 8) (ad_cons (ed_var 4) (ad_cons (ed_var 3) ad_nil))))) (wd_or1 (td_not (td_val (ed_call c__law_same hr (by decide) dvs0 (len__law_same 8) (ad_cons (ed_callK0 c_stepped_kw0_2_1_0 hr (by decide) runF_len (kd_cons (ed_var 0) (kd_cons (ed_var 2) (kd_cons (ed_var 1) kd_nil))) (len_cons (len_cons (len_cons len_nil)))) (ad_cons (ed_var 3) ad_nil))))))))
  (ssd_one (sd_ret ed_bl))
  ssd_nil)
  (ssd_cons (sd_for rfl PassesOwn.never (id_rng1 (ed_cb vc_min2 (call_min2 rfl) B.min (ad_cons ed_int (ad_cons (ed_cb vc_len call_len_seq B.len (ad_cons (ed_var 0) ad_nil)) ad_nil))) B.range) (gd_name (i := 5) sc__law_steps.nd rfl (by first | exact .inl rfl | exact .inr rfl))
  (ssd_cons (sd_setF 6 sc__law_steps.nd (ed_op vb_add op_add3 (ed_sl (ed_var 0) od_no (od_at (ed_var 5))) (ed_sl (ed_var 0) (od_at (ed_op vb_add op_add3 (ed_var 5) ed_int)) od_no)))
  (ssd_cons (sd_if (td_not (td_val (ed_call c__law_same hr (by decide) dvs0 (len__law_same 8) (ad_cons (ed_call c_stepped hr (by decide) dvs0 runF_len (ad_cons (ed_var 1) (ad_cons (ed_var 2) (ad_cons (ed_var 6) ad_nil)))) (ad_cons (ed_call c__law_counted hr (by decide) dvs0 runF_len (ad_cons (ed_var 1) (ad_cons (ed_var 2) (ad_cons (ed_var 6) ad_nil)))) ad_nil)))))
  (ssd_one (sd_ret ed_bl))
  ssd_nil)
  ssd_nil)))
  (ssd_cons (sd_ret (ed_call c__law_same hr (by decide) dvs0 (len__law_same 8) (ad_cons (ed_call c_stepped hr (by decide) dvs0 runF_len (ad_cons (ed_var 1) (ad_cons (ed_var 2) (ad_cons (ed_sl (ed_var 0) od_no (od_at (ed_cb vc_min2 (call_min2 rfl) B.min (ad_cons (ed_var 1) (ad_cons (ed_cb vc_len call_len_seq B.len (ad_cons (ed_var 0) ad_nil)) ad_nil))))) ad_nil)))) (ad_cons (ed_var 3) ad_nil))))
  ssd_nil)))))
theorem ok__law_placed (B : Bi mg) (F : FunD K "_law_placed" "_law_placed" (defArgs s__law_placed) (defBody s__law_placed) (defScope s__law_placed) dvs kws f fd) (c__law_listing : Kf P w K mg base 1 "_law_listing" (spD K 2 F__law_listing) []) (c__law_same : Kf P w K mg base 9 "_law_same" (spD K 2 F__law_same) []) (c_stepped : Kf P w K mg base 4 "stepped" (spD K 3 F_stepped) []) : FnOk P w K mg base CX0 10 f fd ["_law_row_here", "_law_width", "_law_floor"] (spD K 3 F__law_placed) :=
  fnD F sc__law_placed rfl rfl fun cdv A outer s H E hr => (ssd_cons (sd_setF 3 sc__law_placed.nd (ed_call c__law_listing hr (by decide) dvs0 runF_len (ad_cons (ed_var 1) (ad_cons ed_int ad_nil))))
  (ssd_cons (sd_setF 4 sc__law_placed.nd (ed_sl (ed_ct vc_tuple call_tuple_ofE B.tuple (ad_cons (ed_lc (own := [("_law_member", 8)]) rfl sc__law_placed.nd (id_seq (ed_var 0)) (by first | decide | with_unfolding_all rfl) (by decide) (fun _ _ _ _ _ => (gd_name (i := 8) sc__law_placed.nd rfl (by first | exact .inl rfl | exact .inr rfl))) (fun _ _ _ _ _ => (ptd_one (td_cmp vq_ge (oq_ge hr.units) (nomark _) (ed_var 8) (ed_var 2)))) (fun _ _ _ _ _ => (ed_op vb_add op_add3 (ed_op vb_sub op_sub (ed_var 8) (ed_var 2)) ed_int))) ad_nil)) od_no (od_at (ed_var 1))))
  (ssd_cons (sd_setF 5 sc__law_placed.nd ed_int)
  (ssd_cons (sd_for rfl PassesOwn.never (id_rng1 (ed_cb vc_len call_len_seq B.len (ad_cons (ed_var 3) ad_nil)) B.range) (gd_name (i := 6) sc__law_placed.nd rfl (by first | exact .inl rfl | exact .inr rfl))
  (ssd_one (sd_if (td_cmp vb_eq (op_eqD hr.units) (nomark _) (ed_ix (ed_var 3) (ed_var 6)) (ed_var 4))
  (ssd_one (sd_setF 5 sc__law_placed.nd (ed_var 6)))
  ssd_nil)))
  (ssd_cons (sd_setF 7 sc__law_placed.nd (ed_tup (ad_cons ed_int ad_nil)))
  (ssd_cons (sd_if (td_cmp vq_lt (oq_lt hr.units) (nomark _) (ed_op vb_add op_add3 (ed_var 5) ed_int) (ed_cb vc_len call_len_seq B.len (ad_cons (ed_var 3) ad_nil)))
  (ssd_one (sd_setF 7 sc__law_placed.nd (ed_ix (ed_var 3) (ed_op vb_add op_add3 (ed_var 5) ed_int))))
  ssd_nil)
  (ssd_cons (sd_ret (ed_call c__law_same hr (by decide) dvs0 (len__law_same 8) (ad_cons (ed_call c_stepped hr (by decide) dvs0 runF_len (ad_cons (ed_var 1) (ad_cons (ed_var 2) (ad_cons (ed_var 0) ad_nil)))) (ad_cons (ed_ct vc_tuple call_tuple_ofE B.tuple (ad_cons (ed_lc (own := [("_law_member", 8)]) rfl sc__law_placed.nd (id_seq (ed_var 7)) (by first | decide | with_unfolding_all rfl) (by decide) (fun _ _ _ _ _ => (gd_name (i := 8) sc__law_placed.nd rfl (by first | exact .inl rfl | exact .inr rfl))) (fun _ _ _ _ _ => ptd_nil) (fun _ _ _ _ _ => (ed_op vb_sub op_sub (ed_op vb_add op_add3 (ed_var 8) (ed_var 2)) ed_int))) ad_nil)) ad_nil))))
  ssd_nil)))))))
theorem ok__law_merges (B : Bi mg) (F : FunD K "_law_merges" "_law_merges" (defArgs s__law_merges) (defBody s__law_merges) (defScope s__law_merges) dvs kws f fd) (c__law_same : Kf P w K mg base 9 "_law_same" (spD K 2 F__law_same) []) (c_is_row_kw0_0 : KfK P w K mg base 3 "is_row" (spD K 1 F_is_row) 0 ["thing"] [0]) (c_merged : Kf P w K mg base 4 "merged" (spD K 1 F_merged) []) (c_merged_kw0_0 : KfK P w K mg base 4 "merged" (spD K 1 F_merged) 0 ["rows"] [0]) (c_unlike_at : Kf P w K mg base 4 "unlike_at" (spD K 2 F_unlike_at) []) : FnOk P w K mg base CX0 10 f fd ["_law_rows"] (spD K 1 F__law_merges) :=
  fnD F sc__law_merges rfl rfl fun cdv A outer s H E hr => (ssd_cons (sd_set 1 sc__law_merges.nd (ed_lst ad_nil))
  (ssd_cons (sd_for rfl PassesOwn.never (id_seq (ed_var 0)) (gd_name (i := 2) sc__law_merges.nd rfl (by first | exact .inl rfl | exact .inr rfl))
  (ssd_one (sd_for rfl PassesOwn.never (id_seq (ed_var 2)) (gd_name (i := 6) sc__law_merges.nd rfl (by first | exact .inl rfl | exact .inr rfl))
  (ssd_one (sd_expr (ed_app 1 (ed_var 6)))))))
  (ssd_cons (sd_setF 3 sc__law_merges.nd (ed_ct vc_tuple call_tuple_ofE B.tuple (ad_cons (ed_srt (ad_cons (ed_var 1) ad_nil) B.sorted) ad_nil)))
  (ssd_cons (sd_if (WD.td (wd_or (td_not (td_val (ed_call c__law_same hr (by decide) dvs0 (len__law_same 8) (ad_cons (ed_call c_merged hr (by decide) dvs0 runF_len (ad_cons (ed_var 0) ad_nil)) (ad_cons (ed_var 3) ad_nil))))) (wd_or1 (td_not (td_val (ed_call c__law_same hr (by decide) dvs0 (len__law_same 8) (ad_cons (ed_callK0 c_merged_kw0_0 hr (by decide) runF_len (kd_cons (ed_sl (ed_var 0) od_no (od_at ed_int)) kd_nil) (len_cons len_nil)) (ad_cons (ed_tup ad_nil) ad_nil))))))))
  (ssd_one (sd_ret ed_bl))
  ssd_nil)
  (ssd_cons (sd_setF 4 sc__law_merges.nd (ed_ct vc_tuple call_tuple_ofE B.tuple (ad_cons (ed_srt (ad_cons (ed_ct vc_list call_list_of B.list (ad_cons (ed_op vb_add op_add3 (ed_var 3) (ed_var 3)) ad_nil)) ad_nil) B.sorted) ad_nil)))
  (ssd_cons (sd_if (WD.td (wd_or (td_not (td_val (ed_call c__law_same hr (by decide) dvs0 (len__law_same 8) (ad_cons (ed_call c_merged hr (by decide) dvs0 runF_len (ad_cons (ed_tup (ad_cons (ed_var 3) ad_nil)) ad_nil)) (ad_cons (ed_var 3) ad_nil))))) (wd_or1 (td_not (td_val (ed_call c__law_same hr (by decide) dvs0 (len__law_same 8) (ad_cons (ed_call c_merged hr (by decide) dvs0 runF_len (ad_cons (ed_tup (ad_cons (ed_var 3) (ad_cons (ed_var 3) ad_nil))) ad_nil)) (ad_cons (ed_var 4) ad_nil))))))))
  (ssd_one (sd_ret ed_bl))
  ssd_nil)
  (ssd_cons (sd_setF 5 sc__law_merges.nd ed_int)
  (ssd_cons (sd_for rfl PassesOwn.never (id_seq (ed_var 3)) (gd_name (i := 6) sc__law_merges.nd rfl (by first | exact .inl rfl | exact .inr rfl))
  (ssd_one (sd_if (WD.td (wd_and (td_cmp vb_eq (op_eqD hr.units) (nomark _) (ed_var 5) ed_int) (wd_and1 (td_cmp vb_ne (op_neD hr.units) (nomark _) (ed_countT (u65 hr) (ed_ix (ed_var 0) ed_int) (ed_var 6)) (ed_countT (u65 hr) (ed_ix (ed_var 0) ed_int) (ed_var 6))))))
  (ssd_one (sd_setF 5 sc__law_merges.nd (ed_var 6)))
  ssd_nil)))
  (ssd_cons (sd_if (WD.td (wd_or (td_not (td_val (ed_call c__law_same hr (by decide) dvs0 (len__law_same 8) (ad_cons (ed_call c_unlike_at hr (by decide) dvs0 runF_len (ad_cons (ed_ix (ed_var 0) ed_int) (ad_cons (ed_ix (ed_var 0) ed_int) ad_nil))) (ad_cons (ed_var 5) ad_nil))))) (wd_or1 (td_not (td_val (ed_call c__law_same hr (by decide) dvs0 (len__law_same 8) (ad_cons (ed_call c_unlike_at hr (by decide) dvs0 runF_len (ad_cons (ed_ix (ed_var 0) ed_int) (ad_cons (ed_ix (ed_var 0) ed_int) ad_nil))) (ad_cons (ed_var 5) ad_nil))))))))
  (ssd_one (sd_ret ed_bl))
  ssd_nil)
  (ssd_cons (sd_if (td_not (td_val (ed_call c__law_same hr (by decide) dvs0 (len__law_same 8) (ad_cons (ed_tup (ad_cons (ed_call c_unlike_at hr (by decide) dvs0 runF_len (ad_cons (ed_var 3) (ad_cons (ed_var 3) ad_nil))) (ad_cons (ed_callK0 c_is_row_kw0_0 hr (by decide) runF_len (kd_cons (ed_var 3) kd_nil) (len_cons len_nil)) ad_nil))) (ad_cons (ed_tup (ad_cons ed_int (ad_cons ed_bl ad_nil))) ad_nil)))))
  (ssd_one (sd_ret ed_bl))
  ssd_nil)
  (ssd_cons (sd_setF 7 sc__law_merges.nd (ed_ct vc_tuple call_tuple_ofE B.tuple (ad_cons (ed_srt (ad_cons (ed_ct vc_list call_list_of B.list (ad_cons (ed_op vb_add op_add3 (ed_op vb_add op_add3 (ed_var 3) (ed_var 3)) (ed_var 3)) ad_nil)) ad_nil) B.sorted) ad_nil)))
  (ssd_cons (sd_if (td_not (td_val (ed_call c__law_same hr (by decide) dvs0 (len__law_same 8) (ad_cons (ed_call c_merged hr (by decide) dvs0 runF_len (ad_cons (ed_op vb_add op_add3 (ed_op vb_add op_add3 (ed_var 0) (ed_tup (ad_cons (ed_tup ad_nil) (ad_cons (ed_var 3) ad_nil)))) (ed_rvs (ed_var 0))) ad_nil)) (ad_cons (ed_var 7) ad_nil)))))
  (ssd_one (sd_ret ed_bl))
  ssd_nil)
  (ssd_cons (sd_setF 8 sc__law_merges.nd (ed_ct vc_tuple call_tuple_ofE B.tuple (ad_cons (ed_srt (ad_cons (ed_ct vc_list call_list_of B.list (ad_cons (ed_op vb_add op_add3 (ed_ix (ed_var 0) ed_int) (ed_ix (ed_var 0) ed_int)) ad_nil)) ad_nil) B.sorted) ad_nil)))
  (ssd_cons (sd_ret (ed_and (ed_call c__law_same hr (by decide) dvs0 (len__law_same 8) (ad_cons (ed_call c_merged hr (by decide) dvs0 runF_len (ad_cons (ed_tup (ad_cons (ed_ix (ed_var 0) ed_int) (ad_cons (ed_tup ad_nil) (ad_cons (ed_ix (ed_var 0) ed_int) ad_nil)))) ad_nil)) (ad_cons (ed_var 8) ad_nil))) (ed_one (ed_call c__law_same hr (by decide) dvs0 (len__law_same 8) (ad_cons (ed_call c_merged hr (by decide) dvs0 runF_len (ad_cons (ed_tup (ad_cons (ed_ix (ed_var 0) ed_int) (ad_cons (ed_ix (ed_var 0) ed_int) ad_nil))) ad_nil)) (ad_cons (ed_var 8) ad_nil))))))
  ssd_nil))))))))))))))
theorem ok__law_ask (B : Bi mg) (XI : Xi K mg xcs xys xfs xtab) (F : FunD K "_law_ask" "_law_ask" (defArgs s__law_ask) (defBody s__law_ask) (defScope s__law_ask) dvs kws f fd) (c_H_law_same : KfH P w K mg base 9 "_law_same" (spD K 2 F__law_same)) (c_Xmerged : KfX P w K mg base 4 "merged" (spX K mg 1 FX_merged) []) (c_Xstepped : KfX P w K mg base 4 "stepped" (spX K mg 3 FX_stepped) []) (c_Xunlike_at : KfX P w K mg base 4 "unlike_at" (spX K mg 2 FX_unlike_at) []) : FnOk P w K mg base CX0 10 f fd ["_law_number", "_law_one", "_law_two", "_law_three"] (spD K 4 F__law_ask) :=
  fnD F sc__law_ask rfl rfl fun cdv A outer s H E hr => (ssd_cons (sd_tryT rfl rfl sc__law_ask.nd (i := 4) (XI.sub "NotUsable") (fun W2 pn xe tk hp =>
  (ssdx_one (sdx_if (td_cmp vb_eq (op_eqD hr.units) (nomark _) (ed_var 0) ed_int)
  (ssdx_one (sdx_expr (edx_call c_Xmerged hr (by decide) dvs0 (orRx_len runF_len runX_len) tk (ad_cons (ed_var 1) ad_nil))))
  (ssdx_one (sdx_if (td_cmp vb_eq (op_eqD hr.units) (nomark _) (ed_var 0) ed_int)
  (ssdx_one (sdx_expr (edx_call c_Xstepped hr (by decide) dvs0 (orRx_len runF_len runX_len) tk (ad_cons (ed_var 1) (ad_cons (ed_var 2) (ad_cons (ed_var 3) ad_nil))))))
  (ssdx_one (sdx_expr (edx_call c_Xunlike_at hr (by decide) dvs0 (orRx_len runF_len runX_len) tk (ad_cons (ed_var 1) (ad_cons (ed_var 2) ad_nil)))))))))) (fun k C a dd oe pn hk hz hf =>
  (ssd_cons (sd_if (WD.td (wd_and (td_val (ed_isT (XI.kit "BookError") hk hz.zc hf B.isinstance)) (wd_and (td_not (td_val (ed_isT (XI.kit "Faulty") hk hz.zc hf B.isinstance))) (wd_and1 (td_val (ed_callH c_H_law_same (room_suite hr) (hot_suite hz hf) (by decide) (len__law_same 8) (ad_cons (ed_fld (XI.fld "at") hk hz.zc hf) (ad_cons (ed_neg ed_int) ad_nil))))))))
  (ssd_one (sd_ret (ed_fld (XI.fld "word") hk hz.zc hf)))
  ssd_nil)
  (ssd_cons (sd_ret ed_str)
  ssd_nil))))
  (ssd_cons (sd_ret ed_non)
  ssd_nil))
theorem ok__law_listed (B : Bi mg) (F : FunD K "_law_listed" "_law_listed" (defArgs s__law_listed) (defBody s__law_listed) (defScope s__law_listed) dvs kws f fd) (c__law_listing : Kf P w K mg base 1 "_law_listing" (spD K 2 F__law_listing) []) (c__law_same : Kf P w K mg base 9 "_law_same" (spD K 2 F__law_same) []) (c__law_unlike : Kf P w K mg base 10 "_law_unlike" (spD K 3 F__law_unlike) []) (c_is_row : Kf P w K mg base 3 "is_row" (spD K 1 F_is_row) []) (c_stepped : Kf P w K mg base 4 "stepped" (spD K 3 F_stepped) []) : FnOk P w K mg base CX0 11 f fd ["_law_width", "_law_greatest"] (spD K 2 F__law_listed) :=
  fnD F sc__law_listed rfl rfl fun cdv A outer s H E hr => (ssd_cons (sd_setF 2 sc__law_listed.nd (ed_call c__law_listing hr (by decide) dvs0 runF_len (ad_cons (ed_var 0) (ad_cons (ed_var 1) ad_nil))))
  (ssd_cons (sd_for rfl PassesOwn.never (id_rng1 (ed_cb vc_len call_len_seq B.len (ad_cons (ed_var 2) ad_nil)) B.range) (gd_name (i := 3) sc__law_listed.nd rfl (by first | exact .inl rfl | exact .inr rfl))
  (ssd_cons (sd_setF 4 sc__law_listed.nd (ed_tup (ad_cons (ed_op vb_add op_add3 (ed_var 1) ed_int) ad_nil)))
  (ssd_cons (sd_if (td_cmp vq_lt (oq_lt hr.units) (nomark _) (ed_op vb_add op_add3 (ed_var 3) ed_int) (ed_cb vc_len call_len_seq B.len (ad_cons (ed_var 2) ad_nil)))
  (ssd_one (sd_setF 4 sc__law_listed.nd (ed_ix (ed_var 2) (ed_op vb_add op_add3 (ed_var 3) ed_int))))
  ssd_nil)
  (ssd_cons (sd_if (WD.td (wd_or (td_not (td_val (ed_call c__law_same hr (by decide) dvs0 (len__law_same 8) (ad_cons (ed_call c_stepped hr (by decide) dvs0 runF_len (ad_cons (ed_var 0) (ad_cons ed_int (ad_cons (ed_ix (ed_var 2) (ed_var 3)) ad_nil)))) (ad_cons (ed_var 4) ad_nil))))) (wd_or1 (td_not (td_val (ed_call c__law_same hr (by decide) dvs0 (len__law_same 8) (ad_cons (ed_call c_is_row hr (by decide) dvs0 runF_len (ad_cons (ed_ix (ed_var 2) (ed_var 3)) ad_nil)) (ad_cons ed_bl ad_nil))))))))
  (ssd_one (sd_ret ed_bl))
  ssd_nil)
  (ssd_cons (sd_setF 5 sc__law_listed.nd (ed_op vb_mod op_mod (ed_ct vc_int call_int1 B.int (ad_cons (ed_op vb_add op_add3 (ed_op vb_mul op_mul2 (ed_var 3) ed_int) ed_int) ad_nil)) (ed_cb vc_len call_len_seq B.len (ad_cons (ed_var 2) ad_nil))))
  (ssd_cons (sd_if (td_not (td_val (ed_call c__law_unlike hr (by decide) dvs0 runF_len (ad_cons (ed_var 2) (ad_cons (ed_cb vc_min2 (call_min2 rfl) B.min (ad_cons (ed_var 3) (ad_cons (ed_var 5) ad_nil))) (ad_cons (ed_cb vc_max2 (call_max2 rfl) B.max (ad_cons (ed_var 3) (ad_cons (ed_var 5) ad_nil))) ad_nil))))))
  (ssd_one (sd_ret ed_bl))
  ssd_nil)
  ssd_nil))))))
  (ssd_cons (sd_ret ed_bl)
  ssd_nil)))
theorem ok__law_refused (B : Bi mg) (F : FunD K "_law_refused" "_law_refused" (defArgs s__law_refused) (defBody s__law_refused) (defScope s__law_refused) dvs kws f fd) (c__law_ask : Kf P w K mg base 10 "_law_ask" (spD K 4 F__law_ask) []) (c__law_bent : Kf P w K mg base 1 "_law_bent" (spD K 2 F__law_bent) []) (c__law_same : Kf P w K mg base 9 "_law_same" (spD K 2 F__law_same) []) (c_is_row : Kf P w K mg base 3 "is_row" (spD K 1 F_is_row) []) : FnOk P w K mg base CX0 11 f fd ["_law_rows", "_law_width", "_law_floor", "_law_row_here"] (spD K 4 F__law_refused) :=
  fnD F sc__law_refused rfl rfl fun cdv A outer s H E hr => (ssd_cons (sd_setF 4 sc__law_refused.nd (ed_call c__law_bent hr (by decide) dvs0 runF_len (ad_cons (ed_var 3) (ad_cons (ed_ix (ed_var 0) ed_int) ad_nil))))
  (ssd_cons (sd_setF 5 sc__law_refused.nd (ed_ix (ed_tup (ad_cons ed_int (ad_cons (ed_neg ed_int) (ad_cons ed_bl (ad_cons ed_non (ad_cons ed_str (ad_cons (ed_neg (ed_op vb_pow op_pow ed_int ed_int)) (ad_cons (ed_tup (ad_cons ed_int ad_nil)) ad_nil)))))))) (ed_op vb_mod op_mod (ed_ct vc_int call_int1 B.int (ad_cons (ed_ix (ed_var 3) ed_int) ad_nil)) ed_int)))
  (ssd_cons (sd_if (WD.td (wd_or (td_not (td_val (ed_call c__law_same hr (by decide) dvs0 (len__law_same 8) (ad_cons (ed_call c_is_row hr (by decide) dvs0 runF_len (ad_cons (ed_var 4) ad_nil)) (ad_cons ed_bl ad_nil))))) (wd_or1 (td_not (td_val (ed_call c__law_same hr (by decide) dvs0 (len__law_same 8) (ad_cons (ed_call c_is_row hr (by decide) dvs0 runF_len (ad_cons (ed_ix (ed_var 0) ed_int) ad_nil)) (ad_cons ed_bl ad_nil))))))))
  (ssd_one (sd_ret ed_bl))
  ssd_nil)
  (ssd_cons (sd_for rfl PassesOwn.never (id_seq (ed_tup (ad_cons (ed_tup (ad_cons (ed_ix (ed_var 0) ed_int) (ad_cons (ed_var 4) ad_nil))) (ad_cons (ed_ct vc_list call_list_of B.list (ad_cons (ed_var 0) ad_nil)) (ad_cons (ed_op vb_add op_add3 (ed_tup (ad_cons (ed_var 4) ad_nil)) (ed_var 0)) (ad_cons (ed_tup (ad_cons ed_int ad_nil)) (ad_cons (ed_op vb_add op_add3 (ed_ix (ed_var 0) ed_int) (ed_tup (ad_cons ed_int ad_nil))) (ad_cons ed_non ad_nil)))))))) (gd_name (i := 6) sc__law_refused.nd rfl (by first | exact .inl rfl | exact .inr rfl))
  (ssd_one (sd_if (td_not (td_val (ed_call c__law_same hr (by decide) dvs0 (len__law_same 8) (ad_cons (ed_call c__law_ask hr (by decide) dvs0 runF_len (ad_cons ed_int (ad_cons (ed_var 6) (ad_cons ed_int (ad_cons ed_int ad_nil))))) (ad_cons ed_str ad_nil)))))
  (ssd_one (sd_ret ed_bl))
  ssd_nil)))
  (ssd_cons (sd_if (WD.td (wd_or (td_not (td_val (ed_call c__law_same hr (by decide) dvs0 (len__law_same 8) (ad_cons (ed_call c__law_ask hr (by decide) dvs0 runF_len (ad_cons ed_int (ad_cons (ed_var 5) (ad_cons (ed_var 5) (ad_cons (ed_var 4) ad_nil))))) (ad_cons ed_str ad_nil))))) (wd_or1 (td_not (td_val (ed_call c__law_same hr (by decide) dvs0 (len__law_same 8) (ad_cons (ed_call c__law_ask hr (by decide) dvs0 runF_len (ad_cons ed_int (ad_cons (ed_var 1) (ad_cons (ed_var 5) (ad_cons (ed_var 4) ad_nil))))) (ad_cons ed_str ad_nil))))))))
  (ssd_one (sd_ret ed_bl))
  ssd_nil)
  (ssd_cons (sd_if (WD.td (wd_or (td_not (td_val (ed_call c__law_same hr (by decide) dvs0 (len__law_same 8) (ad_cons (ed_call c__law_ask hr (by decide) dvs0 runF_len (ad_cons ed_int (ad_cons (ed_var 1) (ad_cons (ed_var 2) (ad_cons (ed_var 4) ad_nil))))) (ad_cons ed_str ad_nil))))) (wd_or1 (td_not (td_val (ed_call c__law_same hr (by decide) dvs0 (len__law_same 8) (ad_cons (ed_call c__law_ask hr (by decide) dvs0 runF_len (ad_cons ed_int (ad_cons ed_int (ad_cons ed_int (ad_cons (ed_tup ad_nil) ad_nil))))) (ad_cons ed_non ad_nil))))))))
  (ssd_one (sd_ret ed_bl))
  ssd_nil)
  (ssd_cons (sd_if (WD.td (wd_or (td_not (td_val (ed_call c__law_same hr (by decide) dvs0 (len__law_same 8) (ad_cons (ed_call c__law_ask hr (by decide) dvs0 runF_len (ad_cons ed_int (ad_cons (ed_var 4) (ad_cons (ed_var 4) (ad_cons ed_int ad_nil))))) (ad_cons ed_str ad_nil))))) (wd_or1 (td_not (td_val (ed_call c__law_same hr (by decide) dvs0 (len__law_same 8) (ad_cons (ed_call c__law_ask hr (by decide) dvs0 runF_len (ad_cons ed_int (ad_cons (ed_ix (ed_var 0) ed_int) (ad_cons (ed_var 4) (ad_cons ed_int ad_nil))))) (ad_cons ed_str ad_nil))))))))
  (ssd_one (sd_ret ed_bl))
  ssd_nil)
  (ssd_cons (sd_ret (ed_and (ed_call c__law_same hr (by decide) dvs0 (len__law_same 8) (ad_cons (ed_call c__law_ask hr (by decide) dvs0 runF_len (ad_cons ed_int (ad_cons (ed_ix (ed_var 0) ed_int) (ad_cons (ed_ix (ed_var 0) ed_int) (ad_cons ed_int ad_nil))))) (ad_cons ed_non ad_nil))) (ed_one (ed_call c__law_same hr (by decide) dvs0 (len__law_same 8) (ad_cons (ed_call c__law_ask hr (by decide) dvs0 runF_len (ad_cons ed_int (ad_cons (ed_var 0) (ad_cons ed_int (ad_cons ed_int ad_nil))))) (ad_cons ed_non ad_nil))))))
  ssd_nil))))))))
theorem ok_law (B : Bi mg) (F : FunD K "law" "law" (defArgs s_law) (defBody s_law) (defScope s_law) dvs kws f fd) (c__law_draw : Kf P w K mg base 1 "_law_draw" (spD K 3 F__law_draw) []) (c__law_listed : Kf P w K mg base 11 "_law_listed" (spD K 2 F__law_listed) []) (c__law_merges : Kf P w K mg base 10 "_law_merges" (spD K 1 F__law_merges) []) (c__law_placed : Kf P w K mg base 10 "_law_placed" (spD K 3 F__law_placed) []) (c__law_refused : Kf P w K mg base 11 "_law_refused" (spD K 4 F__law_refused) []) (c__law_row : Kf P w K mg base 1 "_law_row" (spD K 3 F__law_row) []) (c__law_steps : Kf P w K mg base 10 "_law_steps" (spD K 3 F__law_steps) []) : FnOk P w K mg base CX0 12 f fd ["_law_script"] (spD K 1 F_law) :=
  fnD F sc_law rfl rfl fun cdv A outer s H E hr => (ssd_cons (sd_setF 1 sc_law.nd (ed_call c__law_draw hr (by decide) dvs0 runF_len (ad_cons (ed_var 0) (ad_cons ed_int (ad_cons ed_int ad_nil)))))
  (ssd_cons (sd_setF 2 sc_law.nd (ed_ix (ed_tup (ad_cons (ed_tup (ad_cons ed_int (ad_cons ed_int ad_nil))) (ad_cons (ed_tup (ad_cons ed_int (ad_cons ed_int ad_nil))) (ad_cons (ed_tup (ad_cons ed_int (ad_cons ed_int ad_nil))) (ad_cons (ed_tup (ad_cons ed_int (ad_cons ed_int ad_nil))) (ad_cons (ed_tup (ad_cons ed_int (ad_cons ed_int ad_nil))) (ad_cons (ed_tup (ad_cons ed_int (ad_cons ed_int ad_nil))) (ad_cons (ed_tup (ad_cons ed_int (ad_cons ed_int ad_nil))) (ad_cons (ed_tup (ad_cons ed_int (ad_cons ed_int ad_nil))) (ad_cons (ed_tup (ad_cons ed_int (ad_cons ed_int ad_nil))) ad_nil)))))))))) (ed_op vb_mod op_mod (ed_ct vc_int call_int1 B.int (ad_cons (ed_ix (ed_var 1) ed_int) ad_nil)) ed_int)))
  (ssd_cons (sd_if (td_not (td_val (ed_call c__law_listed hr (by decide) dvs0 runF_len (ad_cons (ed_ix (ed_var 2) ed_int) (ad_cons (ed_ix (ed_var 2) ed_int) ad_nil)))))
  (ssd_one (sd_ret ed_bl))
  ssd_nil)
  (ssd_cons (sd_set 3 sc_law.nd (ed_lst ad_nil))
  (ssd_cons (sd_for rfl PassesOwn.never (id_rng1 ed_int B.range) (gd_name (i := 4) sc_law.nd rfl (by first | exact .inl rfl | exact .inr rfl))
  (ssd_cons (sd_setF 10 sc_law.nd (ed_ix (ed_tup (ad_cons ed_int (ad_cons ed_int (ad_cons ed_int (ad_cons ed_int (ad_cons ed_int (ad_cons ed_int (ad_cons ed_int (ad_cons ed_int (ad_cons ed_int (ad_cons ed_int ad_nil))))))))))) (ed_op vb_mod op_mod (ed_ct vc_int call_int1 B.int (ad_cons (ed_ix (ed_var 1) (ed_op vb_add op_add3 ed_int (ed_var 4))) ad_nil)) ed_int)))
  (ssd_cons (sd_expr (ed_app 3 (ed_call c__law_row hr (by decide) dvs0 runF_len (ad_cons (ed_call c__law_draw hr (by decide) dvs0 runF_len (ad_cons (ed_var 0) (ad_cons (ed_op vb_add op_add3 ed_int (ed_var 4)) (ad_cons (ed_var 10) ad_nil)))) (ad_cons (ed_op vb_add op_add3 ed_int (ed_op vb_mod op_mod (ed_ct vc_int call_int1 B.int (ad_cons (ed_ix (ed_var 1) ed_int) ad_nil)) ed_int)) (ad_cons (ed_ix (ed_var 1) (ed_op vb_add op_add3 ed_int (ed_var 4))) ad_nil))))))
  ssd_nil)))
  (ssd_cons (sd_set 3 sc_law.nd (ed_ct vc_tuple call_tuple_ofE B.tuple (ad_cons (ed_var 3) ad_nil)))
  (ssd_cons (sd_setF 5 sc_law.nd (ed_call c__law_draw hr (by decide) dvs0 runF_len (ad_cons (ed_var 0) (ad_cons ed_int (ad_cons ed_int ad_nil)))))
  (ssd_cons (sd_setF 6 sc_law.nd (ed_ix (ed_tup (ad_cons ed_int (ad_cons ed_int (ad_cons ed_int (ad_cons ed_int (ad_cons ed_int (ad_cons (ed_op vb_pow op_pow ed_int ed_int) (ad_cons ed_int (ad_cons ed_int ad_nil))))))))) (ed_op vb_mod op_mod (ed_ct vc_int call_int1 B.int (ad_cons (ed_ix (ed_var 5) ed_int) ad_nil)) ed_int)))
  (ssd_cons (sd_setF 7 sc_law.nd (ed_ix (ed_tup (ad_cons ed_int (ad_cons ed_int (ad_cons ed_int (ad_cons ed_int (ad_cons ed_int (ad_cons (ed_op vb_pow op_pow ed_int ed_int) (ad_cons ed_int (ad_cons ed_int ad_nil))))))))) (ed_op vb_mod op_mod (ed_ct vc_int call_int1 B.int (ad_cons (ed_ix (ed_var 5) ed_int) ad_nil)) ed_int)))
  (ssd_cons (sd_if (td_not (td_val (ed_call c__law_steps hr (by decide) dvs0 runF_len (ad_cons (ed_ix (ed_var 3) ed_int) (ad_cons (ed_var 6) (ad_cons (ed_var 7) ad_nil))))))
  (ssd_one (sd_ret ed_bl))
  ssd_nil)
  (ssd_cons (sd_if (td_not (td_val (ed_call c__law_steps hr (by decide) dvs0 runF_len (ad_cons (ed_ix (ed_var 3) ed_int) (ad_cons (ed_op vb_add op_add3 ed_int (ed_op vb_mod op_mod (ed_ct vc_int call_int1 B.int (ad_cons (ed_ix (ed_var 5) ed_int) ad_nil)) ed_int)) (ad_cons (ed_op vb_add op_add3 ed_int (ed_op vb_mod op_mod (ed_ct vc_int call_int1 B.int (ad_cons (ed_ix (ed_var 5) ed_int) ad_nil)) ed_int)) ad_nil))))))
  (ssd_one (sd_ret ed_bl))
  ssd_nil)
  (ssd_cons (sd_setF 8 sc_law.nd (ed_op vb_add op_add3 ed_int (ed_op vb_mod op_mod (ed_ct vc_int call_int1 B.int (ad_cons (ed_ix (ed_var 5) ed_int) ad_nil)) ed_int)))
  (ssd_cons (sd_setF 9 sc_law.nd (ed_call c__law_row hr (by decide) dvs0 runF_len (ad_cons (ed_call c__law_draw hr (by decide) dvs0 runF_len (ad_cons (ed_var 0) (ad_cons ed_int (ad_cons (ed_op vb_mod op_mod (ed_ct vc_int call_int1 B.int (ad_cons (ed_ix (ed_var 5) ed_int) ad_nil)) ed_int) ad_nil)))) (ad_cons (ed_op vb_add op_add3 (ed_var 8) ed_int) (ad_cons ed_int ad_nil)))))
  (ssd_cons (sd_if (td_not (td_val (ed_call c__law_placed hr (by decide) dvs0 runF_len (ad_cons (ed_var 9) (ad_cons (ed_op vb_add op_add3 ed_int (ed_op vb_mod op_mod (ed_ct vc_int call_int1 B.int (ad_cons (ed_ix (ed_var 5) ed_int) ad_nil)) ed_int)) (ad_cons (ed_var 8) ad_nil))))))
  (ssd_one (sd_ret ed_bl))
  ssd_nil)
  (ssd_cons (SD.fz 3 (sd_ret (ed_and (ed_call c__law_merges hr (by decide) dvs0 runF_len (ad_cons (ed_var 3) ad_nil)) (ed_one (ed_call c__law_refused hr (by decide) dvs0 runF_len (ad_cons (ed_var 3) (ad_cons (ed_var 6) (ad_cons (ed_var 7) (ad_cons (ed_sl (ed_var 5) (od_at ed_int) od_no) ad_nil)))))))))
  ssd_nil)))))))))))))))
end
end K13
namespace K13
open PySem PySem.Spec PyProof.Rows L2 DL
noncomputable section
def f_is_integer (thing : PyData) : Option Bool :=
  (isD .int thing).bind fun t1 => (andO t1 ((isD .bool thing).bind fun t2 => some (!t2))).bind fun t3 => some t3
def f_falling (members : (List Int)) : Option (List Int) :=
  some (downI members)
def f_row_after (width : Int) (floor : Int) (row : (List Int)) : Option (List Int) :=
  (some floor).bind fun height1 => (andO (decide (width ≤ (row.length : Int))) ((atI row (width - (1 : Int))).bind fun t2 => some (decide (floor ≤ t2)))).bind fun t3 => if t3 = true then (atI row (width - (1 : Int))).bind fun t5 => (some (t5 + (1 : Int))).bind fun height6 => (lcC (fun x7 => some (decide (height6 ≤ x7))) (fun x7 => some x7) row).bind fun t8 => (catO t8 [height6]).bind fun t9 => some t9 else (lcC (fun x10 => some (decide (height1 ≤ x10))) (fun x10 => some x10) row).bind fun t11 => (catO t11 [height1]).bind fun t12 => some t12
def f_w_draw_L1 (many : Int) (x_1 : Int) (cell_ : Int) (row_ : (List Int)) : Option (Int × (List Int)) :=
  (appO row_ (cell_ % (9949 : Int))).bind fun row14 => (some (cell_ / (9949 : Int))).bind fun cell15 => some (cell15, row14)
def f_w_draw_L2 (many : Int) (x_2 : Int) (row_ : (List Int)) (mixed_ : Int) : Option ((List Int) × Int) :=
  (some (((mixed_ * (40692 : Int)) + (7793 : Int)) % (2147483399 : Int))).bind fun mixed24 => (appO row_ ((mixed24 / (13 : Int)) % (9949 : Int))).bind fun row25 => some (row25, mixed24)
def f_w_draw (script : (List Int)) (at_ : Int) (many : Int) : Option (List Int) :=
  if (decide ((script.length : Int) = (0 : Int))) = true then (rng1O many).bind fun is2 => (lcC (fun x3 => some true) (fun x3 => some (0 : Int)) is2).bind fun t4 => some t4 else (modO at_ (script.length : Int)).bind fun t5 => (atI script t5).bind fun cell7 => (some []).bind fun row8 => (andO (decide (at_ < (script.length : Int))) ((powO (10 : Int) (18 : Int)).bind fun t9 => some (decide (t9 ≤ (if cell7 < 0 then -cell7 else cell7))))).bind fun t10 => if t10 = true then (rng1O many).bind fun is12 => (forS (fun x_1 (s_ : Int × (List Int)) => f_w_draw_L1 many x_1 s_.1 s_.2) is12 (cell7, row8)).bind fun s19 => some s19.2 else (some (((((cell7 * (39373 : Int)) + (at_ * (5077 : Int))) + ((script.length : Int) * (1217 : Int))) + (29 : Int)) % (2147483563 : Int))).bind fun mixed21 => (rng1O many).bind fun is22 => (forS (fun x_2 (s_ : (List Int) × Int) => f_w_draw_L2 many x_2 s_.1 s_.2) is22 (row8, mixed21)).bind fun s29 => some s29.1
def f_w_listing_L3 (width : Int) (greatest : Int) (layer : (List (List Int))) (rows : (List (List Int))) (row : (List Int)) (x_3 : Int) (longer_ : (List (List Int))) : Option ((List (List Int))) :=
  (orO (decide ((row.length : Int) = (0 : Int))) ((atI row (-1 : Int)).bind fun t13 => some (decide (x_3 ≤ t13)))).bind fun t14 => if t14 = true then (catO row [x_3]).bind fun t16 => (appO longer_ t16).bind fun longer17 => some longer17 else some longer_
def f_w_listing_L2 (width : Int) (greatest : Int) (layer : (List (List Int))) (rows : (List (List Int))) (x_2 : (List Int)) (longer_ : (List (List Int))) : Option ((List (List Int))) :=
  (rngO (1 : Int) ((1 : Int) + greatest)).bind fun is11 => (forS (fun x_3 (longer_ : (List (List Int))) => f_w_listing_L3 width greatest layer rows x_2 x_3 longer_) is11 longer_).bind fun longer25 => some longer25
def f_w_listing_L1 (width : Int) (greatest : Int) (x_1 : Int) (layer_ : (List (List Int))) (rows_ : (List (List Int))) : Option ((List (List Int)) × (List (List Int))) :=
  (some []).bind fun longer8 => (forS (fun x_2 (longer_ : (List (List Int))) => f_w_listing_L2 width greatest layer_ rows_ x_2 longer_) layer_ longer8).bind fun longer40 => (some longer40).bind fun layer43 => (catO rows_ longer40).bind fun rows45 => some (layer43, rows45)
def f_w_listing (width : Int) (greatest : Int) : Option (List (List Int)) :=
  (some [[]]).bind fun layer1 => (some [[]]).bind fun rows2 => (rng1O width).bind fun is3 => (forS (fun x_1 (s_ : (List (List Int)) × (List (List Int))) => f_w_listing_L1 width greatest x_1 s_.1 s_.2) is3 (layer1, rows2)).bind fun s70 => some (upT s70.2)
def f_w_row_L1 (row : (List Int)) (most : Int) (manner : Int) (x_1 : Int) (members_ : (List Int)) : Option ((List Int)) :=
  if (decide ((manner % (5 : Int)) = (3 : Int))) = true then (powO (10 : Int) (29 : Int)).bind fun t4 => (appO members_ (t4 + (x_1 % (3 : Int)))).bind fun members5 => some members5 else if (decide ((manner % (5 : Int)) = (4 : Int))) = true then (powO (10 : Int) (15 : Int)).bind fun t7 => (powO (10 : Int) (28 : Int)).bind fun t8 => (powO (10 : Int) (28 : Int)).bind fun t9 => (atI [(1 : Int), (2 : Int), t7, t8, (t9 + (1 : Int))] (x_1 % (5 : Int))).bind fun t10 => (appO members_ t10).bind fun members11 => some members11 else (modO x_1 most).bind fun t12 => (appO members_ ((1 : Int) + t12)).bind fun members13 => some members13
def f_w_row (row : (List Int)) (most : Int) (manner : Int) : Option (List Int) :=
  (some []).bind fun members1 => (forS (fun x_1 (members_ : (List Int)) => f_w_row_L1 row most manner x_1 members_) row members1).bind fun members27 => some (downI members27)
def f_w_counted_L1 (width : Int) (floor : Int) (row : (List Int)) (x_1 : Int) (best_ : PyData) : Option (PyData) :=
  (andO (decide (floor ≤ x_1)) ((lcC (fun x6 => some (decide (x_1 ≤ x6))) (fun x6 => some x6) row).bind fun t7 => some (decide ((t7.length : Int) < width)))).bind fun t8 => if t8 = true then (bD (p_is best_ (nn ()))).bind fun t10 => (orO t10 ((bD (q_lt (PyData.int x_1) best_)).bind fun t11 => some (t11))).bind fun t12 => if t12 = true then (some (PyData.int x_1)).bind fun best14 => some best14 else some best_ else some best_
def f_w_counted (width : Int) (floor : Int) (row : (List Int)) : Option (List Int) :=
  (some (nn ())).bind fun best1 => (lcC (fun x2 => some true) (fun x2 => some (x2 + (1 : Int))) row).bind fun t3 => (catO [floor] t3).bind fun t4 => (forS (fun x_1 (best_ : PyData) => f_w_counted_L1 width floor row x_1 best_) t4 best1).bind fun best26 => (anI best26).bind fun an28 => (lcC (fun x29 => some (decide (an28 ≤ x29))) (fun x29 => some x29) row).bind fun t30 => (catO t30 [an28]).bind fun t31 => some t31
def f_w_bent (row : (List Int)) (good : (List Int)) : Option PyData :=
  (atI row (0 : Int)).bind fun t1 => (some (t1 % (8 : Int))).bind fun kind2 => if (decide (kind2 = (0 : Int))) = true then some ((ls PyData.int) good) else if (decide (kind2 = (1 : Int))) = true then (catO good [(0 : Int)]).bind fun t5 => some ((tp PyData.int) t5) else if (decide (kind2 = (2 : Int))) = true then (catO good [(1 : Int), (2 : Int)]).bind fun t7 => some ((tp PyData.int) t7) else if (decide (kind2 = (3 : Int))) = true then (atI row (1 : Int)).bind fun t9 => (atI [(nn ()), (PyData.int (3 : Int)), (PyData.str ("1" : Str)), (PyData.bool true), (PyData.str ("" : Str))] (t9 % (5 : Int))).bind fun t10 => some t10 else if (decide (kind2 = (4 : Int))) = true then (catO (List.map PyData.int good) [(PyData.bool true)]).bind fun t12 => some ((tp idD) t12) else if (decide (kind2 = (5 : Int))) = true then (catO [(2 : Int), (1 : Int), (2 : Int)] good).bind fun t14 => some ((tp PyData.int) t14) else if (decide (kind2 = (6 : Int))) = true then (catO good [(-1 : Int)]).bind fun t16 => some ((tp PyData.int) t16) else (catO [(PyData.str ("2" : Str))] (List.map PyData.int good)).bind fun t17 => some ((tp idD) t17)
def f_is_natural (thing : PyData) : Option Bool :=
  (f_is_integer thing).bind fun t1 => (andO t1 ((bD (q_ge thing (PyData.int (1 : Int)))).bind fun t2 => some (t2))).bind fun t3 => some t3
def f_is_row (thing : PyData) : Option Bool :=
  (isD .tuple thing).bind fun t1 => if (!t1) = true then some false else (wkD thing).bind fun is3 => (lcC (fun x4 => some true) (fun x4 => (f_is_natural x4).bind fun t5 => some t5) is3).bind fun t6 => if (!(t6.all id)) = true then some false else (iD (c_len [thing])).bind fun t8 => (rng1O (t8 - (1 : Int))).bind fun is9 => (lcC (fun x10 => some true) (fun x10 => (vD (p_ix thing (PyData.int x10))).bind fun t11 => (vD (p_ix thing (PyData.int (x10 + (1 : Int))))).bind fun t12 => (bD (q_ge t11 t12)).bind fun t13 => some (t13)) is9).bind fun t14 => some (t14.all id)
def f_merged (rows : (List (List Int))) : Option (List Int) :=
  (orO (!true) ((lcC (fun x1 => some true) (fun x1 => (f_is_row ((tp PyData.int) x1)).bind fun t2 => some t2) rows).bind fun t3 => some (!(t3.all id)))).bind fun t4 => if t4 = true then none else (lc2C (fun x6 => some true) (fun x6 => some x6) (fun x6 y7 => some true) (fun x6 y7 => some y7) rows).bind fun t8 => (f_falling t8).bind fun t9 => some t9
def f_stepped (width : Int) (floor : Int) (row : (List Int)) : Option (List Int) :=
  (f_is_natural (PyData.int width)).bind fun t1 => if (!t1) = true then none else (f_is_natural (PyData.int floor)).bind fun t3 => if (!t3) = true then none else (f_is_row ((tp PyData.int) row)).bind fun t5 => if (!t5) = true then none else (f_row_after width floor row).bind fun t7 => some t7
def f_unlike_at_L1 (one : (List Int)) (other : (List Int)) (x_1 : (Int × Int)) : Option (Lp (Unit) Int) :=
  if (!decide (x_1.1 = x_1.2)) = true then some (.rt (max x_1.1 x_1.2)) else some (.nx ())
def f_unlike_at (one : (List Int)) (other : (List Int)) : Option Int :=
  (f_is_row ((tp PyData.int) one)).bind fun t1 => if (!t1) = true then none else (f_is_row ((tp PyData.int) other)).bind fun t3 => if (!t3) = true then none else thenL (forG (fun x_1 (s_ : Unit) => f_unlike_at_L1 one other x_1) (one.zip other) ()) (fun r_ => some r_) fun s11 => if (decide ((other.length : Int) < (one.length : Int))) = true then (atI one (other.length : Int)).bind fun t15 => some t15 else if (decide ((one.length : Int) < (other.length : Int))) = true then (atI other (one.length : Int)).bind fun t17 => some t17 else some (0 : Int)
def f_w_same_L1 (rec_ : PyData → PyData → Option Bool) (one : PyData) (other : PyData) (x_1 : Int) : Option (Lp (Unit) Bool) :=
  (vD (p_ix one (PyData.int x_1))).bind fun t11 => (vD (p_ix other (PyData.int x_1))).bind fun t12 => (rec_ t11 t12).bind fun t13 => if (!t13) = true then some (.rt false) else some (.nx ())
def f_w_same_B (rec_ : PyData → PyData → Option Bool) (one : PyData) (other : PyData) : Option Bool :=
  (isD .tuple other).bind fun t1 => if t1 = true then (isD .tuple one).bind fun t3 => (orO (!t3) ((iD (c_len [one])).bind fun t4 => (iD (c_len [other])).bind fun t5 => some (!decide (t4 = t5)))).bind fun t6 => if t6 = true then some false else (iD (c_len [other])).bind fun t8 => (rng1O t8).bind fun is9 => thenL (forG (fun x_1 (s_ : Unit) => f_w_same_L1 rec_ one other x_1) is9 ()) (fun r_ => some r_) fun s20 => some true else (bD (p_is other (nn ()))).bind fun t22 => if t22 = true then (bD (p_is one (nn ()))).bind fun t24 => some t24 else (isD .bool other).bind fun t25 => if t25 = true then (isD .bool one).bind fun t27 => (andO t27 ((bD (p_eq one other)).bind fun t28 => some t28)).bind fun t29 => some t29 else (isD .int other).bind fun t30 => if t30 = true then (isD .int one).bind fun t32 => (andO t32 ((isD .bool one).bind fun t33 => (andO (!t33) ((bD (p_eq one other)).bind fun t34 => some t34)).bind fun t35 => some t35)).bind fun t36 => some t36 else (isD .str one).bind fun t37 => (andO t37 ((bD (p_eq one other)).bind fun t38 => some t38)).bind fun t39 => some t39
def f_w_same_R : Nat → PyData → PyData → Option Bool
  | 0 => fun _ _ => none
  | N + 1 => f_w_same_B (f_w_same_R N)
def f_w_same (one : PyData) (other : PyData) : Option Bool := f_w_same_R 8 one other
def f_w_unlike_L1 (rows : (List (List Int))) (low : Int) (high : Int) (told : Int) (x_1 : Int) : Option (Lp (Unit) Bool) :=
  (atI rows low).bind fun t14 => (atI rows high).bind fun t15 => if (!decide (((t14.count x_1 : Nat) : Int) = ((t15.count x_1 : Nat) : Int))) = true then (f_w_same (PyData.int told) (PyData.int x_1)).bind fun t17 => (andO t17 ((atI rows low).bind fun t18 => (atI rows high).bind fun t19 => some (decide (((t18.count x_1 : Nat) : Int) < ((t19.count x_1 : Nat) : Int))))).bind fun t20 => some (.rt t20) else some (.nx ())
def f_w_unlike (rows : (List (List Int))) (low : Int) (high : Int) : Option Bool :=
  (atI rows low).bind fun t1 => (atI rows high).bind fun t2 => (f_unlike_at t1 t2).bind fun told4 => (atI rows low).bind fun t5 => (atI rows high).bind fun t6 => (f_unlike_at t6 t5).bind fun t7 => (f_w_same (PyData.int t7) (PyData.int told4)).bind fun t8 => if (!t8) = true then some false else if (decide (low = high)) = true then (f_w_same (PyData.int told4) (PyData.int (0 : Int))).bind fun t11 => some t11 else (rngDO (5 : Int) (0 : Int)).bind fun is12 => thenL (forG (fun x_1 (s_ : Unit) => f_w_unlike_L1 rows low high told4 x_1) is12 ()) (fun r_ => some r_) fun s29 => some false
def f_w_steps_L1 (row : (List Int)) (width : Int) (floor : Int) (due : (List Int)) (x_1 : Int) : Option (Lp (Unit) Bool) :=
  (catO (cutD row none (some x_1)) (cutD row (some (x_1 + (1 : Int))) none)).bind fun less14 => (f_stepped width floor less14).bind fun t15 => (f_w_counted width floor less14).bind fun t16 => (f_w_same ((tp PyData.int) t15) ((tp PyData.int) t16)).bind fun t17 => if (!t17) = true then some (.rt false) else some (.nx ())
def f_w_steps (row : (List Int)) (width : Int) (floor : Int) : Option Bool :=
  (f_w_counted width floor row).bind fun due2 => (f_stepped width floor row).bind fun told4 => (f_w_same ((tp PyData.int) told4) ((tp PyData.int) due2)).bind fun t5 => (orO (!t5) ((f_stepped width floor row).bind fun t6 => (f_w_same ((tp PyData.int) t6) ((tp PyData.int) due2)).bind fun t7 => some (!t7))).bind fun t8 => if t8 = true then some false else (rng1O (min (3 : Int) (row.length : Int))).bind fun is10 => thenL (forG (fun x_1 (s_ : Unit) => f_w_steps_L1 row width floor due2 x_1) is10 ()) (fun r_ => some r_) fun s27 => (f_stepped width floor (cutD row none (some (min width (row.length : Int))))).bind fun t30 => (f_w_same ((tp PyData.int) t30) ((tp PyData.int) due2)).bind fun t31 => some t31
def f_w_placed_L1 (row : (List Int)) (width : Int) (floor : Int) (rows : (List (List Int))) (seen : (List Int)) (x_1 : Int) (place_ : Int) : Option (Int) :=
  (atI rows x_1).bind fun t9 => if (decide (t9 = seen)) = true then (some x_1).bind fun place11 => some place11 else some place_
def f_w_placed (row : (List Int)) (width : Int) (floor : Int) : Option Bool :=
  (f_w_listing width (4 : Int)).bind fun rows2 => (lcC (fun x3 => some (decide (floor ≤ x3))) (fun x3 => some ((x3 - floor) + (1 : Int))) row).bind fun t4 => (some (cutD t4 none (some width))).bind fun seen5 => (some (0 : Int)).bind fun place6 => (rng1O (rows2.length : Int)).bind fun is7 => (forS (fun x_1 (place_ : Int) => f_w_placed_L1 row width floor rows2 seen5 x_1 place_) is7 place6).bind fun place17 => (some [(5 : Int)]).bind fun due19 => if (decide ((place17 + (1 : Int)) < (rows2.length : Int))) = true then (atI rows2 (place17 + (1 : Int))).bind fun due22 => (f_stepped width floor row).bind fun t23 => (lcC (fun x24 => some true) (fun x24 => some ((x24 + floor) - (1 : Int))) due22).bind fun t25 => (f_w_same ((tp PyData.int) t23) ((tp PyData.int) t25)).bind fun t26 => some t26 else (f_stepped width floor row).bind fun t27 => (lcC (fun x28 => some true) (fun x28 => some ((x28 + floor) - (1 : Int))) due19).bind fun t29 => (f_w_same ((tp PyData.int) t27) ((tp PyData.int) t29)).bind fun t30 => some t30
def f_w_merges_L2 (rows : (List (List Int))) (row : (List Int)) (x_2 : Int) (together_ : (List Int)) : Option ((List Int)) :=
  (appO together_ x_2).bind fun together5 => some together5
def f_w_merges_L1 (rows : (List (List Int))) (x_1 : (List Int)) (together_ : (List Int)) : Option ((List Int)) :=
  (forS (fun x_2 (together_ : (List Int)) => f_w_merges_L2 rows x_1 x_2 together_) x_1 together_).bind fun together9 => some together9
def f_w_merges_L3 (rows : (List (List Int))) (due : (List Int)) (x_3 : Int) (apart_ : Int) : Option (Int) :=
  (andO (decide (apart_ = (0 : Int))) ((atI rows (0 : Int)).bind fun t39 => (atI rows (1 : Int)).bind fun t40 => some (!decide (((t39.count x_3 : Nat) : Int) = ((t40.count x_3 : Nat) : Int))))).bind fun t41 => if t41 = true then (some x_3).bind fun apart43 => some apart43 else some apart_
def f_w_merges (rows : (List (List Int))) : Option Bool :=
  (some []).bind fun together1 => (forS (fun x_1 (together_ : (List Int)) => f_w_merges_L1 rows x_1 together_) rows together1).bind fun together19 => (some (downI together19)).bind fun due22 => (f_merged rows).bind fun t23 => (f_w_same ((tp PyData.int) t23) ((tp PyData.int) due22)).bind fun t24 => (orO (!t24) ((f_merged (cutD rows none (some (0 : Int)))).bind fun t25 => (f_w_same ((tp PyData.int) t25) ((tp PyData.int) [])).bind fun t26 => some (!t26))).bind fun t27 => if t27 = true then some false else (catO due22 due22).bind fun t29 => (some (downI t29)).bind fun twice30 => (f_merged [due22]).bind fun t31 => (f_w_same ((tp PyData.int) t31) ((tp PyData.int) due22)).bind fun t32 => (orO (!t32) ((f_merged [due22, due22]).bind fun t33 => (f_w_same ((tp PyData.int) t33) ((tp PyData.int) twice30)).bind fun t34 => some (!t34))).bind fun t35 => if t35 = true then some false else (some (0 : Int)).bind fun apart37 => (forS (fun x_3 (apart_ : Int) => f_w_merges_L3 rows due22 x_3 apart_) due22 apart37).bind fun apart51 => (atI rows (0 : Int)).bind fun t53 => (atI rows (1 : Int)).bind fun t54 => (f_unlike_at t53 t54).bind fun t55 => (f_w_same (PyData.int t55) (PyData.int apart51)).bind fun t56 => (orO (!t56) ((atI rows (1 : Int)).bind fun t57 => (atI rows (0 : Int)).bind fun t58 => (f_unlike_at t57 t58).bind fun t59 => (f_w_same (PyData.int t59) (PyData.int apart51)).bind fun t60 => some (!t60))).bind fun t61 => if t61 = true then some false else (f_unlike_at due22 due22).bind fun t63 => (f_is_row ((tp PyData.int) due22)).bind fun t64 => (f_w_same ((p2 PyData.int PyData.bool) (t63, t64)) ((p2 PyData.int PyData.bool) ((0 : Int), true))).bind fun t65 => if (!t65) = true then some false else (catO due22 due22).bind fun t67 => (catO t67 due22).bind fun t68 => (some (downI t68)).bind fun many69 => (catO rows [[], due22]).bind fun t70 => (catO t70 rows.reverse).bind fun t71 => (f_merged t71).bind fun t72 => (f_w_same ((tp PyData.int) t72) ((tp PyData.int) many69)).bind fun t73 => if (!t73) = true then some false else (atI rows (2 : Int)).bind fun t75 => (atI rows (0 : Int)).bind fun t76 => (catO t75 t76).bind fun t77 => (some (downI t77)).bind fun pair78 => (atI rows (2 : Int)).bind fun t79 => (atI rows (0 : Int)).bind fun t80 => (f_merged [t79, [], t80]).bind fun t81 => (f_w_same ((tp PyData.int) t81) ((tp PyData.int) pair78)).bind fun t82 => (andO t82 ((atI rows (0 : Int)).bind fun t83 => (atI rows (2 : Int)).bind fun t84 => (f_merged [t83, t84]).bind fun t85 => (f_w_same ((tp PyData.int) t85) ((tp PyData.int) pair78)).bind fun t86 => some t86)).bind fun t87 => some t87
def f_w_ask (number : Int) (one : PyData) (two : PyData) (three : PyData) : Option PyData := chI idD (F__law_ask [PyData.int number, idD one, idD two, idD three])
def f_w_listed_J1 (width : Int) (greatest : Int) (rows : (List (List Int))) (k_ : Int) (due_ : (List Int)) : Option (Lp (Unit) Bool) :=
  (atI rows k_).bind fun t11 => (f_stepped width (1 : Int) t11).bind fun t12 => (f_w_same ((tp PyData.int) t12) ((tp PyData.int) due_)).bind fun t13 => (orO (!t13) ((atI rows k_).bind fun t14 => (f_is_row ((tp PyData.int) t14)).bind fun t15 => (f_w_same (PyData.bool t15) (PyData.bool true)).bind fun t16 => some (!t16))).bind fun t17 => if t17 = true then some (.rt false) else (modO ((k_ * (7 : Int)) + (3 : Int)) (rows.length : Int)).bind fun other20 => (f_w_unlike rows (min k_ other20) (max k_ other20)).bind fun t21 => if (!t21) = true then some (.rt false) else some (.nx ())
def f_w_listed_L1 (width : Int) (greatest : Int) (rows : (List (List Int))) (x_1 : Int) : Option (Lp (Unit) Bool) :=
  (some [(greatest + (1 : Int))]).bind fun due7 => if (decide ((x_1 + (1 : Int)) < (rows.length : Int))) = true then (atI rows (x_1 + (1 : Int))).bind fun due36 => f_w_listed_J1 width greatest rows x_1 due36 else f_w_listed_J1 width greatest rows x_1 due7
def f_w_listed (width : Int) (greatest : Int) : Option Bool :=
  (f_w_listing width greatest).bind fun rows2 => (rng1O (rows2.length : Int)).bind fun is3 => thenL (forG (fun x_1 (s_ : Unit) => f_w_listed_L1 width greatest rows2 x_1) is3 ()) (fun r_ => some r_) fun s58 => some true
def f_w_refused_L1 (rows : (List (List Int))) (width : Int) (floor : Int) (bad : PyData) (odd : PyData) (x_1 : PyData) : Option (Lp (Unit) Bool) :=
  (f_w_ask (0 : Int) x_1 (PyData.int (0 : Int)) (PyData.int (0 : Int))).bind fun t20 => (f_w_same t20 (PyData.str ("rows" : Str))).bind fun t21 => if (!t21) = true then some (.rt false) else some (.nx ())
def f_w_refused (rows : (List (List Int))) (width : Int) (floor : Int) (row : (List Int)) : Option Bool :=
  (atI rows (0 : Int)).bind fun t1 => (f_w_bent row t1).bind fun bad3 => (powO (10 : Int) (20 : Int)).bind fun t4 => (atI row (2 : Int)).bind fun t5 => (atI [(PyData.int (0 : Int)), (PyData.int (-1 : Int)), (PyData.bool true), (nn ()), (PyData.str ("2" : Str)), (PyData.int (-t4)), ((p1 PyData.int) (1 : Int))] (t5 % (7 : Int))).bind fun odd7 => (f_is_row bad3).bind fun t8 => (f_w_same (PyData.bool t8) (PyData.bool false)).bind fun t9 => (orO (!t9) ((atI rows (0 : Int)).bind fun t10 => (f_is_row ((tp PyData.int) t10)).bind fun t11 => (f_w_same (PyData.bool t11) (PyData.bool true)).bind fun t12 => some (!t12))).bind fun t13 => if t13 = true then some false else (atI rows (1 : Int)).bind fun t15 => (catO [bad3] (List.map (tp PyData.int) rows)).bind fun t16 => (atI rows (0 : Int)).bind fun t17 => (catO t17 [(2 : Int)]).bind fun t18 => thenL (forG (fun x_1 (s_ : Unit) => f_w_refused_L1 rows width floor bad3 odd7 x_1) [((p2 (tp PyData.int) idD) (t15, bad3)), ((ls (tp PyData.int)) rows), ((tp idD) t16), ((p1 PyData.int) (1 : Int)), ((tp PyData.int) t18), (nn ())] ()) (fun r_ => some r_) fun s27 => (f_w_ask (1 : Int) odd7 odd7 bad3).bind fun t29 => (f_w_same t29 (PyData.str ("width" : Str))).bind fun t30 => (orO (!t30) ((f_w_ask (1 : Int) (PyData.int width) odd7 bad3).bind fun t31 => (f_w_same t31 (PyData.str ("floor" : Str))).bind fun t32 => some (!t32))).bind fun t33 => if t33 = true then some false else (f_w_ask (1 : Int) (PyData.int width) (PyData.int floor) bad3).bind fun t35 => (f_w_same t35 (PyData.str ("row" : Str))).bind fun t36 => (orO (!t36) ((f_w_ask (1 : Int) (PyData.int (1 : Int)) (PyData.int (1 : Int)) ((tp PyData.int) [])).bind fun t37 => (f_w_same t37 (nn ())).bind fun t38 => some (!t38))).bind fun t39 => if t39 = true then some false else (f_w_ask (2 : Int) bad3 bad3 (PyData.int (0 : Int))).bind fun t41 => (f_w_same t41 (PyData.str ("one" : Str))).bind fun t42 => (orO (!t42) ((atI rows (1 : Int)).bind fun t43 => (f_w_ask (2 : Int) ((tp PyData.int) t43) bad3 (PyData.int (0 : Int))).bind fun t44 => (f_w_same t44 (PyData.str ("other" : Str))).bind fun t45 => some (!t45))).bind fun t46 => if t46 = true then some false else (atI rows (1 : Int)).bind fun t48 => (atI rows (0 : Int)).bind fun t49 => (f_w_ask (2 : Int) ((tp PyData.int) t48) ((tp PyData.int) t49) (PyData.int (0 : Int))).bind fun t50 => (f_w_same t50 (nn ())).bind fun t51 => (andO t51 ((f_w_ask (0 : Int) ((tp (tp PyData.int)) rows) (PyData.int (0 : Int)) (PyData.int (0 : Int))).bind fun t52 => (f_w_same t52 (nn ())).bind fun t53 => some t53)).bind fun t54 => some t54
def f_law_L1 (script : (List Int)) (first : (List Int)) (x_1 : Int) (rows_ : (List (List Int))) : Option ((List (List Int))) :=
  (atI first ((5 : Int) + x_1)).bind fun t12 => (atI [(2 : Int), (0 : Int), (3 : Int), (1 : Int), (5 : Int), (4 : Int), (7 : Int), (9 : Int), (30 : Int), (6 : Int)] (t12 % (10 : Int))).bind fun many14 => (f_w_draw script ((1 : Int) + x_1) many14).bind fun t15 => (atI first (1 : Int)).bind fun t16 => (atI first ((2 : Int) + x_1)).bind fun t17 => (f_w_row t15 ((2 : Int) + (t16 % (8 : Int))) t17).bind fun t18 => (appO rows_ t18).bind fun rows19 => some rows19
def f_law (script : (List Int)) : Option Bool :=
  (f_w_draw script (0 : Int) (8 : Int)).bind fun first2 => (atI first2 (0 : Int)).bind fun t3 => (atI [((2 : Int), (2 : Int)), ((1 : Int), (4 : Int)), ((3 : Int), (3 : Int)), ((2 : Int), (4 : Int)), ((4 : Int), (3 : Int)), ((3 : Int), (4 : Int)), ((4 : Int), (2 : Int)), ((1 : Int), (1 : Int)), ((2 : Int), (3 : Int))] (t3 % (9 : Int))).bind fun size5 => (f_w_listed size5.1 size5.2).bind fun t6 => if (!t6) = true then some false else (some []).bind fun rows8 => (rng1O (3 : Int)).bind fun is9 => (forS (fun x_1 (rows_ : (List (List Int))) => f_law_L1 script first2 x_1 rows_) is9 rows8).bind fun rows31 => (some rows31).bind fun rows34 => (f_w_draw script (4 : Int) (10 : Int)).bind fun bounds36 => (powO (10 : Int) (15 : Int)).bind fun t37 => (atI bounds36 (0 : Int)).bind fun t38 => (atI [(1 : Int), (2 : Int), (3 : Int), (4 : Int), (2 : Int), t37, (3 : Int), (39 : Int)] (t38 % (8 : Int))).bind fun width40 => (powO (10 : Int) (29 : Int)).bind fun t41 => (atI bounds36 (1 : Int)).bind fun t42 => (atI [(1 : Int), (2 : Int), (3 : Int), (1 : Int), (5 : Int), t41, (4 : Int), (1 : Int)] (t42 % (8 : Int))).bind fun floor44 => (atI rows34 (0 : Int)).bind fun t45 => (f_w_steps t45 width40 floor44).bind fun t46 => if (!t46) = true then some false else (atI rows34 (1 : Int)).bind fun t48 => (atI bounds36 (2 : Int)).bind fun t49 => (atI bounds36 (3 : Int)).bind fun t50 => (f_w_steps t48 ((1 : Int) + (t49 % (4 : Int))) ((1 : Int) + (t50 % (6 : Int)))).bind fun t51 => if (!t51) = true then some false else (atI bounds36 (4 : Int)).bind fun t53 => (some ((1 : Int) + (t53 % (5 : Int)))).bind fun lift54 => (atI bounds36 (5 : Int)).bind fun t55 => (f_w_draw script (5 : Int) (t55 % (9 : Int))).bind fun t56 => (f_w_row t56 (lift54 + (3 : Int)) (0 : Int)).bind fun small58 => (atI bounds36 (6 : Int)).bind fun t59 => (f_w_placed small58 ((1 : Int) + (t59 % (3 : Int))) lift54).bind fun t60 => if (!t60) = true then some false else (f_w_merges rows34).bind fun t62 => (andO t62 ((f_w_refused rows34 width40 floor44 (cutD bounds36 (some (7 : Int)) none)).bind fun t63 => some t63)).bind fun t64 => some t64
end
end K13
namespace K13
open PySem PySem.Spec PyProof.Rows L2 DL
theorem k_is_integer {thing : PyData} {r : Bool} (h : f_is_integer thing = some r) : F_is_integer [idD thing] = some (.im (PyData.bool r)) := by
  unfold f_is_integer at h
  refine t_fnI (enc := PyData.bool) rfl ?_
  show wS _ [im (idD thing)] _
  obtain ⟨t1, h_t1, h⟩ := bnd h
  obtain ⟨t3, h_t3, h⟩ := bnd h
  cases h
  refine (w_ret (andX (isX (vI rfl) rfl h_t1) h_t3 (fun _ _ hq => (by obtain ⟨t2, h_t2, hq⟩ := bnd hq; have hq := Option.some.inj hq; subst hq; exact (notX (isX (vI rfl) rfl h_t2))))) ?_)
  exact rfl
theorem k_falling {members : (List Int)} {r : (List Int)} (h : f_falling members = some r) : F_falling [(ls PyData.int) members] = some (.im ((tp PyData.int) r)) := by
  unfold f_falling at h
  refine t_fnI (enc := (tp PyData.int)) rfl ?_
  show wS _ [im ((ls PyData.int) members)] _
  cases h
  refine (w_ret (cbX (dX (srtLX (ns := members) (dX (vI rfl) d0 rfl)) d0 rfl) rfl) ?_)
  exact rfl
theorem k_row_after {width : Int} {floor : Int} {row : (List Int)} {r : (List Int)} (h : f_row_after width floor row = some r) : F_row_after [PyData.int width, PyData.int floor, (tp PyData.int) row] = some (.im ((tp PyData.int) r)) := by
  unfold f_row_after at h
  refine t_fnI (enc := (tp PyData.int)) rfl ?_
  show wS _ [im (PyData.int width), im (PyData.int floor), im ((tp PyData.int) row), none, none] _
  obtain ⟨height1, h_height1, h⟩ := bnd h
  refine w_seq ((t_set (f := PyData.int) (v := floor) (w := height1) h_height1 (vI rfl) rfl ?_))
  show wS _ [im (PyData.int width), im (PyData.int floor), im ((tp PyData.int) row), im (PyData.int height1), none] _
  obtain ⟨t3, h_t3, h⟩ := bnd h
  refine w_seq ((w_if (b := t3) (tandX (bang (binX (cbX (dX (vI rfl) d0 rfl) (o_lenT (f := PyData.int) (l := row))) (vI rfl) rfl rfl e_qge)) h_t3 (fun _ _ hq => (by obtain ⟨t2, h_t2, hq⟩ := bnd hq; have hq := Option.some.inj hq; subst hq; exact (bang (binX (binX (vI rfl) (binX (vI rfl) cI rfl rfl e_sub) rfl rfl (o_ixT (f := PyData.int) (l := row) h_t2)) (vI rfl) rfl rfl e_qge))))) (fun hc4 => ?_) (fun hc4 => ?_)))
  · rw [if1 hc4] at h
    obtain ⟨t5, h_t5, h⟩ := bnd h
    obtain ⟨height6, h_height6, h⟩ := bnd h
    refine (t_set (f := PyData.int) (v := (t5 + (1 : Int))) (w := height6) h_height6 (binX (binX (vI rfl) (binX (vI rfl) cI rfl rfl e_sub) rfl rfl (o_ixT (f := PyData.int) (l := row) h_t5)) cI rfl rfl e_add) rfl ?_)
    show wS _ [im (PyData.int width), im (PyData.int floor), im ((tp PyData.int) row), im (PyData.int height6), none] _
    obtain ⟨t8, h_t8, h⟩ := bnd h
    obtain ⟨t9, h_t9, h⟩ := bnd h
    cases h
    refine w_seq ((w_ret (binX (cbX (dX (lcX (enc := PyData.int) (encB := PyData.int) h_t8 (seqTX (f := PyData.int) (l := row) (vI rfl)) rfl (fun x7 _ => ⟨_, rfl, rfl, fun _ hq => (by have hq := Option.some.inj hq; subst hq; exact (bang (binX (vI rfl) (vI rfl) rfl rfl e_qge))), fun _ _ hq => (by have hq := Option.some.inj hq; subst hq; exact ⟨_, (vI rfl), rfl, rfl⟩)⟩)) d0 rfl) rfl) (tupI (aI (vI rfl) a0) (Nat.le_of_ble_eq_true rfl)) rfl rfl (o_catT (f := PyData.int) (l := t8) (m := [height6]) h_t9)) ?_))
    exact rfl
  · rw [if0 hc4] at h
    refine w_nx ?_
    show wS _ [im (PyData.int width), im (PyData.int floor), im ((tp PyData.int) row), im (PyData.int height1), none] _
    obtain ⟨t11, h_t11, h⟩ := bnd h
    obtain ⟨t12, h_t12, h⟩ := bnd h
    cases h
    refine w_seq ((w_ret (binX (cbX (dX (lcX (enc := PyData.int) (encB := PyData.int) h_t11 (seqTX (f := PyData.int) (l := row) (vI rfl)) rfl (fun x10 _ => ⟨_, rfl, rfl, fun _ hq => (by have hq := Option.some.inj hq; subst hq; exact (bang (binX (vI rfl) (vI rfl) rfl rfl e_qge))), fun _ _ hq => (by have hq := Option.some.inj hq; subst hq; exact ⟨_, (vI rfl), rfl, rfl⟩)⟩)) d0 rfl) rfl) (tupI (aI (vI rfl) a0) (Nat.le_of_ble_eq_true rfl)) rfl rfl (o_catT (f := PyData.int) (l := t11) (m := [height1]) h_t12)) ?_))
    exact rfl
theorem k__law_draw {script : (List Int)} {at_ : Int} {many : Int} {r : (List Int)} (h : f_w_draw script at_ many = some r) : F__law_draw [(ls PyData.int) script, PyData.int at_, PyData.int many] = some (.ac (r.map PyData.int)) := by
  unfold f_w_draw at h
  refine t_fnA (enc := PyData.int) rfl ?_
  show wS _ [im ((ls PyData.int) script), im (PyData.int at_), im (PyData.int many), none, none, none, none] _
  refine w_seq ((w_if (b := (decide ((script.length : Int) = (0 : Int)))) (bang (binX (cbX (dX (vI rfl) d0 rfl) (o_lenL (f := PyData.int) (l := script))) cI rfl rfl e_eq)) (fun hc1 => ?_) (fun hc1 => ?_)))
  · rw [if1 hc1] at h
    obtain ⟨is2, h_is2, h⟩ := bnd h
    obtain ⟨t4, h_t4, h⟩ := bnd h
    cases h
    refine (w_ret (lcX (enc := PyData.int) (encB := PyData.int) h_t4 (rng1I (vI rfl) h_is2) rfl (fun x3 _ => ⟨_, rfl, rfl, fun _ hq => (by have hq := Option.some.inj hq; subst hq; rfl), fun _ _ hq => (by have hq := Option.some.inj hq; subst hq; exact ⟨_, cI, rfl, rfl⟩)⟩)) ?_)
    exact rfl
  · rw [if0 hc1] at h
    refine w_nx ?_
    show wS _ [im ((ls PyData.int) script), im (PyData.int at_), im (PyData.int many), none, none, none, none] _
    obtain ⟨t5, h_t5, h⟩ := bnd h
    obtain ⟨cell7, h_t6, h⟩ := bnd h
    refine w_seq ((t_set (f := PyData.int) (v := cell7) (w := cell7) rfl (cbX (dX (binX (vI rfl) (binX (cbX (dX (vI rfl) d0 rfl) o_int) (cbX (dX (vI rfl) d0 rfl) (o_lenL (f := PyData.int) (l := script))) rfl rfl (o_mod h_t5)) rfl rfl (o_ixL (f := PyData.int) (l := script) h_t6)) d0 rfl) o_int) rfl ?_))
    show wS _ [im ((ls PyData.int) script), im (PyData.int at_), im (PyData.int many), im (PyData.int cell7), none, none, none] _
    obtain ⟨row8, h_row8, h⟩ := bnd h
    refine w_seq ((t_setA (f := PyData.int) (v := []) (w := row8) h_row8 (lstX a0 (Nat.le_of_ble_eq_true rfl)) rfl ?_))
    show wS _ [im ((ls PyData.int) script), im (PyData.int at_), im (PyData.int many), im (PyData.int cell7), ac (row8.map PyData.int), none, none] _
    obtain ⟨t10, h_t10, h⟩ := bnd h
    refine w_seq ((w_if (b := t10) (tandX (bang (binX (vI rfl) (cbX (dX (vI rfl) d0 rfl) (o_lenL (f := PyData.int) (l := script))) rfl rfl e_qlt)) h_t10 (fun _ _ hq => (by obtain ⟨t9, h_t9, hq⟩ := bnd hq; have hq := Option.some.inj hq; subst hq; exact (bang (binX (cbX (dX (vI rfl) d0 rfl) o_abs) (binX cI cI rfl rfl (o_pow h_t9)) rfl rfl e_qge))))) (fun hc11 => ?_) (fun hc11 => ?_)))
    · rw [if1 hc11] at h
      obtain ⟨is12, h_is12, h⟩ := bnd h
      obtain ⟨s19, hl, h⟩ := bnd h
      refine w_seq ((t_forS PyData.int is12 (fun x_1 (s_ : Int × (List Int)) => f_w_draw_L1 many x_1 s_.1 s_.2) (fun (s_ : Int × (List Int)) e => ∃ (o16 : Option PyData), e = [im ((ls PyData.int) script), im (PyData.int at_), im (PyData.int many), im (PyData.int s_.1), ac (s_.2.map PyData.int), none, imo o16]) (rng1I (vI rfl) h_is12) ⟨none, rfl⟩ hl (fun x_1 s_ s2_ h e he => ?_) (fun e he => ?_)))
      · obtain ⟨o16, rfl⟩ := he
        obtain ⟨cell_, row_⟩ := s_
        refine ⟨rfl, _, rfl, ?_⟩
        show wS _ [im ((ls PyData.int) script), im (PyData.int at_), im (PyData.int many), im (PyData.int cell_), ac (row_.map PyData.int), none, im (PyData.int x_1)] _
        replace h : f_w_draw_L1 many x_1 cell_ row_ = some s2_ := h
        unfold f_w_draw_L1 at h
        obtain ⟨row17, h_row17, h⟩ := bnd h
        refine w_seq ((t_app (f := PyData.int) (l := row_) (a := (cell_ % (9949 : Int))) h_row17 ⟨_, (binX (cbX (dX (vI rfl) d0 rfl) o_int) cI rfl rfl (e_mod (by decide))), rfl⟩ rfl rfl ?_))
        show wS _ [im ((ls PyData.int) script), im (PyData.int at_), im (PyData.int many), im (PyData.int cell_), ac (row17.map PyData.int), none, im (PyData.int x_1)] _
        obtain ⟨cell18, h_cell18, h⟩ := bnd h
        refine w_seq ((t_set (f := PyData.int) (v := (cell_ / (9949 : Int))) (w := cell18) h_cell18 (binX (vI rfl) cI rfl rfl (e_div (by decide) (by decide))) rfl ?_))
        show wS _ [im ((ls PyData.int) script), im (PyData.int at_), im (PyData.int many), im (PyData.int cell18), ac (row17.map PyData.int), none, im (PyData.int x_1)] _
        refine w_nx ?_
        cases h
        exact ⟨some (PyData.int x_1), rfl⟩
      · obtain ⟨o20, rfl⟩ := he
        show wS _ [im ((ls PyData.int) script), im (PyData.int at_), im (PyData.int many), im (PyData.int s19.1), ac (s19.2.map PyData.int), none, imo o20] _
        cases h
        refine w_seq ((w_ret (vB rfl) ?_))
        exact rfl
    · rw [if0 hc11] at h
      refine w_nx ?_
      show wS _ [im ((ls PyData.int) script), im (PyData.int at_), im (PyData.int many), im (PyData.int cell7), ac (row8.map PyData.int), none, none] _
      obtain ⟨mixed21, h_mixed21, h⟩ := bnd h
      refine w_seq ((t_set (f := PyData.int) (v := (((((cell7 * (39373 : Int)) + (at_ * (5077 : Int))) + ((script.length : Int) * (1217 : Int))) + (29 : Int)) % (2147483563 : Int))) (w := mixed21) h_mixed21 (binX (cbX (dX (binX (binX (binX (binX (vI rfl) cI rfl rfl (e_mul (.inr (by decide)))) (binX (vI rfl) cI rfl rfl (e_mul (.inr (by decide)))) rfl rfl e_add) (binX (cbX (dX (vI rfl) d0 rfl) (o_lenL (f := PyData.int) (l := script))) cI rfl rfl (e_mul (.inr (by decide)))) rfl rfl e_add) cI rfl rfl e_add) d0 rfl) o_int) cI rfl rfl (e_mod (by decide))) rfl ?_))
      show wS _ [im ((ls PyData.int) script), im (PyData.int at_), im (PyData.int many), im (PyData.int cell7), ac (row8.map PyData.int), im (PyData.int mixed21), none] _
      obtain ⟨is22, h_is22, h⟩ := bnd h
      obtain ⟨s29, hl, h⟩ := bnd h
      refine w_seq ((t_forS PyData.int is22 (fun x_2 (s_ : (List Int) × Int) => f_w_draw_L2 many x_2 s_.1 s_.2) (fun (s_ : (List Int) × Int) e => ∃ (o26 : Option PyData), e = [im ((ls PyData.int) script), im (PyData.int at_), im (PyData.int many), im (PyData.int cell7), ac (s_.1.map PyData.int), im (PyData.int s_.2), imo o26]) (rng1I (vI rfl) h_is22) ⟨none, rfl⟩ hl (fun x_2 s_ s2_ h e he => ?_) (fun e he => ?_)))
      · obtain ⟨o26, rfl⟩ := he
        obtain ⟨row_, mixed_⟩ := s_
        refine ⟨rfl, _, rfl, ?_⟩
        show wS _ [im ((ls PyData.int) script), im (PyData.int at_), im (PyData.int many), im (PyData.int cell7), ac (row_.map PyData.int), im (PyData.int mixed_), im (PyData.int x_2)] _
        replace h : f_w_draw_L2 many x_2 row_ mixed_ = some s2_ := h
        unfold f_w_draw_L2 at h
        obtain ⟨mixed27, h_mixed27, h⟩ := bnd h
        refine w_seq ((t_set (f := PyData.int) (v := (((mixed_ * (40692 : Int)) + (7793 : Int)) % (2147483399 : Int))) (w := mixed27) h_mixed27 (binX (cbX (dX (binX (binX (vI rfl) cI rfl rfl (e_mul (.inr (by decide)))) cI rfl rfl e_add) d0 rfl) o_int) cI rfl rfl (e_mod (by decide))) rfl ?_))
        show wS _ [im ((ls PyData.int) script), im (PyData.int at_), im (PyData.int many), im (PyData.int cell7), ac (row_.map PyData.int), im (PyData.int mixed27), im (PyData.int x_2)] _
        obtain ⟨row28, h_row28, h⟩ := bnd h
        refine w_seq ((t_app (f := PyData.int) (l := row_) (a := ((mixed27 / (13 : Int)) % (9949 : Int))) h_row28 ⟨_, (binX (cbX (dX (binX (vI rfl) cI rfl rfl (e_div (by decide) (by decide))) d0 rfl) o_int) cI rfl rfl (e_mod (by decide))), rfl⟩ rfl rfl ?_))
        show wS _ [im ((ls PyData.int) script), im (PyData.int at_), im (PyData.int many), im (PyData.int cell7), ac (row28.map PyData.int), im (PyData.int mixed27), im (PyData.int x_2)] _
        refine w_nx ?_
        cases h
        exact ⟨some (PyData.int x_2), rfl⟩
      · obtain ⟨o30, rfl⟩ := he
        show wS _ [im ((ls PyData.int) script), im (PyData.int at_), im (PyData.int many), im (PyData.int cell7), ac (s29.1.map PyData.int), im (PyData.int s29.2), imo o30] _
        cases h
        refine w_seq ((w_ret (vB rfl) ?_))
        exact rfl
theorem k__law_listing {width : Int} {greatest : Int} {r : (List (List Int))} (h : f_w_listing width greatest = some r) : F__law_listing [PyData.int width, PyData.int greatest] = some (.ac (r.map (tp PyData.int))) := by
  unfold f_w_listing at h
  refine t_fnA (enc := (tp PyData.int)) rfl ?_
  show wS _ [im (PyData.int width), im (PyData.int greatest), none, none, none, none, none, none] _
  obtain ⟨layer1, h_layer1, h⟩ := bnd h
  refine w_seq ((t_setL (f := (tp PyData.int)) (v := [[]]) (w := layer1) h_layer1 (lstX (aI (tupI a0 (Nat.le_of_ble_eq_true rfl)) a0) (Nat.le_of_ble_eq_true rfl)) rfl ?_))
  show wS _ [im (PyData.int width), im (PyData.int greatest), im ((ls (tp PyData.int)) layer1), none, none, none, none, none] _
  obtain ⟨rows2, h_rows2, h⟩ := bnd h
  refine w_seq ((t_setL (f := (tp PyData.int)) (v := [[]]) (w := rows2) h_rows2 (lstX (aI (tupI a0 (Nat.le_of_ble_eq_true rfl)) a0) (Nat.le_of_ble_eq_true rfl)) rfl ?_))
  show wS _ [im (PyData.int width), im (PyData.int greatest), im ((ls (tp PyData.int)) layer1), im ((ls (tp PyData.int)) rows2), none, none, none, none] _
  obtain ⟨is3, h_is3, h⟩ := bnd h
  obtain ⟨s70, hl, h⟩ := bnd h
  refine w_seq ((t_forS PyData.int is3 (fun x_1 (s_ : (List (List Int)) × (List (List Int))) => f_w_listing_L1 width greatest x_1 s_.1 s_.2) (fun (s_ : (List (List Int)) × (List (List Int))) e => ∃ (o46 : Option PyData) (o47 : Option Sl) (o48 : Option PyData) (o49 : Option PyData), e = [im (PyData.int width), im (PyData.int greatest), im ((ls (tp PyData.int)) s_.1), im ((ls (tp PyData.int)) s_.2), imo o46, o47, imo o48, imo o49]) (rng1I (vI rfl) h_is3) ⟨none, none, none, none, rfl⟩ hl (fun x_1 s_ s2_ h e he => ?_) (fun e he => ?_)))
  · obtain ⟨o46, o47, o48, o49, rfl⟩ := he
    obtain ⟨layer_, rows_⟩ := s_
    refine ⟨rfl, _, rfl, ?_⟩
    show wS _ [im (PyData.int width), im (PyData.int greatest), im ((ls (tp PyData.int)) layer_), im ((ls (tp PyData.int)) rows_), im (PyData.int x_1), o47, imo o48, imo o49] _
    replace h : f_w_listing_L1 width greatest x_1 layer_ rows_ = some s2_ := h
    unfold f_w_listing_L1 at h
    obtain ⟨longer50, h_longer50, h⟩ := bnd h
    refine w_seq ((t_setA (f := (tp PyData.int)) (v := []) (w := longer50) h_longer50 (lstX a0 (Nat.le_of_ble_eq_true rfl)) rfl ?_))
    show wS _ [im (PyData.int width), im (PyData.int greatest), im ((ls (tp PyData.int)) layer_), im ((ls (tp PyData.int)) rows_), im (PyData.int x_1), ac (longer50.map (tp PyData.int)), imo o48, imo o49] _
    obtain ⟨longer64, hl, h⟩ := bnd h
    refine w_seq ((t_forS (tp PyData.int) layer_ (fun x_2 (longer_ : (List (List Int))) => f_w_listing_L2 width greatest layer_ rows_ x_2 longer_) (fun (longer_ : (List (List Int))) e => ∃ (o51 : Option PyData) (o52 : Option PyData), e = [im (PyData.int width), im (PyData.int greatest), im ((ls (tp PyData.int)) layer_), im ((ls (tp PyData.int)) rows_), im (PyData.int x_1), ac (longer_.map (tp PyData.int)), imo o51, imo o52]) (seqAX (f := (tp PyData.int)) (l := layer_) (cbX (dX (vI rfl) d0 rfl) rfl)) ⟨o48, o49, rfl⟩ hl (fun x_2 longer_ s2_ h e he => ?_) (fun e he => ?_)))
    · obtain ⟨o51, o52, rfl⟩ := he
      refine ⟨rfl, _, rfl, ?_⟩
      show wS _ [im (PyData.int width), im (PyData.int greatest), im ((ls (tp PyData.int)) layer_), im ((ls (tp PyData.int)) rows_), im (PyData.int x_1), ac (longer_.map (tp PyData.int)), im ((tp PyData.int) x_2), imo o52] _
      replace h : f_w_listing_L2 width greatest layer_ rows_ x_2 longer_ = some s2_ := h
      unfold f_w_listing_L2 at h
      obtain ⟨is53, h_is53, h⟩ := bnd h
      obtain ⟨longer61, hl, h⟩ := bnd h
      refine (t_forS PyData.int is53 (fun x_3 (longer_ : (List (List Int))) => f_w_listing_L3 width greatest layer_ rows_ x_2 x_3 longer_) (fun (longer_ : (List (List Int))) e => ∃ (o54 : Option PyData), e = [im (PyData.int width), im (PyData.int greatest), im ((ls (tp PyData.int)) layer_), im ((ls (tp PyData.int)) rows_), im (PyData.int x_1), ac (longer_.map (tp PyData.int)), im ((tp PyData.int) x_2), imo o54]) (rng2I cI (binX cI (vI rfl) rfl rfl e_add) h_is53) ⟨o52, rfl⟩ hl (fun x_3 longer_ s2_ h e he => ?_) (fun e he => ?_))
      · obtain ⟨o54, rfl⟩ := he
        refine ⟨rfl, _, rfl, ?_⟩
        show wS _ [im (PyData.int width), im (PyData.int greatest), im ((ls (tp PyData.int)) layer_), im ((ls (tp PyData.int)) rows_), im (PyData.int x_1), ac (longer_.map (tp PyData.int)), im ((tp PyData.int) x_2), im (PyData.int x_3)] _
        replace h : f_w_listing_L3 width greatest layer_ rows_ x_2 x_3 longer_ = some s2_ := h
        unfold f_w_listing_L3 at h
        obtain ⟨t56, h_t56, h⟩ := bnd h
        refine (w_if (b := t56) (torX (bang (binX (cbX (dX (vI rfl) d0 rfl) (o_lenT (f := PyData.int) (l := x_2))) cI rfl rfl e_eq)) h_t56 (fun _ _ hq => (by obtain ⟨t55, h_t55, hq⟩ := bnd hq; have hq := Option.some.inj hq; subst hq; exact (bang (binX (vI rfl) (binX (vI rfl) (negI cI) rfl rfl (o_ixT (f := PyData.int) (l := x_2) h_t55)) rfl rfl e_qle))))) (fun hc57 => ?_) (fun hc57 => ?_))
        · rw [if1 hc57] at h
          obtain ⟨t58, h_t58, h⟩ := bnd h
          obtain ⟨longer59, h_longer59, h⟩ := bnd h
          refine (t_app (f := (tp PyData.int)) (l := longer_) (a := t58) h_longer59 ⟨_, (binX (vI rfl) (tupI (aI (vI rfl) a0) (Nat.le_of_ble_eq_true rfl)) rfl rfl (o_catT (f := PyData.int) (l := x_2) (m := [x_3]) h_t58)), rfl⟩ rfl rfl ?_)
          cases h
          exact ⟨some (PyData.int x_3), rfl⟩
        · rw [if0 hc57] at h
          refine w_nx ?_
          cases h
          exact ⟨some (PyData.int x_3), rfl⟩
      · obtain ⟨o62, rfl⟩ := he
        cases h
        exact ⟨some ((tp PyData.int) x_2), o62, rfl⟩
    · obtain ⟨o65, o66, rfl⟩ := he
      show wS _ [im (PyData.int width), im (PyData.int greatest), im ((ls (tp PyData.int)) layer_), im ((ls (tp PyData.int)) rows_), im (PyData.int x_1), ac (longer64.map (tp PyData.int)), imo o65, imo o66] _
      obtain ⟨layer67, h_layer67, h⟩ := bnd h
      refine w_seq ((w_fz (t_set (f := (ls (tp PyData.int))) (v := longer64) (w := layer67) h_layer67 (vI rfl) rfl ?_)))
      show wS _ [im (PyData.int width), im (PyData.int greatest), im ((ls (tp PyData.int)) layer67), im ((ls (tp PyData.int)) rows_), im (PyData.int x_1), im ((ls (tp PyData.int)) longer64), imo o65, imo o66] _
      obtain ⟨rows69, h_t68, h⟩ := bnd h
      refine w_seq ((t_setL (f := (tp PyData.int)) (v := rows69) (w := rows69) rfl (binX (vI rfl) (vI rfl) rfl rfl (o_catL (f := (tp PyData.int)) (l := rows_) (m := longer64) h_t68)) rfl ?_))
      show wS _ [im (PyData.int width), im (PyData.int greatest), im ((ls (tp PyData.int)) layer67), im ((ls (tp PyData.int)) rows69), im (PyData.int x_1), im ((ls (tp PyData.int)) longer64), imo o65, imo o66] _
      refine w_nx ?_
      cases h
      exact ⟨some (PyData.int x_1), im ((ls (tp PyData.int)) longer64), o65, o66, rfl⟩
  · obtain ⟨o71, o72, o73, o74, rfl⟩ := he
    show wS _ [im (PyData.int width), im (PyData.int greatest), im ((ls (tp PyData.int)) s70.1), im ((ls (tp PyData.int)) s70.2), imo o71, o72, imo o73, imo o74] _
    cases h
    refine w_seq ((w_ret (cbX (dX (vI rfl) d0 rfl) (o_sortedBT (l := s70.2))) ?_))
    exact rfl
theorem k__law_row {row : (List Int)} {most : Int} {manner : Int} {r : (List Int)} (h : f_w_row row most manner = some r) : F__law_row [(ls PyData.int) row, PyData.int most, PyData.int manner] = some (.im ((tp PyData.int) r)) := by
  unfold f_w_row at h
  refine t_fnI (enc := (tp PyData.int)) rfl ?_
  show wS _ [im ((ls PyData.int) row), im (PyData.int most), im (PyData.int manner), none, none] _
  obtain ⟨members1, h_members1, h⟩ := bnd h
  refine w_seq ((t_setA (f := PyData.int) (v := []) (w := members1) h_members1 (lstX a0 (Nat.le_of_ble_eq_true rfl)) rfl ?_))
  show wS _ [im ((ls PyData.int) row), im (PyData.int most), im (PyData.int manner), ac (members1.map PyData.int), none] _
  obtain ⟨members27, hl, h⟩ := bnd h
  refine w_seq ((t_forS PyData.int row (fun x_1 (members_ : (List Int)) => f_w_row_L1 row most manner x_1 members_) (fun (members_ : (List Int)) e => ∃ (o14 : Option PyData), e = [im ((ls PyData.int) row), im (PyData.int most), im (PyData.int manner), ac (members_.map PyData.int), imo o14]) (seqLX (f := PyData.int) (l := row) (vI rfl)) ⟨none, rfl⟩ hl (fun x_1 members_ s2_ h e he => ?_) (fun e he => ?_)))
  · obtain ⟨o14, rfl⟩ := he
    refine ⟨rfl, _, rfl, ?_⟩
    show wS _ [im ((ls PyData.int) row), im (PyData.int most), im (PyData.int manner), ac (members_.map PyData.int), im (PyData.int x_1)] _
    replace h : f_w_row_L1 row most manner x_1 members_ = some s2_ := h
    unfold f_w_row_L1 at h
    refine (w_if (b := (decide ((manner % (5 : Int)) = (3 : Int)))) (bang (binX (binX (cbX (dX (vI rfl) d0 rfl) o_int) cI rfl rfl (e_mod (by decide))) cI rfl rfl e_eq)) (fun hc15 => ?_) (fun hc15 => ?_))
    · rw [if1 hc15] at h
      obtain ⟨t16, h_t16, h⟩ := bnd h
      obtain ⟨members17, h_members17, h⟩ := bnd h
      refine (t_app (f := PyData.int) (l := members_) (a := (t16 + (x_1 % (3 : Int)))) h_members17 ⟨_, (binX (binX cI cI rfl rfl (o_pow h_t16)) (binX (cbX (dX (vI rfl) d0 rfl) o_int) cI rfl rfl (e_mod (by decide))) rfl rfl e_add), rfl⟩ rfl rfl ?_)
      cases h
      exact ⟨some (PyData.int x_1), rfl⟩
    · rw [if0 hc15] at h
      refine (w_if (b := (decide ((manner % (5 : Int)) = (4 : Int)))) (bang (binX (binX (cbX (dX (vI rfl) d0 rfl) o_int) cI rfl rfl (e_mod (by decide))) cI rfl rfl e_eq)) (fun hc18 => ?_) (fun hc18 => ?_))
      · rw [if1 hc18] at h
        obtain ⟨t19, h_t19, h⟩ := bnd h
        obtain ⟨t20, h_t20, h⟩ := bnd h
        obtain ⟨t21, h_t21, h⟩ := bnd h
        obtain ⟨t22, h_t22, h⟩ := bnd h
        obtain ⟨members23, h_members23, h⟩ := bnd h
        refine (t_app (f := PyData.int) (l := members_) (a := t22) h_members23 ⟨_, (binX (tupI (aI cI (aI cI (aI (binX cI cI rfl rfl (o_pow h_t19)) (aI (binX cI cI rfl rfl (o_pow h_t20)) (aI (binX (binX cI cI rfl rfl (o_pow h_t21)) cI rfl rfl e_add) a0))))) (Nat.le_of_ble_eq_true rfl)) (binX (cbX (dX (vI rfl) d0 rfl) o_int) cI rfl rfl (e_mod (by decide))) rfl rfl (o_ixT (f := PyData.int) (l := [(1 : Int), (2 : Int), t19, t20, (t21 + (1 : Int))]) h_t22)), rfl⟩ rfl rfl ?_)
        cases h
        exact ⟨some (PyData.int x_1), rfl⟩
      · rw [if0 hc18] at h
        obtain ⟨t24, h_t24, h⟩ := bnd h
        obtain ⟨members25, h_members25, h⟩ := bnd h
        refine (t_app (f := PyData.int) (l := members_) (a := ((1 : Int) + t24)) h_members25 ⟨_, (binX cI (binX (cbX (dX (vI rfl) d0 rfl) o_int) (vI rfl) rfl rfl (o_mod h_t24)) rfl rfl e_add), rfl⟩ rfl rfl ?_)
        cases h
        exact ⟨some (PyData.int x_1), rfl⟩
  · obtain ⟨o28, rfl⟩ := he
    show wS _ [im ((ls PyData.int) row), im (PyData.int most), im (PyData.int manner), ac (members27.map PyData.int), imo o28] _
    cases h
    refine w_seq ((w_ret (cbX (dX (srtLX (ns := members27) (dX (vB rfl) d0 rfl)) d0 rfl) rfl) ?_))
    exact rfl
theorem k__law_counted {width : Int} {floor : Int} {row : (List Int)} {r : (List Int)} (h : f_w_counted width floor row = some r) : F__law_counted [PyData.int width, PyData.int floor, (tp PyData.int) row] = some (.im ((tp PyData.int) r)) := by
  unfold f_w_counted at h
  refine t_fnI (enc := (tp PyData.int)) rfl ?_
  show wS _ [im (PyData.int width), im (PyData.int floor), im ((tp PyData.int) row), none, none, none] _
  obtain ⟨best1, h_best1, h⟩ := bnd h
  refine w_seq ((t_set (f := idD) (v := (nn ())) (w := best1) h_best1 cI rfl ?_))
  show wS _ [im (PyData.int width), im (PyData.int floor), im ((tp PyData.int) row), im (idD best1), none, none] _
  obtain ⟨t3, h_t3, h⟩ := bnd h
  obtain ⟨t4, h_t4, h⟩ := bnd h
  obtain ⟨best26, hl, h⟩ := bnd h
  refine w_seq ((t_forS PyData.int t4 (fun x_1 (best_ : PyData) => f_w_counted_L1 width floor row x_1 best_) (fun (best_ : PyData) e => ∃ (o15 : Option PyData), e = [im (PyData.int width), im (PyData.int floor), im ((tp PyData.int) row), im (idD best_), imo o15, none]) (seqAX (f := PyData.int) (l := t4) (binX (lstX (aI (vI rfl) a0) (Nat.le_of_ble_eq_true rfl)) (lcX (enc := PyData.int) (encB := PyData.int) h_t3 (seqTX (f := PyData.int) (l := row) (vI rfl)) rfl (fun x2 _ => ⟨_, rfl, rfl, fun _ hq => (by have hq := Option.some.inj hq; subst hq; rfl), fun _ _ hq => (by have hq := Option.some.inj hq; subst hq; exact ⟨_, (binX (vI rfl) cI rfl rfl e_add), rfl, rfl⟩)⟩)) rfl rfl (o_catL (f := PyData.int) (l := [floor]) (m := t3) h_t4))) ⟨none, rfl⟩ hl (fun x_1 best_ s2_ h e he => ?_) (fun e he => ?_)))
  · obtain ⟨o15, rfl⟩ := he
    refine ⟨rfl, _, rfl, ?_⟩
    show wS _ [im (PyData.int width), im (PyData.int floor), im ((tp PyData.int) row), im (idD best_), im (PyData.int x_1), none] _
    replace h : f_w_counted_L1 width floor row x_1 best_ = some s2_ := h
    unfold f_w_counted_L1 at h
    obtain ⟨t18, h_t18, h⟩ := bnd h
    refine (w_if (b := t18) (tandX (bang (binX (vI rfl) (vI rfl) rfl rfl e_qge)) h_t18 (fun _ _ hq => (by obtain ⟨t17, h_t17, hq⟩ := bnd hq; have hq := Option.some.inj hq; subst hq; exact (bang (binX (cbX (dX (lcX (enc := PyData.int) (encB := PyData.int) h_t17 (seqTX (f := PyData.int) (l := row) (vI rfl)) rfl (fun x16 _ => ⟨_, rfl, rfl, fun _ hq => (by have hq := Option.some.inj hq; subst hq; exact (bang (binX (vI rfl) (vI rfl) rfl rfl e_qge))), fun _ _ hq => (by have hq := Option.some.inj hq; subst hq; exact ⟨_, (vI rfl), rfl, rfl⟩)⟩)) d0 rfl) (o_lenL (f := PyData.int) (l := t17))) (vI rfl) rfl rfl e_qlt))))) (fun hc19 => ?_) (fun hc19 => ?_))
    · rw [if1 hc19] at h
      obtain ⟨t20, h_t20, h⟩ := bnd h
      obtain ⟨t22, h_t22, h⟩ := bnd h
      refine (w_if (b := t22) (torX (bang (binX (vI rfl) cI rfl rfl (bD_ok h_t20))) h_t22 (fun _ _ hq => (by obtain ⟨t21, h_t21, hq⟩ := bnd hq; have hq := Option.some.inj hq; subst hq; exact (bang (binX (vI rfl) (vI rfl) rfl rfl (bD_ok h_t21)))))) (fun hc23 => ?_) (fun hc23 => ?_))
      · rw [if1 hc23] at h
        obtain ⟨best24, h_best24, h⟩ := bnd h
        refine (t_set (f := idD) (v := (PyData.int x_1)) (w := best24) h_best24 (vI rfl) rfl ?_)
        cases h
        exact ⟨some (PyData.int x_1), rfl⟩
      · rw [if0 hc23] at h
        refine w_nx ?_
        cases h
        exact ⟨some (PyData.int x_1), rfl⟩
    · rw [if0 hc19] at h
      refine w_nx ?_
      cases h
      exact ⟨some (PyData.int x_1), rfl⟩
  · obtain ⟨o27, rfl⟩ := he
    show wS _ [im (PyData.int width), im (PyData.int floor), im ((tp PyData.int) row), im (idD best26), imo o27, none] _
    obtain ⟨an28, h_an28, h⟩ := bnd h
    have e_ := anY an_int h_an28
    revert h
    subst e_
    intro h
    obtain ⟨t30, h_t30, h⟩ := bnd h
    obtain ⟨t31, h_t31, h⟩ := bnd h
    cases h
    refine w_seq ((w_ret (cbX (dX (binX (lcX (enc := PyData.int) (encB := PyData.int) h_t30 (seqTX (f := PyData.int) (l := row) (vI rfl)) rfl (fun x29 _ => ⟨_, rfl, rfl, fun _ hq => (by have hq := Option.some.inj hq; subst hq; exact (bang (binX (vI rfl) (vI rfl) rfl rfl e_qge))), fun _ _ hq => (by have hq := Option.some.inj hq; subst hq; exact ⟨_, (vI rfl), rfl, rfl⟩)⟩)) (lstX (aI (vI rfl) a0) (Nat.le_of_ble_eq_true rfl)) rfl rfl (o_catL (f := PyData.int) (l := t30) (m := [an28]) h_t31)) d0 rfl) rfl) ?_))
    exact rfl
theorem k__law_bent {row : (List Int)} {good : (List Int)} {r : PyData} (h : f_w_bent row good = some r) : F__law_bent [(ls PyData.int) row, (tp PyData.int) good] = some (.im (idD r)) := by
  unfold f_w_bent at h
  refine t_fnI (enc := idD) rfl ?_
  show wS _ [im ((ls PyData.int) row), im ((tp PyData.int) good), none] _
  obtain ⟨t1, h_t1, h⟩ := bnd h
  obtain ⟨kind2, h_kind2, h⟩ := bnd h
  refine w_seq ((t_set (f := PyData.int) (v := (t1 % (8 : Int))) (w := kind2) h_kind2 (binX (cbX (dX (binX (vI rfl) cI rfl rfl (o_ixL (f := PyData.int) (l := row) h_t1)) d0 rfl) o_int) cI rfl rfl (e_mod (by decide))) rfl ?_))
  show wS _ [im ((ls PyData.int) row), im ((tp PyData.int) good), im (PyData.int kind2)] _
  refine w_seq ((w_if (b := (decide (kind2 = (0 : Int)))) (bang (binX (vI rfl) cI rfl rfl e_eq)) (fun hc3 => ?_) (fun hc3 => ?_)))
  · rw [if1 hc3] at h
    cases h
    refine (w_ret (frzX (cbX (dX (vI rfl) d0 rfl) rfl)) ?_)
    exact rfl
  · rw [if0 hc3] at h
    refine w_nx ?_
    show wS _ [im ((ls PyData.int) row), im ((tp PyData.int) good), im (PyData.int kind2)] _
    refine w_seq ((w_if (b := (decide (kind2 = (1 : Int)))) (bang (binX (vI rfl) cI rfl rfl e_eq)) (fun hc4 => ?_) (fun hc4 => ?_)))
    · rw [if1 hc4] at h
      obtain ⟨t5, h_t5, h⟩ := bnd h
      cases h
      refine (w_ret (binX (vI rfl) (tupI (aI cI a0) (Nat.le_of_ble_eq_true rfl)) rfl rfl (o_catT (f := PyData.int) (l := good) (m := [(0 : Int)]) h_t5)) ?_)
      exact rfl
    · rw [if0 hc4] at h
      refine w_nx ?_
      show wS _ [im ((ls PyData.int) row), im ((tp PyData.int) good), im (PyData.int kind2)] _
      refine w_seq ((w_if (b := (decide (kind2 = (2 : Int)))) (bang (binX (vI rfl) cI rfl rfl e_eq)) (fun hc6 => ?_) (fun hc6 => ?_)))
      · rw [if1 hc6] at h
        obtain ⟨t7, h_t7, h⟩ := bnd h
        cases h
        refine (w_ret (binX (vI rfl) (tupI (aI cI (aI cI a0)) (Nat.le_of_ble_eq_true rfl)) rfl rfl (o_catT (f := PyData.int) (l := good) (m := [(1 : Int), (2 : Int)]) h_t7)) ?_)
        exact rfl
      · rw [if0 hc6] at h
        refine w_nx ?_
        show wS _ [im ((ls PyData.int) row), im ((tp PyData.int) good), im (PyData.int kind2)] _
        refine w_seq ((w_if (b := (decide (kind2 = (3 : Int)))) (bang (binX (vI rfl) cI rfl rfl e_eq)) (fun hc8 => ?_) (fun hc8 => ?_)))
        · rw [if1 hc8] at h
          obtain ⟨t9, h_t9, h⟩ := bnd h
          obtain ⟨t10, h_t10, h⟩ := bnd h
          cases h
          refine (w_ret (binX (tupI (aI cI (aI cI (aI cI (aI cI (aI cI a0))))) (Nat.le_of_ble_eq_true rfl)) (binX (cbX (dX (binX (vI rfl) cI rfl rfl (o_ixL (f := PyData.int) (l := row) h_t9)) d0 rfl) o_int) cI rfl rfl (e_mod (by decide))) rfl rfl (o_ixT (f := idD) (l := [(nn ()), (PyData.int (3 : Int)), (PyData.str ("1" : Str)), (PyData.bool true), (PyData.str ("" : Str))]) h_t10)) ?_)
          exact rfl
        · rw [if0 hc8] at h
          refine w_nx ?_
          show wS _ [im ((ls PyData.int) row), im ((tp PyData.int) good), im (PyData.int kind2)] _
          refine w_seq ((w_if (b := (decide (kind2 = (4 : Int)))) (bang (binX (vI rfl) cI rfl rfl e_eq)) (fun hc11 => ?_) (fun hc11 => ?_)))
          · rw [if1 hc11] at h
            obtain ⟨t12, h_t12, h⟩ := bnd h
            cases h
            refine (w_ret (binX (imAnyT (f := PyData.int) (l := good) (vI rfl)) (tupI (aI cI a0) (Nat.le_of_ble_eq_true rfl)) rfl rfl (o_catT (f := idD) (l := (List.map PyData.int good)) (m := [(PyData.bool true)]) h_t12)) ?_)
            exact rfl
          · rw [if0 hc11] at h
            refine w_nx ?_
            show wS _ [im ((ls PyData.int) row), im ((tp PyData.int) good), im (PyData.int kind2)] _
            refine w_seq ((w_if (b := (decide (kind2 = (5 : Int)))) (bang (binX (vI rfl) cI rfl rfl e_eq)) (fun hc13 => ?_) (fun hc13 => ?_)))
            · rw [if1 hc13] at h
              obtain ⟨t14, h_t14, h⟩ := bnd h
              cases h
              refine (w_ret (binX (tupI (aI cI (aI cI (aI cI a0))) (Nat.le_of_ble_eq_true rfl)) (vI rfl) rfl rfl (o_catT (f := PyData.int) (l := [(2 : Int), (1 : Int), (2 : Int)]) (m := good) h_t14)) ?_)
              exact rfl
            · rw [if0 hc13] at h
              refine w_nx ?_
              show wS _ [im ((ls PyData.int) row), im ((tp PyData.int) good), im (PyData.int kind2)] _
              refine w_seq ((w_if (b := (decide (kind2 = (6 : Int)))) (bang (binX (vI rfl) cI rfl rfl e_eq)) (fun hc15 => ?_) (fun hc15 => ?_)))
              · rw [if1 hc15] at h
                obtain ⟨t16, h_t16, h⟩ := bnd h
                cases h
                refine (w_ret (binX (vI rfl) (tupI (aI (negI cI) a0) (Nat.le_of_ble_eq_true rfl)) rfl rfl (o_catT (f := PyData.int) (l := good) (m := [(-1 : Int)]) h_t16)) ?_)
                exact rfl
              · rw [if0 hc15] at h
                refine w_nx ?_
                show wS _ [im ((ls PyData.int) row), im ((tp PyData.int) good), im (PyData.int kind2)] _
                obtain ⟨t17, h_t17, h⟩ := bnd h
                cases h
                refine w_seq ((w_ret (binX (tupI (aI cI a0) (Nat.le_of_ble_eq_true rfl)) (imAnyT (f := PyData.int) (l := good) (vI rfl)) rfl rfl (o_catT (f := idD) (l := [(PyData.str ("2" : Str))]) (m := (List.map PyData.int good)) h_t17)) ?_))
                exact rfl
theorem k_is_natural {thing : PyData} {r : Bool} (h : f_is_natural thing = some r) : F_is_natural [idD thing] = some (.im (PyData.bool r)) := by
  unfold f_is_natural at h
  refine t_fnI (enc := PyData.bool) rfl ?_
  show wS _ [im (idD thing)] _
  obtain ⟨t1, h_t1, h⟩ := bnd h
  obtain ⟨t3, h_t3, h⟩ := bnd h
  cases h
  refine (w_ret (andX (callI (aI (vI rfl) a0) rfl (k_is_integer h_t1)) h_t3 (fun _ _ hq => (by obtain ⟨t2, h_t2, hq⟩ := bnd hq; have hq := Option.some.inj hq; subst hq; exact (binX (vI rfl) cI rfl rfl (bD_ok h_t2))))) ?_)
  exact rfl
theorem k_is_row {thing : PyData} {r : Bool} (h : f_is_row thing = some r) : F_is_row [idD thing] = some (.im (PyData.bool r)) := by
  unfold f_is_row at h
  refine t_fnI (enc := PyData.bool) rfl ?_
  show wS _ [im (idD thing), none, none] _
  obtain ⟨t1, h_t1, h⟩ := bnd h
  refine w_seq ((w_if (b := (!t1)) (tnot (bang (isX (vI rfl) rfl h_t1))) (fun hc2 => ?_) (fun hc2 => ?_)))
  · rw [if1 hc2] at h
    cases h
    refine (w_ret cI ?_)
    exact rfl
  · rw [if0 hc2] at h
    refine w_nx ?_
    show wS _ [im (idD thing), none, none] _
    obtain ⟨is3, h_is3, h⟩ := bnd h
    obtain ⟨t6, h_t6, h⟩ := bnd h
    refine w_seq ((w_if (b := (!(t6.all id))) (tnot (bang (cbX (dX (lcX (enc := idD) (encB := PyData.bool) h_t6 (wkX (vI rfl) h_is3) rfl (fun x4 _ => ⟨_, rfl, rfl, fun _ hq => (by have hq := Option.some.inj hq; subst hq; rfl), fun _ _ hq => (by obtain ⟨t5, h_t5, hq⟩ := bnd hq; have hq := Option.some.inj hq; subst hq; exact ⟨_, (callI (aI (vI rfl) a0) rfl (k_is_natural h_t5)), rfl, rfl⟩)⟩)) d0 rfl) (o_allL (l := t6))))) (fun hc7 => ?_) (fun hc7 => ?_)))
    · rw [if1 hc7] at h
      cases h
      refine (w_ret cI ?_)
      exact rfl
    · rw [if0 hc7] at h
      refine w_nx ?_
      show wS _ [im (idD thing), none, none] _
      obtain ⟨t8, h_t8, h⟩ := bnd h
      obtain ⟨is9, h_is9, h⟩ := bnd h
      obtain ⟨t14, h_t14, h⟩ := bnd h
      cases h
      refine w_seq ((w_ret (cbX (dX (lcX (enc := PyData.int) (encB := PyData.bool) h_t14 (rng1I (binX (cbX (dX (vI rfl) d0 rfl) (iD_ok h_t8)) cI rfl rfl e_sub) h_is9) rfl (fun x10 _ => ⟨_, rfl, rfl, fun _ hq => (by have hq := Option.some.inj hq; subst hq; rfl), fun _ _ hq => (by obtain ⟨t11, h_t11, hq⟩ := bnd hq; obtain ⟨t12, h_t12, hq⟩ := bnd hq; obtain ⟨t13, h_t13, hq⟩ := bnd hq; have hq := Option.some.inj hq; subst hq; exact ⟨_, (binX (binX (vI rfl) (vI rfl) rfl rfl (vD_ok h_t11)) (binX (vI rfl) (binX (vI rfl) cI rfl rfl e_add) rfl rfl (vD_ok h_t12)) rfl rfl (bD_ok h_t13)), rfl, rfl⟩)⟩)) d0 rfl) (o_allL (l := t14))) ?_))
      exact rfl
theorem k_merged {rows : (List (List Int))} {r : (List Int)} (h : f_merged rows = some r) : F_merged [(tp (tp PyData.int)) rows] = some (.im ((tp PyData.int) r)) := by
  unfold f_merged at h
  refine t_fnI (enc := (tp PyData.int)) rfl ?_
  show wS _ [im ((tp (tp PyData.int)) rows), none, none] _
  obtain ⟨t4, h_t4, h⟩ := bnd h
  refine w_seq ((w_if (b := t4) (torX (tnot (bang (isX (vI rfl) rfl rfl))) h_t4 (fun _ _ hq => (by obtain ⟨t3, h_t3, hq⟩ := bnd hq; have hq := Option.some.inj hq; subst hq; exact (tnot (bang (cbX (dX (lcX (enc := (tp PyData.int)) (encB := PyData.bool) h_t3 (seqTX (f := (tp PyData.int)) (l := rows) (vI rfl)) rfl (fun x1 _ => ⟨_, rfl, rfl, fun _ hq => (by have hq := Option.some.inj hq; subst hq; rfl), fun _ _ hq => (by obtain ⟨t2, h_t2, hq⟩ := bnd hq; have hq := Option.some.inj hq; subst hq; exact ⟨_, (callI (aI (vI rfl) a0) rfl (k_is_row h_t2)), rfl, rfl⟩)⟩)) d0 rfl) (o_allL (l := t3)))))))) (fun hc5 => ?_) (fun hc5 => ?_)))
  · rw [if1 hc5] at h
    cases h
  · rw [if0 hc5] at h
    refine w_nx ?_
    show wS _ [im ((tp (tp PyData.int)) rows), none, none] _
    obtain ⟨t8, h_t8, h⟩ := bnd h
    obtain ⟨t9, h_t9, h⟩ := bnd h
    cases h
    refine w_seq ((w_ret (callI (aA (lc2X (enc := (tp PyData.int)) (enc1 := PyData.int) (encB := PyData.int) h_t8 (seqTX (f := (tp PyData.int)) (l := rows) (vI rfl)) rfl (fun x6 _ => ⟨_, rfl, rfl, fun _ hq => (by have hq := Option.some.inj hq; subst hq; rfl), fun _ _ hq => (by have hq := Option.some.inj hq; subst hq; exact ⟨(seqTX (f := PyData.int) (l := x6) (vI rfl)), rfl, rfl, (fun y7 _ => ⟨_, rfl, rfl, fun _ hq => (by have hq := Option.some.inj hq; subst hq; rfl), fun _ _ hq => (by have hq := Option.some.inj hq; subst hq; exact ⟨_, (vI rfl), rfl, rfl⟩)⟩)⟩)⟩)) a0) rfl (k_falling h_t9)) ?_))
    exact rfl
theorem k_stepped {width : Int} {floor : Int} {row : (List Int)} {r : (List Int)} (h : f_stepped width floor row = some r) : F_stepped [PyData.int width, PyData.int floor, (tp PyData.int) row] = some (.im ((tp PyData.int) r)) := by
  unfold f_stepped at h
  refine t_fnI (enc := (tp PyData.int)) rfl ?_
  show wS _ [im (PyData.int width), im (PyData.int floor), im ((tp PyData.int) row)] _
  obtain ⟨t1, h_t1, h⟩ := bnd h
  refine w_seq ((w_if (b := (!t1)) (tnot (bang (callI (aI (vI rfl) a0) rfl (k_is_natural h_t1)))) (fun hc2 => ?_) (fun hc2 => ?_)))
  · rw [if1 hc2] at h
    cases h
  · rw [if0 hc2] at h
    refine w_nx ?_
    show wS _ [im (PyData.int width), im (PyData.int floor), im ((tp PyData.int) row)] _
    obtain ⟨t3, h_t3, h⟩ := bnd h
    refine w_seq ((w_if (b := (!t3)) (tnot (bang (callI (aI (vI rfl) a0) rfl (k_is_natural h_t3)))) (fun hc4 => ?_) (fun hc4 => ?_)))
    · rw [if1 hc4] at h
      cases h
    · rw [if0 hc4] at h
      refine w_nx ?_
      show wS _ [im (PyData.int width), im (PyData.int floor), im ((tp PyData.int) row)] _
      obtain ⟨t5, h_t5, h⟩ := bnd h
      refine w_seq ((w_if (b := (!t5)) (tnot (bang (callI (aI (vI rfl) a0) rfl (k_is_row h_t5)))) (fun hc6 => ?_) (fun hc6 => ?_)))
      · rw [if1 hc6] at h
        cases h
      · rw [if0 hc6] at h
        refine w_nx ?_
        show wS _ [im (PyData.int width), im (PyData.int floor), im ((tp PyData.int) row)] _
        obtain ⟨t7, h_t7, h⟩ := bnd h
        cases h
        refine w_seq ((w_ret (callI (aI (vI rfl) (aI (vI rfl) (aI (vI rfl) a0))) rfl (k_row_after h_t7)) ?_))
        exact rfl
theorem k_unlike_at {one : (List Int)} {other : (List Int)} {r : Int} (h : f_unlike_at one other = some r) : F_unlike_at [(tp PyData.int) one, (tp PyData.int) other] = some (.im (PyData.int r)) := by
  unfold f_unlike_at at h
  refine t_fnI (enc := PyData.int) rfl ?_
  show wS _ [im ((tp PyData.int) one), im ((tp PyData.int) other), none, none] _
  obtain ⟨t1, h_t1, h⟩ := bnd h
  refine w_seq ((w_if (b := (!t1)) (tnot (bang (callI (aI (vI rfl) a0) rfl (k_is_row h_t1)))) (fun hc2 => ?_) (fun hc2 => ?_)))
  · rw [if1 hc2] at h
    cases h
  · rw [if0 hc2] at h
    refine w_nx ?_
    show wS _ [im ((tp PyData.int) one), im ((tp PyData.int) other), none, none] _
    obtain ⟨t3, h_t3, h⟩ := bnd h
    refine w_seq ((w_if (b := (!t3)) (tnot (bang (callI (aI (vI rfl) a0) rfl (k_is_row h_t3)))) (fun hc4 => ?_) (fun hc4 => ?_)))
    · rw [if1 hc4] at h
      cases h
    · rw [if0 hc4] at h
      refine w_nx ?_
      show wS _ [im ((tp PyData.int) one), im ((tp PyData.int) other), none, none] _
      obtain ⟨l_, hl, h⟩ := bnd h
      refine w_seq ((t_forG (p2 PyData.int PyData.int) (one.zip other) (fun x_1 (s_ : Unit) => f_unlike_at_L1 one other x_1) (fun (s_ : Unit) e => ∃ (o8 : Option PyData) (o9 : Option PyData), e = [im ((tp PyData.int) one), im ((tp PyData.int) other), imo o8, imo o9]) (rtI PyData.int) (zipTI (f := PyData.int) (g := PyData.int) (l := one) (m := other) (vI rfl) (vI rfl)) ⟨none, none, rfl⟩ hl (fun x_1 s_ l2_ h e he => ?_) (fun s11 hs e he => ?_) (fun r_ hs r2_ e hr => ?_)))
      · obtain ⟨o8, o9, rfl⟩ := he
        refine ⟨rfl, _, rfl, ?_⟩
        show wS _ [im ((tp PyData.int) one), im ((tp PyData.int) other), im (PyData.int x_1.1), im (PyData.int x_1.2)] _
        replace h : f_unlike_at_L1 one other x_1 = some l2_ := h
        unfold f_unlike_at_L1 at h
        refine (w_if (b := (!decide (x_1.1 = x_1.2))) (bang (binX (vI rfl) (vI rfl) rfl rfl e_ne)) (fun hc10 => ?_) (fun hc10 => ?_))
        · rw [if1 hc10] at h
          cases h
          refine (w_ret (cbX (dX (vI rfl) (dX (vI rfl) d0 rfl) rfl) o_max2) ?_)
          exact rfl
        · rw [if0 hc10] at h
          refine w_nx ?_
          cases h
          exact ⟨some (PyData.int x_1.1), some (PyData.int x_1.2), rfl⟩
      · subst hs
        replace h : _ = some r := h
        dsimp only at h
        obtain ⟨o12, o13, rfl⟩ := he
        show wS _ [im ((tp PyData.int) one), im ((tp PyData.int) other), imo o12, imo o13] _
        refine w_seq ((w_if (b := (decide ((other.length : Int) < (one.length : Int)))) (bang (binX (cbX (dX (vI rfl) d0 rfl) (o_lenT (f := PyData.int) (l := one))) (cbX (dX (vI rfl) d0 rfl) (o_lenT (f := PyData.int) (l := other))) rfl rfl e_qgt)) (fun hc14 => ?_) (fun hc14 => ?_)))
        · rw [if1 hc14] at h
          obtain ⟨t15, h_t15, h⟩ := bnd h
          cases h
          refine (w_ret (binX (vI rfl) (cbX (dX (vI rfl) d0 rfl) (o_lenT (f := PyData.int) (l := other))) rfl rfl (o_ixT (f := PyData.int) (l := one) h_t15)) ?_)
          exact rfl
        · rw [if0 hc14] at h
          refine w_nx ?_
          show wS _ [im ((tp PyData.int) one), im ((tp PyData.int) other), imo o12, imo o13] _
          refine w_seq ((w_if (b := (decide ((one.length : Int) < (other.length : Int)))) (bang (binX (cbX (dX (vI rfl) d0 rfl) (o_lenT (f := PyData.int) (l := other))) (cbX (dX (vI rfl) d0 rfl) (o_lenT (f := PyData.int) (l := one))) rfl rfl e_qgt)) (fun hc16 => ?_) (fun hc16 => ?_)))
          · rw [if1 hc16] at h
            obtain ⟨t17, h_t17, h⟩ := bnd h
            cases h
            refine (w_ret (binX (vI rfl) (cbX (dX (vI rfl) d0 rfl) (o_lenT (f := PyData.int) (l := one))) rfl rfl (o_ixT (f := PyData.int) (l := other) h_t17)) ?_)
            exact rfl
          · rw [if0 hc16] at h
            refine w_nx ?_
            show wS _ [im ((tp PyData.int) one), im ((tp PyData.int) other), imo o12, imo o13] _
            cases h
            refine w_seq ((w_ret cI ?_))
            exact rfl
      · subst hs
        cases h
        exact hr
theorem kB__law_same {N : Nat} {rec_ : PyData → PyData → Option Bool} (hrec : ∀ {one : PyData} {other : PyData} {r : Bool}, rec_ one other = some r → R__law_same N [idD one, idD other] = some (.im (PyData.bool r))) {one : PyData} {other : PyData} {r : Bool} (h : f_w_same_B rec_ one other = some r) : R__law_same (N + 1) [idD one, idD other] = some (.im (PyData.bool r)) := by
  unfold f_w_same_B at h
  refine t_fnI (enc := PyData.bool) rfl ?_
  show wS _ [im (idD one), im (idD other), none] _
  obtain ⟨t1, h_t1, h⟩ := bnd h
  refine w_seq ((w_if (b := t1) (bang (isX (vI rfl) rfl h_t1)) (fun hc2 => ?_) (fun hc2 => ?_)))
  · rw [if1 hc2] at h
    obtain ⟨t3, h_t3, h⟩ := bnd h
    obtain ⟨t6, h_t6, h⟩ := bnd h
    refine w_seq ((w_if (b := t6) (torX (tnot (bang (isX (vI rfl) rfl h_t3))) h_t6 (fun _ _ hq => (by obtain ⟨t4, h_t4, hq⟩ := bnd hq; obtain ⟨t5, h_t5, hq⟩ := bnd hq; have hq := Option.some.inj hq; subst hq; exact (bang (binX (cbX (dX (vI rfl) d0 rfl) (iD_ok h_t4)) (cbX (dX (vI rfl) d0 rfl) (iD_ok h_t5)) rfl rfl e_ne))))) (fun hc7 => ?_) (fun hc7 => ?_)))
    · rw [if1 hc7] at h
      cases h
      refine (w_ret cI ?_)
      exact rfl
    · rw [if0 hc7] at h
      refine w_nx ?_
      show wS _ [im (idD one), im (idD other), none] _
      obtain ⟨t8, h_t8, h⟩ := bnd h
      obtain ⟨is9, h_is9, h⟩ := bnd h
      obtain ⟨l_, hl, h⟩ := bnd h
      refine w_seq ((t_forG PyData.int is9 (fun x_1 (s_ : Unit) => f_w_same_L1 rec_ one other x_1) (fun (s_ : Unit) e => ∃ (o15 : Option PyData), e = [im (idD one), im (idD other), imo o15]) (rtI PyData.bool) (rng1I (cbX (dX (vI rfl) d0 rfl) (iD_ok h_t8)) h_is9) ⟨none, rfl⟩ hl (fun x_1 s_ l2_ h e he => ?_) (fun s20 hs e he => ?_) (fun r_ hs r2_ e hr => ?_)))
      · obtain ⟨o15, rfl⟩ := he
        refine ⟨rfl, _, rfl, ?_⟩
        show wS _ [im (idD one), im (idD other), im (PyData.int x_1)] _
        replace h : f_w_same_L1 rec_ one other x_1 = some l2_ := h
        unfold f_w_same_L1 at h
        obtain ⟨t16, h_t16, h⟩ := bnd h
        obtain ⟨t17, h_t17, h⟩ := bnd h
        obtain ⟨t18, h_t18, h⟩ := bnd h
        refine (w_if (b := (!t18)) (tnot (bang (callI (aI (binX (vI rfl) (vI rfl) rfl rfl (vD_ok h_t16)) (aI (binX (vI rfl) (vI rfl) rfl rfl (vD_ok h_t17)) a0)) rfl (hrec h_t18)))) (fun hc19 => ?_) (fun hc19 => ?_))
        · rw [if1 hc19] at h
          cases h
          refine (w_ret cI ?_)
          exact rfl
        · rw [if0 hc19] at h
          refine w_nx ?_
          cases h
          exact ⟨some (PyData.int x_1), rfl⟩
      · subst hs
        replace h : _ = some r := h
        dsimp only at h
        obtain ⟨o21, rfl⟩ := he
        show wS _ [im (idD one), im (idD other), imo o21] _
        cases h
        refine w_seq ((w_ret cI ?_))
        exact rfl
      · subst hs
        cases h
        exact hr
  · rw [if0 hc2] at h
    refine w_nx ?_
    show wS _ [im (idD one), im (idD other), none] _
    obtain ⟨t22, h_t22, h⟩ := bnd h
    refine w_seq ((w_if (b := t22) (bang (binX (vI rfl) cI rfl rfl (bD_ok h_t22))) (fun hc23 => ?_) (fun hc23 => ?_)))
    · rw [if1 hc23] at h
      obtain ⟨t24, h_t24, h⟩ := bnd h
      cases h
      refine (w_ret (binX (vI rfl) cI rfl rfl (bD_ok h_t24)) ?_)
      exact rfl
    · rw [if0 hc23] at h
      refine w_nx ?_
      show wS _ [im (idD one), im (idD other), none] _
      obtain ⟨t25, h_t25, h⟩ := bnd h
      refine w_seq ((w_if (b := t25) (bang (isX (vI rfl) rfl h_t25)) (fun hc26 => ?_) (fun hc26 => ?_)))
      · rw [if1 hc26] at h
        obtain ⟨t27, h_t27, h⟩ := bnd h
        obtain ⟨t29, h_t29, h⟩ := bnd h
        cases h
        refine (w_ret (andX (isX (vI rfl) rfl h_t27) h_t29 (fun _ _ hq => (by obtain ⟨t28, h_t28, hq⟩ := bnd hq; have hq := Option.some.inj hq; subst hq; exact (binX (vI rfl) (vI rfl) rfl rfl (bD_ok h_t28))))) ?_)
        exact rfl
      · rw [if0 hc26] at h
        refine w_nx ?_
        show wS _ [im (idD one), im (idD other), none] _
        obtain ⟨t30, h_t30, h⟩ := bnd h
        refine w_seq ((w_if (b := t30) (bang (isX (vI rfl) rfl h_t30)) (fun hc31 => ?_) (fun hc31 => ?_)))
        · rw [if1 hc31] at h
          obtain ⟨t32, h_t32, h⟩ := bnd h
          obtain ⟨t36, h_t36, h⟩ := bnd h
          cases h
          refine (w_ret (andX (isX (vI rfl) rfl h_t32) h_t36 (fun _ _ hq => (by obtain ⟨t33, h_t33, hq⟩ := bnd hq; obtain ⟨t35, h_t35, hq⟩ := bnd hq; have hq := Option.some.inj hq; subst hq; exact (andX (notX (isX (vI rfl) rfl h_t33)) h_t35 (fun _ _ hq => (by obtain ⟨t34, h_t34, hq⟩ := bnd hq; have hq := Option.some.inj hq; subst hq; exact (binX (vI rfl) (vI rfl) rfl rfl (bD_ok h_t34)))))))) ?_)
          exact rfl
        · rw [if0 hc31] at h
          refine w_nx ?_
          show wS _ [im (idD one), im (idD other), none] _
          obtain ⟨t37, h_t37, h⟩ := bnd h
          obtain ⟨t39, h_t39, h⟩ := bnd h
          cases h
          refine w_seq ((w_ret (andX (isX (vI rfl) rfl h_t37) h_t39 (fun _ _ hq => (by obtain ⟨t38, h_t38, hq⟩ := bnd hq; have hq := Option.some.inj hq; subst hq; exact (binX (vI rfl) (vI rfl) rfl rfl (bD_ok h_t38))))) ?_))
          exact rfl
theorem kR__law_same : ∀ (N : Nat) {one : PyData} {other : PyData} {r : Bool}, f_w_same_R N one other = some r → R__law_same N [idD one, idD other] = some (.im (PyData.bool r))
  | 0, _, _, _, h => by cases h
  | N + 1, _, _, _, h => kB__law_same (fun h => kR__law_same N h) h
theorem k__law_same {one : PyData} {other : PyData} {r : Bool} (h : f_w_same one other = some r) : F__law_same [idD one, idD other] = some (.im (PyData.bool r)) := kR__law_same 8 h
theorem k__law_unlike {rows : (List (List Int))} {low : Int} {high : Int} {r : Bool} (h : f_w_unlike rows low high = some r) : F__law_unlike [(ls (tp PyData.int)) rows, PyData.int low, PyData.int high] = some (.im (PyData.bool r)) := by
  unfold f_w_unlike at h
  refine t_fnI (enc := PyData.bool) rfl ?_
  show wS _ [im ((ls (tp PyData.int)) rows), im (PyData.int low), im (PyData.int high), none, none] _
  obtain ⟨t1, h_t1, h⟩ := bnd h
  obtain ⟨t2, h_t2, h⟩ := bnd h
  obtain ⟨told4, h_t3, h⟩ := bnd h
  refine w_seq ((t_set (f := PyData.int) (v := told4) (w := told4) rfl (callI (aI (binX (vI rfl) (vI rfl) rfl rfl (o_ixL (f := (tp PyData.int)) (l := rows) h_t1)) (aI (binX (vI rfl) (vI rfl) rfl rfl (o_ixL (f := (tp PyData.int)) (l := rows) h_t2)) a0)) rfl (k_unlike_at h_t3)) rfl ?_))
  show wS _ [im ((ls (tp PyData.int)) rows), im (PyData.int low), im (PyData.int high), im (PyData.int told4), none] _
  obtain ⟨t5, h_t5, h⟩ := bnd h
  obtain ⟨t6, h_t6, h⟩ := bnd h
  obtain ⟨t7, h_t7, h⟩ := bnd h
  obtain ⟨t8, h_t8, h⟩ := bnd h
  refine w_seq ((w_if (b := (!t8)) (tnot (bang (callI (aI (callKI a0 (aI (binX (vI rfl) (vI rfl) rfl rfl (o_ixL (f := (tp PyData.int)) (l := rows) h_t5)) (aI (binX (vI rfl) (vI rfl) rfl rfl (o_ixL (f := (tp PyData.int)) (l := rows) h_t6)) a0)) rfl (k_unlike_at h_t7)) (aI (vI rfl) a0)) rfl (k__law_same h_t8)))) (fun hc9 => ?_) (fun hc9 => ?_)))
  · rw [if1 hc9] at h
    cases h
    refine (w_ret cI ?_)
    exact rfl
  · rw [if0 hc9] at h
    refine w_nx ?_
    show wS _ [im ((ls (tp PyData.int)) rows), im (PyData.int low), im (PyData.int high), im (PyData.int told4), none] _
    refine w_seq ((w_if (b := (decide (low = high))) (bang (binX (vI rfl) (vI rfl) rfl rfl e_eq)) (fun hc10 => ?_) (fun hc10 => ?_)))
    · rw [if1 hc10] at h
      obtain ⟨t11, h_t11, h⟩ := bnd h
      cases h
      refine (w_ret (callI (aI (vI rfl) (aI cI a0)) rfl (k__law_same h_t11)) ?_)
      exact rfl
    · rw [if0 hc10] at h
      refine w_nx ?_
      show wS _ [im ((ls (tp PyData.int)) rows), im (PyData.int low), im (PyData.int high), im (PyData.int told4), none] _
      obtain ⟨is12, h_is12, h⟩ := bnd h
      obtain ⟨l_, hl, h⟩ := bnd h
      refine w_seq ((t_forG PyData.int is12 (fun x_1 (s_ : Unit) => f_w_unlike_L1 rows low high told4 x_1) (fun (s_ : Unit) e => ∃ (o21 : Option PyData), e = [im ((ls (tp PyData.int)) rows), im (PyData.int low), im (PyData.int high), im (PyData.int told4), imo o21]) (rtI PyData.bool) (rng3I cI cI (negI cI) h_is12) ⟨none, rfl⟩ hl (fun x_1 s_ l2_ h e he => ?_) (fun s29 hs e he => ?_) (fun r_ hs r2_ e hr => ?_)))
      · obtain ⟨o21, rfl⟩ := he
        refine ⟨rfl, _, rfl, ?_⟩
        show wS _ [im ((ls (tp PyData.int)) rows), im (PyData.int low), im (PyData.int high), im (PyData.int told4), im (PyData.int x_1)] _
        replace h : f_w_unlike_L1 rows low high told4 x_1 = some l2_ := h
        unfold f_w_unlike_L1 at h
        obtain ⟨t22, h_t22, h⟩ := bnd h
        obtain ⟨t23, h_t23, h⟩ := bnd h
        refine (w_if (b := (!decide (((t22.count x_1 : Nat) : Int) = ((t23.count x_1 : Nat) : Int)))) (bang (binX (countTX (l := t22) (a := x_1) (binX (vI rfl) (vI rfl) rfl rfl (o_ixL (f := (tp PyData.int)) (l := rows) h_t22)) rfl (vI rfl) rfl) (countTX (l := t23) (a := x_1) (binX (vI rfl) (vI rfl) rfl rfl (o_ixL (f := (tp PyData.int)) (l := rows) h_t23)) rfl (vI rfl) rfl) rfl rfl e_ne)) (fun hc24 => ?_) (fun hc24 => ?_))
        · rw [if1 hc24] at h
          obtain ⟨t25, h_t25, h⟩ := bnd h
          obtain ⟨t28, h_t28, h⟩ := bnd h
          cases h
          refine (w_ret (andX (callI (aI (vI rfl) (aI (vI rfl) a0)) rfl (k__law_same h_t25)) h_t28 (fun _ _ hq => (by obtain ⟨t26, h_t26, hq⟩ := bnd hq; obtain ⟨t27, h_t27, hq⟩ := bnd hq; have hq := Option.some.inj hq; subst hq; exact (binX (countTX (l := t26) (a := x_1) (binX (vI rfl) (vI rfl) rfl rfl (o_ixL (f := (tp PyData.int)) (l := rows) h_t26)) rfl (vI rfl) rfl) (countTX (l := t27) (a := x_1) (binX (vI rfl) (vI rfl) rfl rfl (o_ixL (f := (tp PyData.int)) (l := rows) h_t27)) rfl (vI rfl) rfl) rfl rfl e_qlt)))) ?_)
          exact rfl
        · rw [if0 hc24] at h
          refine w_nx ?_
          cases h
          exact ⟨some (PyData.int x_1), rfl⟩
      · subst hs
        replace h : _ = some r := h
        dsimp only at h
        obtain ⟨o30, rfl⟩ := he
        show wS _ [im ((ls (tp PyData.int)) rows), im (PyData.int low), im (PyData.int high), im (PyData.int told4), imo o30] _
        cases h
        refine w_seq ((w_ret cI ?_))
        exact rfl
      · subst hs
        cases h
        exact hr
theorem k__law_steps {row : (List Int)} {width : Int} {floor : Int} {r : Bool} (h : f_w_steps row width floor = some r) : F__law_steps [(tp PyData.int) row, PyData.int width, PyData.int floor] = some (.im (PyData.bool r)) := by
  unfold f_w_steps at h
  refine t_fnI (enc := PyData.bool) rfl ?_
  show wS _ [im ((tp PyData.int) row), im (PyData.int width), im (PyData.int floor), none, none, none, none] _
  obtain ⟨due2, h_t1, h⟩ := bnd h
  refine w_seq ((t_set (f := (tp PyData.int)) (v := due2) (w := due2) rfl (callI (aI (vI rfl) (aI (vI rfl) (aI (vI rfl) a0))) rfl (k__law_counted h_t1)) rfl ?_))
  show wS _ [im ((tp PyData.int) row), im (PyData.int width), im (PyData.int floor), im ((tp PyData.int) due2), none, none, none] _
  obtain ⟨told4, h_t3, h⟩ := bnd h
  refine w_seq ((t_set (f := (tp PyData.int)) (v := told4) (w := told4) rfl (callI (aI (vI rfl) (aI (vI rfl) (aI (vI rfl) a0))) rfl (k_stepped h_t3)) rfl ?_))
  show wS _ [im ((tp PyData.int) row), im (PyData.int width), im (PyData.int floor), im ((tp PyData.int) due2), im ((tp PyData.int) told4), none, none] _
  obtain ⟨t5, h_t5, h⟩ := bnd h
  obtain ⟨t8, h_t8, h⟩ := bnd h
  refine w_seq ((w_if (b := t8) (torX (tnot (bang (callI (aI (vI rfl) (aI (vI rfl) a0)) rfl (k__law_same h_t5)))) h_t8 (fun _ _ hq => (by obtain ⟨t6, h_t6, hq⟩ := bnd hq; obtain ⟨t7, h_t7, hq⟩ := bnd hq; have hq := Option.some.inj hq; subst hq; exact (tnot (bang (callI (aI (callKI a0 (aI (vI rfl) (aI (vI rfl) (aI (vI rfl) a0))) rfl (k_stepped h_t6)) (aI (vI rfl) a0)) rfl (k__law_same h_t7))))))) (fun hc9 => ?_) (fun hc9 => ?_)))
  · rw [if1 hc9] at h
    cases h
    refine (w_ret cI ?_)
    exact rfl
  · rw [if0 hc9] at h
    refine w_nx ?_
    show wS _ [im ((tp PyData.int) row), im (PyData.int width), im (PyData.int floor), im ((tp PyData.int) due2), im ((tp PyData.int) told4), none, none] _
    obtain ⟨is10, h_is10, h⟩ := bnd h
    obtain ⟨l_, hl, h⟩ := bnd h
    refine w_seq ((t_forG PyData.int is10 (fun x_1 (s_ : Unit) => f_w_steps_L1 row width floor due2 x_1) (fun (s_ : Unit) e => ∃ (o19 : Option PyData) (o20 : Option PyData), e = [im ((tp PyData.int) row), im (PyData.int width), im (PyData.int floor), im ((tp PyData.int) due2), im ((tp PyData.int) told4), imo o19, imo o20]) (rtI PyData.bool) (rng1I (cbX (dX cI (dX (cbX (dX (vI rfl) d0 rfl) (o_lenT (f := PyData.int) (l := row))) d0 rfl) rfl) o_min2) h_is10) ⟨none, none, rfl⟩ hl (fun x_1 s_ l2_ h e he => ?_) (fun s27 hs e he => ?_) (fun r_ hs r2_ e hr => ?_)))
    · obtain ⟨o19, o20, rfl⟩ := he
      refine ⟨rfl, _, rfl, ?_⟩
      show wS _ [im ((tp PyData.int) row), im (PyData.int width), im (PyData.int floor), im ((tp PyData.int) due2), im ((tp PyData.int) told4), im (PyData.int x_1), imo o20] _
      replace h : f_w_steps_L1 row width floor due2 x_1 = some l2_ := h
      unfold f_w_steps_L1 at h
      obtain ⟨less22, h_t21, h⟩ := bnd h
      refine w_seq ((t_set (f := (tp PyData.int)) (v := less22) (w := less22) rfl (binX (cutTX (f := PyData.int) (l := row) (vI rfl) oN (oA (vI rfl))) (cutTX (f := PyData.int) (l := row) (vI rfl) (oA (binX (vI rfl) cI rfl rfl e_add)) oN) rfl rfl (o_catT (f := PyData.int) (l := (cutD row none (some x_1))) (m := (cutD row (some (x_1 + (1 : Int))) none)) h_t21)) rfl ?_))
      show wS _ [im ((tp PyData.int) row), im (PyData.int width), im (PyData.int floor), im ((tp PyData.int) due2), im ((tp PyData.int) told4), im (PyData.int x_1), im ((tp PyData.int) less22)] _
      obtain ⟨t23, h_t23, h⟩ := bnd h
      obtain ⟨t24, h_t24, h⟩ := bnd h
      obtain ⟨t25, h_t25, h⟩ := bnd h
      refine w_seq ((w_if (b := (!t25)) (tnot (bang (callI (aI (callI (aI (vI rfl) (aI (vI rfl) (aI (vI rfl) a0))) rfl (k_stepped h_t23)) (aI (callI (aI (vI rfl) (aI (vI rfl) (aI (vI rfl) a0))) rfl (k__law_counted h_t24)) a0)) rfl (k__law_same h_t25)))) (fun hc26 => ?_) (fun hc26 => ?_)))
      · rw [if1 hc26] at h
        cases h
        refine (w_ret cI ?_)
        exact rfl
      · rw [if0 hc26] at h
        refine w_nx ?_
        show wS _ [im ((tp PyData.int) row), im (PyData.int width), im (PyData.int floor), im ((tp PyData.int) due2), im ((tp PyData.int) told4), im (PyData.int x_1), im ((tp PyData.int) less22)] _
        refine w_nx ?_
        cases h
        exact ⟨some (PyData.int x_1), some ((tp PyData.int) less22), rfl⟩
    · subst hs
      replace h : _ = some r := h
      dsimp only at h
      obtain ⟨o28, o29, rfl⟩ := he
      show wS _ [im ((tp PyData.int) row), im (PyData.int width), im (PyData.int floor), im ((tp PyData.int) due2), im ((tp PyData.int) told4), imo o28, imo o29] _
      obtain ⟨t30, h_t30, h⟩ := bnd h
      obtain ⟨t31, h_t31, h⟩ := bnd h
      cases h
      refine w_seq ((w_ret (callI (aI (callI (aI (vI rfl) (aI (vI rfl) (aI (cutTX (f := PyData.int) (l := row) (vI rfl) oN (oA (cbX (dX (vI rfl) (dX (cbX (dX (vI rfl) d0 rfl) (o_lenT (f := PyData.int) (l := row))) d0 rfl) rfl) o_min2))) a0))) rfl (k_stepped h_t30)) (aI (vI rfl) a0)) rfl (k__law_same h_t31)) ?_))
      exact rfl
    · subst hs
      cases h
      exact hr
theorem k__law_placed {row : (List Int)} {width : Int} {floor : Int} {r : Bool} (h : f_w_placed row width floor = some r) : F__law_placed [(tp PyData.int) row, PyData.int width, PyData.int floor] = some (.im (PyData.bool r)) := by
  unfold f_w_placed at h
  refine t_fnI (enc := PyData.bool) rfl ?_
  show wS _ [im ((tp PyData.int) row), im (PyData.int width), im (PyData.int floor), none, none, none, none, none, none] _
  obtain ⟨rows2, h_t1, h⟩ := bnd h
  refine w_seq ((t_setL (f := (tp PyData.int)) (v := rows2) (w := rows2) rfl (callA (aI (vI rfl) (aI cI a0)) rfl (k__law_listing h_t1)) rfl ?_))
  show wS _ [im ((tp PyData.int) row), im (PyData.int width), im (PyData.int floor), im ((ls (tp PyData.int)) rows2), none, none, none, none, none] _
  obtain ⟨t4, h_t4, h⟩ := bnd h
  obtain ⟨seen5, h_seen5, h⟩ := bnd h
  refine w_seq ((t_set (f := (tp PyData.int)) (v := (cutD t4 none (some width))) (w := seen5) h_seen5 (cutTX (f := PyData.int) (l := t4) (cbX (dX (lcX (enc := PyData.int) (encB := PyData.int) h_t4 (seqTX (f := PyData.int) (l := row) (vI rfl)) rfl (fun x3 _ => ⟨_, rfl, rfl, fun _ hq => (by have hq := Option.some.inj hq; subst hq; exact (bang (binX (vI rfl) (vI rfl) rfl rfl e_qge))), fun _ _ hq => (by have hq := Option.some.inj hq; subst hq; exact ⟨_, (binX (binX (vI rfl) (vI rfl) rfl rfl e_sub) cI rfl rfl e_add), rfl, rfl⟩)⟩)) d0 rfl) rfl) oN (oA (vI rfl))) rfl ?_))
  show wS _ [im ((tp PyData.int) row), im (PyData.int width), im (PyData.int floor), im ((ls (tp PyData.int)) rows2), im ((tp PyData.int) seen5), none, none, none, none] _
  obtain ⟨place6, h_place6, h⟩ := bnd h
  refine w_seq ((t_set (f := PyData.int) (v := (0 : Int)) (w := place6) h_place6 cI rfl ?_))
  show wS _ [im ((tp PyData.int) row), im (PyData.int width), im (PyData.int floor), im ((ls (tp PyData.int)) rows2), im ((tp PyData.int) seen5), im (PyData.int place6), none, none, none] _
  obtain ⟨is7, h_is7, h⟩ := bnd h
  obtain ⟨place17, hl, h⟩ := bnd h
  refine w_seq ((t_forS PyData.int is7 (fun x_1 (place_ : Int) => f_w_placed_L1 row width floor rows2 seen5 x_1 place_) (fun (place_ : Int) e => ∃ (o12 : Option PyData), e = [im ((tp PyData.int) row), im (PyData.int width), im (PyData.int floor), im ((ls (tp PyData.int)) rows2), im ((tp PyData.int) seen5), im (PyData.int place_), imo o12, none, none]) (rng1I (cbX (dX (vI rfl) d0 rfl) (o_lenL (f := (tp PyData.int)) (l := rows2))) h_is7) ⟨none, rfl⟩ hl (fun x_1 place_ s2_ h e he => ?_) (fun e he => ?_)))
  · obtain ⟨o12, rfl⟩ := he
    refine ⟨rfl, _, rfl, ?_⟩
    show wS _ [im ((tp PyData.int) row), im (PyData.int width), im (PyData.int floor), im ((ls (tp PyData.int)) rows2), im ((tp PyData.int) seen5), im (PyData.int place_), im (PyData.int x_1), none, none] _
    replace h : f_w_placed_L1 row width floor rows2 seen5 x_1 place_ = some s2_ := h
    unfold f_w_placed_L1 at h
    obtain ⟨t13, h_t13, h⟩ := bnd h
    refine (w_if (b := (decide (t13 = seen5))) (bang (binX (binX (vI rfl) (vI rfl) rfl rfl (o_ixL (f := (tp PyData.int)) (l := rows2) h_t13)) (vI rfl) rfl rfl (o_eq (f := (tp PyData.int)) (by decide) t13 seen5))) (fun hc14 => ?_) (fun hc14 => ?_))
    · rw [if1 hc14] at h
      obtain ⟨place15, h_place15, h⟩ := bnd h
      refine (t_set (f := PyData.int) (v := x_1) (w := place15) h_place15 (vI rfl) rfl ?_)
      cases h
      exact ⟨some (PyData.int x_1), rfl⟩
    · rw [if0 hc14] at h
      refine w_nx ?_
      cases h
      exact ⟨some (PyData.int x_1), rfl⟩
  · obtain ⟨o18, rfl⟩ := he
    show wS _ [im ((tp PyData.int) row), im (PyData.int width), im (PyData.int floor), im ((ls (tp PyData.int)) rows2), im ((tp PyData.int) seen5), im (PyData.int place17), imo o18, none, none] _
    obtain ⟨due19, h_due19, h⟩ := bnd h
    refine w_seq ((t_set (f := (tp PyData.int)) (v := [(5 : Int)]) (w := due19) h_due19 (tupI (aI cI a0) (Nat.le_of_ble_eq_true rfl)) rfl ?_))
    show wS _ [im ((tp PyData.int) row), im (PyData.int width), im (PyData.int floor), im ((ls (tp PyData.int)) rows2), im ((tp PyData.int) seen5), im (PyData.int place17), imo o18, im ((tp PyData.int) due19), none] _
    refine w_seq ((w_if (b := (decide ((place17 + (1 : Int)) < (rows2.length : Int)))) (bang (binX (binX (vI rfl) cI rfl rfl e_add) (cbX (dX (vI rfl) d0 rfl) (o_lenL (f := (tp PyData.int)) (l := rows2))) rfl rfl e_qlt)) (fun hc20 => ?_) (fun hc20 => ?_)))
    · rw [if1 hc20] at h
      obtain ⟨due22, h_t21, h⟩ := bnd h
      refine (t_set (f := (tp PyData.int)) (v := due22) (w := due22) rfl (binX (vI rfl) (binX (vI rfl) cI rfl rfl e_add) rfl rfl (o_ixL (f := (tp PyData.int)) (l := rows2) h_t21)) rfl ?_)
      show wS _ [im ((tp PyData.int) row), im (PyData.int width), im (PyData.int floor), im ((ls (tp PyData.int)) rows2), im ((tp PyData.int) seen5), im (PyData.int place17), imo o18, im ((tp PyData.int) due22), none] _
      obtain ⟨t23, h_t23, h⟩ := bnd h
      obtain ⟨t25, h_t25, h⟩ := bnd h
      obtain ⟨t26, h_t26, h⟩ := bnd h
      cases h
      refine w_seq ((w_ret (callI (aI (callI (aI (vI rfl) (aI (vI rfl) (aI (vI rfl) a0))) rfl (k_stepped h_t23)) (aI (cbX (dX (lcX (enc := PyData.int) (encB := PyData.int) h_t25 (seqTX (f := PyData.int) (l := due22) (vI rfl)) rfl (fun x24 _ => ⟨_, rfl, rfl, fun _ hq => (by have hq := Option.some.inj hq; subst hq; rfl), fun _ _ hq => (by have hq := Option.some.inj hq; subst hq; exact ⟨_, (binX (binX (vI rfl) (vI rfl) rfl rfl e_add) cI rfl rfl e_sub), rfl, rfl⟩)⟩)) d0 rfl) rfl) a0)) rfl (k__law_same h_t26)) ?_))
      exact rfl
    · rw [if0 hc20] at h
      refine w_nx ?_
      show wS _ [im ((tp PyData.int) row), im (PyData.int width), im (PyData.int floor), im ((ls (tp PyData.int)) rows2), im ((tp PyData.int) seen5), im (PyData.int place17), imo o18, im ((tp PyData.int) due19), none] _
      obtain ⟨t27, h_t27, h⟩ := bnd h
      obtain ⟨t29, h_t29, h⟩ := bnd h
      obtain ⟨t30, h_t30, h⟩ := bnd h
      cases h
      refine w_seq ((w_ret (callI (aI (callI (aI (vI rfl) (aI (vI rfl) (aI (vI rfl) a0))) rfl (k_stepped h_t27)) (aI (cbX (dX (lcX (enc := PyData.int) (encB := PyData.int) h_t29 (seqTX (f := PyData.int) (l := due19) (vI rfl)) rfl (fun x28 _ => ⟨_, rfl, rfl, fun _ hq => (by have hq := Option.some.inj hq; subst hq; rfl), fun _ _ hq => (by have hq := Option.some.inj hq; subst hq; exact ⟨_, (binX (binX (vI rfl) (vI rfl) rfl rfl e_add) cI rfl rfl e_sub), rfl, rfl⟩)⟩)) d0 rfl) rfl) a0)) rfl (k__law_same h_t30)) ?_))
      exact rfl
theorem k__law_merges {rows : (List (List Int))} {r : Bool} (h : f_w_merges rows = some r) : F__law_merges [(tp (tp PyData.int)) rows] = some (.im (PyData.bool r)) := by
  unfold f_w_merges at h
  refine t_fnI (enc := PyData.bool) rfl ?_
  show wS _ [im ((tp (tp PyData.int)) rows), none, none, none, none, none, none, none, none] _
  obtain ⟨together1, h_together1, h⟩ := bnd h
  refine w_seq ((t_setA (f := PyData.int) (v := []) (w := together1) h_together1 (lstX a0 (Nat.le_of_ble_eq_true rfl)) rfl ?_))
  show wS _ [im ((tp (tp PyData.int)) rows), ac (together1.map PyData.int), none, none, none, none, none, none, none] _
  obtain ⟨together19, hl, h⟩ := bnd h
  refine w_seq ((t_forS (tp PyData.int) rows (fun x_1 (together_ : (List Int)) => f_w_merges_L1 rows x_1 together_) (fun (together_ : (List Int)) e => ∃ (o11 : Option PyData) (o12 : Option PyData), e = [im ((tp (tp PyData.int)) rows), ac (together_.map PyData.int), imo o11, none, none, none, imo o12, none, none]) (seqTX (f := (tp PyData.int)) (l := rows) (vI rfl)) ⟨none, none, rfl⟩ hl (fun x_1 together_ s2_ h e he => ?_) (fun e he => ?_)))
  · obtain ⟨o11, o12, rfl⟩ := he
    refine ⟨rfl, _, rfl, ?_⟩
    show wS _ [im ((tp (tp PyData.int)) rows), ac (together_.map PyData.int), im ((tp PyData.int) x_1), none, none, none, imo o12, none, none] _
    replace h : f_w_merges_L1 rows x_1 together_ = some s2_ := h
    unfold f_w_merges_L1 at h
    obtain ⟨together16, hl, h⟩ := bnd h
    refine (t_forS PyData.int x_1 (fun x_2 (together_ : (List Int)) => f_w_merges_L2 rows x_1 x_2 together_) (fun (together_ : (List Int)) e => ∃ (o13 : Option PyData), e = [im ((tp (tp PyData.int)) rows), ac (together_.map PyData.int), im ((tp PyData.int) x_1), none, none, none, imo o13, none, none]) (seqTX (f := PyData.int) (l := x_1) (vI rfl)) ⟨o12, rfl⟩ hl (fun x_2 together_ s2_ h e he => ?_) (fun e he => ?_))
    · obtain ⟨o13, rfl⟩ := he
      refine ⟨rfl, _, rfl, ?_⟩
      show wS _ [im ((tp (tp PyData.int)) rows), ac (together_.map PyData.int), im ((tp PyData.int) x_1), none, none, none, im (PyData.int x_2), none, none] _
      replace h : f_w_merges_L2 rows x_1 x_2 together_ = some s2_ := h
      unfold f_w_merges_L2 at h
      obtain ⟨together14, h_together14, h⟩ := bnd h
      refine (t_app (f := PyData.int) (l := together_) (a := x_2) h_together14 ⟨_, (vI rfl), rfl⟩ rfl rfl ?_)
      cases h
      exact ⟨some (PyData.int x_2), rfl⟩
    · obtain ⟨o17, rfl⟩ := he
      cases h
      exact ⟨some ((tp PyData.int) x_1), o17, rfl⟩
  · obtain ⟨o20, o21, rfl⟩ := he
    show wS _ [im ((tp (tp PyData.int)) rows), ac (together19.map PyData.int), imo o20, none, none, none, imo o21, none, none] _
    obtain ⟨due22, h_due22, h⟩ := bnd h
    refine w_seq ((t_set (f := (tp PyData.int)) (v := (downI together19)) (w := due22) h_due22 (cbX (dX (srtLX (ns := together19) (dX (vB rfl) d0 rfl)) d0 rfl) rfl) rfl ?_))
    show wS _ [im ((tp (tp PyData.int)) rows), ac (together19.map PyData.int), imo o20, im ((tp PyData.int) due22), none, none, imo o21, none, none] _
    obtain ⟨t23, h_t23, h⟩ := bnd h
    obtain ⟨t24, h_t24, h⟩ := bnd h
    obtain ⟨t27, h_t27, h⟩ := bnd h
    refine w_seq ((w_if (b := t27) (torX (tnot (bang (callI (aI (callI (aI (vI rfl) a0) rfl (k_merged h_t23)) (aI (vI rfl) a0)) rfl (k__law_same h_t24)))) h_t27 (fun _ _ hq => (by obtain ⟨t25, h_t25, hq⟩ := bnd hq; obtain ⟨t26, h_t26, hq⟩ := bnd hq; have hq := Option.some.inj hq; subst hq; exact (tnot (bang (callI (ds' := [idD ((tp PyData.int) t25), idD ((tp PyData.int) [])]) (aI (callKI a0 (aI (cutTX (f := (tp PyData.int)) (l := rows) (vI rfl) oN (oA cI)) a0) rfl (k_merged h_t25)) (aI (tupI a0 (Nat.le_of_ble_eq_true rfl)) a0)) rfl (k__law_same h_t26))))))) (fun hc28 => ?_) (fun hc28 => ?_)))
    · rw [if1 hc28] at h
      cases h
      refine (w_ret cI ?_)
      exact rfl
    · rw [if0 hc28] at h
      refine w_nx ?_
      show wS _ [im ((tp (tp PyData.int)) rows), ac (together19.map PyData.int), imo o20, im ((tp PyData.int) due22), none, none, imo o21, none, none] _
      obtain ⟨t29, h_t29, h⟩ := bnd h
      obtain ⟨twice30, h_twice30, h⟩ := bnd h
      refine w_seq ((t_set (f := (tp PyData.int)) (v := (downI t29)) (w := twice30) h_twice30 (cbX (dX (srtLX (ns := t29) (dX (cbX (dX (binX (vI rfl) (vI rfl) rfl rfl (o_catT (f := PyData.int) (l := due22) (m := due22) h_t29)) d0 rfl) rfl) d0 rfl)) d0 rfl) rfl) rfl ?_))
      show wS _ [im ((tp (tp PyData.int)) rows), ac (together19.map PyData.int), imo o20, im ((tp PyData.int) due22), im ((tp PyData.int) twice30), none, imo o21, none, none] _
      obtain ⟨t31, h_t31, h⟩ := bnd h
      obtain ⟨t32, h_t32, h⟩ := bnd h
      obtain ⟨t35, h_t35, h⟩ := bnd h
      refine w_seq ((w_if (b := t35) (torX (tnot (bang (callI (aI (callI (ds' := [(tp (tp PyData.int)) [due22]]) (aI (tupI (aI (vI rfl) a0) (Nat.le_of_ble_eq_true rfl)) a0) rfl (k_merged h_t31)) (aI (vI rfl) a0)) rfl (k__law_same h_t32)))) h_t35 (fun _ _ hq => (by obtain ⟨t33, h_t33, hq⟩ := bnd hq; obtain ⟨t34, h_t34, hq⟩ := bnd hq; have hq := Option.some.inj hq; subst hq; exact (tnot (bang (callI (aI (callI (ds' := [(tp (tp PyData.int)) [due22, due22]]) (aI (tupI (aI (vI rfl) (aI (vI rfl) a0)) (Nat.le_of_ble_eq_true rfl)) a0) rfl (k_merged h_t33)) (aI (vI rfl) a0)) rfl (k__law_same h_t34))))))) (fun hc36 => ?_) (fun hc36 => ?_)))
      · rw [if1 hc36] at h
        cases h
        refine (w_ret cI ?_)
        exact rfl
      · rw [if0 hc36] at h
        refine w_nx ?_
        show wS _ [im ((tp (tp PyData.int)) rows), ac (together19.map PyData.int), imo o20, im ((tp PyData.int) due22), im ((tp PyData.int) twice30), none, imo o21, none, none] _
        obtain ⟨apart37, h_apart37, h⟩ := bnd h
        refine w_seq ((t_set (f := PyData.int) (v := (0 : Int)) (w := apart37) h_apart37 cI rfl ?_))
        show wS _ [im ((tp (tp PyData.int)) rows), ac (together19.map PyData.int), imo o20, im ((tp PyData.int) due22), im ((tp PyData.int) twice30), im (PyData.int apart37), imo o21, none, none] _
        obtain ⟨apart51, hl, h⟩ := bnd h
        refine w_seq ((t_forS PyData.int due22 (fun x_3 (apart_ : Int) => f_w_merges_L3 rows due22 x_3 apart_) (fun (apart_ : Int) e => ∃ (o44 : Option PyData), e = [im ((tp (tp PyData.int)) rows), ac (together19.map PyData.int), imo o20, im ((tp PyData.int) due22), im ((tp PyData.int) twice30), im (PyData.int apart_), imo o44, none, none]) (seqTX (f := PyData.int) (l := due22) (vI rfl)) ⟨o21, rfl⟩ hl (fun x_3 apart_ s2_ h e he => ?_) (fun e he => ?_)))
        · obtain ⟨o44, rfl⟩ := he
          refine ⟨rfl, _, rfl, ?_⟩
          show wS _ [im ((tp (tp PyData.int)) rows), ac (together19.map PyData.int), imo o20, im ((tp PyData.int) due22), im ((tp PyData.int) twice30), im (PyData.int apart_), im (PyData.int x_3), none, none] _
          replace h : f_w_merges_L3 rows due22 x_3 apart_ = some s2_ := h
          unfold f_w_merges_L3 at h
          obtain ⟨t47, h_t47, h⟩ := bnd h
          refine (w_if (b := t47) (tandX (bang (binX (vI rfl) cI rfl rfl e_eq)) h_t47 (fun _ _ hq => (by obtain ⟨t45, h_t45, hq⟩ := bnd hq; obtain ⟨t46, h_t46, hq⟩ := bnd hq; have hq := Option.some.inj hq; subst hq; exact (bang (binX (countTX (l := t45) (a := x_3) (binX (vI rfl) cI rfl rfl (o_ixT (f := (tp PyData.int)) (l := rows) h_t45)) rfl (vI rfl) rfl) (countTX (l := t46) (a := x_3) (binX (vI rfl) cI rfl rfl (o_ixT (f := (tp PyData.int)) (l := rows) h_t46)) rfl (vI rfl) rfl) rfl rfl e_ne))))) (fun hc48 => ?_) (fun hc48 => ?_))
          · rw [if1 hc48] at h
            obtain ⟨apart49, h_apart49, h⟩ := bnd h
            refine (t_set (f := PyData.int) (v := x_3) (w := apart49) h_apart49 (vI rfl) rfl ?_)
            cases h
            exact ⟨some (PyData.int x_3), rfl⟩
          · rw [if0 hc48] at h
            refine w_nx ?_
            cases h
            exact ⟨some (PyData.int x_3), rfl⟩
        · obtain ⟨o52, rfl⟩ := he
          show wS _ [im ((tp (tp PyData.int)) rows), ac (together19.map PyData.int), imo o20, im ((tp PyData.int) due22), im ((tp PyData.int) twice30), im (PyData.int apart51), imo o52, none, none] _
          obtain ⟨t53, h_t53, h⟩ := bnd h
          obtain ⟨t54, h_t54, h⟩ := bnd h
          obtain ⟨t55, h_t55, h⟩ := bnd h
          obtain ⟨t56, h_t56, h⟩ := bnd h
          obtain ⟨t61, h_t61, h⟩ := bnd h
          refine w_seq ((w_if (b := t61) (torX (tnot (bang (callI (aI (callI (aI (binX (vI rfl) cI rfl rfl (o_ixT (f := (tp PyData.int)) (l := rows) h_t53)) (aI (binX (vI rfl) cI rfl rfl (o_ixT (f := (tp PyData.int)) (l := rows) h_t54)) a0)) rfl (k_unlike_at h_t55)) (aI (vI rfl) a0)) rfl (k__law_same h_t56)))) h_t61 (fun _ _ hq => (by obtain ⟨t57, h_t57, hq⟩ := bnd hq; obtain ⟨t58, h_t58, hq⟩ := bnd hq; obtain ⟨t59, h_t59, hq⟩ := bnd hq; obtain ⟨t60, h_t60, hq⟩ := bnd hq; have hq := Option.some.inj hq; subst hq; exact (tnot (bang (callI (aI (callI (aI (binX (vI rfl) cI rfl rfl (o_ixT (f := (tp PyData.int)) (l := rows) h_t57)) (aI (binX (vI rfl) cI rfl rfl (o_ixT (f := (tp PyData.int)) (l := rows) h_t58)) a0)) rfl (k_unlike_at h_t59)) (aI (vI rfl) a0)) rfl (k__law_same h_t60))))))) (fun hc62 => ?_) (fun hc62 => ?_)))
          · rw [if1 hc62] at h
            cases h
            refine (w_ret cI ?_)
            exact rfl
          · rw [if0 hc62] at h
            refine w_nx ?_
            show wS _ [im ((tp (tp PyData.int)) rows), ac (together19.map PyData.int), imo o20, im ((tp PyData.int) due22), im ((tp PyData.int) twice30), im (PyData.int apart51), imo o52, none, none] _
            obtain ⟨t63, h_t63, h⟩ := bnd h
            obtain ⟨t64, h_t64, h⟩ := bnd h
            obtain ⟨t65, h_t65, h⟩ := bnd h
            refine w_seq ((w_if (b := (!t65)) (tnot (bang (callI (ds' := [idD ((p2 PyData.int PyData.bool) (t63, t64)), idD ((p2 PyData.int PyData.bool) ((0 : Int), true))]) (aI (tupI (aI (callI (aI (vI rfl) (aI (vI rfl) a0)) rfl (k_unlike_at h_t63)) (aI (callKI a0 (aI (vI rfl) a0) rfl (k_is_row h_t64)) a0)) (Nat.le_of_ble_eq_true rfl)) (aI (tupI (aI cI (aI cI a0)) (Nat.le_of_ble_eq_true rfl)) a0)) rfl (k__law_same h_t65)))) (fun hc66 => ?_) (fun hc66 => ?_)))
            · rw [if1 hc66] at h
              cases h
              refine (w_ret cI ?_)
              exact rfl
            · rw [if0 hc66] at h
              refine w_nx ?_
              show wS _ [im ((tp (tp PyData.int)) rows), ac (together19.map PyData.int), imo o20, im ((tp PyData.int) due22), im ((tp PyData.int) twice30), im (PyData.int apart51), imo o52, none, none] _
              obtain ⟨t67, h_t67, h⟩ := bnd h
              obtain ⟨t68, h_t68, h⟩ := bnd h
              obtain ⟨many69, h_many69, h⟩ := bnd h
              refine w_seq ((t_set (f := (tp PyData.int)) (v := (downI t68)) (w := many69) h_many69 (cbX (dX (srtLX (ns := t68) (dX (cbX (dX (binX (binX (vI rfl) (vI rfl) rfl rfl (o_catT (f := PyData.int) (l := due22) (m := due22) h_t67)) (vI rfl) rfl rfl (o_catT (f := PyData.int) (l := t67) (m := due22) h_t68)) d0 rfl) rfl) d0 rfl)) d0 rfl) rfl) rfl ?_))
              show wS _ [im ((tp (tp PyData.int)) rows), ac (together19.map PyData.int), imo o20, im ((tp PyData.int) due22), im ((tp PyData.int) twice30), im (PyData.int apart51), imo o52, im ((tp PyData.int) many69), none] _
              obtain ⟨t70, h_t70, h⟩ := bnd h
              obtain ⟨t71, h_t71, h⟩ := bnd h
              obtain ⟨t72, h_t72, h⟩ := bnd h
              obtain ⟨t73, h_t73, h⟩ := bnd h
              refine w_seq ((w_if (b := (!t73)) (tnot (bang (callI (aI (callI (aI (binX (binX (vI rfl) (tupI (aI (tupI a0 (Nat.le_of_ble_eq_true rfl)) (aI (vI rfl) a0)) (Nat.le_of_ble_eq_true rfl)) rfl rfl (o_catT (f := (tp PyData.int)) (l := rows) (m := [[], due22]) h_t70)) (rvTX (f := (tp PyData.int)) (l := rows) (vI rfl)) rfl rfl (o_catT (f := (tp PyData.int)) (l := t70) (m := rows.reverse) h_t71)) a0) rfl (k_merged h_t72)) (aI (vI rfl) a0)) rfl (k__law_same h_t73)))) (fun hc74 => ?_) (fun hc74 => ?_)))
              · rw [if1 hc74] at h
                cases h
                refine (w_ret cI ?_)
                exact rfl
              · rw [if0 hc74] at h
                refine w_nx ?_
                show wS _ [im ((tp (tp PyData.int)) rows), ac (together19.map PyData.int), imo o20, im ((tp PyData.int) due22), im ((tp PyData.int) twice30), im (PyData.int apart51), imo o52, im ((tp PyData.int) many69), none] _
                obtain ⟨t75, h_t75, h⟩ := bnd h
                obtain ⟨t76, h_t76, h⟩ := bnd h
                obtain ⟨t77, h_t77, h⟩ := bnd h
                obtain ⟨pair78, h_pair78, h⟩ := bnd h
                refine w_seq ((t_set (f := (tp PyData.int)) (v := (downI t77)) (w := pair78) h_pair78 (cbX (dX (srtLX (ns := t77) (dX (cbX (dX (binX (binX (vI rfl) cI rfl rfl (o_ixT (f := (tp PyData.int)) (l := rows) h_t75)) (binX (vI rfl) cI rfl rfl (o_ixT (f := (tp PyData.int)) (l := rows) h_t76)) rfl rfl (o_catT (f := PyData.int) (l := t75) (m := t76) h_t77)) d0 rfl) rfl) d0 rfl)) d0 rfl) rfl) rfl ?_))
                show wS _ [im ((tp (tp PyData.int)) rows), ac (together19.map PyData.int), imo o20, im ((tp PyData.int) due22), im ((tp PyData.int) twice30), im (PyData.int apart51), imo o52, im ((tp PyData.int) many69), im ((tp PyData.int) pair78)] _
                obtain ⟨t79, h_t79, h⟩ := bnd h
                obtain ⟨t80, h_t80, h⟩ := bnd h
                obtain ⟨t81, h_t81, h⟩ := bnd h
                obtain ⟨t82, h_t82, h⟩ := bnd h
                obtain ⟨t87, h_t87, h⟩ := bnd h
                cases h
                refine w_seq ((w_ret (andX (callI (aI (callI (ds' := [(tp (tp PyData.int)) [t79, [], t80]]) (aI (tupI (aI (binX (vI rfl) cI rfl rfl (o_ixT (f := (tp PyData.int)) (l := rows) h_t79)) (aI (tupI a0 (Nat.le_of_ble_eq_true rfl)) (aI (binX (vI rfl) cI rfl rfl (o_ixT (f := (tp PyData.int)) (l := rows) h_t80)) a0))) (Nat.le_of_ble_eq_true rfl)) a0) rfl (k_merged h_t81)) (aI (vI rfl) a0)) rfl (k__law_same h_t82)) h_t87 (fun _ _ hq => (by obtain ⟨t83, h_t83, hq⟩ := bnd hq; obtain ⟨t84, h_t84, hq⟩ := bnd hq; obtain ⟨t85, h_t85, hq⟩ := bnd hq; obtain ⟨t86, h_t86, hq⟩ := bnd hq; have hq := Option.some.inj hq; subst hq; exact (callI (aI (callI (ds' := [(tp (tp PyData.int)) [t83, t84]]) (aI (tupI (aI (binX (vI rfl) cI rfl rfl (o_ixT (f := (tp PyData.int)) (l := rows) h_t83)) (aI (binX (vI rfl) cI rfl rfl (o_ixT (f := (tp PyData.int)) (l := rows) h_t84)) a0)) (Nat.le_of_ble_eq_true rfl)) a0) rfl (k_merged h_t85)) (aI (vI rfl) a0)) rfl (k__law_same h_t86))))) ?_))
                exact rfl
theorem k__law_ask {number : Int} {one : PyData} {two : PyData} {three : PyData} {r : PyData} (h : f_w_ask number one two three = some r) : F__law_ask [PyData.int number, idD one, idD two, idD three] = some (.im (idD r)) := chI_ok h
theorem k__law_listed {width : Int} {greatest : Int} {r : Bool} (h : f_w_listed width greatest = some r) : F__law_listed [PyData.int width, PyData.int greatest] = some (.im (PyData.bool r)) := by
  unfold f_w_listed at h
  refine t_fnI (enc := PyData.bool) rfl ?_
  show wS _ [im (PyData.int width), im (PyData.int greatest), none, none, none, none] _
  obtain ⟨rows2, h_t1, h⟩ := bnd h
  refine w_seq ((t_setL (f := (tp PyData.int)) (v := rows2) (w := rows2) rfl (callA (aI (vI rfl) (aI (vI rfl) a0)) rfl (k__law_listing h_t1)) rfl ?_))
  show wS _ [im (PyData.int width), im (PyData.int greatest), im ((ls (tp PyData.int)) rows2), none, none, none] _
  obtain ⟨is3, h_is3, h⟩ := bnd h
  obtain ⟨l_, hl, h⟩ := bnd h
  refine w_seq ((t_forG PyData.int is3 (fun x_1 (s_ : Unit) => f_w_listed_L1 width greatest rows2 x_1) (fun (s_ : Unit) e => ∃ (o37 : Option PyData) (o38 : Option PyData) (o39 : Option PyData), e = [im (PyData.int width), im (PyData.int greatest), im ((ls (tp PyData.int)) rows2), imo o37, imo o38, imo o39]) (rtI PyData.bool) (rng1I (cbX (dX (vI rfl) d0 rfl) (o_lenL (f := (tp PyData.int)) (l := rows2))) h_is3) ⟨none, none, none, rfl⟩ hl (fun x_1 s_ l2_ h e he => ?_) (fun s58 hs e he => ?_) (fun r_ hs r2_ e hr => ?_)))
  · obtain ⟨o37, o38, o39, rfl⟩ := he
    refine ⟨rfl, _, rfl, ?_⟩
    show wS _ [im (PyData.int width), im (PyData.int greatest), im ((ls (tp PyData.int)) rows2), im (PyData.int x_1), imo o38, imo o39] _
    replace h : f_w_listed_L1 width greatest rows2 x_1 = some l2_ := h
    unfold f_w_listed_L1 at h
    obtain ⟨due40, h_due40, h⟩ := bnd h
    refine w_seq ((t_set (f := (tp PyData.int)) (v := [(greatest + (1 : Int))]) (w := due40) h_due40 (tupI (aI (binX (vI rfl) cI rfl rfl e_add) a0) (Nat.le_of_ble_eq_true rfl)) rfl ?_))
    show wS _ [im (PyData.int width), im (PyData.int greatest), im ((ls (tp PyData.int)) rows2), im (PyData.int x_1), im ((tp PyData.int) due40), imo o39] _
    refine t_join (fun (due_ : (List Int)) e => e = [im (PyData.int width), im (PyData.int greatest), im ((ls (tp PyData.int)) rows2), im (PyData.int x_1), im ((tp PyData.int) due_), imo o39]) (fun (due_ : (List Int)) => f_w_listed_J1 width greatest rows2 x_1 due_) (t := l2_) (fun due_ e he h => ?_) ?_
    · subst he
      replace h : f_w_listed_J1 width greatest rows2 x_1 due_ = some l2_ := h
      unfold f_w_listed_J1 at h
      show wS _ [im (PyData.int width), im (PyData.int greatest), im ((ls (tp PyData.int)) rows2), im (PyData.int x_1), im ((tp PyData.int) due_), imo o39] _
      obtain ⟨t44, h_t44, h⟩ := bnd h
      obtain ⟨t45, h_t45, h⟩ := bnd h
      obtain ⟨t46, h_t46, h⟩ := bnd h
      obtain ⟨t50, h_t50, h⟩ := bnd h
      refine w_seq ((w_if (b := t50) (torX (tnot (bang (callI (aI (callI (aI (vI rfl) (aI cI (aI (binX (vI rfl) (vI rfl) rfl rfl (o_ixL (f := (tp PyData.int)) (l := rows2) h_t44)) a0))) rfl (k_stepped h_t45)) (aI (vI rfl) a0)) rfl (k__law_same h_t46)))) h_t50 (fun _ _ hq => (by obtain ⟨t47, h_t47, hq⟩ := bnd hq; obtain ⟨t48, h_t48, hq⟩ := bnd hq; obtain ⟨t49, h_t49, hq⟩ := bnd hq; have hq := Option.some.inj hq; subst hq; exact (tnot (bang (callI (aI (callI (aI (binX (vI rfl) (vI rfl) rfl rfl (o_ixL (f := (tp PyData.int)) (l := rows2) h_t47)) a0) rfl (k_is_row h_t48)) (aI cI a0)) rfl (k__law_same h_t49))))))) (fun hc51 => ?_) (fun hc51 => ?_)))
      · rw [if1 hc51] at h
        cases h
        refine (w_ret cI ?_)
        exact rfl
      · rw [if0 hc51] at h
        refine w_nx ?_
        show wS _ [im (PyData.int width), im (PyData.int greatest), im ((ls (tp PyData.int)) rows2), im (PyData.int x_1), im ((tp PyData.int) due_), imo o39] _
        obtain ⟨other53, h_t52, h⟩ := bnd h
        refine w_seq ((t_set (f := PyData.int) (v := other53) (w := other53) rfl (binX (cbX (dX (binX (binX (vI rfl) cI rfl rfl (e_mul (.inr (by decide)))) cI rfl rfl e_add) d0 rfl) o_int) (cbX (dX (vI rfl) d0 rfl) (o_lenL (f := (tp PyData.int)) (l := rows2))) rfl rfl (o_mod h_t52)) rfl ?_))
        show wS _ [im (PyData.int width), im (PyData.int greatest), im ((ls (tp PyData.int)) rows2), im (PyData.int x_1), im ((tp PyData.int) due_), im (PyData.int other53)] _
        obtain ⟨t54, h_t54, h⟩ := bnd h
        refine w_seq ((w_if (b := (!t54)) (tnot (bang (callI (aI (vI rfl) (aI (cbX (dX (vI rfl) (dX (vI rfl) d0 rfl) rfl) o_min2) (aI (cbX (dX (vI rfl) (dX (vI rfl) d0 rfl) rfl) o_max2) a0))) rfl (k__law_unlike h_t54)))) (fun hc55 => ?_) (fun hc55 => ?_)))
        · rw [if1 hc55] at h
          cases h
          refine (w_ret cI ?_)
          exact rfl
        · rw [if0 hc55] at h
          refine w_nx ?_
          show wS _ [im (PyData.int width), im (PyData.int greatest), im ((ls (tp PyData.int)) rows2), im (PyData.int x_1), im ((tp PyData.int) due_), im (PyData.int other53)] _
          refine w_nx ?_
          cases h
          exact ⟨some (PyData.int x_1), some ((tp PyData.int) due_), some (PyData.int other53), rfl⟩
    · refine ((w_if (b := (decide ((x_1 + (1 : Int)) < (rows2.length : Int)))) (bang (binX (binX (vI rfl) cI rfl rfl e_add) (cbX (dX (vI rfl) d0 rfl) (o_lenL (f := (tp PyData.int)) (l := rows2))) rfl rfl e_qlt)) (fun hc41 => ?_) (fun hc41 => ?_)))
      · rw [if1 hc41] at h
        obtain ⟨due57, h_t56, h⟩ := bnd h
        refine (t_set (f := (tp PyData.int)) (v := due57) (w := due57) rfl (binX (vI rfl) (binX (vI rfl) cI rfl rfl e_add) rfl rfl (o_ixL (f := (tp PyData.int)) (l := rows2) h_t56)) rfl ?_)
        exact ⟨due57, rfl, h⟩
      · rw [if0 hc41] at h
        refine w_nx ?_
        exact ⟨due40, rfl, h⟩
  · subst hs
    replace h : _ = some r := h
    dsimp only at h
    obtain ⟨o59, o60, o61, rfl⟩ := he
    show wS _ [im (PyData.int width), im (PyData.int greatest), im ((ls (tp PyData.int)) rows2), imo o59, imo o60, imo o61] _
    cases h
    refine w_seq ((w_ret cI ?_))
    exact rfl
  · subst hs
    cases h
    exact hr
theorem k__law_refused {rows : (List (List Int))} {width : Int} {floor : Int} {row : (List Int)} {r : Bool} (h : f_w_refused rows width floor row = some r) : F__law_refused [(tp (tp PyData.int)) rows, PyData.int width, PyData.int floor, (ls PyData.int) row] = some (.im (PyData.bool r)) := by
  unfold f_w_refused at h
  refine t_fnI (enc := PyData.bool) rfl ?_
  show wS _ [im ((tp (tp PyData.int)) rows), im (PyData.int width), im (PyData.int floor), im ((ls PyData.int) row), none, none, none] _
  obtain ⟨t1, h_t1, h⟩ := bnd h
  obtain ⟨bad3, h_t2, h⟩ := bnd h
  refine w_seq ((t_set (f := idD) (v := bad3) (w := bad3) rfl (callI (aI (vI rfl) (aI (binX (vI rfl) cI rfl rfl (o_ixT (f := (tp PyData.int)) (l := rows) h_t1)) a0)) rfl (k__law_bent h_t2)) rfl ?_))
  show wS _ [im ((tp (tp PyData.int)) rows), im (PyData.int width), im (PyData.int floor), im ((ls PyData.int) row), im (idD bad3), none, none] _
  obtain ⟨t4, h_t4, h⟩ := bnd h
  obtain ⟨t5, h_t5, h⟩ := bnd h
  obtain ⟨odd7, h_t6, h⟩ := bnd h
  refine w_seq ((t_set (f := idD) (v := odd7) (w := odd7) rfl (binX (tupI (aI cI (aI (negI cI) (aI cI (aI cI (aI cI (aI (negI (binX cI cI rfl rfl (o_pow h_t4))) (aI (tupI (aI cI a0) (Nat.le_of_ble_eq_true rfl)) a0))))))) (Nat.le_of_ble_eq_true rfl)) (binX (cbX (dX (binX (vI rfl) cI rfl rfl (o_ixL (f := PyData.int) (l := row) h_t5)) d0 rfl) o_int) cI rfl rfl (e_mod (by decide))) rfl rfl (o_ixT (f := idD) (l := [(PyData.int (0 : Int)), (PyData.int (-1 : Int)), (PyData.bool true), (nn ()), (PyData.str ("2" : Str)), (PyData.int (-t4)), ((p1 PyData.int) (1 : Int))]) h_t6)) rfl ?_))
  show wS _ [im ((tp (tp PyData.int)) rows), im (PyData.int width), im (PyData.int floor), im ((ls PyData.int) row), im (idD bad3), im (idD odd7), none] _
  obtain ⟨t8, h_t8, h⟩ := bnd h
  obtain ⟨t9, h_t9, h⟩ := bnd h
  obtain ⟨t13, h_t13, h⟩ := bnd h
  refine w_seq ((w_if (b := t13) (torX (tnot (bang (callI (aI (callI (aI (vI rfl) a0) rfl (k_is_row h_t8)) (aI cI a0)) rfl (k__law_same h_t9)))) h_t13 (fun _ _ hq => (by obtain ⟨t10, h_t10, hq⟩ := bnd hq; obtain ⟨t11, h_t11, hq⟩ := bnd hq; obtain ⟨t12, h_t12, hq⟩ := bnd hq; have hq := Option.some.inj hq; subst hq; exact (tnot (bang (callI (aI (callI (aI (binX (vI rfl) cI rfl rfl (o_ixT (f := (tp PyData.int)) (l := rows) h_t10)) a0) rfl (k_is_row h_t11)) (aI cI a0)) rfl (k__law_same h_t12))))))) (fun hc14 => ?_) (fun hc14 => ?_)))
  · rw [if1 hc14] at h
    cases h
    refine (w_ret cI ?_)
    exact rfl
  · rw [if0 hc14] at h
    refine w_nx ?_
    show wS _ [im ((tp (tp PyData.int)) rows), im (PyData.int width), im (PyData.int floor), im ((ls PyData.int) row), im (idD bad3), im (idD odd7), none] _
    obtain ⟨t15, h_t15, h⟩ := bnd h
    obtain ⟨t16, h_t16, h⟩ := bnd h
    obtain ⟨t17, h_t17, h⟩ := bnd h
    obtain ⟨t18, h_t18, h⟩ := bnd h
    obtain ⟨l_, hl, h⟩ := bnd h
    refine w_seq ((t_forG idD [((p2 (tp PyData.int) idD) (t15, bad3)), ((ls (tp PyData.int)) rows), ((tp idD) t16), ((p1 PyData.int) (1 : Int)), ((tp PyData.int) t18), (nn ())] (fun x_1 (s_ : Unit) => f_w_refused_L1 rows width floor bad3 odd7 x_1) (fun (s_ : Unit) e => ∃ (o23 : Option PyData), e = [im ((tp (tp PyData.int)) rows), im (PyData.int width), im (PyData.int floor), im ((ls PyData.int) row), im (idD bad3), im (idD odd7), imo o23]) (rtI PyData.bool) (seqTX (f := idD) (l := [((p2 (tp PyData.int) idD) (t15, bad3)), ((ls (tp PyData.int)) rows), ((tp idD) t16), ((p1 PyData.int) (1 : Int)), ((tp PyData.int) t18), (nn ())]) (tupI (aI (tupI (aI (binX (vI rfl) cI rfl rfl (o_ixT (f := (tp PyData.int)) (l := rows) h_t15)) (aI (vI rfl) a0)) (Nat.le_of_ble_eq_true rfl)) (aA (cbX (dX (vI rfl) d0 rfl) rfl) (aI (binX (tupI (aI (vI rfl) a0) (Nat.le_of_ble_eq_true rfl)) (imAnyT (f := (tp PyData.int)) (l := rows) (vI rfl)) rfl rfl (o_catT (f := idD) (l := [bad3]) (m := (List.map (tp PyData.int) rows)) h_t16)) (aI (tupI (aI cI a0) (Nat.le_of_ble_eq_true rfl)) (aI (binX (binX (vI rfl) cI rfl rfl (o_ixT (f := (tp PyData.int)) (l := rows) h_t17)) (tupI (aI cI a0) (Nat.le_of_ble_eq_true rfl)) rfl rfl (o_catT (f := PyData.int) (l := t17) (m := [(2 : Int)]) h_t18)) (aI cI a0)))))) (Nat.le_of_ble_eq_true rfl))) ⟨none, rfl⟩ hl (fun x_1 s_ l2_ h e he => ?_) (fun s27 hs e he => ?_) (fun r_ hs r2_ e hr => ?_)))
    · obtain ⟨o23, rfl⟩ := he
      refine ⟨rfl, _, rfl, ?_⟩
      show wS _ [im ((tp (tp PyData.int)) rows), im (PyData.int width), im (PyData.int floor), im ((ls PyData.int) row), im (idD bad3), im (idD odd7), im (idD x_1)] _
      replace h : f_w_refused_L1 rows width floor bad3 odd7 x_1 = some l2_ := h
      unfold f_w_refused_L1 at h
      obtain ⟨t24, h_t24, h⟩ := bnd h
      obtain ⟨t25, h_t25, h⟩ := bnd h
      refine (w_if (b := (!t25)) (tnot (bang (callI (aI (callI (aI cI (aI (vI rfl) (aI cI (aI cI a0)))) rfl (k__law_ask h_t24)) (aI cI a0)) rfl (k__law_same h_t25)))) (fun hc26 => ?_) (fun hc26 => ?_))
      · rw [if1 hc26] at h
        cases h
        refine (w_ret cI ?_)
        exact rfl
      · rw [if0 hc26] at h
        refine w_nx ?_
        cases h
        exact ⟨some (idD x_1), rfl⟩
    · subst hs
      replace h : _ = some r := h
      dsimp only at h
      obtain ⟨o28, rfl⟩ := he
      show wS _ [im ((tp (tp PyData.int)) rows), im (PyData.int width), im (PyData.int floor), im ((ls PyData.int) row), im (idD bad3), im (idD odd7), imo o28] _
      obtain ⟨t29, h_t29, h⟩ := bnd h
      obtain ⟨t30, h_t30, h⟩ := bnd h
      obtain ⟨t33, h_t33, h⟩ := bnd h
      refine w_seq ((w_if (b := t33) (torX (tnot (bang (callI (aI (callI (aI cI (aI (vI rfl) (aI (vI rfl) (aI (vI rfl) a0)))) rfl (k__law_ask h_t29)) (aI cI a0)) rfl (k__law_same h_t30)))) h_t33 (fun _ _ hq => (by obtain ⟨t31, h_t31, hq⟩ := bnd hq; obtain ⟨t32, h_t32, hq⟩ := bnd hq; have hq := Option.some.inj hq; subst hq; exact (tnot (bang (callI (aI (callI (aI cI (aI (vI rfl) (aI (vI rfl) (aI (vI rfl) a0)))) rfl (k__law_ask h_t31)) (aI cI a0)) rfl (k__law_same h_t32))))))) (fun hc34 => ?_) (fun hc34 => ?_)))
      · rw [if1 hc34] at h
        cases h
        refine (w_ret cI ?_)
        exact rfl
      · rw [if0 hc34] at h
        refine w_nx ?_
        show wS _ [im ((tp (tp PyData.int)) rows), im (PyData.int width), im (PyData.int floor), im ((ls PyData.int) row), im (idD bad3), im (idD odd7), imo o28] _
        obtain ⟨t35, h_t35, h⟩ := bnd h
        obtain ⟨t36, h_t36, h⟩ := bnd h
        obtain ⟨t39, h_t39, h⟩ := bnd h
        refine w_seq ((w_if (b := t39) (torX (tnot (bang (callI (aI (callI (aI cI (aI (vI rfl) (aI (vI rfl) (aI (vI rfl) a0)))) rfl (k__law_ask h_t35)) (aI cI a0)) rfl (k__law_same h_t36)))) h_t39 (fun _ _ hq => (by obtain ⟨t37, h_t37, hq⟩ := bnd hq; obtain ⟨t38, h_t38, hq⟩ := bnd hq; have hq := Option.some.inj hq; subst hq; exact (tnot (bang (callI (aI (callI (ds' := [PyData.int (1 : Int), idD (PyData.int (1 : Int)), idD (PyData.int (1 : Int)), idD ((tp PyData.int) [])]) (aI cI (aI cI (aI cI (aI (tupI a0 (Nat.le_of_ble_eq_true rfl)) a0)))) rfl (k__law_ask h_t37)) (aI cI a0)) rfl (k__law_same h_t38))))))) (fun hc40 => ?_) (fun hc40 => ?_)))
        · rw [if1 hc40] at h
          cases h
          refine (w_ret cI ?_)
          exact rfl
        · rw [if0 hc40] at h
          refine w_nx ?_
          show wS _ [im ((tp (tp PyData.int)) rows), im (PyData.int width), im (PyData.int floor), im ((ls PyData.int) row), im (idD bad3), im (idD odd7), imo o28] _
          obtain ⟨t41, h_t41, h⟩ := bnd h
          obtain ⟨t42, h_t42, h⟩ := bnd h
          obtain ⟨t46, h_t46, h⟩ := bnd h
          refine w_seq ((w_if (b := t46) (torX (tnot (bang (callI (aI (callI (aI cI (aI (vI rfl) (aI (vI rfl) (aI cI a0)))) rfl (k__law_ask h_t41)) (aI cI a0)) rfl (k__law_same h_t42)))) h_t46 (fun _ _ hq => (by obtain ⟨t43, h_t43, hq⟩ := bnd hq; obtain ⟨t44, h_t44, hq⟩ := bnd hq; obtain ⟨t45, h_t45, hq⟩ := bnd hq; have hq := Option.some.inj hq; subst hq; exact (tnot (bang (callI (aI (callI (aI cI (aI (binX (vI rfl) cI rfl rfl (o_ixT (f := (tp PyData.int)) (l := rows) h_t43)) (aI (vI rfl) (aI cI a0)))) rfl (k__law_ask h_t44)) (aI cI a0)) rfl (k__law_same h_t45))))))) (fun hc47 => ?_) (fun hc47 => ?_)))
          · rw [if1 hc47] at h
            cases h
            refine (w_ret cI ?_)
            exact rfl
          · rw [if0 hc47] at h
            refine w_nx ?_
            show wS _ [im ((tp (tp PyData.int)) rows), im (PyData.int width), im (PyData.int floor), im ((ls PyData.int) row), im (idD bad3), im (idD odd7), imo o28] _
            obtain ⟨t48, h_t48, h⟩ := bnd h
            obtain ⟨t49, h_t49, h⟩ := bnd h
            obtain ⟨t50, h_t50, h⟩ := bnd h
            obtain ⟨t51, h_t51, h⟩ := bnd h
            obtain ⟨t54, h_t54, h⟩ := bnd h
            cases h
            refine w_seq ((w_ret (andX (callI (aI (callI (aI cI (aI (binX (vI rfl) cI rfl rfl (o_ixT (f := (tp PyData.int)) (l := rows) h_t48)) (aI (binX (vI rfl) cI rfl rfl (o_ixT (f := (tp PyData.int)) (l := rows) h_t49)) (aI cI a0)))) rfl (k__law_ask h_t50)) (aI cI a0)) rfl (k__law_same h_t51)) h_t54 (fun _ _ hq => (by obtain ⟨t52, h_t52, hq⟩ := bnd hq; obtain ⟨t53, h_t53, hq⟩ := bnd hq; have hq := Option.some.inj hq; subst hq; exact (callI (aI (callI (aI cI (aI (vI rfl) (aI cI (aI cI a0)))) rfl (k__law_ask h_t52)) (aI cI a0)) rfl (k__law_same h_t53))))) ?_))
            exact rfl
    · subst hs
      cases h
      exact hr
theorem k_law {script : (List Int)} {r : Bool} (h : f_law script = some r) : F_law [(ls PyData.int) script] = some (.im (PyData.bool r)) := by
  unfold f_law at h
  refine t_fnI (enc := PyData.bool) rfl ?_
  show wS _ [im ((ls PyData.int) script), none, none, none, none, none, none, none, none, none, none] _
  obtain ⟨first2, h_t1, h⟩ := bnd h
  refine w_seq ((t_setL (f := PyData.int) (v := first2) (w := first2) rfl (callA (aI (vI rfl) (aI cI (aI cI a0))) rfl (k__law_draw h_t1)) rfl ?_))
  show wS _ [im ((ls PyData.int) script), im ((ls PyData.int) first2), none, none, none, none, none, none, none, none, none] _
  obtain ⟨t3, h_t3, h⟩ := bnd h
  obtain ⟨size5, h_t4, h⟩ := bnd h
  refine w_seq ((t_set (f := (p2 PyData.int PyData.int)) (v := size5) (w := size5) rfl (binX (tupI (aI (tupI (aI cI (aI cI a0)) (Nat.le_of_ble_eq_true rfl)) (aI (tupI (aI cI (aI cI a0)) (Nat.le_of_ble_eq_true rfl)) (aI (tupI (aI cI (aI cI a0)) (Nat.le_of_ble_eq_true rfl)) (aI (tupI (aI cI (aI cI a0)) (Nat.le_of_ble_eq_true rfl)) (aI (tupI (aI cI (aI cI a0)) (Nat.le_of_ble_eq_true rfl)) (aI (tupI (aI cI (aI cI a0)) (Nat.le_of_ble_eq_true rfl)) (aI (tupI (aI cI (aI cI a0)) (Nat.le_of_ble_eq_true rfl)) (aI (tupI (aI cI (aI cI a0)) (Nat.le_of_ble_eq_true rfl)) (aI (tupI (aI cI (aI cI a0)) (Nat.le_of_ble_eq_true rfl)) a0))))))))) (Nat.le_of_ble_eq_true rfl)) (binX (cbX (dX (binX (vI rfl) cI rfl rfl (o_ixL (f := PyData.int) (l := first2) h_t3)) d0 rfl) o_int) cI rfl rfl (e_mod (by decide))) rfl rfl (o_ixT (f := (p2 PyData.int PyData.int)) (l := [((2 : Int), (2 : Int)), ((1 : Int), (4 : Int)), ((3 : Int), (3 : Int)), ((2 : Int), (4 : Int)), ((4 : Int), (3 : Int)), ((3 : Int), (4 : Int)), ((4 : Int), (2 : Int)), ((1 : Int), (1 : Int)), ((2 : Int), (3 : Int))]) h_t4)) rfl ?_))
  show wS _ [im ((ls PyData.int) script), im ((ls PyData.int) first2), im ((p2 PyData.int PyData.int) size5), none, none, none, none, none, none, none, none] _
  obtain ⟨t6, h_t6, h⟩ := bnd h
  refine w_seq ((w_if (b := (!t6)) (tnot (bang (callI (aI (binX (vI rfl) cI rfl rfl rfl) (aI (binX (vI rfl) cI rfl rfl rfl) a0)) rfl (k__law_listed h_t6)))) (fun hc7 => ?_) (fun hc7 => ?_)))
  · rw [if1 hc7] at h
    cases h
    refine (w_ret cI ?_)
    exact rfl
  · rw [if0 hc7] at h
    refine w_nx ?_
    show wS _ [im ((ls PyData.int) script), im ((ls PyData.int) first2), im ((p2 PyData.int PyData.int) size5), none, none, none, none, none, none, none, none] _
    obtain ⟨rows8, h_rows8, h⟩ := bnd h
    refine w_seq ((t_setA (f := (tp PyData.int)) (v := []) (w := rows8) h_rows8 (lstX a0 (Nat.le_of_ble_eq_true rfl)) rfl ?_))
    show wS _ [im ((ls PyData.int) script), im ((ls PyData.int) first2), im ((p2 PyData.int PyData.int) size5), ac (rows8.map (tp PyData.int)), none, none, none, none, none, none, none] _
    obtain ⟨is9, h_is9, h⟩ := bnd h
    obtain ⟨rows31, hl, h⟩ := bnd h
    refine w_seq ((t_forS PyData.int is9 (fun x_1 (rows_ : (List (List Int))) => f_law_L1 script first2 x_1 rows_) (fun (rows_ : (List (List Int))) e => ∃ (o20 : Option PyData) (o21 : Option PyData), e = [im ((ls PyData.int) script), im ((ls PyData.int) first2), im ((p2 PyData.int PyData.int) size5), ac (rows_.map (tp PyData.int)), imo o20, none, none, none, none, none, imo o21]) (rng1I cI h_is9) ⟨none, none, rfl⟩ hl (fun x_1 rows_ s2_ h e he => ?_) (fun e he => ?_)))
    · obtain ⟨o20, o21, rfl⟩ := he
      refine ⟨rfl, _, rfl, ?_⟩
      show wS _ [im ((ls PyData.int) script), im ((ls PyData.int) first2), im ((p2 PyData.int PyData.int) size5), ac (rows_.map (tp PyData.int)), im (PyData.int x_1), none, none, none, none, none, imo o21] _
      replace h : f_law_L1 script first2 x_1 rows_ = some s2_ := h
      unfold f_law_L1 at h
      obtain ⟨t22, h_t22, h⟩ := bnd h
      obtain ⟨many24, h_t23, h⟩ := bnd h
      refine w_seq ((t_set (f := PyData.int) (v := many24) (w := many24) rfl (binX (tupI (aI cI (aI cI (aI cI (aI cI (aI cI (aI cI (aI cI (aI cI (aI cI (aI cI a0)))))))))) (Nat.le_of_ble_eq_true rfl)) (binX (cbX (dX (binX (vI rfl) (binX cI (vI rfl) rfl rfl e_add) rfl rfl (o_ixL (f := PyData.int) (l := first2) h_t22)) d0 rfl) o_int) cI rfl rfl (e_mod (by decide))) rfl rfl (o_ixT (f := PyData.int) (l := [(2 : Int), (0 : Int), (3 : Int), (1 : Int), (5 : Int), (4 : Int), (7 : Int), (9 : Int), (30 : Int), (6 : Int)]) h_t23)) rfl ?_))
      show wS _ [im ((ls PyData.int) script), im ((ls PyData.int) first2), im ((p2 PyData.int PyData.int) size5), ac (rows_.map (tp PyData.int)), im (PyData.int x_1), none, none, none, none, none, im (PyData.int many24)] _
      obtain ⟨t25, h_t25, h⟩ := bnd h
      obtain ⟨t26, h_t26, h⟩ := bnd h
      obtain ⟨t27, h_t27, h⟩ := bnd h
      obtain ⟨t28, h_t28, h⟩ := bnd h
      obtain ⟨rows29, h_rows29, h⟩ := bnd h
      refine w_seq ((t_app (f := (tp PyData.int)) (l := rows_) (a := t28) h_rows29 ⟨_, (callI (aA (callA (aI (vI rfl) (aI (binX cI (vI rfl) rfl rfl e_add) (aI (vI rfl) a0))) rfl (k__law_draw h_t25)) (aI (binX cI (binX (cbX (dX (binX (vI rfl) cI rfl rfl (o_ixL (f := PyData.int) (l := first2) h_t26)) d0 rfl) o_int) cI rfl rfl (e_mod (by decide))) rfl rfl e_add) (aI (binX (vI rfl) (binX cI (vI rfl) rfl rfl e_add) rfl rfl (o_ixL (f := PyData.int) (l := first2) h_t27)) a0))) rfl (k__law_row h_t28)), rfl⟩ rfl rfl ?_))
      show wS _ [im ((ls PyData.int) script), im ((ls PyData.int) first2), im ((p2 PyData.int PyData.int) size5), ac (rows29.map (tp PyData.int)), im (PyData.int x_1), none, none, none, none, none, im (PyData.int many24)] _
      refine w_nx ?_
      cases h
      exact ⟨some (PyData.int x_1), some (PyData.int many24), rfl⟩
    · obtain ⟨o32, o33, rfl⟩ := he
      show wS _ [im ((ls PyData.int) script), im ((ls PyData.int) first2), im ((p2 PyData.int PyData.int) size5), ac (rows31.map (tp PyData.int)), imo o32, none, none, none, none, none, imo o33] _
      obtain ⟨rows34, h_rows34, h⟩ := bnd h
      refine w_seq ((t_setB (f := (tp (tp PyData.int))) (v := rows31) (w := rows34) h_rows34 (cbX (dX (vB rfl) d0 rfl) rfl) rfl ?_))
      show wS _ [im ((ls PyData.int) script), im ((ls PyData.int) first2), im ((p2 PyData.int PyData.int) size5), im ((tp (tp PyData.int)) rows34), imo o32, none, none, none, none, none, imo o33] _
      obtain ⟨bounds36, h_t35, h⟩ := bnd h
      refine w_seq ((t_setL (f := PyData.int) (v := bounds36) (w := bounds36) rfl (callA (aI (vI rfl) (aI cI (aI cI a0))) rfl (k__law_draw h_t35)) rfl ?_))
      show wS _ [im ((ls PyData.int) script), im ((ls PyData.int) first2), im ((p2 PyData.int PyData.int) size5), im ((tp (tp PyData.int)) rows34), imo o32, im ((ls PyData.int) bounds36), none, none, none, none, imo o33] _
      obtain ⟨t37, h_t37, h⟩ := bnd h
      obtain ⟨t38, h_t38, h⟩ := bnd h
      obtain ⟨width40, h_t39, h⟩ := bnd h
      refine w_seq ((t_set (f := PyData.int) (v := width40) (w := width40) rfl (binX (tupI (aI cI (aI cI (aI cI (aI cI (aI cI (aI (binX cI cI rfl rfl (o_pow h_t37)) (aI cI (aI cI a0)))))))) (Nat.le_of_ble_eq_true rfl)) (binX (cbX (dX (binX (vI rfl) cI rfl rfl (o_ixL (f := PyData.int) (l := bounds36) h_t38)) d0 rfl) o_int) cI rfl rfl (e_mod (by decide))) rfl rfl (o_ixT (f := PyData.int) (l := [(1 : Int), (2 : Int), (3 : Int), (4 : Int), (2 : Int), t37, (3 : Int), (39 : Int)]) h_t39)) rfl ?_))
      show wS _ [im ((ls PyData.int) script), im ((ls PyData.int) first2), im ((p2 PyData.int PyData.int) size5), im ((tp (tp PyData.int)) rows34), imo o32, im ((ls PyData.int) bounds36), im (PyData.int width40), none, none, none, imo o33] _
      obtain ⟨t41, h_t41, h⟩ := bnd h
      obtain ⟨t42, h_t42, h⟩ := bnd h
      obtain ⟨floor44, h_t43, h⟩ := bnd h
      refine w_seq ((t_set (f := PyData.int) (v := floor44) (w := floor44) rfl (binX (tupI (aI cI (aI cI (aI cI (aI cI (aI cI (aI (binX cI cI rfl rfl (o_pow h_t41)) (aI cI (aI cI a0)))))))) (Nat.le_of_ble_eq_true rfl)) (binX (cbX (dX (binX (vI rfl) cI rfl rfl (o_ixL (f := PyData.int) (l := bounds36) h_t42)) d0 rfl) o_int) cI rfl rfl (e_mod (by decide))) rfl rfl (o_ixT (f := PyData.int) (l := [(1 : Int), (2 : Int), (3 : Int), (1 : Int), (5 : Int), t41, (4 : Int), (1 : Int)]) h_t43)) rfl ?_))
      show wS _ [im ((ls PyData.int) script), im ((ls PyData.int) first2), im ((p2 PyData.int PyData.int) size5), im ((tp (tp PyData.int)) rows34), imo o32, im ((ls PyData.int) bounds36), im (PyData.int width40), im (PyData.int floor44), none, none, imo o33] _
      obtain ⟨t45, h_t45, h⟩ := bnd h
      obtain ⟨t46, h_t46, h⟩ := bnd h
      refine w_seq ((w_if (b := (!t46)) (tnot (bang (callI (aI (binX (vI rfl) cI rfl rfl (o_ixT (f := (tp PyData.int)) (l := rows34) h_t45)) (aI (vI rfl) (aI (vI rfl) a0))) rfl (k__law_steps h_t46)))) (fun hc47 => ?_) (fun hc47 => ?_)))
      · rw [if1 hc47] at h
        cases h
        refine (w_ret cI ?_)
        exact rfl
      · rw [if0 hc47] at h
        refine w_nx ?_
        show wS _ [im ((ls PyData.int) script), im ((ls PyData.int) first2), im ((p2 PyData.int PyData.int) size5), im ((tp (tp PyData.int)) rows34), imo o32, im ((ls PyData.int) bounds36), im (PyData.int width40), im (PyData.int floor44), none, none, imo o33] _
        obtain ⟨t48, h_t48, h⟩ := bnd h
        obtain ⟨t49, h_t49, h⟩ := bnd h
        obtain ⟨t50, h_t50, h⟩ := bnd h
        obtain ⟨t51, h_t51, h⟩ := bnd h
        refine w_seq ((w_if (b := (!t51)) (tnot (bang (callI (aI (binX (vI rfl) cI rfl rfl (o_ixT (f := (tp PyData.int)) (l := rows34) h_t48)) (aI (binX cI (binX (cbX (dX (binX (vI rfl) cI rfl rfl (o_ixL (f := PyData.int) (l := bounds36) h_t49)) d0 rfl) o_int) cI rfl rfl (e_mod (by decide))) rfl rfl e_add) (aI (binX cI (binX (cbX (dX (binX (vI rfl) cI rfl rfl (o_ixL (f := PyData.int) (l := bounds36) h_t50)) d0 rfl) o_int) cI rfl rfl (e_mod (by decide))) rfl rfl e_add) a0))) rfl (k__law_steps h_t51)))) (fun hc52 => ?_) (fun hc52 => ?_)))
        · rw [if1 hc52] at h
          cases h
          refine (w_ret cI ?_)
          exact rfl
        · rw [if0 hc52] at h
          refine w_nx ?_
          show wS _ [im ((ls PyData.int) script), im ((ls PyData.int) first2), im ((p2 PyData.int PyData.int) size5), im ((tp (tp PyData.int)) rows34), imo o32, im ((ls PyData.int) bounds36), im (PyData.int width40), im (PyData.int floor44), none, none, imo o33] _
          obtain ⟨t53, h_t53, h⟩ := bnd h
          obtain ⟨lift54, h_lift54, h⟩ := bnd h
          refine w_seq ((t_set (f := PyData.int) (v := ((1 : Int) + (t53 % (5 : Int)))) (w := lift54) h_lift54 (binX cI (binX (cbX (dX (binX (vI rfl) cI rfl rfl (o_ixL (f := PyData.int) (l := bounds36) h_t53)) d0 rfl) o_int) cI rfl rfl (e_mod (by decide))) rfl rfl e_add) rfl ?_))
          show wS _ [im ((ls PyData.int) script), im ((ls PyData.int) first2), im ((p2 PyData.int PyData.int) size5), im ((tp (tp PyData.int)) rows34), imo o32, im ((ls PyData.int) bounds36), im (PyData.int width40), im (PyData.int floor44), im (PyData.int lift54), none, imo o33] _
          obtain ⟨t55, h_t55, h⟩ := bnd h
          obtain ⟨t56, h_t56, h⟩ := bnd h
          obtain ⟨small58, h_t57, h⟩ := bnd h
          refine w_seq ((t_set (f := (tp PyData.int)) (v := small58) (w := small58) rfl (callI (aA (callA (aI (vI rfl) (aI cI (aI (binX (cbX (dX (binX (vI rfl) cI rfl rfl (o_ixL (f := PyData.int) (l := bounds36) h_t55)) d0 rfl) o_int) cI rfl rfl (e_mod (by decide))) a0))) rfl (k__law_draw h_t56)) (aI (binX (vI rfl) cI rfl rfl e_add) (aI cI a0))) rfl (k__law_row h_t57)) rfl ?_))
          show wS _ [im ((ls PyData.int) script), im ((ls PyData.int) first2), im ((p2 PyData.int PyData.int) size5), im ((tp (tp PyData.int)) rows34), imo o32, im ((ls PyData.int) bounds36), im (PyData.int width40), im (PyData.int floor44), im (PyData.int lift54), im ((tp PyData.int) small58), imo o33] _
          obtain ⟨t59, h_t59, h⟩ := bnd h
          obtain ⟨t60, h_t60, h⟩ := bnd h
          refine w_seq ((w_if (b := (!t60)) (tnot (bang (callI (aI (vI rfl) (aI (binX cI (binX (cbX (dX (binX (vI rfl) cI rfl rfl (o_ixL (f := PyData.int) (l := bounds36) h_t59)) d0 rfl) o_int) cI rfl rfl (e_mod (by decide))) rfl rfl e_add) (aI (vI rfl) a0))) rfl (k__law_placed h_t60)))) (fun hc61 => ?_) (fun hc61 => ?_)))
          · rw [if1 hc61] at h
            cases h
            refine (w_ret cI ?_)
            exact rfl
          · rw [if0 hc61] at h
            refine w_nx ?_
            show wS _ [im ((ls PyData.int) script), im ((ls PyData.int) first2), im ((p2 PyData.int PyData.int) size5), im ((tp (tp PyData.int)) rows34), imo o32, im ((ls PyData.int) bounds36), im (PyData.int width40), im (PyData.int floor44), im (PyData.int lift54), im ((tp PyData.int) small58), imo o33] _
            obtain ⟨t62, h_t62, h⟩ := bnd h
            obtain ⟨t64, h_t64, h⟩ := bnd h
            cases h
            refine w_seq ((w_fz (w_ret (andX (callI (aI (vI rfl) a0) rfl (k__law_merges h_t62)) h_t64 (fun _ _ hq => (by obtain ⟨t63, h_t63, hq⟩ := bnd hq; have hq := Option.some.inj hq; subst hq; exact (callI (aI (vI rfl) (aI (vI rfl) (aI (vI rfl) (aA (cutLX (f := PyData.int) (l := bounds36) (vI rfl) (oA cI) oN rfl) a0)))) rfl (k__law_refused h_t63))))) ?_)))
            exact rfl
end K13
namespace DL
open PySem PySem.Spec PyProof.Rows L2
def sh (w : Nat) (f : Int) (row : List Int) : Int := if w ≤ row.length ∧ f ≤ gv row w then gv row w + 1 else f
def srow (w : Nat) (f : Int) (row : List Int) : List Int := (row.filter fun m => decide (sh w f row ≤ m)) ++ [sh w f row]
abbrev Down (l : List Int) : Prop := l.Pairwise (· ≥ ·)
theorem down_downI (l : List Int) : Down (downI l) := by
  have z := sortB_pw (le := fun a b : Int => decide (b ≤ a)) (fun a b c h1 h2 => by simp at *; omega) (fun a b => by simp; omega) l
  exact z.imp fun h => by simpa using h
theorem downI_self {l : List Int} (h : Down l) : downI l = l := (downI_uniq (List.Perm.refl l) h).symm
theorem downI_congr {l m : List Int} (h : l.Perm m) : downI l = downI m := downI_uniq ((downI_perm l).trans h) (down_downI l)
theorem gv_of {l : List Int} {w : Nat} (h : 1 ≤ w) (h2 : w ≤ l.length) : l[w - 1]? = some (gv l w) := by
  have := gv_get (l := l) (k := w - 1) (by omega)
  rwa [Nat.sub_add_cancel h] at this
section
variable (W : Nat → Nat) (F : Nat → Int) (p : Nat → Nat) (n : Nat)
def rwo (v : Nat) (mem : List Int) : List Int := srow (W v) (F v) (downI mem)
/-- what lies below u once k versions are gone through, from the last one on -/
def bl : Nat → Nat → List Int
  | 0, _ => []
  | k + 1, u => if u = p (n - k) then bl k u ++ rwo W F (n - k) (bl k (n - k)) else bl k u
def row (v : Nat) : List Int := rwo W F v (bl W F p n (n - v) v)
end
end DL
namespace DL
open PySem PySem.Spec PyProof.Rows L2
def lx : List Int → List Int → Prop
  | [], _ => True
  | _ :: _, [] => False
  | x :: xs, y :: ys => x < y ∨ (x = y ∧ lx xs ys)
def ins (x : Int) : List Int → List Int
  | [] => [x]
  | y :: ys => if y ≤ x then x :: y :: ys else y :: ins x ys
end DL
namespace DL
open PySem PySem.Spec PyProof.Rows L2
abbrev Par (p : Nat → Nat) (n : Nat) : Prop := ∀ v, 1 ≤ v → v ≤ n → p v < v
section
variable (p : Nat → Nat) (h : Nat → Int)
/-- from u up to v nobody is higher than t -/
def opB (v : Nat) (t : Int) : Nat → Nat → Bool
  | 0, u => u == v
  | k + 1, u => u == v || (decide (v < u) && (decide (h (p u) ≤ t) && opB v t k (p u)))
def op (v : Nat) (t : Int) (u : Nat) : Bool := opB p h v t u u
end
section
variable {p : Nat → Nat} {h : Nat → Int} {n : Nat} (hp : Par p n)
include hp
theorem opB_more {v : Nat} {t : Int} : ∀ (u k : Nat), u ≤ n → u ≤ k → opB p h v t k u = opB p h v t u u := by
  intro u
  induction u using Nat.strongRecOn with
  | ind u ih =>
    intro k hu hk
    by_cases z : u = 0
    · subst z
      cases k with
      | zero => rfl
      | succ k =>
        show ((0 == v) || (decide (v < 0) && _)) = (0 == v)
        simp
    · obtain ⟨k, rfl⟩ : ∃ j, k = j + 1 := ⟨k - 1, by omega⟩
      obtain ⟨u, rfl⟩ : ∃ j, u = j + 1 := ⟨u - 1, by omega⟩
      have l := hp (u + 1) (by omega) hu
      show (_ || (_ && (_ && opB p h v t k (p (u + 1))))) = (_ || (_ && (_ && opB p h v t u (p (u + 1)))))
      rw [ih (p (u + 1)) l k (by omega) (by omega), ih (p (u + 1)) l u (by omega) (by omega)]
theorem op_eq {v u : Nat} {t : Int} (h1 : 1 ≤ u) (h2 : u ≤ n) : op p h v t u = (u == v || (decide (v < u) && (decide (h (p u) ≤ t) && op p h v t (p u)))) := by
  obtain ⟨u, rfl⟩ : ∃ j, u = j + 1 := ⟨u - 1, by omega⟩
  have l := hp (u + 1) (by omega) h2
  unfold op
  rw [← opB_more hp (h := h) (v := v) (t := t) (p (u + 1)) u (by omega) (by omega)]
  rfl
theorem op_ge {v t} : ∀ u, u ≤ n → op p h v t u = true → v ≤ u := by
  intro u
  cases u with
  | zero =>
    intro _ z
    have e : (0 == v) = true := z
    have := eq_of_beq e
    omega
  | succ u =>
    intro hu z
    rw [op_eq hp (by omega) hu, Bool.or_eq_true, Bool.and_eq_true] at z
    rcases z with z | z
    · have := eq_of_beq z
      omega
    · have := of_decide_eq_true z.1
      omega
end
end DL
namespace DL
open PySem PySem.Spec PyProof.Rows L2
section
variable (p : Nat → Nat) (h : Nat → Int)
def upB (t : Int) : Nat → Nat → Nat
  | 0, u => u
  | k + 1, u => if u = 0 ∨ t < h u then u else upB t k (p u)
end
end DL
namespace DL
open PySem PySem.Spec PyProof.Rows L2
section
variable {α β γ σ ρ τ X : Type}
theorem bs {o : Option α} {k : α → Option β} {a : α} {b : Option β} (h : o = some a) (q : k a = b) : o.bind k = b := by rw [h]; exact q
theorem bsX {o : Option α} {k : α → Option β} {a : α} {Q : β → Prop} (h : o = some a) (q : ∃ b, k a = some b ∧ Q b) : ∃ b, o.bind k = some b ∧ Q b := by
  rw [h]; exact q
theorem iT {c : Bool} {a b r : α} (h : c = true) (q : a = r) : (if c = true then a else b) = r := by rw [if_pos h]; exact q
theorem iF {c : Bool} {a b r : α} (h : c = false) (q : b = r) : (if c = true then a else b) = r := by rw [if_neg (by rw [h]; exact Bool.false_ne_true)]; exact q
theorem iTX {c : Bool} {a b : Option α} {Q : α → Prop} (h : c = true) (q : ∃ r, a = some r ∧ Q r) : ∃ r, (if c = true then a else b) = some r ∧ Q r := by rw [if_pos h]; exact q
theorem iFX {c : Bool} {a b : Option α} {Q : α → Prop} (h : c = false) (q : ∃ r, b = some r ∧ Q r) : ∃ r, (if c = true then a else b) = some r ∧ Q r := by rw [if_neg (by rw [h]; exact Bool.false_ne_true)]; exact q
theorem andE {p q : Bool} {o : Option Bool} (h : p = true → o = some q) : andO p o = some (p && q) := by
  cases p with
  | true => exact h rfl
  | false => rfl
theorem andT1 {q : Bool} {o : Option Bool} (h : o = some q) : andO true o = some q := h
theorem orF1 {q : Bool} {o : Option Bool} (h : o = some q) : orO false o = some q := h
theorem andTT {p : Bool} {o : Option Bool} (h1 : p = true) (h : o = some true) : andO p o = some true := by rw [h1]; exact h
theorem atI_nn {l : List α} {k : Nat} : atI l (k : Int) = l[k]? := atI_nat l k
theorem atI_gv [Inhabited α] {l : List α} {v : Nat} (h1 : 1 ≤ v) (h2 : v ≤ l.length) : atI l ((v : Int) - 1) = some (gv l v) := by
  rw [show ((v : Int) - 1) = ((v - 1 : Nat) : Int) by omega, atI_nn, gv_get (by omega), Nat.sub_add_cancel h1]
theorem atI_at [Inhabited α] {l : List α} {k : Nat} (h : k < l.length) : atI l (k : Int) = some (gv l (k + 1)) := by
  rw [atI_nn, gv_get h]
theorem appO_ok {l : List α} {a : α} (h : l.length + 1 ≤ 16777216) : appO l a = some (l ++ [a]) := if_pos h
theorem catO_ok {l m : List α} (h : l.length + m.length ≤ 16777216) : catO l m = some (l ++ m) := if_pos h
theorem rgC_n {m : Int} (h : 0 ≤ m) (h2 : m ≤ 1000001) : rgC m = true := decide_eq_true (by omega)
theorem rng1O_n {n : Nat} (h : n ≤ 1000000) : rng1O (n : Int) = some ((List.range n).map fun (k : Nat) => (k : Int)) := by
  unfold rng1O
  rw [rgC_n (by omega) (by omega), if_pos rfl]
  rfl
theorem forS_J {n : Nat} {f : Nat → X} (J : Nat → σ → Prop) {body : X → σ → Option σ} {s : σ} (h0 : J 0 s) (h : ∀ k, k < n → ∀ s, J k s → ∃ s', body (f k) s = some s' ∧ J (k + 1) s') : ∃ s', forS body ((List.range n).map f) s = some s' ∧ J n s' := by
  have go : ∀ (m a : Nat) (s : σ), a + m = n → J a s → ∃ s', forS body ((List.range' a m).map f) s = some s' ∧ J n s' := by
    intro m
    induction m with
    | zero => intro a s ha hs; rw [show n = a by omega]; exact ⟨s, rfl, hs⟩
    | succ m ih =>
      intro a s ha hs
      obtain ⟨s1, h1, h2⟩ := h a (by omega) s hs
      obtain ⟨s2, h3, h4⟩ := ih (a + 1) s1 (by omega) h2
      rw [List.range'_succ, List.map_cons]
      refine ⟨s2, ?_, h4⟩
      show (body (f a) s).bind _ = _
      rw [h1]
      exact h3
  rw [List.range_eq_range']
  exact go n 0 s (by omega) h0
theorem forG_all {l : List X} {body : X → Unit → Option (Lp Unit ρ)} (h : ∀ x ∈ l, body x () = some (.nx ())) : forG body l () = some (.nx ()) := by
  induction l with
  | nil => rfl
  | cons a l ih =>
    show (body a ()).bind _ = _
    rw [h a List.mem_cons_self]
    exact ih fun x m => h x (List.mem_cons_of_mem _ m)
theorem lcO_fm {p : X → Option Bool} {g : X → Option β} {p' : X → Bool} {g' : X → β} : ∀ {l : List X}, (∀ a ∈ l, p a = some (p' a)) → (∀ a ∈ l, p' a = true → g a = some (g' a)) → lcO p g l = some ((l.filter p').map g')
  | [], _, _ => rfl
  | a :: l, h1, h2 => by
    have ih := lcO_fm (l := l) (fun x m => h1 x (List.mem_cons_of_mem _ m)) fun x m => h2 x (List.mem_cons_of_mem _ m)
    show (p a).bind _ = _
    rw [h1 a List.mem_cons_self]
    show (if p' a = true then _ else _) = _
    by_cases z : p' a = true
    · rw [if_pos z, h2 a List.mem_cons_self z, List.filter_cons_of_pos z]
      show (lcO p g l).bind _ = _
      rw [ih]
      rfl
    · rw [if_neg z, List.filter_cons_of_neg z]
      exact ih
theorem lcC_fm {p : X → Option Bool} {g : X → Option β} {p' : X → Bool} {g' : X → β} {l : List X} (hl : l.length ≤ 16777216) (h1 : ∀ a ∈ l, p a = some (p' a)) (h2 : ∀ a ∈ l, p' a = true → g a = some (g' a)) : lcC p g l = some ((l.filter p').map g') := by
  unfold lcC
  rw [if_pos hl, lcO_fm h1 h2]
theorem lcC_map {g : X → Option β} {g' : X → β} {l : List X} (hl : l.length ≤ 16777216) (h : ∀ a ∈ l, g a = some (g' a)) : lcC (fun _ => some true) g l = some (l.map g') := by
  rw [lcC_fm (p' := fun _ => true) (g' := g') hl (fun _ _ => rfl) (fun a m _ => h a m), List.filter_eq_self.mpr fun _ _ => rfl]
theorem lcC_rg {n : Nat} {f : Nat → X} {g : X → Option β} {g' : Nat → β} (hl : n ≤ 16777216) (h : ∀ k, k < n → g (f k) = some (g' k)) : lcC (fun _ => some true) g ((List.range n).map f) = some ((List.range n).map g') := by
  unfold lcC
  rw [if_pos (by rw [List.length_map, List.length_range]; exact hl)]
  have go : ∀ l : List Nat, (∀ k ∈ l, k < n) → lcO (fun _ => some true) g (l.map f) = some (l.map g') := by
    intro l
    induction l with
    | nil => intro _; rfl
    | cons a l ih =>
      intro hm
      show (g (f a)).bind _ = _
      rw [h a (hm a List.mem_cons_self)]
      show (lcO _ g (l.map f)).bind _ = _
      rw [ih fun k m => hm k (List.mem_cons_of_mem _ m)]
      rfl
  exact go _ fun k m => List.mem_range.mp m
theorem lcC_fl {p : X → Option Bool} {p' : X → Bool} {l : List X} (hl : l.length ≤ 16777216) (h1 : ∀ a ∈ l, p a = some (p' a)) : lcC p (fun x => some x) l = some (l.filter p') := by
  have z := lcC_fm (g := fun x => some x) (g' := id) hl h1 (fun _ _ _ => rfl)
  rw [List.map_id] at z
  exact z
end
end DL
namespace DL
open PySem PySem.Spec PyProof.Rows L2
end DL
namespace DL
open PySem PySem.Spec PyProof.Rows L2
end DL
namespace DL
open PySem PySem.Spec PyProof.Rows L2
theorem andTT' {p q : Bool} {o : Option Bool} (h1 : p = true) (h : o = some q) : andO p o = some q := by rw [h1]; exact h
theorem lcO_id {Y : Type} : ∀ l : List Y, lcO (fun _ : Y => some true) (fun y => some y) l = some l
  | [] => rfl
  | a :: l => by
    show (lcO _ _ l).bind _ = _
    rw [lcO_id l]
    rfl
theorem lc2C_ok {X Y : Type} {i : X → Option (List Y)} {js : X → List Y} {l : List X} (h : ∀ a ∈ l, i a = some (js a)) (hl : (l.flatMap js).length ≤ 16777216) : lc2C (fun _ => some true) i (fun _ _ => some true) (fun _ y => some y) l = some (l.flatMap js) := by
  have go : ∀ l : List X, (∀ a ∈ l, i a = some (js a)) → lc2O (fun _ => some true) i (fun _ _ => some true) (fun _ y => some y) l = some (l.flatMap js) := by
    intro l
    induction l with
    | nil => intro _; rfl
    | cons a l ih =>
      intro h
      show (i a).bind _ = _
      refine bs (h a List.mem_cons_self) ?_
      refine bs (lcO_id _) ?_
      refine bs (ih fun x m => h x (List.mem_cons_of_mem _ m)) ?_
      rw [List.flatMap_cons]
  unfold lc2C
  refine bs (go l h) ?_
  rw [if_pos hl]
end DL
namespace DL
open PySem PySem.Spec PyProof.Rows L2
structure OkB (n : Nat) (R : Int) (ws : List (Nat × Int)) : Prop where
  r1 : 1 ≤ R
  r2 : R ≤ 999
  len : ws.length = n
  all : ∀ x ∈ ws, 1 ≤ x.1 ∧ x.1 ≤ 999 ∧ 1 ≤ x.2 ∧ x.2 ≤ R
section
variable {P : List Nat} {R : Int} {ws : List (Nat × Int)} (O : OkB P.length R ws) (few : P.length ≤ 100)
include O few
theorem OkB.w {v : Nat} (h1 : 1 ≤ v) (h2 : v ≤ P.length) : 1 ≤ (gv ws v).1 ∧ (gv ws v).1 ≤ 999 := by
  have := O.all _ (gv_mem (l := ws) h1 (by rw [O.len]; exact h2))
  exact ⟨this.1, this.2.1⟩
end
end DL
namespace DL
open PySem PySem.Spec PyProof.Rows L2
end DL
namespace DL
open PySem
def bn : Nat → Nat → Nat
  | _, 0 => 1
  | 0, _ + 1 => 0
  | n + 1, k + 1 => bn n k + bn n (k + 1)
end DL
namespace DL
def rkL : List Nat → Nat → Nat
  | [], _ => 0
  | _ :: _, 0 => 0
  | x :: xs, u + 1 => bn (x + u) (u + 1) + rkL xs u
abbrev rk (u : Nat) (m : List Nat) : Nat := rkL m u
def aftL : List Nat → Nat → List Nat
  | [], _ => [1]
  | _ :: _, 0 => []
  | x :: xs, u + 1 => if xs = List.replicate u x then [x + 1] else x :: aftL xs u
abbrev aft (u : Nat) (m : List Nat) : List Nat := aftL m u
end DL
namespace DL
open PySem PySem.Spec PyProof.Rows L2
end DL
namespace DL
open PySem PySem.Spec PyProof.Rows L2
end DL
namespace DL
open PySem PySem.Spec PyProof.Rows L2
end DL
namespace DL
open PySem PySem.Spec PyProof.Rows L2
theorem nat_of {i : Int} (h : 0 ≤ i) : ∃ n : Nat, i = (n : Int) := ⟨i.toNat, (Int.toNat_of_nonneg h).symm⟩
theorem ix_tup {l : List PyData} {k : Nat} (h : k < l.length) : vD (p_ix (.tuple l) (.int (k : Int))) = some l[k] := by
  have q := o_ixT (f := idD) (l := l) (i := (k : Int)) (a := l[k]) (by rw [atI_nn]; exact List.getElem?_eq_getElem h)
  have e : tp idD l = .tuple l := congrArg PyData.tuple (List.map_id' l)
  rw [e] at q
  rw [q]
  rfl
theorem len_tup (l : List PyData) : iD (c_len [.tuple l]) = some (l.length : Int) := rfl
theorem modO_ok {i j : Int} (h : 0 < j) : modO i j = some (i % j) := if_pos h
end DL
namespace DL
open PySem PySem.Spec PyProof.Rows L2
theorem runF_rt {n nl : Nat} {g : Fs} {ds : List PyData} {d : PyData} {e : Ev} (hl : ds.length = n) (h : g (env0 ds nl) = some (.rt (.im d) e)) : runF n nl g ds = some (.im d) := by
  unfold runF
  rw [if_pos hl, h]
  rfl
theorem s_ifT {c : Ft} {f g : Fs} {e e1 : Ev} (h : c e = some (true, e1)) : s_if c f g e = f e1 := by
  unfold s_if
  rw [h]
theorem x_ifST {c : Ft} {f g : Fsx} {e e1 : Ev} (h : c e = some (true, e1)) : x_ifS c f g e = f e1 := by
  unfold x_ifS
  rw [h]
theorem x_ifSF {c : Ft} {f g : Fsx} {e e1 : Ev} (h : c e = some (false, e1)) : x_ifS c f g e = g e1 := by
  unfold x_ifS
  rw [h]
theorem drop_ok {f : Fe} {e e1 : Ev} {r : Rs} (h : f e = some (r, e1)) : s_drop f e = some (.nx e1) := by
  unfold s_drop
  rw [h]
theorem callX_inr {φ : List PyData → Option Ro} {dds ds : List PyData} {fa : Fa} {e e1 : Ev} {x : Xc} (ha : argsI fa e = some (ds, e1)) (h : φ (ds ++ dds) = some (.inr x)) : x_callX φ dds fa e = some (.inr (x, e1)) := by
  unfold x_callX
  rw [ha]
  dsimp only
  rw [h]
theorem callX_inl {φ : List PyData → Option Ro} {dds ds : List PyData} {fa : Fa} {e e1 : Ev} {d : PyData} (ha : argsI fa e = some (ds, e1)) (h : φ (ds ++ dds) = some (.inl (.im d))) : x_callX φ dds fa e = some (.inl (.im d, e1)) := by
  unfold x_callX
  rw [ha]
  dsimp only
  rw [h]
def nu (w : Str) : Xc := ⟨"NotUsable", [("at", .int (-1)), ("word", .str w)]⟩
end DL
namespace K13.W
open PySem PySem.Spec PyProof.Rows L2 DL
noncomputable section
def f_is_integer (thing : PyData) : Option Bool :=
  (isD .int thing).bind fun t1 => (andO t1 ((isD .bool thing).bind fun t2 => some (!t2))).bind fun t3 => some t3
def f_is_natural (thing : PyData) : Option Bool :=
  (f_is_integer thing).bind fun t1 => (andO t1 ((bD (q_ge thing (PyData.int (1 : Int)))).bind fun t2 => some (t2))).bind fun t3 => some t3
def f_is_row (thing : PyData) : Option Bool :=
  (isD .tuple thing).bind fun t1 => if (!t1) = true then some false else (wkD thing).bind fun is3 => (lcC (fun x4 => some true) (fun x4 => (f_is_natural x4).bind fun t5 => some t5) is3).bind fun t6 => if (!(t6.all id)) = true then some false else (iD (c_len [thing])).bind fun t8 => (rng1O (t8 - (1 : Int))).bind fun is9 => (lcC (fun x10 => some true) (fun x10 => (vD (p_ix thing (PyData.int x10))).bind fun t11 => (vD (p_ix thing (PyData.int (x10 + (1 : Int))))).bind fun t12 => (bD (q_ge t11 t12)).bind fun t13 => some (t13)) is9).bind fun t14 => some (t14.all id)
def h_merged (rows : PyData) : Option (Xc ⊕ (List Int)) :=
  (isD .tuple rows).bind fun t1 => (orO (!t1) ((wkD rows).bind fun is2 => (lcC (fun x3 => some true) (fun x3 => (f_is_row x3).bind fun t4 => some t4) is2).bind fun t5 => some (!(t5.all id)))).bind fun t6 => if t6 = true then some (.inl ⟨"NotUsable", [("at", (PyData.int (-1 : Int))), ("word", (PyData.str ("rows" : Str)))]⟩) else ((anTp (anTp anI)) rows).bind fun an8 => (lc2C (fun x9 => some true) (fun x9 => some x9) (fun x9 y10 => some true) (fun x9 y10 => some y10) an8).bind fun t11 => (f_falling t11).bind fun t12 => some (.inr t12)
def h_stepped (width : PyData) (floor : PyData) (row : PyData) : Option (Xc ⊕ (List Int)) :=
  (f_is_natural width).bind fun t1 => if (!t1) = true then some (.inl ⟨"NotUsable", [("at", (PyData.int (-1 : Int))), ("word", (PyData.str ("width" : Str)))]⟩) else (f_is_natural floor).bind fun t3 => if (!t3) = true then some (.inl ⟨"NotUsable", [("at", (PyData.int (-1 : Int))), ("word", (PyData.str ("floor" : Str)))]⟩) else (f_is_row row).bind fun t5 => if (!t5) = true then some (.inl ⟨"NotUsable", [("at", (PyData.int (-1 : Int))), ("word", (PyData.str ("row" : Str)))]⟩) else (anI width).bind fun an7 => (anI floor).bind fun an8 => ((anTp anI) row).bind fun an9 => (f_row_after an7 an8 an9).bind fun t10 => some (.inr t10)
def h_unlike_at_L1 (one : (List Int)) (other : (List Int)) (x_1 : (Int × Int)) : Option (Lp (Unit) (Xc ⊕ Int)) :=
  if (!decide (x_1.1 = x_1.2)) = true then some (.rt (.inr (max x_1.1 x_1.2))) else some (.nx ())
def h_unlike_at (one : PyData) (other : PyData) : Option (Xc ⊕ Int) :=
  (f_is_row one).bind fun t1 => if (!t1) = true then some (.inl ⟨"NotUsable", [("at", (PyData.int (-1 : Int))), ("word", (PyData.str ("one" : Str)))]⟩) else (f_is_row other).bind fun t3 => if (!t3) = true then some (.inl ⟨"NotUsable", [("at", (PyData.int (-1 : Int))), ("word", (PyData.str ("other" : Str)))]⟩) else ((anTp anI) one).bind fun an5 => ((anTp anI) other).bind fun an6 => thenL (forG (fun x_1 (s_ : Unit) => h_unlike_at_L1 an5 an6 x_1) (an5.zip an6) ()) (fun r_ => some r_) fun s13 => if (decide ((an6.length : Int) < (an5.length : Int))) = true then (atI an5 (an6.length : Int)).bind fun t17 => some (.inr t17) else if (decide ((an5.length : Int) < (an6.length : Int))) = true then (atI an6 (an5.length : Int)).bind fun t19 => some (.inr t19) else some (.inr (0 : Int))
end
theorem k_is_integer {thing : PyData} {r : Bool} (h : f_is_integer thing = some r) : F_is_integer [idD thing] = some (.im (PyData.bool r)) := by
  unfold f_is_integer at h
  refine t_fnI (enc := PyData.bool) rfl ?_
  show wS _ [im (idD thing)] _
  obtain ⟨t1, h_t1, h⟩ := bnd h
  obtain ⟨t3, h_t3, h⟩ := bnd h
  cases h
  refine (w_ret (andX (isX (vI rfl) rfl h_t1) h_t3 (fun _ _ hq => (by obtain ⟨t2, h_t2, hq⟩ := bnd hq; have hq := Option.some.inj hq; subst hq; exact (notX (isX (vI rfl) rfl h_t2))))) ?_)
  exact rfl
theorem k_is_natural {thing : PyData} {r : Bool} (h : f_is_natural thing = some r) : F_is_natural [idD thing] = some (.im (PyData.bool r)) := by
  unfold f_is_natural at h
  refine t_fnI (enc := PyData.bool) rfl ?_
  show wS _ [im (idD thing)] _
  obtain ⟨t1, h_t1, h⟩ := bnd h
  obtain ⟨t3, h_t3, h⟩ := bnd h
  cases h
  refine (w_ret (andX (callI (aI (vI rfl) a0) rfl (k_is_integer h_t1)) h_t3 (fun _ _ hq => (by obtain ⟨t2, h_t2, hq⟩ := bnd hq; have hq := Option.some.inj hq; subst hq; exact (binX (vI rfl) cI rfl rfl (bD_ok h_t2))))) ?_)
  exact rfl
theorem k_is_row {thing : PyData} {r : Bool} (h : f_is_row thing = some r) : F_is_row [idD thing] = some (.im (PyData.bool r)) := by
  unfold f_is_row at h
  refine t_fnI (enc := PyData.bool) rfl ?_
  show wS _ [im (idD thing), none, none] _
  obtain ⟨t1, h_t1, h⟩ := bnd h
  refine w_seq ((w_if (b := (!t1)) (tnot (bang (isX (vI rfl) rfl h_t1))) (fun hc2 => ?_) (fun hc2 => ?_)))
  · rw [if1 hc2] at h
    cases h
    refine (w_ret cI ?_)
    exact rfl
  · rw [if0 hc2] at h
    refine w_nx ?_
    show wS _ [im (idD thing), none, none] _
    obtain ⟨is3, h_is3, h⟩ := bnd h
    obtain ⟨t6, h_t6, h⟩ := bnd h
    refine w_seq ((w_if (b := (!(t6.all id))) (tnot (bang (cbX (dX (lcX (enc := idD) (encB := PyData.bool) h_t6 (wkX (vI rfl) h_is3) rfl (fun x4 _ => ⟨_, rfl, rfl, fun _ hq => (by have hq := Option.some.inj hq; subst hq; rfl), fun _ _ hq => (by obtain ⟨t5, h_t5, hq⟩ := bnd hq; have hq := Option.some.inj hq; subst hq; exact ⟨_, (callI (aI (vI rfl) a0) rfl (k_is_natural h_t5)), rfl, rfl⟩)⟩)) d0 rfl) (o_allL (l := t6))))) (fun hc7 => ?_) (fun hc7 => ?_)))
    · rw [if1 hc7] at h
      cases h
      refine (w_ret cI ?_)
      exact rfl
    · rw [if0 hc7] at h
      refine w_nx ?_
      show wS _ [im (idD thing), none, none] _
      obtain ⟨t8, h_t8, h⟩ := bnd h
      obtain ⟨is9, h_is9, h⟩ := bnd h
      obtain ⟨t14, h_t14, h⟩ := bnd h
      cases h
      refine w_seq ((w_ret (cbX (dX (lcX (enc := PyData.int) (encB := PyData.bool) h_t14 (rng1I (binX (cbX (dX (vI rfl) d0 rfl) (iD_ok h_t8)) cI rfl rfl e_sub) h_is9) rfl (fun x10 _ => ⟨_, rfl, rfl, fun _ hq => (by have hq := Option.some.inj hq; subst hq; rfl), fun _ _ hq => (by obtain ⟨t11, h_t11, hq⟩ := bnd hq; obtain ⟨t12, h_t12, hq⟩ := bnd hq; obtain ⟨t13, h_t13, hq⟩ := bnd hq; have hq := Option.some.inj hq; subst hq; exact ⟨_, (binX (binX (vI rfl) (vI rfl) rfl rfl (vD_ok h_t11)) (binX (vI rfl) (binX (vI rfl) cI rfl rfl e_add) rfl rfl (vD_ok h_t12)) rfl rfl (bD_ok h_t13)), rfl, rfl⟩)⟩)) d0 rfl) (o_allL (l := t14))) ?_))
      exact rfl
theorem rf_merged : Rf g_merged gx_merged := by
  unfold g_merged gx_merged
  repeat (first | with_reducible exact rf_S | with_reducible exact rf_no | exact re_call (fun _ _ h => orRx_of h) | with_reducible apply rf_seq | with_reducible apply rf_if | with_reducible apply rf_for | with_reducible apply rf_drop | with_reducible apply rf_ret | with_reducible apply rf_set | with_reducible apply rf_ifX | with_reducible apply rf_fz | with_reducible exact re_E | with_reducible exact ra_A | with_reducible apply ra_cons | with_reducible apply re_tupX | apply re_up (fun _ _ h => orRx_of h))
theorem kh_merged {rows : PyData} {r : (Xc ⊕ (List Int))} (h : h_merged rows = some r) : RXs FX_merged (ρ := (List Int)) (fun v_ => Rs.im ((tp PyData.int) v_)) [idD rows] r := by
  unfold h_merged at h
  refine t_orX (n := 1) (nl := 2) rf_merged (t_fnX rfl fun m_ => ?_)
  unfold gx_merged
  simp only [cv_S, cv_seq, cv_if, cv_ret, cv_fz, cv_ifX, cv_for, cv_raise, cv_drop, cv_set]
  show wS _ [im (idD rows), none, none] _
  obtain ⟨t1, h_t1, h⟩ := bnd h
  obtain ⟨t6, h_t6, h⟩ := bnd h
  refine w_seq ((w_if (b := t6) (torX (tnot (bang (isX (vI rfl) rfl h_t1))) h_t6 (fun _ _ hq => (by obtain ⟨is2, h_is2, hq⟩ := bnd hq; obtain ⟨t5, h_t5, hq⟩ := bnd hq; have hq := Option.some.inj hq; subst hq; exact (tnot (bang (cbX (dX (lcX (enc := idD) (encB := PyData.bool) h_t5 (wkX (vI rfl) h_is2) rfl (fun x3 _ => ⟨_, rfl, rfl, fun _ hq => (by have hq := Option.some.inj hq; subst hq; rfl), fun _ _ hq => (by obtain ⟨t4, h_t4, hq⟩ := bnd hq; have hq := Option.some.inj hq; subst hq; exact ⟨_, (callI (aI (vI rfl) a0) rfl (k_is_row h_t4)), rfl, rfl⟩)⟩)) d0 rfl) (o_allL (l := t5)))))))) (fun hc7 => ?_) (fun hc7 => ?_)))
  · rw [if1 hc7] at h
    cases h
    refine (w_rse (aI cI (aI (negI cI) a0)) rfl (Nat.le_of_ble_eq_true rfl) ?_)
    exact rfl
  · rw [if0 hc7] at h
    refine w_nx ?_
    show wS _ [im (idD rows), none, none] _
    obtain ⟨an8, h_an8, h⟩ := bnd h
    have e_ := anY (an_tp (an_tp an_int)) h_an8
    revert h
    subst e_
    intro h
    obtain ⟨t11, h_t11, h⟩ := bnd h
    obtain ⟨t12, h_t12, h⟩ := bnd h
    cases h
    refine w_seq ((w_ret (callI (aA (lc2X (enc := (tp PyData.int)) (enc1 := PyData.int) (encB := PyData.int) h_t11 (seqTX (f := (tp PyData.int)) (l := an8) (vI rfl)) rfl (fun x9 _ => ⟨_, rfl, rfl, fun _ hq => (by have hq := Option.some.inj hq; subst hq; rfl), fun _ _ hq => (by have hq := Option.some.inj hq; subst hq; exact ⟨(seqTX (f := PyData.int) (l := x9) (vI rfl)), rfl, rfl, (fun y10 _ => ⟨_, rfl, rfl, fun _ hq => (by have hq := Option.some.inj hq; subst hq; rfl), fun _ _ hq => (by have hq := Option.some.inj hq; subst hq; exact ⟨_, (vI rfl), rfl, rfl⟩)⟩)⟩)⟩)) a0) rfl (k_falling h_t12)) ?_))
    exact rfl
theorem rf_stepped : Rf g_stepped gx_stepped := by
  unfold g_stepped gx_stepped
  repeat (first | with_reducible exact rf_S | with_reducible exact rf_no | exact re_call (fun _ _ h => orRx_of h) | with_reducible apply rf_seq | with_reducible apply rf_if | with_reducible apply rf_for | with_reducible apply rf_drop | with_reducible apply rf_ret | with_reducible apply rf_set | with_reducible apply rf_ifX | with_reducible apply rf_fz | with_reducible exact re_E | with_reducible exact ra_A | with_reducible apply ra_cons | with_reducible apply re_tupX | apply re_up (fun _ _ h => orRx_of h))
theorem kh_stepped {width : PyData} {floor : PyData} {row : PyData} {r : (Xc ⊕ (List Int))} (h : h_stepped width floor row = some r) : RXs FX_stepped (ρ := (List Int)) (fun v_ => Rs.im ((tp PyData.int) v_)) [idD width, idD floor, idD row] r := by
  unfold h_stepped at h
  refine t_orX (n := 3) (nl := 0) rf_stepped (t_fnX rfl fun m_ => ?_)
  unfold gx_stepped
  simp only [cv_S, cv_seq, cv_if, cv_ret, cv_fz, cv_ifX, cv_for, cv_raise, cv_drop, cv_set]
  show wS _ [im (idD width), im (idD floor), im (idD row)] _
  obtain ⟨t1, h_t1, h⟩ := bnd h
  refine w_seq ((w_if (b := (!t1)) (tnot (bang (callI (aI (vI rfl) a0) rfl (k_is_natural h_t1)))) (fun hc2 => ?_) (fun hc2 => ?_)))
  · rw [if1 hc2] at h
    cases h
    refine (w_rse (aI cI (aI (negI cI) a0)) rfl (Nat.le_of_ble_eq_true rfl) ?_)
    exact rfl
  · rw [if0 hc2] at h
    refine w_nx ?_
    show wS _ [im (idD width), im (idD floor), im (idD row)] _
    obtain ⟨t3, h_t3, h⟩ := bnd h
    refine w_seq ((w_if (b := (!t3)) (tnot (bang (callI (aI (vI rfl) a0) rfl (k_is_natural h_t3)))) (fun hc4 => ?_) (fun hc4 => ?_)))
    · rw [if1 hc4] at h
      cases h
      refine (w_rse (aI cI (aI (negI cI) a0)) rfl (Nat.le_of_ble_eq_true rfl) ?_)
      exact rfl
    · rw [if0 hc4] at h
      refine w_nx ?_
      show wS _ [im (idD width), im (idD floor), im (idD row)] _
      obtain ⟨t5, h_t5, h⟩ := bnd h
      refine w_seq ((w_if (b := (!t5)) (tnot (bang (callI (aI (vI rfl) a0) rfl (k_is_row h_t5)))) (fun hc6 => ?_) (fun hc6 => ?_)))
      · rw [if1 hc6] at h
        cases h
        refine (w_rse (aI cI (aI (negI cI) a0)) rfl (Nat.le_of_ble_eq_true rfl) ?_)
        exact rfl
      · rw [if0 hc6] at h
        refine w_nx ?_
        show wS _ [im (idD width), im (idD floor), im (idD row)] _
        obtain ⟨an7, h_an7, h⟩ := bnd h
        have e_ := anY an_int h_an7
        revert h
        subst e_
        intro h
        obtain ⟨an8, h_an8, h⟩ := bnd h
        have e_ := anY an_int h_an8
        revert h
        subst e_
        intro h
        obtain ⟨an9, h_an9, h⟩ := bnd h
        have e_ := anY (an_tp an_int) h_an9
        revert h
        subst e_
        intro h
        obtain ⟨t10, h_t10, h⟩ := bnd h
        cases h
        refine w_seq ((w_ret (callI (aI (vI rfl) (aI (vI rfl) (aI (vI rfl) a0))) rfl (k_row_after h_t10)) ?_))
        exact rfl
theorem rf_unlike_at : Rf g_unlike_at gx_unlike_at := by
  unfold g_unlike_at gx_unlike_at
  repeat (first | with_reducible exact rf_S | with_reducible exact rf_no | exact re_call (fun _ _ h => orRx_of h) | with_reducible apply rf_seq | with_reducible apply rf_if | with_reducible apply rf_for | with_reducible apply rf_drop | with_reducible apply rf_ret | with_reducible apply rf_set | with_reducible apply rf_ifX | with_reducible apply rf_fz | with_reducible exact re_E | with_reducible exact ra_A | with_reducible apply ra_cons | with_reducible apply re_tupX | apply re_up (fun _ _ h => orRx_of h))
theorem kh_unlike_at {one : PyData} {other : PyData} {r : (Xc ⊕ Int)} (h : h_unlike_at one other = some r) : RXs FX_unlike_at (ρ := Int) (fun v_ => Rs.im (PyData.int v_)) [idD one, idD other] r := by
  unfold h_unlike_at at h
  refine t_orX (n := 2) (nl := 2) rf_unlike_at (t_fnX rfl fun m_ => ?_)
  unfold gx_unlike_at
  simp only [cv_S, cv_seq, cv_if, cv_ret, cv_fz, cv_ifX, cv_for, cv_raise, cv_drop, cv_set]
  show wS _ [im (idD one), im (idD other), none, none] _
  obtain ⟨t1, h_t1, h⟩ := bnd h
  refine w_seq ((w_if (b := (!t1)) (tnot (bang (callI (aI (vI rfl) a0) rfl (k_is_row h_t1)))) (fun hc2 => ?_) (fun hc2 => ?_)))
  · rw [if1 hc2] at h
    cases h
    refine (w_rse (aI cI (aI (negI cI) a0)) rfl (Nat.le_of_ble_eq_true rfl) ?_)
    exact rfl
  · rw [if0 hc2] at h
    refine w_nx ?_
    show wS _ [im (idD one), im (idD other), none, none] _
    obtain ⟨t3, h_t3, h⟩ := bnd h
    refine w_seq ((w_if (b := (!t3)) (tnot (bang (callI (aI (vI rfl) a0) rfl (k_is_row h_t3)))) (fun hc4 => ?_) (fun hc4 => ?_)))
    · rw [if1 hc4] at h
      cases h
      refine (w_rse (aI cI (aI (negI cI) a0)) rfl (Nat.le_of_ble_eq_true rfl) ?_)
      exact rfl
    · rw [if0 hc4] at h
      refine w_nx ?_
      show wS _ [im (idD one), im (idD other), none, none] _
      obtain ⟨an5, h_an5, h⟩ := bnd h
      have e_ := anY (an_tp an_int) h_an5
      revert h
      subst e_
      intro h
      obtain ⟨an6, h_an6, h⟩ := bnd h
      have e_ := anY (an_tp an_int) h_an6
      revert h
      subst e_
      intro h
      obtain ⟨l_, hl, h⟩ := bnd h
      refine w_seq ((t_forG (p2 PyData.int PyData.int) (an5.zip an6) (fun x_1 (s_ : Unit) => h_unlike_at_L1 an5 an6 x_1) (fun (s_ : Unit) e => ∃ (o10 : Option PyData) (o11 : Option PyData), e = [im ((tp PyData.int) an5), im ((tp PyData.int) an6), imo o10, imo o11]) (rtX m_ (ρ := Int) (fun v_ => Rs.im (PyData.int v_))) (zipTI (f := PyData.int) (g := PyData.int) (l := an5) (m := an6) (vI rfl) (vI rfl)) ⟨none, none, rfl⟩ hl (fun x_1 s_ l2_ h e he => ?_) (fun s13 hs e he => ?_) (fun r_ hs r2_ e hr => ?_)))
      · obtain ⟨o10, o11, rfl⟩ := he
        refine ⟨rfl, _, rfl, ?_⟩
        show wS _ [im ((tp PyData.int) an5), im ((tp PyData.int) an6), im (PyData.int x_1.1), im (PyData.int x_1.2)] _
        replace h : h_unlike_at_L1 an5 an6 x_1 = some l2_ := h
        unfold h_unlike_at_L1 at h
        refine (w_if (b := (!decide (x_1.1 = x_1.2))) (bang (binX (vI rfl) (vI rfl) rfl rfl e_ne)) (fun hc12 => ?_) (fun hc12 => ?_))
        · rw [if1 hc12] at h
          cases h
          refine (w_ret (cbX (dX (vI rfl) (dX (vI rfl) d0 rfl) rfl) o_max2) ?_)
          exact rfl
        · rw [if0 hc12] at h
          refine w_nx ?_
          cases h
          exact ⟨some (PyData.int x_1.1), some (PyData.int x_1.2), rfl⟩
      · subst hs
        replace h : _ = some r := h
        dsimp only at h
        obtain ⟨o14, o15, rfl⟩ := he
        show wS _ [im ((tp PyData.int) an5), im ((tp PyData.int) an6), imo o14, imo o15] _
        refine w_seq ((w_if (b := (decide ((an6.length : Int) < (an5.length : Int)))) (bang (binX (cbX (dX (vI rfl) d0 rfl) (o_lenT (f := PyData.int) (l := an5))) (cbX (dX (vI rfl) d0 rfl) (o_lenT (f := PyData.int) (l := an6))) rfl rfl e_qgt)) (fun hc16 => ?_) (fun hc16 => ?_)))
        · rw [if1 hc16] at h
          obtain ⟨t17, h_t17, h⟩ := bnd h
          cases h
          refine (w_ret (binX (vI rfl) (cbX (dX (vI rfl) d0 rfl) (o_lenT (f := PyData.int) (l := an6))) rfl rfl (o_ixT (f := PyData.int) (l := an5) h_t17)) ?_)
          exact rfl
        · rw [if0 hc16] at h
          refine w_nx ?_
          show wS _ [im ((tp PyData.int) an5), im ((tp PyData.int) an6), imo o14, imo o15] _
          refine w_seq ((w_if (b := (decide ((an5.length : Int) < (an6.length : Int)))) (bang (binX (cbX (dX (vI rfl) d0 rfl) (o_lenT (f := PyData.int) (l := an6))) (cbX (dX (vI rfl) d0 rfl) (o_lenT (f := PyData.int) (l := an5))) rfl rfl e_qgt)) (fun hc18 => ?_) (fun hc18 => ?_)))
          · rw [if1 hc18] at h
            obtain ⟨t19, h_t19, h⟩ := bnd h
            cases h
            refine (w_ret (binX (vI rfl) (cbX (dX (vI rfl) d0 rfl) (o_lenT (f := PyData.int) (l := an5))) rfl rfl (o_ixT (f := PyData.int) (l := an6) h_t19)) ?_)
            exact rfl
          · rw [if0 hc18] at h
            refine w_nx ?_
            show wS _ [im ((tp PyData.int) an5), im ((tp PyData.int) an6), imo o14, imo o15] _
            cases h
            refine w_seq ((w_ret cI ?_))
            exact rfl
      · subst hs
        cases h
        exact hr
end K13.W
namespace K13
open PySem PySem.Spec PyProof.Rows L2 DL
theorem cutD_lo {α : Type} {l : List α} {v : Nat} : cutD l (some (v : Int)) none = l.drop v := by
  unfold DL.cutD
  rw [HT.sIx_nat, HT.sIx_none]
  by_cases h : v ≤ l.length
  · rw [Nat.min_eq_left h, List.take_of_length_le (by rw [List.length_drop]; exact Nat.le_refl _)]
  · rw [show min v l.length = l.length by omega, List.drop_of_length_le (Nat.le_refl _), List.drop_of_length_le (by omega), List.take_nil]
theorem cutD_hi {α : Type} {l : List α} {v : Nat} : DL.cutD l none (some (v : Int)) = l.take v := by
  unfold DL.cutD
  rw [HT.sIx_nat, HT.sIx_none, List.drop_zero, Nat.sub_zero]
  by_cases h : v ≤ l.length
  · rw [Nat.min_eq_left h]
  · rw [Nat.min_eq_right (by omega), List.take_of_length_le (Nat.le_refl _), List.take_of_length_le (by omega)]
theorem ixM {α : Type} {f : α → PyData} {l : List α} {i : Int} {a : α} (h : atI l i = some a) : vD (p_ix (.tuple (l.map f)) (.int i)) = some (f a) := by
  show vD ((atI (l.map f) i).map Rs.im) = _
  rw [atI_map, h]
  rfl
theorem same_intN (N : Nat) (a : Int) : f_w_same_R (N + 1) (.int a) (.int a) = some true := by
  show f_w_same_B (f_w_same_R N) (.int a) (.int a) = some true
  unfold f_w_same_B
  refine bs (a := false) rfl (iF rfl (bs (a := false) rfl (iF rfl (bs (a := false) rfl (iF rfl (bs (a := true) rfl (iT rfl (bs (a := true) rfl (bs (a := true) (andT1 (bs (a := false) rfl (bs (a := true) (andT1 (bs (a := true) ?_ rfl)) rfl))) rfl)))))))))
  rw [e_eq, decide_eq_true rfl]
  rfl
theorem same_int (a : Int) : f_w_same (.int a) (.int a) = some true := same_intN 7 a
theorem same_ints {a b : Int} (h : a = b) : f_w_same (.int a) (.int b) = some true := by rw [h]; exact same_int b
theorem same_rowN (N : Nat) {l : List Int} (h : l.length ≤ 1000000) : f_w_same_R (N + 2) (tp PyData.int l) (tp PyData.int l) = some true := by
  show f_w_same_B (f_w_same_R (N + 1)) (tp PyData.int l) (tp PyData.int l) = some true
  have ln : iD (c_len [tp PyData.int l]) = some (l.length : Int) := (len_tup _).trans (by rw [List.length_map])
  unfold f_w_same_B
  refine bs (a := true) rfl (iT rfl (bs (a := true) rfl (bs (a := false) (orF1 (bs ln (bs ln ?_))) (iF rfl (bs ln (bs (rng1O_n (by omega)) ?_))))))
  · rw [decide_eq_true rfl]
    rfl
  · rw [thenL_nx (forG_all fun x hx => ?_)]
    obtain ⟨k, hk, rfl⟩ := List.mem_map.mp hx
    have hk := List.mem_range.mp hk
    unfold f_w_same_L1
    exact bs (ixM (atI_at (l := l) (k := k) hk)) (bs (ixM (atI_at (l := l) (k := k) hk)) (bs (same_intN N _) (iF rfl rfl)))
theorem same_row {l : List Int} (h : l.length ≤ 1000000) : f_w_same (tp PyData.int l) (tp PyData.int l) = some true := same_rowN 6 h
theorem same_rows {l m : List Int} (e : l = m) (h : m.length ≤ 1000000) : f_w_same (tp PyData.int l) (tp PyData.int m) = some true := by rw [e]; exact same_row h
theorem same_true : f_w_same (.bool true) (.bool true) = some true := by kernel_rfl
theorem same_false : f_w_same (.bool false) (.bool false) = some true := by kernel_rfl
theorem same_none : f_w_same (nn ()) (nn ()) = some true := by kernel_rfl
theorem same_0t : f_w_same ((p2 PyData.int PyData.bool) ((0 : Int), true)) ((p2 PyData.int PyData.bool) ((0 : Int), true)) = some true := by kernel_rfl
theorem same_s1 : f_w_same (.str "rows") (.str "rows") = some true := by kernel_rfl
theorem same_s2 : f_w_same (.str "width") (.str "width") = some true := by kernel_rfl
theorem same_s3 : f_w_same (.str "floor") (.str "floor") = some true := by kernel_rfl
theorem same_s4 : f_w_same (.str "row") (.str "row") = some true := by kernel_rfl
theorem same_s5 : f_w_same (.str "one") (.str "one") = some true := by kernel_rfl
theorem same_s6 : f_w_same (.str "other") (.str "other") = some true := by kernel_rfl
structure Rok (l : List Int) : Prop where
  dn : Down l
  pos : ∀ x ∈ l, 1 ≤ x
  few : l.length ≤ 1000
theorem q_natural (i : Int) : f_is_natural (.int i) = some (decide (1 ≤ i)) := by
  unfold f_is_natural f_is_integer
  rfl
theorem is_row_int {l : List Int} (hl : l.length ≤ 100000) : f_is_row (tp PyData.int l) = some (decide ((∀ x ∈ l, 1 ≤ x) ∧ Down l)) := by
  have ln : iD (c_len [tp PyData.int l]) = some (l.length : Int) := (len_tup _).trans (by rw [List.length_map])
  have e1 : lcC (fun x4 => some true) (fun x4 => (f_is_natural x4).bind fun t5 => some t5) (l.map PyData.int) = some (l.map fun i => decide (1 ≤ i)) := by
    rw [lcC_map (g' := fun d : PyData => match d with | .int i => decide (1 ≤ i) | _ => false) (by rw [List.length_map]; omega) fun a ha => ?_, List.map_map]
    · rfl
    · obtain ⟨i, _, rfl⟩ := List.mem_map.mp ha
      exact bs (q_natural i) rfl
  have e2 : lcC (fun x10 => some true) (fun x10 => (vD (p_ix (tp PyData.int l) (PyData.int x10))).bind fun t11 => (vD (p_ix (tp PyData.int l) (PyData.int (x10 + (1 : Int))))).bind fun t12 => (bD (q_ge t11 t12)).bind fun t13 => some (t13)) ((List.range (l.length - 1)).map fun (k : Nat) => (k : Int)) = some ((List.range (l.length - 1)).map fun k => decide (gv l (k + 1 + 1) ≤ gv l (k + 1))) := lcC_rg (by omega) fun k hk => by
    refine bs (ixM (atI_at (l := l) (k := k) (by omega))) (bs (a := .int (gv l (k + 1 + 1))) ?_ (bs (a := decide (gv l (k + 1 + 1) ≤ gv l (k + 1))) rfl rfl))
    rw [show (k : Int) + 1 = ((k + 1 : Nat) : Int) by omega]
    exact ixM (atI_at (l := l) (k := k + 1) (by omega))
  have g : ∀ k, k < l.length → l[k]? = some (gv l (k + 1)) := fun k hk => gv_get hk
  unfold f_is_row
  refine bs (a := true) rfl (iF rfl (bs (a := l.map PyData.int) rfl (bs e1 ?_)))
  by_cases c : ∀ x ∈ l, 1 ≤ x
  · have ca : (l.map fun i => decide (1 ≤ i)).all id = true := List.all_eq_true.mpr fun b hb => by
      obtain ⟨i, hi, rfl⟩ := List.mem_map.mp hb
      exact decide_eq_true (c i hi)
    refine iF (by rw [ca]; rfl) ?_
    by_cases z : l.length = 0
    · have e : l = [] := List.length_eq_zero_iff.mp z
      subst e
      refine bs ln (bs (a := []) rfl (bs (a := []) rfl ?_))
      rw [decide_eq_true ⟨c, List.Pairwise.nil⟩]
      rfl
    · refine bs ln (bs (a := (List.range (l.length - 1)).map fun (k : Nat) => (k : Int)) (by rw [show (l.length : Int) - 1 = ((l.length - 1 : Nat) : Int) by omega]; exact rng1O_n (by omega)) (bs e2 (congrArg some ?_)))
      by_cases d : Down l
      · rw [decide_eq_true ⟨c, d⟩]
        refine List.all_eq_true.mpr fun x hx => ?_
        obtain ⟨k, hk, rfl⟩ := List.mem_map.mp hx
        have hk := List.mem_range.mp hk
        refine decide_eq_true ?_
        have q := List.pairwise_iff_getElem.mp d k (k + 1) (by omega) (by omega) (by omega)
        have e1 := g k (by omega)
        have e2 := g (k + 1) (by omega)
        rw [List.getElem?_eq_getElem (by omega)] at e1 e2
        rw [← Option.some.inj e1, ← Option.some.inj e2]
        exact q
      · rw [decide_eq_false fun q => d q.2]
        refine Bool.eq_false_iff.mpr fun q => d ?_
        have al : ∀ k, k < l.length - 1 → gv l (k + 1 + 1) ≤ gv l (k + 1) := fun k hk => of_decide_eq_true (List.all_eq_true.mp q _ (List.mem_map.mpr ⟨k, List.mem_range.mpr hk, rfl⟩))
        have up : ∀ j i, i + j < l.length → gv l (i + j + 1) ≤ gv l (i + 1) := fun j => by
          induction j with
          | zero => exact fun i _ => Int.le_refl _
          | succ j ih =>
            intro i hi
            have a1 := ih i (by omega)
            have a2 := al (i + j) (by omega)
            exact Int.le_trans a2 a1
        refine List.pairwise_iff_getElem.mpr fun i j hi hj hij => ?_
        have e1 := g i hi
        have e2 := g j hj
        rw [List.getElem?_eq_getElem (by omega)] at e1 e2
        rw [Option.some.inj e1, Option.some.inj e2]
        have := up (j - i) i (by omega)
        rw [show i + (j - i) + 1 = j + 1 by omega] at this
        exact this
  · have ca : (l.map fun i => decide (1 ≤ i)).all id = false := Bool.eq_false_iff.mpr fun q => c fun x hx => of_decide_eq_true (List.all_eq_true.mp q _ (List.mem_map.mpr ⟨x, hx, rfl⟩))
    refine iT (by rw [ca]; rfl) ?_
    rw [decide_eq_false fun q => c q.1]
theorem is_row_yes {l : List Int} (h : Rok l) : f_is_row (tp PyData.int l) = some true := by
  rw [is_row_int (by have := h.few; omega), decide_eq_true ⟨h.pos, h.dn⟩]
theorem q_row_after {w : Nat} {f : Int} {row : List Int} (hw : 1 ≤ w) (hl : row.length ≤ 100000) : f_row_after (w : Int) f row = some (srow w f row) := by
  have fin : ∀ h : Int, ((lcC (fun x => some (decide (h ≤ x))) (fun x => some x) row).bind fun t => (catO t [h]).bind fun r => some r) = some ((row.filter fun m => decide (h ≤ m)) ++ [h]) := fun h => by
    refine bs (lcC_fl (p' := fun m => decide (h ≤ m)) (by omega) fun _ _ => rfl) (bs (catO_ok ?_) rfl)
    have := List.length_filter_le (fun m => decide (h ≤ m)) row
    show _ + 1 ≤ _
    omega
  unfold f_row_after srow sh
  refine bs rfl ?_
  by_cases z : w ≤ row.length
  · have g := atI_gv (l := row) hw z
    refine bs (andTT' (decide_eq_true (by omega)) (bs g rfl)) ?_
    by_cases y : f ≤ gv row w
    · rw [show (if w ≤ row.length ∧ f ≤ gv row w then gv row w + 1 else f) = gv row w + 1 from if_pos ⟨z, y⟩]
      exact iT (decide_eq_true y) (bs g (bs rfl (fin _)))
    · rw [show (if w ≤ row.length ∧ f ≤ gv row w then gv row w + 1 else f) = f from if_neg fun q => y q.2]
      exact iF (decide_eq_false y) (fin _)
  · rw [show (if w ≤ row.length ∧ f ≤ gv row w then gv row w + 1 else f) = f from if_neg fun q => z q.1]
    refine bs (a := false) ?_ (iF rfl (fin _))
    unfold andO
    rw [decide_eq_false (by omega)]
    rfl
theorem q_stepped {w : Nat} {f : Int} {l : List Int} (hw : 1 ≤ w) (hf : 1 ≤ f) (h : Rok l) : f_stepped (w : Int) f l = some (srow w f l) := by
  unfold f_stepped
  refine bs (q_natural _) (iF (by rw [decide_eq_true (by omega)]; rfl) (bs (q_natural _) (iF (by rw [decide_eq_true hf]; rfl) (bs (is_row_yes h) (iF rfl (bs (q_row_after hw (by have := h.few; omega)) rfl))))))
theorem fil_iff {h : Int} : ∀ {l : List Int} {w : Nat}, Down l → 1 ≤ w → w ≤ l.length → ((l.filter fun m => decide (h ≤ m)).length < w ↔ gv l w < h)
  | [], w, d, w1, w2 => by
    have : w ≤ 0 := w2
    omega
  | a :: l, w, d, w1, w2 => by
    obtain ⟨d1, d2⟩ := List.pairwise_cons.mp d
    by_cases c : h ≤ a
    · rw [List.filter_cons, if_pos (decide_eq_true c), List.length_cons]
      by_cases e : w = 1
      · subst e
        show _ ↔ a < h
        omega
      · obtain ⟨v, rfl⟩ : ∃ v, w = v + 2 := ⟨w - 2, by omega⟩
        have ih := fil_iff (h := h) (l := l) (w := v + 1) d2 (by omega) (by rw [List.length_cons] at w2; omega)
        show _ ↔ gv l (v + 1) < h
        rw [← ih]
        omega
    · have nil : (l.filter fun m => decide (h ≤ m)) = [] := List.filter_eq_nil_iff.mpr fun m hm q => by
        have := d1 m hm
        have := of_decide_eq_true q
        omega
      rw [List.filter_cons, if_neg (fun q => c (of_decide_eq_true q)), nil]
      have : gv (a :: l) w ≤ a := by
        rcases List.mem_cons.mp (gv_mem (l := a :: l) w1 w2) with e | m
        · omega
        · exact d1 _ m
      show 0 < w ↔ _
      omega
def adm (w : Nat) (f : Int) (l : List Int) (h : Int) : Bool := decide (f ≤ h) && decide ((l.filter fun m => decide (h ≤ m)).length < w)
def upB (w : Nat) (f : Int) (l : List Int) (b : Option Int) (h : Int) : Option Int := if adm w f l h = true then (match b with | none => some h | some c => some (if h < c then h else c)) else b
def encB : Option Int → PyData
  | none => .none
  | some c => .int c
theorem adm_sh {w : Nat} {f : Int} {l : List Int} (hw : 1 ≤ w) (d : Down l) : adm w f l (sh w f l) = true ∧ ∀ h, adm w f l h = true → sh w f l ≤ h := by
  unfold adm sh
  by_cases c : w ≤ l.length ∧ f ≤ gv l w
  · rw [if_pos c]
    refine ⟨?_, fun h q => ?_⟩
    · rw [decide_eq_true (by omega), decide_eq_true ((fil_iff d hw c.1).mpr (by omega))]
      rfl
    · have q := Bool.and_eq_true_iff.mp q
      have := (fil_iff d hw c.1).mp (of_decide_eq_true q.2)
      omega
  · rw [if_neg c]
    refine ⟨?_, fun h q => of_decide_eq_true (Bool.and_eq_true_iff.mp q).1⟩
    rw [decide_eq_true (Int.le_refl _), decide_eq_true]
    · rfl
    · by_cases e : w ≤ l.length
      · exact (fil_iff d hw e).mpr (by
          have : ¬ f ≤ gv l w := fun q => c ⟨e, q⟩
          omega)
      · have := List.length_filter_le (fun m => decide (f ≤ m)) l
        omega
theorem fold_up {w : Nat} {f : Int} {l : List Int} : ∀ (hs : List Int) (b : Option Int), (∀ h ∈ hs, adm w f l h = true → ∃ c, hs.foldl (upB w f l) b = some c ∧ c ≤ h) ∧ (∀ c0, b = some c0 → ∃ c, hs.foldl (upB w f l) b = some c ∧ c ≤ c0) ∧ (∀ c, hs.foldl (upB w f l) b = some c → b = some c ∨ adm w f l c = true)
  | [], b => ⟨fun h m => (by cases m), fun c0 e => ⟨c0, e, Int.le_refl _⟩, fun c e => .inl e⟩
  | x :: hs, b => by
    obtain ⟨i1, i2, i3⟩ := fold_up (w := w) (f := f) (l := l) hs (upB w f l b x)
    have ux : adm w f l x = true → ∃ c, upB w f l b x = some c ∧ c ≤ x := fun a => by
      unfold upB
      rw [if_pos a]
      cases b with
      | none => exact ⟨x, rfl, Int.le_refl _⟩
      | some c => exact ⟨_, rfl, by split <;> omega⟩
    refine ⟨fun h m a => ?_, fun c0 e => ?_, fun c e => ?_⟩
    · rcases List.mem_cons.mp m with e | m
      · subst e
        obtain ⟨c, u1, u2⟩ := ux a
        obtain ⟨c', v1, v2⟩ := i2 c u1
        exact ⟨c', v1, by omega⟩
      · exact i1 h m a
    · have : ∃ c, upB w f l b x = some c ∧ c ≤ c0 := by
        unfold upB
        rw [e]
        by_cases a : adm w f l x = true
        · rw [if_pos a]
          exact ⟨_, rfl, by split <;> omega⟩
        · rw [if_neg a]
          exact ⟨c0, rfl, Int.le_refl _⟩
      obtain ⟨c, u1, u2⟩ := this
      obtain ⟨c', v1, v2⟩ := i2 c u1
      exact ⟨c', v1, by omega⟩
    · rcases i3 c e with q | q
      · unfold upB at q
        by_cases a : adm w f l x = true
        · rw [if_pos a] at q
          cases b with
          | none => cases q; exact .inr a
          | some c0 =>
            have q := Option.some.inj q
            split at q
            · rw [← q]; exact .inr a
            · rw [← q]; exact .inl rfl
        · rw [if_neg a] at q
          exact .inl q
      · exact .inr q
theorem sh_in {w : Nat} {f : Int} {l : List Int} (hw : 1 ≤ w) : sh w f l ∈ f :: l.map fun m => m + 1 := by
  unfold sh
  by_cases c : w ≤ l.length ∧ f ≤ gv l w
  · rw [if_pos c]
    exact List.mem_cons_of_mem _ (List.mem_map.mpr ⟨_, gv_mem hw c.1, rfl⟩)
  · rw [if_neg c]
    exact List.mem_cons_self
theorem fold_sh {w : Nat} {f : Int} {l : List Int} (hw : 1 ≤ w) (d : Down l) : (f :: l.map fun m => m + 1).foldl (upB w f l) none = some (sh w f l) := by
  obtain ⟨a1, a2⟩ := adm_sh (f := f) hw d
  obtain ⟨i1, _, i3⟩ := fold_up (w := w) (f := f) (l := l) (f :: l.map fun m => m + 1) none
  obtain ⟨c, u1, u2⟩ := i1 _ (sh_in hw) a1
  rcases i3 c u1 with e | e
  · cases e
  · have := a2 c e
    rw [u1]
    congr 1
    omega
theorem counted_1 {w : Nat} {f h : Int} {l : List Int} {b : Option Int} (few : l.length ≤ 1000) : f_w_counted_L1 (w : Int) f l h (encB b) = some (encB (upB w f l b h)) := by
  have t : (andO (decide (f ≤ h)) ((lcC (fun x6 => some (decide (h ≤ x6))) (fun x6 => some x6) l).bind fun t7 => some (decide ((t7.length : Int) < (w : Int))))) = some (adm w f l h) := by
    refine andE fun _ => ?_
    refine bs (lcC_fl (p' := fun m => decide (h ≤ m)) (by omega) fun _ _ => rfl) ?_
    congr 1
    exact decide_eq_decide.mpr (by omega)
  unfold f_w_counted_L1 upB
  refine bs t ?_
  cases adm w f l h with
  | false => exact iF rfl rfl
  | true =>
    refine iT rfl ?_
    rw [if_pos rfl]
    cases b with
    | none => exact bs (a := true) rfl (bs (a := true) rfl (iT rfl (bs rfl rfl)))
    | some c =>
      refine bs (a := false) rfl (bs (a := decide (h < c)) (orF1 (bs (a := decide (h < c)) rfl rfl)) ?_)
      by_cases q : h < c
      · exact iT (decide_eq_true q) (bs rfl (by show _ = some (encB (some (if h < c then h else c))); rw [if_pos q]; rfl))
      · exact iF (decide_eq_false q) (by show _ = some (encB (some (if h < c then h else c))); rw [if_neg q])
theorem counted_go {w : Nat} {f : Int} {l : List Int} (few : l.length ≤ 1000) : ∀ (hs : List Int) (b : Option Int), forS (fun x_1 (best_ : PyData) => f_w_counted_L1 (w : Int) f l x_1 best_) hs (encB b) = some (encB (hs.foldl (upB w f l) b))
  | [], b => rfl
  | x :: hs, b => by
    show (f_w_counted_L1 (w : Int) f l x (encB b)).bind _ = _
    rw [counted_1 few]
    exact counted_go few hs _
theorem q_counted {w : Nat} {f : Int} {l : List Int} (hw : 1 ≤ w) (h : Rok l) : f_w_counted (w : Int) f l = some (srow w f l) := by
  have few := h.few
  unfold f_w_counted
  refine bs rfl (bs (lcC_map (g' := fun m => m + 1) (by omega) fun _ _ => rfl) (bs (a := f :: l.map fun m => m + 1) ?_ (bs (a := .int (sh w f l)) ?_ (bs (a := sh w f l) rfl (bs (lcC_fl (p' := fun m => decide (sh w f l ≤ m)) (by omega) fun _ _ => rfl) (bs (catO_ok ?_) rfl))))))
  · refine catO_ok ?_
    rw [List.length_map]
    show 1 + _ ≤ _
    omega
  · have g := counted_go (w := w) (f := f) (l := l) few (f :: l.map fun m => m + 1) none
    rw [fold_sh hw h.dn] at g
    exact g
  · have := List.length_filter_le (fun m => decide (sh w f l ≤ m)) l
    rw [List.length_singleton]
    omega
theorem srow_ok {w : Nat} {f : Int} {l : List Int} (hw : 1 ≤ w) (h : Rok l) : (srow w f l).length ≤ 1001 := by
  unfold srow
  have := List.length_filter_le (fun m => decide (sh w f l ≤ m)) l
  have := h.few
  rw [List.length_append, List.length_singleton]
  omega
theorem rok_sub {l m : List Int} (s : m.Sublist l) (h : Rok l) : Rok m := ⟨h.dn.sublist s, fun x hx => h.pos x (s.subset hx), by have := s.length_le; have := h.few; omega⟩
theorem sh_take {w : Nat} {f : Int} {l : List Int} (hw : 1 ≤ w) : sh w f (l.take (min w l.length)) = sh w f l := by
  unfold sh
  by_cases e : w ≤ l.length
  · have g : gv (l.take (min w l.length)) w = gv l w := by
      have a := gv_of hw (l := l.take (min w l.length)) (by rw [List.length_take]; omega)
      rw [List.getElem?_take_of_lt (by omega), gv_of hw e] at a
      exact (Option.some.inj a).symm
    rw [g]
    by_cases c : f ≤ gv l w
    · rw [if_pos ⟨by rw [List.length_take]; omega, c⟩, if_pos ⟨e, c⟩]
    · rw [if_neg (fun q => c q.2), if_neg (fun q => c q.2)]
  · rw [if_neg (fun q => e (by have := q.1; rw [List.length_take] at this; omega)), if_neg (fun q => e q.1)]
theorem srow_take {w : Nat} {f : Int} {l : List Int} (hw : 1 ≤ w) (d : Down l) : srow w f (l.take (min w l.length)) = srow w f l := by
  unfold srow
  rw [sh_take hw]
  congr 1
  by_cases e : w ≤ l.length
  · have hi : gv l w < sh w f l := by
      unfold sh
      by_cases c : w ≤ l.length ∧ f ≤ gv l w
      · rw [if_pos c]; omega
      · rw [if_neg c]
        have : ¬ f ≤ gv l w := fun q => c ⟨e, q⟩
        omega
    have sp := List.take_append_drop (min w l.length) l
    have e2 : (l.filter fun m => decide (sh w f l ≤ m)) = ((l.take (min w l.length)).filter fun m => decide (sh w f l ≤ m)) ++ ((l.drop (min w l.length)).filter fun m => decide (sh w f l ≤ m)) := by
      rw [← List.filter_append, sp]
    have nil : ((l.drop (min w l.length)).filter fun m => decide (sh w f l ≤ m)) = [] := List.filter_eq_nil_iff.mpr fun m hm q => by
      have q := of_decide_eq_true q
      rw [← sp] at d
      have gm : gv l w ∈ l.take (min w l.length) := by
        have a := gv_of hw (l := l.take (min w l.length)) (by rw [List.length_take]; omega)
        rw [List.getElem?_take_of_lt (by omega), gv_of hw e] at a
        have a := Option.some.inj a
        rw [a]
        exact gv_mem hw (by rw [List.length_take]; omega)
      have := (List.pairwise_append.mp d).2.2 _ gm m hm
      omega
    rw [e2, nil, List.append_nil]
  · rw [List.take_of_length_le (by omega)]
theorem steps_1 {w k : Nat} {f : Int} {l due : List Int} (hw : 1 ≤ w) (hf : 1 ≤ f) (h : Rok l) (hk : k < l.length) : f_w_steps_L1 l (w : Int) f due (k : Int) = some (.nx ()) := by
  have few := h.few
  have c1 : cutD l none (some (k : Int)) = l.take k := cutD_hi
  have c2 : cutD l (some ((k : Int) + 1)) none = l.drop (k + 1) := by
    rw [show (k : Int) + 1 = ((k + 1 : Nat) : Int) by omega]
    exact cutD_lo
  have sub : (l.take k ++ l.drop (k + 1)).Sublist l := by
    conv => rhs; rw [← List.take_append_drop k l]
    refine List.Sublist.append_left ?_ _
    rw [← List.drop_drop]
    exact List.drop_sublist _ _
  have r := rok_sub sub h
  unfold f_w_steps_L1
  rw [c1, c2]
  exact bs (catO_ok (by rw [List.length_take, List.length_drop]; omega)) (bs (q_stepped hw hf r) (bs (q_counted hw r) (bs (same_row (by have := srow_ok (f := f) hw r; omega)) (iF rfl rfl))))
theorem q_steps {w : Nat} {f : Int} {l : List Int} (hw : 1 ≤ w) (hf : 1 ≤ f) (h : Rok l) : f_w_steps l (w : Int) f = some true := by
  have few := h.few
  have ls := srow_ok (f := f) hw h
  unfold f_w_steps
  refine bs (q_counted hw h) (bs (q_stepped hw hf h) (bs (same_row (by omega)) (bs (a := false) (orF1 (bs (q_stepped hw hf h) (bs (same_row (by omega)) rfl))) (iF rfl (bs (a := (List.range (min 3 l.length)).map fun (k : Nat) => (k : Int)) ?_ ?_)))))
  · rw [show min (3 : Int) (l.length : Int) = ((min 3 l.length : Nat) : Int) by omega]
    exact rng1O_n (by omega)
  · rw [thenL_nx (forG_all fun x hx => ?_)]
    · have ct : cutD l none (some (min (w : Int) (l.length : Int))) = l.take (min w l.length) := by
        rw [show min (w : Int) (l.length : Int) = ((min w l.length : Nat) : Int) by omega]
        exact cutD_hi
      rw [ct]
      exact bs (q_stepped hw hf (rok_sub (List.take_sublist _ _) h)) (bs (same_rows (srow_take hw h.dn) (by omega)) rfl)
    · obtain ⟨k, hk, rfl⟩ := List.mem_map.mp hx
      exact steps_1 hw hf h (by have := List.mem_range.mp hk; omega)
end K13
namespace K13
open PySem PySem.Spec PyProof.Rows L2 DL
def fd : List Int → List Int → Option Int
  | a :: l, b :: m => if a = b then fd l m else some (max a b)
  | _, _ => none
def unl (a b : List Int) : Int := match fd a b with
  | some r => r
  | none => if b.length < a.length then gv a (b.length + 1) else if a.length < b.length then gv b (a.length + 1) else 0
theorem unl_cc {x : Int} {l m : List Int} : unl (x :: l) (x :: m) = unl l m := by
  have e : fd (x :: l) (x :: m) = fd l m := if_pos rfl
  unfold unl
  rw [e]
  cases fd l m with
  | some r => rfl
  | none =>
    dsimp only
    rw [List.length_cons, List.length_cons]
    by_cases c : m.length < l.length
    · rw [if_pos (by omega), if_pos c]
      rfl
    · rw [if_neg (by omega), if_neg c]
      by_cases d : l.length < m.length
      · rw [if_pos (by omega), if_pos d]
        rfl
      · rw [if_neg (by omega), if_neg d]
theorem unl_cn {x y : Int} {l m : List Int} (h : x ≠ y) : unl (x :: l) (y :: m) = max x y := by
  have e : fd (x :: l) (y :: m) = some (max x y) := if_neg h
  unfold unl
  rw [e]
theorem unl_self : ∀ l : List Int, unl l l = 0
  | [] => rfl
  | x :: l => by rw [unl_cc, unl_self l]
theorem unl_comm : ∀ l m : List Int, unl l m = unl m l
  | [], [] => rfl
  | x :: l, [] => rfl
  | [], y :: m => rfl
  | x :: l, y :: m => by
    by_cases h : x = y
    · subst h
      rw [unl_cc, unl_cc, unl_comm l m]
    · rw [unl_cn h, unl_cn (Ne.symm h)]
      omega
theorem cnt_hi {l : List Int} {v : Int} (h : ∀ x ∈ l, x < v) : l.count v = 0 := List.count_eq_zero.mpr fun m => by
  have := h v m
  omega
theorem unl_cnt : ∀ {a b : List Int}, Down a → Down b → (∀ x ∈ a, 1 ≤ x) → (∀ x ∈ b, 1 ≤ x) → (∀ v, unl a b < v → a.count v = b.count v) ∧ (unl a b = 0 ∨ (1 ≤ unl a b ∧ a.count (unl a b) ≠ b.count (unl a b)))
  | [], [], _, _, _, _ => ⟨fun _ _ => rfl, .inl rfl⟩
  | x :: l, [], d, _, p, _ => by
    have u : unl (x :: l) [] = x := rfl
    obtain ⟨d1, d2⟩ := List.pairwise_cons.mp d
    rw [u]
    refine ⟨fun v hv => ?_, .inr ⟨p x List.mem_cons_self, ?_⟩⟩
    · rw [cnt_hi fun y hy => ?_]
      · rfl
      · rcases List.mem_cons.mp hy with e | m
        · omega
        · have := d1 y m
          omega
    · have : 0 < (x :: l).count x := List.count_pos_iff.mpr List.mem_cons_self
      show (x :: l).count x ≠ 0
      omega
  | [], y :: m, _, d, _, p => by
    have u : unl [] (y :: m) = y := rfl
    obtain ⟨d1, d2⟩ := List.pairwise_cons.mp d
    rw [u]
    refine ⟨fun v hv => ?_, .inr ⟨p y List.mem_cons_self, ?_⟩⟩
    · rw [cnt_hi (l := y :: m) fun z hz => ?_]
      · rfl
      · rcases List.mem_cons.mp hz with e | q
        · omega
        · have := d1 z q
          omega
    · have : 0 < (y :: m).count y := List.count_pos_iff.mpr List.mem_cons_self
      show 0 ≠ (y :: m).count y
      omega
  | x :: l, y :: m, da, db, pa, pb => by
    obtain ⟨a1, a2⟩ := List.pairwise_cons.mp da
    obtain ⟨b1, b2⟩ := List.pairwise_cons.mp db
    by_cases h : x = y
    · subst h
      rw [unl_cc]
      obtain ⟨i1, i2⟩ := unl_cnt a2 b2 (fun z hz => pa z (List.mem_cons_of_mem _ hz)) (fun z hz => pb z (List.mem_cons_of_mem _ hz))
      refine ⟨fun v hv => ?_, i2.imp id fun q => ⟨q.1, ?_⟩⟩
      · rw [List.count_cons, List.count_cons, i1 v hv]
      · rw [List.count_cons, List.count_cons]
        have := q.2
        omega
    · rw [unl_cn h]
      have hx : ∀ z ∈ x :: l, z ≤ x := fun z hz => by
        rcases List.mem_cons.mp hz with e | q
        · omega
        · exact a1 z q
      have hy : ∀ z ∈ y :: m, z ≤ y := fun z hz => by
        rcases List.mem_cons.mp hz with e | q
        · omega
        · exact b1 z q
      refine ⟨fun v hv => ?_, .inr ⟨by have := pa x List.mem_cons_self; omega, ?_⟩⟩
      · rw [cnt_hi fun z hz => by have := hx z hz; omega, cnt_hi fun z hz => by have := hy z hz; omega]
      · by_cases c : y < x
        · rw [show max x y = x by omega]
          have : 0 < (x :: l).count x := List.count_pos_iff.mpr List.mem_cons_self
          rw [cnt_hi (l := y :: m) fun z hz => by have := hy z hz; omega]
          omega
        · rw [show max x y = y by omega]
          have : 0 < (y :: m).count y := List.count_pos_iff.mpr List.mem_cons_self
          rw [cnt_hi (l := x :: l) fun z hz => by have := hx z hz; omega]
          omega
theorem unl_loop {one other : List Int} : ∀ a b : List Int, forG (fun x_1 (s_ : Unit) => f_unlike_at_L1 one other x_1) (a.zip b) () = some (match fd a b with | some r => .rt r | none => .nx ())
  | [], _ => by cases ‹List Int› <;> rfl
  | x :: l, [] => rfl
  | x :: l, y :: m => by
    rw [List.zip_cons_cons]
    show (f_unlike_at_L1 one other (x, y)).bind _ = _
    unfold f_unlike_at_L1
    by_cases h : x = y
    · have e : fd (x :: l) (y :: m) = fd l m := if_pos h
      rw [decide_eq_true h, e]
      exact unl_loop (one := one) (other := other) l m
    · have e : fd (x :: l) (y :: m) = some (max x y) := if_neg h
      rw [decide_eq_false h, e]
      rfl
theorem q_unlike {a b : List Int} (ha : Rok a) (hb : Rok b) : f_unlike_at a b = some (unl a b) := by
  unfold f_unlike_at
  refine bs (is_row_yes ha) (iF rfl (bs (is_row_yes hb) (iF rfl ?_)))
  rw [unl_loop]
  unfold unl
  cases fd a b with
  | some r => rfl
  | none =>
    show (if _ then _ else _) = _
    by_cases c : b.length < a.length
    · rw [if_pos c]
      exact iT (decide_eq_true (by omega)) (bs (atI_at c) rfl)
    · rw [if_neg c]
      refine iF (decide_eq_false (by omega)) ?_
      by_cases d : a.length < b.length
      · rw [if_pos d]
        exact iT (decide_eq_true (by omega)) (bs (atI_at d) rfl)
      · rw [if_neg d]
        exact iF (decide_eq_false (by omega)) rfl
/-- the first member of which they have not equally many -/
theorem apart_of {a b L : List Int} (ha : Rok a) (hb : Rok b) (dL : Down L) (pL : ∀ x ∈ L, 1 ≤ x) (sub : ∀ x, x ∈ a ∨ x ∈ b → x ∈ L) : (L.find? fun x => !decide (a.count x = b.count x)).getD 0 = unl a b := by
  obtain ⟨i1, i2⟩ := unl_cnt ha.dn hb.dn ha.pos hb.pos
  rcases i2 with z | ⟨u1, u2⟩
  · rw [List.find?_eq_none.mpr fun x hx q => ?_, z]
    · rfl
    · rw [i1 x (by have := pL x hx; omega), decide_eq_true rfl] at q
      cases q
  · have mu : unl a b ∈ L := by
      refine sub _ ?_
      by_cases c : unl a b ∈ a
      · exact .inl c
      · refine .inr (Classical.byContradiction fun d => u2 ?_)
        rw [List.count_eq_zero.mpr c, List.count_eq_zero.mpr d]
    obtain ⟨as, bs', e, nm⟩ := List.eq_append_cons_of_mem mu
    have f : L.find? (fun x => !decide (a.count x = b.count x)) = some (unl a b) := by
      refine List.find?_eq_some_iff_append.mpr ⟨by rw [decide_eq_false u2]; rfl, as, bs', e, fun x hx => ?_⟩
      rw [e] at dL
      have := (List.pairwise_append.mp dL).2.2 x hx (unl a b) List.mem_cons_self
      have ne : x ≠ unl a b := fun q => nm (by rw [← q]; exact hx)
      rw [i1 x (by omega), decide_eq_true rfl]
      rfl
    rw [f]
    rfl
theorem apart_go {rows : List (List Int)} {due a b : List Int} (r0 : atI rows 0 = some a) (r1 : atI rows 1 = some b) : ∀ (L : List Int) (c : Int), (∀ x ∈ L, 1 ≤ x) → forS (fun x_3 (apart_ : Int) => f_w_merges_L3 rows due x_3 apart_) L c = some (if c = 0 then (L.find? fun x => !decide (a.count x = b.count x)).getD 0 else c)
  | [], c, _ => by
    show some c = _
    by_cases z : c = 0
    · rw [if_pos z, z]
      rfl
    · rw [if_neg z]
  | x :: L, c, h => by
    have t : (andO (decide (c = (0 : Int))) ((atI rows (0 : Int)).bind fun t39 => (atI rows (1 : Int)).bind fun t40 => some (!decide (((t39.count x : Nat) : Int) = ((t40.count x : Nat) : Int))))) = some (decide (c = 0) && !decide (a.count x = b.count x)) := by
      refine andE fun _ => ?_
      refine bs r0 (bs r1 ?_)
      congr 2
      exact decide_eq_decide.mpr (by omega)
    have st : f_w_merges_L3 rows due x c = some (if (decide (c = 0) && !decide (a.count x = b.count x)) = true then x else c) := by
      unfold f_w_merges_L3
      refine bs t ?_
      split <;> rfl
    show (f_w_merges_L3 rows due x c).bind _ = _
    rw [st]
    show forS _ L _ = _
    rw [apart_go r0 r1 L _ fun y hy => h y (List.mem_cons_of_mem _ hy)]
    have x1 := h x List.mem_cons_self
    congr 1
    by_cases z : c = 0
    · subst z
      rw [if_pos rfl, List.find?_cons]
      by_cases q : a.count x = b.count x
      · rw [decide_eq_true q]
        rfl
      · rw [decide_eq_false q]
        show (if x = 0 then _ else x) = x
        rw [if_neg (by omega)]
    · rw [decide_eq_false z, if_neg z]
      show (if c = 0 then _ else c) = c
      rw [if_neg z]
theorem q_merged {rows : List (List Int)} (h : ∀ l ∈ rows, Rok l) (few : rows.length ≤ 1000) (ff : rows.flatten.length ≤ 100000) : f_merged rows = some (downI rows.flatten) := by
  unfold f_merged
  refine bs (a := false) (orF1 (bs (lcC_map (g' := fun _ => true) (by omega) fun l hl => bs (is_row_yes (h l hl)) rfl) ?_)) (iF rfl (bs (a := rows.flatten) ?_ (bs (a := downI rows.flatten) rfl rfl)))
  · have : (rows.map fun _ => true).all id = true := List.all_eq_true.mpr fun b hb => by
      obtain ⟨_, _, rfl⟩ := List.mem_map.mp hb
      rfl
    rw [this]
    rfl
  · have := lc2C_ok (i := fun x6 : List Int => some x6) (js := fun x => x) (l := rows) (fun _ _ => rfl) (by rw [List.flatMap_id']; omega)
    rw [List.flatMap_id'] at this
    exact this
theorem together {rows : List (List Int)} : ∀ (l : List (List Int)) (acc : List Int), acc.length + l.flatten.length ≤ 100000 → forS (fun x_1 (together_ : List Int) => f_w_merges_L1 rows x_1 together_) l acc = some (acc ++ l.flatten)
  | [], acc, _ => by
    show some acc = some (acc ++ [])
    rw [List.append_nil]
  | r :: l, acc, h => by
    rw [List.flatten_cons, List.length_append] at h
    have inner : ∀ (t : List Int) (acc : List Int), acc.length + t.length ≤ 100000 → forS (fun x_2 (together_ : List Int) => f_w_merges_L2 rows r x_2 together_) t acc = some (acc ++ t) := by
      intro t
      induction t with
      | nil =>
        intro acc _
        show some acc = some (acc ++ [])
        rw [List.append_nil]
      | cons x t ih =>
        intro acc h
        rw [List.length_cons] at h
        show (f_w_merges_L2 rows r x acc).bind _ = _
        have st : f_w_merges_L2 rows r x acc = some (acc ++ [x]) := by
          unfold f_w_merges_L2
          exact bs (appO_ok (by omega)) rfl
        rw [st]
        refine (ih (acc ++ [x]) (by rw [List.length_append, List.length_singleton]; omega)).trans ?_
        rw [List.append_assoc]
        rfl
    show (f_w_merges_L1 rows r acc).bind _ = _
    have st : f_w_merges_L1 rows r acc = some (acc ++ r) := by
      unfold f_w_merges_L1
      exact bs (inner r acc (by omega)) rfl
    rw [st]
    refine (together l (acc ++ r) (by rw [List.length_append]; omega)).trans ?_
    rw [List.flatten_cons, List.append_assoc]
theorem rok_down {l : List Int} (p : ∀ x ∈ l, 1 ≤ x) (few : l.length ≤ 1000) : Rok (downI l) := ⟨down_downI l, fun x hx => p x ((downI_perm l).mem_iff.mp hx), by rw [(downI_perm l).length_eq]; exact few⟩
theorem rok_nil : Rok [] := ⟨List.Pairwise.nil, fun x hx => (by cases hx), Nat.zero_le _⟩
theorem q_merges {a b c : List Int} (ha : Rok a) (hb : Rok b) (hc : Rok c) (la : a.length ≤ 30) (lb : b.length ≤ 30) (lc : c.length ≤ 30) : f_w_merges [a, b, c] = some true := by
  obtain ⟨F, hF⟩ : ∃ F, F = [a, b, c].flatten := ⟨_, rfl⟩
  have eF : F = a ++ (b ++ (c ++ [])) := hF
  have lF : F.length ≤ 90 := by
    rw [eF, List.length_append, List.length_append, List.length_append]
    show _ + (_ + (_ + 0)) ≤ 90
    omega
  have pF : ∀ x ∈ F, 1 ≤ x := fun x hx => by
    rw [eF] at hx
    simp only [List.mem_append, List.not_mem_nil, or_false] at hx
    rcases hx with m | m | m
    · exact ha.pos x m
    · exact hb.pos x m
    · exact hc.pos x m
  obtain ⟨U, hU⟩ : ∃ U, U = downI F := ⟨_, rfl⟩
  have rU : Rok U := by rw [hU]; exact rok_down pF (by omega)
  have lU : U.length ≤ 90 := by rw [hU, (downI_perm F).length_eq]; exact lF
  have pU : U.Perm F := by rw [hU]; exact downI_perm F
  have all3 : ∀ l ∈ [a, b, c], Rok l := fun l hl => by
    simp only [List.mem_cons, List.not_mem_nil, or_false] at hl
    rcases hl with rfl | rfl | rfl
    · exact ha
    · exact hb
    · exact hc
  have ld : ∀ m : List Int, (downI m).length = m.length := fun m => (downI_perm m).length_eq
  have m1 : f_merged [a, b, c] = some U := by rw [hU, hF]; exact q_merged all3 (by show 3 ≤ 1000; omega) (by rw [← hF]; omega)
  have m2 : f_merged [U] = some U := by
    have := q_merged (rows := [U]) (fun l hl => by rw [List.mem_singleton.mp hl]; exact rU) (by show 1 ≤ 1000; omega) (by show (U ++ []).length ≤ _; rw [List.append_nil]; omega)
    rw [this]
    show some (downI (U ++ [])) = _
    rw [List.append_nil, downI_self rU.dn]
  have m3 : f_merged [U, U] = some (downI (U ++ U)) := by
    have := q_merged (rows := [U, U]) (fun l hl => by
      simp only [List.mem_cons, List.not_mem_nil, or_false] at hl
      rcases hl with rfl | rfl <;> exact rU) (by show 2 ≤ 1000; omega) (by show (U ++ (U ++ [])).length ≤ _; rw [List.append_nil, List.length_append]; omega)
    rw [this]
    show some (downI (U ++ (U ++ []))) = _
    rw [List.append_nil]
  have m0 : f_merged [] = some [] := q_merged (rows := []) (fun l hl => by cases hl) (by decide) (by decide)
  have m4 : f_merged ([a, b, c] ++ [[], U] ++ [a, b, c].reverse) = some (downI (U ++ U ++ U)) := by
    have e : ([a, b, c] ++ [[], U] ++ [a, b, c].reverse) = [a, b, c, [], U, c, b, a] := rfl
    have fl : [a, b, c, [], U, c, b, a].flatten = F ++ (U ++ (c ++ (b ++ (a ++ [])))) := by
      rw [eF]
      simp [List.flatten]
    rw [e, q_merged (rows := [a, b, c, [], U, c, b, a]) (fun l hl => by
      simp only [List.mem_cons, List.not_mem_nil, or_false] at hl
      rcases hl with rfl | rfl | rfl | rfl | rfl | rfl | rfl | rfl
      · exact ha
      · exact hb
      · exact hc
      · exact rok_nil
      · exact rU
      · exact hc
      · exact hb
      · exact ha) (by show 8 ≤ 1000; omega) (by
        rw [fl]
        simp only [List.length_append, List.length_nil]
        omega), fl]
    congr 1
    refine downI_congr ?_
    have r3 : (c ++ (b ++ (a ++ []))).Perm F := by
      rw [eF, List.append_nil, List.append_nil]
      exact (List.perm_append_comm.trans (List.Perm.append_right _ List.perm_append_comm)).trans (by rw [List.append_assoc])
    rw [List.append_assoc]
    exact List.Perm.append pU.symm (List.Perm.append_left U (r3.trans pU.symm))
  have pp : ∀ x y : List Int, Rok x → Rok y → x.length ≤ 30 → y.length ≤ 30 → f_merged [x, y] = some (downI (x ++ y)) := fun x y hx hy l1 l2 => by
    have := q_merged (rows := [x, y]) (fun l hl => by
      simp only [List.mem_cons, List.not_mem_nil, or_false] at hl
      rcases hl with rfl | rfl
      · exact hx
      · exact hy) (by show 2 ≤ 1000; omega) (by show (x ++ (y ++ [])).length ≤ _; rw [List.append_nil, List.length_append]; omega)
    rw [this]
    show some (downI (x ++ (y ++ []))) = _
    rw [List.append_nil]
  have m5 : f_merged [c, [], a] = some (downI (c ++ a)) := by
    have := q_merged (rows := [c, [], a]) (fun l hl => by
      simp only [List.mem_cons, List.not_mem_nil, or_false] at hl
      rcases hl with rfl | rfl | rfl
      · exact hc
      · exact rok_nil
      · exact ha) (by show 3 ≤ 1000; omega) (by show (c ++ ([] ++ (a ++ []))).length ≤ _; rw [List.append_nil, List.nil_append, List.length_append]; omega)
    rw [this]
    show some (downI (c ++ ([] ++ (a ++ [])))) = _
    rw [List.append_nil, List.nil_append]
  have m6 : f_merged [a, c] = some (downI (c ++ a)) := by
    rw [pp a c ha hc la lc]
    congr 1
    exact downI_congr List.perm_append_comm
  have ap := apart_go (rows := [a, b, c]) (due := U) (a := a) (b := b) rfl rfl U 0 rU.pos
  rw [if_pos rfl, apart_of ha hb rU.dn rU.pos fun x hx => pU.mem_iff.mpr (by
    rw [eF]
    rcases hx with m | m
    · exact List.mem_append_left _ m
    · exact List.mem_append_right _ (List.mem_append_left _ m))] at ap
  have u1 := q_unlike ha hb
  have u2 := q_unlike hb ha
  rw [unl_comm] at u2
  have ct : cutD [a, b, c] none (some (0 : Int)) = [] := by
    rw [show (some (0 : Int)) = some ((0 : Nat) : Int) from rfl, cutD_hi]
    rfl
  have tg := together (rows := [a, b, c]) [a, b, c] [] (by rw [← hF]; show 0 + _ ≤ _; omega)
  rw [List.nil_append, ← hF] at tg
  unfold f_w_merges
  refine bs rfl (bs tg (bs (a := U) (by rw [hU]) (bs m1 (bs (same_row (by omega)) ?_))))
  refine bs (a := false) (orF1 (bs (by rw [ct]; exact m0) (bs (same_row (l := []) (by decide)) rfl))) (iF rfl ?_)
  refine bs (catO_ok (by omega)) (bs rfl (bs m2 (bs (same_row (by omega)) ?_)))
  refine bs (a := false) (orF1 (bs m3 (bs (same_row (by rw [ld, List.length_append]; omega)) rfl))) (iF rfl ?_)
  refine bs rfl (bs ap (bs (a := a) rfl (bs (a := b) rfl (bs u1 (bs (same_int _) ?_)))))
  refine bs (a := false) (orF1 (bs (a := b) rfl (bs (a := a) rfl (bs u2 (bs (same_int _) rfl))))) (iF rfl ?_)
  refine bs (q_unlike rU rU) (bs (is_row_yes rU) (bs (a := true) (by rw [unl_self]; exact same_0t) (iF rfl ?_)))
  refine bs (catO_ok (by omega)) (bs (catO_ok (by rw [List.length_append]; omega)) (bs rfl (bs (a := [a, b, c] ++ [[], U]) rfl (bs (a := [a, b, c] ++ [[], U] ++ [a, b, c].reverse) rfl (bs m4 (bs (same_row (by rw [ld, List.length_append, List.length_append]; omega)) (iF rfl ?_)))))))
  refine bs (a := c) rfl (bs (a := a) rfl (bs (catO_ok (by omega)) (bs rfl (bs (a := c) rfl (bs (a := a) rfl (bs m5 (bs (same_row (by rw [ld, List.length_append]; omega)) (bs (a := true) (andT1 (bs (a := a) rfl (bs (a := c) rfl (bs m6 (bs (same_row (by rw [ld, List.length_append]; omega)) rfl))))) rfl))))))))
end K13
namespace K13
open PySem PySem.Spec PyProof.Rows L2 DL
def srtT (ks : List (List Int)) : List (List Int) := sortB (fun p q => decide (p ≤ q)) ks
theorem upT_srt (ks : List (List Int)) : upT ks = srtT ks := by
  refine (upT_uniq (sortB_perm _ ks) ?_).symm
  have z := sortB_pw (le := fun p q : List Int => decide (p ≤ q)) (fun a b c h1 h2 => decide_eq_true (List.le_trans (of_decide_eq_true h1) (of_decide_eq_true h2))) (fun a b => by
    rcases List.le_total a b with h | h
    · rw [decide_eq_true h]; simp
    · rw [decide_eq_true h]; simp) ks
  exact z.imp fun h => of_decide_eq_true h
def preL (w g : Int) : Option (List (List Int)) := (some [[]]).bind fun layer1 => (some [[]]).bind fun rows2 => (rng1O w).bind fun is3 => (forS (fun x_1 (s_ : (List (List Int)) × (List (List Int))) => f_w_listing_L1 w g x_1 s_.1 s_.2) is3 (layer1, rows2)).bind fun s70 => some s70.2
theorem mbO {α β γ : Type} {x : Option α} {g : α → Option β} {f : β → γ} : (x.bind g).map f = x.bind fun a => (g a).map f := by cases x <;> rfl
theorem listing_pre (w g : Int) : f_w_listing w g = (preL w g).map srtT := by
  unfold f_w_listing preL
  simp only [mbO, Option.map_some, upT_srt]
theorem pre_of {w g : Int} {c : List (List Int) → Bool} (h : (preL w g).map (fun ks => c (srtT ks)) = some true) : ∃ L, f_w_listing w g = some L ∧ c L = true := by
  rw [listing_pre]
  cases e : preL w g with
  | none => rw [e] at h; cases h
  | some ks => rw [e] at h; exact ⟨srtT ks, rfl, Option.some.inj h⟩
def tup4 : Nat → List (List Int)
  | 0 => [[]]
  | n + 1 => [1, 2, 3, 4].flatMap fun a => (tup4 n).map fun s => a :: s
def allR (w : Nat) : List (List Int) := ((List.range (w + 1)).flatMap tup4).filter fun s => decide (s.Pairwise (· ≥ ·))
def nxt (L : List (List Int)) (k : Nat) : List Int := if k + 1 < L.length then L.getD (k + 1) [] else [5]
def chkL (w : Nat) (L : List (List Int)) : Bool := ((allR w).all fun s => decide (s ∈ L)) && (((List.range L.length).all fun k => decide (srow w 1 (L.getD k []) = nxt L k)) && decide (L.length ≤ 1000))
theorem chk1 : (preL 1 4).map (fun ks => chkL 1 (srtT ks)) = some true := by decide +kernel
theorem chk2 : (preL 2 4).map (fun ks => chkL 2 (srtT ks)) = some true := by decide +kernel
theorem chk3 : (preL 3 4).map (fun ks => chkL 3 (srtT ks)) = some true := by decide +kernel
def rokB (l : List Int) : Bool := decide (l.Pairwise (· ≥ ·)) && ((l.all fun x => decide (1 ≤ x)) && decide (l.length ≤ 1000))
theorem rok_of {l : List Int} (h : rokB l = true) : Rok l := by
  obtain ⟨h1, h⟩ := Bool.and_eq_true_iff.mp h
  obtain ⟨h2, h3⟩ := Bool.and_eq_true_iff.mp h
  exact ⟨of_decide_eq_true h1, fun x hx => of_decide_eq_true (List.all_eq_true.mp h2 x hx), of_decide_eq_true h3⟩
def nxtG (g : Int) (L : List (List Int)) (k : Nat) : List Int := if k + 1 < L.length then gv L (k + 1 + 1) else [g + 1]
def chkU (a b : List Int) (same : Bool) : Bool := if same = true then decide (unl a b = 0) else match [5, 4, 3, 2, 1].find? (fun x : Int => !decide (a.count x = b.count x)) with
  | none => false
  | some x => decide (unl a b = x) && decide (a.count x < b.count x)
def chkG (w : Nat) (g : Int) (L : List (List Int)) : Bool := decide (L.length ≤ 1000) && (L.all rokB && (List.range L.length).all fun k => decide (srow w 1 (gv L (k + 1)) = nxtG g L k) && chkU (gv L (min k ((k * 7 + 3) % L.length) + 1)) (gv L (max k ((k * 7 + 3) % L.length) + 1)) (decide (k = (k * 7 + 3) % L.length)))
theorem unl_go {L : List (List Int)} {i j : Nat} {t : Int} (hi : i < L.length) (hj : j < L.length) : ∀ (xs : List Int) {x : Int}, xs.find? (fun x : Int => !decide ((gv L (i + 1)).count x = (gv L (j + 1)).count x)) = some x → t = x → (gv L (i + 1)).count x < (gv L (j + 1)).count x → forG (fun x_1 (s_ : Unit) => f_w_unlike_L1 L (i : Int) (j : Int) t x_1) xs () = some (.rt true)
  | [], _, h, _, _ => by cases h
  | y :: ys, x, h, e, lt => by
    show (f_w_unlike_L1 L (i : Int) (j : Int) t y).bind _ = _
    unfold f_w_unlike_L1
    by_cases c : (gv L (i + 1)).count y = (gv L (j + 1)).count y
    · rw [List.find?_cons_of_neg (by rw [decide_eq_true c]; exact Bool.false_ne_true)] at h
      refine bs (bs (atI_at hi) (bs (atI_at hj) (iF (by rw [decide_eq_true (by omega)]; rfl) rfl))) ?_
      exact unl_go hi hj ys h e lt
    · rw [List.find?_cons_of_pos (by rw [decide_eq_false c]; rfl)] at h
      have h := Option.some.inj h
      subst h
      exact bs (bs (atI_at hi) (bs (atI_at hj) (iT (by rw [decide_eq_false (by omega)]; rfl) (bs (same_ints e) (bs (andTT rfl (bs (atI_at hi) (bs (atI_at hj) (congrArg some (decide_eq_true (by omega)))))) rfl))))) rfl
theorem unlike_chk {L : List (List Int)} {i j : Nat} (hi : i < L.length) (hj : j < L.length) (ri : Rok (gv L (i + 1))) (rj : Rok (gv L (j + 1))) (h : chkU (gv L (i + 1)) (gv L (j + 1)) (decide (i = j)) = true) : f_w_unlike L (i : Int) (j : Int) = some true := by
  unfold f_w_unlike
  refine bs (atI_at hi) (bs (atI_at hj) (bs (q_unlike ri rj) (bs (atI_at hi) (bs (atI_at hj) (bs (q_unlike rj ri) (bs (same_ints (unl_comm _ _)) (iF rfl ?_)))))))
  unfold chkU at h
  by_cases c : i = j
  · rw [decide_eq_true c, if_pos rfl] at h
    exact iT (decide_eq_true (by omega)) (bs (same_ints (of_decide_eq_true h)) rfl)
  · rw [decide_eq_false c, if_neg Bool.false_ne_true] at h
    refine iF (decide_eq_false (by omega)) (bs (a := [5, 4, 3, 2, 1]) rfl ?_)
    split at h
    · cases h
    · rename_i x hx
      obtain ⟨h1, h2⟩ := Bool.and_eq_true_iff.mp h
      rw [thenL_rt (unl_go hi hj _ hx (of_decide_eq_true h1) (of_decide_eq_true h2))]
theorem q_listed {w : Nat} {g : Int} {L : List (List Int)} (hw : 1 ≤ w) (e : f_w_listing (w : Int) g = some L) (ck : chkG w g L = true) : f_w_listed (w : Int) g = some true := by
  obtain ⟨c1, ck⟩ := Bool.and_eq_true_iff.mp ck
  obtain ⟨c2, c3⟩ := Bool.and_eq_true_iff.mp ck
  have lL := of_decide_eq_true c1
  have rok : ∀ {k : Nat}, k < L.length → Rok (gv L (k + 1)) := fun {k} hk => rok_of (List.all_eq_true.mp c2 _ (gv_mem (by omega) (by omega)))
  unfold f_w_listed
  refine bs e (bs (rng1O_n (by omega)) ?_)
  rw [thenL_nx (forG_all fun x hx => ?_)]
  obtain ⟨k, hk, rfl⟩ := List.mem_map.mp hx
  have hk := List.mem_range.mp hk
  obtain ⟨s1, s2⟩ := Bool.and_eq_true_iff.mp (List.all_eq_true.mp c3 k (List.mem_range.mpr hk))
  have st := of_decide_eq_true s1
  have rk := rok hk
  have ls := srow_ok (f := 1) hw rk
  have ho : (k * 7 + 3) % L.length < L.length := Nat.mod_lt _ (by omega)
  obtain ⟨o, eo⟩ : ∃ o, o = (k * 7 + 3) % L.length := ⟨_, rfl⟩
  rw [← eo] at ho s2
  have J : ∀ due, due = nxtG g L k → f_w_listed_J1 (w : Int) g L (k : Int) due = some (.nx ()) := fun due ed => by
    have un : f_w_unlike L (min (k : Int) (o : Int)) (max (k : Int) (o : Int)) = some true := by
      have e1 : min (k : Int) (o : Int) = ((min k o : Nat) : Int) := by omega
      have e2 : max (k : Int) (o : Int) = ((max k o : Nat) : Int) := by omega
      rw [e1, e2]
      refine unlike_chk (by omega) (by omega) (rok (by omega)) (rok (by omega)) ?_
      rw [show decide (min k o = max k o) = decide (k = o) from decide_eq_decide.mpr (by omega)]
      exact s2
    have md : modO ((k : Int) * 7 + 3) (L.length : Int) = some (o : Int) := by
      rw [modO_ok (by omega), eo, show (k : Int) * 7 + 3 = ((k * 7 + 3 : Nat) : Int) by omega]
      exact congrArg some (Int.natCast_emod _ _).symm
    unfold f_w_listed_J1
    exact bs (atI_at hk) (bs (q_stepped hw (by omega) rk) (bs (same_rows (by rw [ed]; exact st) (by rw [ed, ← st]; omega)) (bs (a := false) (orF1 (bs (atI_at hk) (bs (is_row_yes rk) (bs same_true rfl)))) (iF rfl (bs md (bs un (iF rfl rfl)))))))
  unfold f_w_listed_L1
  refine bs rfl ?_
  by_cases c : k + 1 < L.length
  · refine iT (decide_eq_true (by omega)) (bs (a := gv L (k + 1 + 1)) ?_ (J _ ?_))
    · rw [show (k : Int) + 1 = ((k + 1 : Nat) : Int) by omega]
      exact atI_at c
    · unfold nxtG
      rw [if_pos c]
  · refine iF (decide_eq_false (by omega)) (J _ ?_)
    unfold nxtG
    rw [if_neg c]
theorem listed_of {w : Nat} {g : Int} (hw : 1 ≤ w) (h : (preL (w : Int) g).map (fun ks => chkG w g (srtT ks)) = some true) : f_w_listed (w : Int) g = some true := by
  obtain ⟨L, e, c⟩ := pre_of h
  exact q_listed hw e c
theorem l_22 : f_w_listed 2 2 = some true := listed_of (w := 2) (by decide) (by decide +kernel)
theorem l_14 : f_w_listed 1 4 = some true := listed_of (w := 1) (by decide) (by decide +kernel)
theorem l_33 : f_w_listed 3 3 = some true := listed_of (w := 3) (by decide) (by decide +kernel)
theorem l_24 : f_w_listed 2 4 = some true := listed_of (w := 2) (by decide) (by decide +kernel)
theorem l_43 : f_w_listed 4 3 = some true := listed_of (w := 4) (by decide) (by decide +kernel)
theorem l_34 : f_w_listed 3 4 = some true := listed_of (w := 3) (by decide) (by decide +kernel)
theorem l_42 : f_w_listed 4 2 = some true := listed_of (w := 4) (by decide) (by decide +kernel)
theorem l_11 : f_w_listed 1 1 = some true := listed_of (w := 1) (by decide) (by decide +kernel)
theorem l_23 : f_w_listed 2 3 = some true := listed_of (w := 2) (by decide) (by decide +kernel)
end K13
namespace K13
open PySem PySem.Spec PyProof.Rows L2 DL
theorem listing4 {w : Nat} (h1 : 1 ≤ w) (h2 : w ≤ 3) : ∃ L, f_w_listing (w : Int) 4 = some L ∧ chkL w L = true := by
  have : w = 1 ∨ w = 2 ∨ w = 3 := by omega
  rcases this with rfl | rfl | rfl
  · exact pre_of (c := chkL 1) chk1
  · exact pre_of (c := chkL 2) chk2
  · exact pre_of (c := chkL 3) chk3
theorem mem_tup4 : ∀ (s : List Int), (∀ x ∈ s, 1 ≤ x ∧ x ≤ 4) → s ∈ tup4 s.length
  | [], _ => List.mem_singleton.mpr rfl
  | a :: s, h => by
    have ha := h a List.mem_cons_self
    refine List.mem_flatMap.mpr ⟨a, ?_, List.mem_map.mpr ⟨s, mem_tup4 s fun x hx => h x (List.mem_cons_of_mem _ hx), rfl⟩⟩
    have : a = 1 ∨ a = 2 ∨ a = 3 ∨ a = 4 := by omega
    rcases this with rfl | rfl | rfl | rfl <;> simp
theorem mem_allR {w : Nat} {s : List Int} (l : s.length ≤ w) (d : Down s) (h : ∀ x ∈ s, 1 ≤ x ∧ x ≤ 4) : s ∈ allR w :=
  List.mem_filter.mpr ⟨List.mem_flatMap.mpr ⟨s.length, List.mem_range.mpr (by omega), mem_tup4 s h⟩, decide_eq_true d⟩
theorem dn_split {h : Int} : ∀ {l : List Int}, Down l → l = (l.filter fun m => decide (h ≤ m)) ++ l.filter fun m => !decide (h ≤ m)
  | [], _ => rfl
  | a :: l, d => by
    obtain ⟨d1, d2⟩ := List.pairwise_cons.mp d
    by_cases c : h ≤ a
    · rw [List.filter_cons, if_pos (decide_eq_true c), List.filter_cons, if_neg (by rw [decide_eq_true c]; exact Bool.false_ne_true), List.cons_append, ← dn_split d2]
    · have nil : ((a :: l).filter fun m => decide (h ≤ m)) = [] := List.filter_eq_nil_iff.mpr fun m hm q => by
        have q := of_decide_eq_true q
        rcases List.mem_cons.mp hm with e | e
        · omega
        · have := d1 m e
          omega
      have al : ((a :: l).filter fun m => !decide (h ≤ m)) = a :: l := List.filter_eq_self.mpr fun m hm => by
        have : ¬ h ≤ m := fun q => by
          have : m ∈ (a :: l).filter fun m => decide (h ≤ m) := List.mem_filter.mpr ⟨hm, decide_eq_true q⟩
          rw [nil] at this
          cases this
        rw [decide_eq_false this]
        rfl
      rw [nil, al]
      rfl
theorem shift {w : Nat} {f : Int} {l : List Int} (hw : 1 ≤ w) (d : Down l) : ((srow w 1 (((l.filter fun m => decide (f ≤ m)).map fun x => x - f + 1).take w)).map fun x => x + f - 1) = srow w f l := by
  obtain ⟨S, hS⟩ : ∃ S, S = l.filter fun m => decide (f ≤ m) := ⟨_, rfl⟩
  obtain ⟨Z, hZ⟩ : ∃ Z, Z = l.filter fun m => !decide (f ≤ m) := ⟨_, rfl⟩
  have sp := dn_split (h := f) d
  rw [← hS, ← hZ] at sp
  rw [← hS, ← List.map_take]
  have dS : Down S := by rw [hS]; exact d.filter _
  have sS : ∀ x ∈ S, f ≤ x := fun x hx => by
    rw [hS] at hx
    exact of_decide_eq_true (List.mem_filter.mp hx).2
  have sZ : ∀ x ∈ Z, x < f := fun x hx => by
    rw [hZ] at hx
    have := (List.mem_filter.mp hx).2
    have q : ¬ f ≤ x := fun q => by
      rw [decide_eq_true q] at this
      cases this
    omega
  have back : ∀ (g : Int) (t : List Int), ((t.map fun x => x - f + 1).filter fun m => decide (g ≤ m)).map (fun x => x + f - 1) = t.filter fun m => decide (g + f - 1 ≤ m) := fun g t => by
    rw [List.filter_map, List.map_map]
    have : ((fun x : Int => x + f - 1) ∘ fun x => x - f + 1) = id := by
      funext x
      show x - f + 1 + f - 1 = x
      omega
    rw [this, List.map_id]
    refine List.filter_congr fun x _ => ?_
    show decide (g ≤ x - f + 1) = _
    exact decide_eq_decide.mpr (by omega)
  have lt : (S.take w).length = min w S.length := List.length_take
  by_cases c : w ≤ S.length
  · have g1 : gv ((S.take w).map fun x => x - f + 1) w = gv S w - f + 1 := by
      have a := gv_of hw (l := (S.take w).map fun x => x - f + 1) (by rw [List.length_map]; omega)
      rw [List.getElem?_map, List.getElem?_take_of_lt (by omega), gv_of hw c] at a
      exact (Option.some.inj a).symm
    have fS := sS _ (gv_mem hw c)
    have s1 : sh w 1 ((S.take w).map fun x => x - f + 1) = gv S w - f + 1 + 1 := by
      unfold sh
      rw [g1, if_pos ⟨by rw [List.length_map]; omega, by omega⟩]
    have wl : w ≤ l.length := by rw [sp, List.length_append]; omega
    have gl : gv l w = gv S w := by
      have a := gv_of hw wl
      rw [sp, List.getElem?_append_left (by omega), gv_of hw c] at a
      rw [sp]
      exact (Option.some.inj a).symm
    have s2 : sh w f l = gv S w + 1 := by
      unfold sh
      rw [gl, if_pos ⟨wl, fS⟩]
    unfold srow
    rw [s1, s2, List.map_append, back, List.map_singleton]
    rw [show gv S w - f + 1 + 1 + f - 1 = gv S w + 1 by omega]
    congr 1
    conv => rhs; rw [sp]
    rw [List.filter_append]
    have nz : (Z.filter fun m => decide (gv S w + 1 ≤ m)) = [] := List.filter_eq_nil_iff.mpr fun x hx q => by
      have := of_decide_eq_true q
      have := sZ x hx
      omega
    rw [nz, List.append_nil]
    have st := List.take_append_drop w S
    have e2 : (S.filter fun m => decide (gv S w + 1 ≤ m)) = ((S.take w).filter fun m => decide (gv S w + 1 ≤ m)) ++ ((S.drop w).filter fun m => decide (gv S w + 1 ≤ m)) := by rw [← List.filter_append, st]
    rw [e2]
    have nd : ((S.drop w).filter fun m => decide (gv S w + 1 ≤ m)) = [] := List.filter_eq_nil_iff.mpr fun x hx q => by
      have q := of_decide_eq_true q
      rw [← st] at dS
      have gm : gv S w ∈ S.take w := by
        have a := gv_of hw (l := S.take w) (by omega)
        rw [List.getElem?_take_of_lt (by omega), gv_of hw c] at a
        rw [Option.some.inj a]
        exact gv_mem hw (by omega)
      have := (List.pairwise_append.mp dS).2.2 _ gm x hx
      omega
    rw [nd, List.append_nil]
  · have tk : S.take w = S := List.take_of_length_le (by omega)
    rw [tk]
    have s1 : sh w 1 (S.map fun x => x - f + 1) = 1 := by
      unfold sh
      rw [if_neg fun q => c (by have := q.1; rw [List.length_map] at this; omega)]
    have s2 : sh w f l = f := by
      unfold sh
      refine if_neg fun q => ?_
      have := (fil_iff (h := f) d hw q.1).mp (by rw [← hS]; omega)
      omega
    unfold srow
    rw [s1, s2, List.map_append, back, List.map_singleton, ← hS]
    rw [show (1 : Int) + f - 1 = f by omega]
    congr 1
    exact List.filter_eq_self.mpr fun x hx => decide_eq_true (sS x hx)
theorem q_placed {w : Nat} {f : Int} {l : List Int} (h1 : 1 ≤ w) (h2 : w ≤ 3) (hf : 1 ≤ f) (h : Rok l) (hi : ∀ x ∈ l, x ≤ f + 3) : f_w_placed l (w : Int) f = some true := by
  obtain ⟨L, e1, ck⟩ := listing4 h1 h2
  obtain ⟨c1, ck⟩ := Bool.and_eq_true_iff.mp ck
  obtain ⟨c2, c3⟩ := Bool.and_eq_true_iff.mp ck
  have lL := of_decide_eq_true c3
  have few := h.few
  obtain ⟨seen, hs⟩ : ∃ s, s = ((l.filter fun m => decide (f ≤ m)).map fun x => x - f + 1).take w := ⟨_, rfl⟩
  have mS : seen ∈ L := by
    refine of_decide_eq_true (List.all_eq_true.mp c1 seen (mem_allR ?_ ?_ ?_))
    · rw [hs, List.length_take]
      omega
    · rw [hs]
      exact (List.pairwise_map.mpr ((h.dn.filter _).imp fun {a b} q => by omega)).sublist (List.take_sublist _ _)
    · intro x hx
      rw [hs] at hx
      obtain ⟨y, hy, rfl⟩ := List.mem_map.mp ((List.take_sublist _ _).subset hx)
      obtain ⟨y1, y2⟩ := List.mem_filter.mp hy
      have := of_decide_eq_true y2
      have := hi y y1
      omega
  obtain ⟨j0, hj0, ej0⟩ := List.getElem_of_mem mS
  obtain ⟨s, f1, p, f2, f3, f4⟩ := forS_J (n := L.length) (f := fun (k : Nat) => (k : Int)) (body := fun x_1 (place_ : Int) => f_w_placed_L1 l (w : Int) f L seen x_1 place_) (s := 0) (fun k s => ∃ p : Nat, s = (p : Int) ∧ p < L.length ∧ ((∃ j, j < k ∧ L[j]? = some seen) → L[p]? = some seen)) ⟨0, rfl, by omega, fun ⟨j, q, _⟩ => absurd q (Nat.not_lt_zero _)⟩ fun k hk s hs => by
    obtain ⟨p, rfl, p1, p2⟩ := hs
    have at_ : atI L (k : Int) = some (gv L (k + 1)) := atI_at hk
    have g := gv_get (l := L) (k := k) hk
    by_cases c : gv L (k + 1) = seen
    · refine ⟨(k : Int), ?_, k, rfl, hk, fun _ => by rw [g, c]⟩
      unfold f_w_placed_L1
      exact bs at_ (iT (decide_eq_true c) rfl)
    · refine ⟨(p : Int), ?_, p, rfl, p1, fun ⟨j, j1, j2⟩ => p2 ⟨j, ?_, j2⟩⟩
      · unfold f_w_placed_L1
        exact bs at_ (iF (decide_eq_false c) rfl)
      · have : j ≠ k := fun e => by
          rw [e, g] at j2
          exact c (Option.some.inj j2)
        omega
  have ep := f4 ⟨j0, hj0, by rw [List.getElem?_eq_getElem hj0, ej0]⟩
  have st := of_decide_eq_true (List.all_eq_true.mp c2 p (List.mem_range.mpr f3))
  rw [List.getD_eq_getElem?_getD, ep] at st
  have st : srow w 1 seen = nxt L p := st
  have sf := shift (f := f) h1 h.dn
  rw [← hs, st] at sf
  have ls := srow_ok (f := f) h1 h
  have fin : ∀ due : List Int, due = nxt L p → ((f_stepped (w : Int) f l).bind fun t23 => (lcC (fun x24 => some true) (fun x24 => some ((x24 + f) - (1 : Int))) due).bind fun t25 => (f_w_same ((tp PyData.int) t23) ((tp PyData.int) t25)).bind fun t26 => some t26) = some true := fun due e => by
    have ld : due.length ≤ 100000 := by
      have := congrArg List.length sf
      rw [List.length_map] at this
      rw [e]
      omega
    refine bs (q_stepped h1 hf h) (bs (lcC_map (g' := fun x => x + f - 1) (by omega) fun _ _ => rfl) (bs (same_rows (by rw [e]; exact sf.symm) (by rw [List.length_map]; omega)) rfl))
  unfold f_w_placed
  refine bs e1 (bs (lcC_fm (p' := fun m => decide (f ≤ m)) (g' := fun x => x - f + 1) (by omega) (fun _ _ => rfl) fun _ _ _ => rfl) (bs (a := seen) ?_ (bs rfl (bs (rng1O_n (by omega)) (bs f1 (bs rfl ?_))))))
  · rw [hs]
    exact congrArg some cutD_hi
  · rw [f2]
    by_cases c : p + 1 < L.length
    · refine iT (decide_eq_true (by omega)) (bs (a := gv L (p + 1 + 1)) ?_ (fin _ ?_))
      · rw [show (p : Int) + 1 = ((p + 1 : Nat) : Int) by omega]
        exact atI_at c
      · unfold nxt
        rw [if_pos c, List.getD_eq_getElem?_getD, gv_get c]
        rfl
    · refine iF (decide_eq_false (by omega)) (fin _ ?_)
      unfold nxt
      rw [if_neg c]
end K13
namespace K13
open PySem PySem.Spec PyProof.Rows L2 DL
def askB : Fsx := (x_ifS (t_of (x_bin p_eq (x_var 0) (x_c (.int 0))))
  (x_drop (x_callX FX_merged [] (a_cons (x_var 1) a_nil)))
  (x_ifS (t_of (x_bin p_eq (x_var 0) (x_c (.int 1))))
  (x_drop (x_callX FX_stepped [] (a_cons (x_var 1) (a_cons (x_var 2) (a_cons (x_var 3) a_nil)))))
  (x_drop (x_callX FX_unlike_at [] (a_cons (x_var 1) (a_cons (x_var 2) a_nil))))))
def askH : Su := (fun k a dd =>
  (s_seq (s_if (t_and (t_of (x_isE (tabF xtab "BookError") k a dd 4)) (t_and (t_not (t_of (x_isE (tabF xtab "Faulty") k a dd 4))) (t_of (x_call F__law_same [] (a_cons (x_fld xok k a dd 4 "at") (a_cons (x_neg (x_c (.int 1))) a_nil))))))
  (s_ret (x_fld xok k a dd 4 "word"))
  s_nx)
  (s_seq (s_ret (x_c (.str "family")))
  s_nx)))
def askT : Fs := (s_seq (s_ret (x_c .none))
  s_nx)
theorem g_ask : g__law_ask = s_seq (noX (x_try askB (tabF xtab "NotUsable") 4 askH)) askT := rfl
abbrev eA (w : Int) (d1 d2 d3 : PyData) : Ev := [im (.int w), im d1, im d2, im d3, none]
def nu (z : Str) : Xc := ⟨"NotUsable", [("at", .int (-1)), ("word", .str z)]⟩
section
variable {w : Int} {d1 d2 d3 : PyData}
theorem fld_of {K : Str} {a dd : Addr} {fs : List (Str × V)} {ps : List (Str × PyData)} {f : Str} {d : PyData} (ok : xok K = true) (hl : ps.lookup f = some d) : x_fld xok K a dd 4 f [im (.int w), im d1, im d2, im d3, some (.ob (.xc a dd fs ps))] = some (.im d, [im (.int w), im d1, im d2, im d3, some (.ob (.xc a dd fs ps))]) := by
  unfold x_fld
  rw [if_pos ok]
  show (if a = a ∧ dd = dd then _ else _) = _
  rw [if_pos ⟨rfl, rfl⟩, hl]
  rfl
theorem isE_of {K : Str} {a dd : Addr} {fs : List (Str × V)} {ps : List (Str × PyData)} {kit : Str → Option Bool} {b : Bool} (hk : kit K = some b) : x_isE kit K a dd 4 [im (.int w), im d1, im d2, im d3, some (.ob (.xc a dd fs ps))] = some (.im (.bool b), [im (.int w), im d1, im d2, im d3, some (.ob (.xc a dd fs ps))]) := by
  unfold x_isE
  show (if a = a ∧ dd = dd then _ else _) = _
  rw [if_pos ⟨rfl, rfl⟩, hk]
  rfl
theorem ask_up {z : Str} (h : askB (eA w d1 d2 d3) = some (.inr (nu z, eA w d1 d2 d3))) : F__law_ask [.int w, d1, d2, d3] = some (.im (.str z)) := by
  refine runF_rt (n := 4) (nl := 1) (g := g__law_ask) (e := eA w d1 d2 d3) rfl ?_
  rw [g_ask]
  show s_seq (noX (x_try askB (tabF xtab "NotUsable") 4 askH)) askT (eA w d1 d2 d3) = _
  have c : caught 4 askH (nu z) (eA w d1 d2 d3) (.rt (.im (.str z)) (eA w d1 d2 d3)) := fun a dd fs => by
    refine ⟨.rt (.im (.str z)) [im (.int w), im d1, im d2, im d3, some (.ob (.xc a dd fs [("at", .int (-1)), ("word", .str z)]))], ?_, rfl⟩
    show askH "NotUsable" a dd [im (.int w), im d1, im d2, im d3, some (.ob (.xc a dd fs [("at", .int (-1)), ("word", .str z)]))] = _
    unfold askH
    have i1 := isE_of (w := w) (d1 := d1) (d2 := d2) (d3 := d3) (K := "NotUsable") (a := a) (dd := dd) (fs := fs) (ps := [("at", .int (-1)), ("word", .str z)]) (kit := tabF xtab "BookError") (b := true) (by rfl)
    have i2 := isE_of (w := w) (d1 := d1) (d2 := d2) (d3 := d3) (K := "NotUsable") (a := a) (dd := dd) (fs := fs) (ps := [("at", .int (-1)), ("word", .str z)]) (kit := tabF xtab "Faulty") (b := false) (by rfl)
    have i3 := fld_of (w := w) (d1 := d1) (d2 := d2) (d3 := d3) (K := "NotUsable") (a := a) (dd := dd) (fs := fs) (ps := [("at", .int (-1)), ("word", .str z)]) (f := "at") (d := .int (-1)) (by rfl) rfl
    have i4 := fld_of (w := w) (d1 := d1) (d2 := d2) (d3 := d3) (K := "NotUsable") (a := a) (dd := dd) (fs := fs) (ps := [("at", .int (-1)), ("word", .str z)]) (f := "word") (d := .str z) (by rfl) rfl
    have ca := callI (φ := F__law_same) (dds := []) (aI i3 (aI (f := x_neg (x_c (.int 1))) (d := .int (-1)) (negI cI) a0)) rfl (k__law_same (same_int (-1)))
    have nt : t_not (t_of (x_isE (tabF xtab "Faulty") "NotUsable" a dd 4)) [im (.int w), im d1, im d2, im d3, some (.ob (.xc a dd fs [("at", .int (-1)), ("word", .str z)]))] = some (true, [im (.int w), im d1, im d2, im d3, some (.ob (.xc a dd fs [("at", .int (-1)), ("word", .str z)]))]) := by
      unfold t_not
      rw [bang i2]
      rfl
    have cc := tandT (bang i1) (tandT nt (bang ca))
    unfold s_seq
    rw [s_ifT cc, DL.ret i4]
  have t := x_try_yes (sub := tabF xtab "NotUsable") (i := 4) h (by rfl) rfl c
  unfold s_seq noX
  rw [t]
theorem ask_ok {e1 : Ev} (h : askB (eA w d1 d2 d3) = some (.inl (.nx e1))) : F__law_ask [.int w, d1, d2, d3] = some (.im .none) := by
  refine runF_rt (n := 4) (nl := 1) (g := g__law_ask) (e := e1) rfl ?_
  rw [g_ask]
  show s_seq (noX (x_try askB (tabF xtab "NotUsable") 4 askH)) askT (eA w d1 d2 d3) = _
  have t := x_try_no (sub := tabF xtab "NotUsable") (i := 4) (g := askH) h
  unfold s_seq noX
  rw [t]
  rfl
theorem eq_w {i j : Int} {b : Bool} (h : decide (i = j) = b) : p_eq (.int i) (.int j) = some (.im (.bool b)) := by rw [e_eq, h]
section
variable {x : Xc} {d : PyData}
theorem b0 {o : Ro} (h : FX_merged [d1] = some o) : askB (eA 0 d1 d2 d3) = x_drop (x_callX FX_merged [] (a_cons (x_var 1) a_nil)) (eA 0 d1 d2 d3) := x_ifST (bang (binI (vI rfl) cI (eq_w (i := 0) (j := 0) rfl)))
theorem b1 : askB (eA 1 d1 d2 d3) = x_drop (x_callX FX_stepped [] (a_cons (x_var 1) (a_cons (x_var 2) (a_cons (x_var 3) a_nil)))) (eA 1 d1 d2 d3) := (x_ifSF (bang (binI (vI rfl) cI (eq_w (i := 1) (j := 0) rfl)))).trans (x_ifST (bang (binI (vI rfl) cI (eq_w (i := 1) (j := 1) rfl))))
theorem b2 : askB (eA 2 d1 d2 d3) = x_drop (x_callX FX_unlike_at [] (a_cons (x_var 1) (a_cons (x_var 2) a_nil))) (eA 2 d1 d2 d3) := (x_ifSF (bang (binI (vI rfl) cI (eq_w (i := 2) (j := 0) rfl)))).trans (x_ifSF (bang (binI (vI rfl) cI (eq_w (i := 2) (j := 1) rfl))))
theorem drop_up {f : Fex} {e : Ev} {y : Xc × Ev} (h : f e = some (.inr y)) : x_drop f e = some (.inr y) := by
  unfold x_drop
  rw [h]
theorem drop_ok {f : Fex} {e e1 : Ev} {r : Rs} (h : f e = some (.inl (r, e1))) : x_drop f e = some (.inl (.nx e1)) := by
  unfold x_drop
  rw [h]
theorem a0_up {z : Str} (h : FX_merged [d1] = some (.inr (nu z))) : F__law_ask [.int 0, d1, d2, d3] = some (.im (.str z)) := ask_up ((b0 h).trans (drop_up (callX_inr (dds := []) (aI (vI rfl) a0) h)))
theorem a0_ok (h : FX_merged [d1] = some (.inl (.im d))) : F__law_ask [.int 0, d1, d2, d3] = some (.im .none) := ask_ok ((b0 h).trans (drop_ok (callX_inl (dds := []) (aI (vI rfl) a0) h)))
theorem a1_up {z : Str} (h : FX_stepped [d1, d2, d3] = some (.inr (nu z))) : F__law_ask [.int 1, d1, d2, d3] = some (.im (.str z)) := ask_up (b1.trans (drop_up (callX_inr (dds := []) (aI (vI rfl) (aI (vI rfl) (aI (vI rfl) a0))) h)))
theorem a1_ok (h : FX_stepped [d1, d2, d3] = some (.inl (.im d))) : F__law_ask [.int 1, d1, d2, d3] = some (.im .none) := ask_ok (b1.trans (drop_ok (callX_inl (dds := []) (aI (vI rfl) (aI (vI rfl) (aI (vI rfl) a0))) h)))
theorem a2_up {z : Str} (h : FX_unlike_at [d1, d2] = some (.inr (nu z))) : F__law_ask [.int 2, d1, d2, d3] = some (.im (.str z)) := ask_up (b2.trans (drop_up (callX_inr (dds := []) (aI (vI rfl) (aI (vI rfl) a0)) h)))
theorem a2_ok (h : FX_unlike_at [d1, d2] = some (.inl (.im d))) : F__law_ask [.int 2, d1, d2, d3] = some (.im .none) := ask_ok (b2.trans (drop_ok (callX_inl (dds := []) (aI (vI rfl) (aI (vI rfl) a0)) h)))
end
end
theorem chI_id {c : PyData} {o : Option Rs} (h : o = some (.im c)) : chI idD o = some c := chI_eq (fun _ _ e => e) h
section
variable {d1 d2 d3 : PyData} {z : Str}
theorem w0_up (h : W.h_merged d1 = some (.inl (nu z))) : f_w_ask 0 d1 d2 d3 = some (.str z) := chI_id (a0_up (W.kh_merged h))
theorem w0_ok {r : List Int} (h : W.h_merged d1 = some (.inr r)) : f_w_ask 0 d1 d2 d3 = some .none := chI_id (a0_ok (W.kh_merged h))
theorem w1_up (h : W.h_stepped d1 d2 d3 = some (.inl (nu z))) : f_w_ask 1 d1 d2 d3 = some (.str z) := chI_id (a1_up (W.kh_stepped h))
theorem w1_ok {r : List Int} (h : W.h_stepped d1 d2 d3 = some (.inr r)) : f_w_ask 1 d1 d2 d3 = some .none := chI_id (a1_ok (W.kh_stepped h))
theorem w2_up (h : W.h_unlike_at d1 d2 = some (.inl (nu z))) : f_w_ask 2 d1 d2 d3 = some (.str z) := chI_id (a2_up (W.kh_unlike_at h))
theorem w2_ok {r : Int} (h : W.h_unlike_at d1 d2 = some (.inr r)) : f_w_ask 2 d1 d2 d3 = some .none := chI_id (a2_ok (W.kh_unlike_at h))
end
end K13
namespace K13
open PySem PySem.Spec PyProof.Rows L2 DL
instance instPD : Inhabited PyData := ⟨.none⟩
theorem wrow (d : PyData) : W.f_is_row d = f_is_row d := rfl
theorem wnat (d : PyData) : W.f_is_natural d = f_is_natural d := rfl
theorem row_nt {d : PyData} (h : isD .tuple d = some false) : f_is_row d = some false := by
  unfold f_is_row
  exact bs h (iT rfl rfl)
theorem all_no {α : Type} {l : List α} {g : α → Bool} (h : ∃ x ∈ l, g x = false) : (l.map g).all id = false := Bool.eq_false_iff.mpr fun q => by
  obtain ⟨x, hx, n⟩ := h
  have := List.all_eq_true.mp q _ (List.mem_map.mpr ⟨x, hx, rfl⟩)
  rw [n] at this
  cases this
theorem row_bad {items : List PyData} (hl : items.length ≤ 100000) (h1 : ∀ x ∈ items, ∃ b, f_is_natural x = some b) (h2 : ∃ x ∈ items, f_is_natural x = some false) : f_is_row (.tuple items) = some false := by
  unfold f_is_row
  refine bs (a := true) rfl (iF rfl (bs (a := items) rfl (bs (lcC_map (g' := fun x => (f_is_natural x).getD false) (by omega) fun a ha => ?_) (iT ?_ rfl))))
  · obtain ⟨b, hb⟩ := h1 a ha
    refine bs hb ?_
    rw [hb]
    rfl
  · obtain ⟨x, hx, n⟩ := h2
    rw [all_no ⟨x, hx, by rw [n]; rfl⟩]
    rfl
theorem row_no {l : List Int} (hl : l.length ≤ 100000) (h : ¬ ((∀ x ∈ l, 1 ≤ x) ∧ Down l)) : f_is_row (tp PyData.int l) = some false := by rw [is_row_int hl, decide_eq_false h]
theorem pickG {α : Type} [Inhabited α] {l : List α} {x : Nat} (h : x < l.length) : ∃ a ∈ l, atI l (x : Int) = some a := ⟨_, gv_mem (v := x + 1) (by omega) (by omega), atI_at h⟩
theorem tp_id (l : List PyData) : tp idD l = .tuple l := congrArg PyData.tuple (List.map_id' l)
def Rw (r : List Int) (n : Nat) : Prop := n ≤ r.length ∧ ∀ x ∈ r, 0 ≤ x ∧ x < 9949
theorem Rw.at_ {r : List Int} {n : Nat} (h : Rw r n) {k : Nat} (hk : k < n) : ∃ x : Nat, atI r (k : Int) = some (x : Int) := by
  have a := (h.2 _ (gv_mem (l := r) (v := k + 1) (by omega) (by have := h.1; omega))).1
  obtain ⟨x, hx⟩ := nat_of a
  exact ⟨x, by rw [← hx]; exact atI_at (by have := h.1; omega)⟩
theorem q_bent {r : List Int} {l : List Int} (hr : Rw r 3) (h : Rok l) : ∃ d, f_w_bent r l = some d ∧ f_is_row d = some false := by
  have few := h.few
  obtain ⟨x, ex⟩ := hr.at_ (k := 0) (by omega)
  obtain ⟨y, ey⟩ := hr.at_ (k := 1) (by omega)
  obtain ⟨k, hk⟩ : ∃ k : Nat, k = x % 8 := ⟨_, rfl⟩
  have k8 : k < 8 := by omega
  have ek : ((x : Nat) : Int) % 8 = (k : Int) := by omega
  have nat_int : ∀ d ∈ l.map PyData.int, ∃ b, f_is_natural d = some b := fun d hd => by
    obtain ⟨i, _, rfl⟩ := List.mem_map.mp hd
    exact ⟨_, q_natural i⟩
  unfold f_w_bent
  refine bsX ex (bsX rfl ?_)
  rw [ek]
  by_cases c0 : (k : Int) = 0
  · exact iTX (decide_eq_true c0) ⟨_, rfl, row_nt rfl⟩
  refine iFX (decide_eq_false c0) ?_
  by_cases c1 : (k : Int) = 1
  · refine iTX (decide_eq_true c1) (bsX (catO_ok (by rw [List.length_singleton]; omega)) ⟨_, rfl, row_no (by rw [List.length_append, List.length_singleton]; omega) fun q => ?_⟩)
    have := q.1 0 (by simp)
    omega
  refine iFX (decide_eq_false c1) ?_
  by_cases c2 : (k : Int) = 2
  · refine iTX (decide_eq_true c2) (bsX (catO_ok (by show l.length + 2 ≤ _; omega)) ⟨_, rfl, row_no (by rw [List.length_append]; show l.length + 2 ≤ _; omega) fun q => ?_⟩)
    have := (List.pairwise_append.mp q.2).2.1
    exact absurd ((List.pairwise_cons.mp this).1 2 (by simp)) (by decide)
  refine iFX (decide_eq_false c2) ?_
  by_cases c3 : (k : Int) = 3
  · refine iTX (decide_eq_true c3) (bsX ey ?_)
    obtain ⟨d, hd, ed⟩ := pickG (l := [(nn ()), (PyData.int (3 : Int)), (PyData.str ("1" : Str)), (PyData.bool true), (PyData.str ("" : Str))]) (x := y % 5) (by show y % 5 < 5; omega)
    refine bsX (a := d) (by rw [show ((y : Nat) : Int) % 5 = ((y % 5 : Nat) : Int) by omega]; exact ed) ⟨_, rfl, row_nt ?_⟩
    simp only [List.mem_cons, List.not_mem_nil, or_false] at hd
    rcases hd with rfl | rfl | rfl | rfl | rfl <;> rfl
  refine iFX (decide_eq_false c3) ?_
  by_cases c4 : (k : Int) = 4
  · refine iTX (decide_eq_true c4) (bsX (catO_ok (by rw [List.length_map, List.length_singleton]; omega)) ⟨_, rfl, ?_⟩)
    rw [tp_id]
    refine row_bad (by rw [List.length_append, List.length_map, List.length_singleton]; omega) (fun d hd => ?_) ⟨.bool true, by simp, rfl⟩
    rcases List.mem_append.mp hd with m | m
    · exact nat_int d m
    · rw [List.mem_singleton.mp m]
      exact ⟨false, rfl⟩
  refine iFX (decide_eq_false c4) ?_
  by_cases c5 : (k : Int) = 5
  · refine iTX (decide_eq_true c5) (bsX (catO_ok (by show 3 + l.length ≤ _; omega)) ⟨_, rfl, row_no (by show l.length + 1 + 1 + 1 ≤ _; omega) fun q => ?_⟩)
    have := (List.pairwise_cons.mp (List.pairwise_cons.mp (show Down (2 :: 1 :: 2 :: l) from q.2)).2).1 2 (by simp)
    exact absurd this (by decide)
  refine iFX (decide_eq_false c5) ?_
  by_cases c6 : (k : Int) = 6
  · refine iTX (decide_eq_true c6) (bsX (catO_ok (by rw [List.length_singleton]; omega)) ⟨_, rfl, row_no (by rw [List.length_append, List.length_singleton]; omega) fun q => ?_⟩)
    have := q.1 (-1) (by simp)
    omega
  refine iFX (decide_eq_false c6) (bsX (catO_ok (by rw [List.length_map, List.length_singleton]; omega)) ⟨_, rfl, ?_⟩)
  rw [tp_id]
  refine row_bad (by rw [List.length_append, List.length_map, List.length_singleton]; omega) (fun d hd => ?_) ⟨.str "2", by simp, rfl⟩
  rcases List.mem_append.mp hd with m | m
  · rw [List.mem_singleton.mp m]
    exact ⟨false, rfl⟩
  · exact nat_int d m
theorem mg_nt {d : PyData} (h : isD .tuple d = some false) : W.h_merged d = some (.inl (nu "rows")) := by
  unfold W.h_merged
  exact bs h (bs (a := true) rfl (iT rfl rfl))
theorem mg_items {items : List PyData} (hl : items.length ≤ 100000) (h1 : ∀ x ∈ items, ∃ b, f_is_row x = some b) (h2 : ∃ x ∈ items, f_is_row x = some false) : W.h_merged (.tuple items) = some (.inl (nu "rows")) := by
  unfold W.h_merged
  refine bs (a := true) rfl (bs (a := true) (orF1 (bs (a := items) rfl (bs (lcC_map (g' := fun x => (f_is_row x).getD false) (by omega) fun a ha => ?_) ?_))) (iT rfl rfl))
  · obtain ⟨b, hb⟩ := h1 a ha
    refine bs ((wrow a).trans hb) ?_
    rw [hb]
    rfl
  · obtain ⟨x, hx, n⟩ := h2
    rw [all_no ⟨x, hx, by rw [n]; rfl⟩]
    rfl
theorem mg_ok {rows : List (List Int)} (h : ∀ l ∈ rows, Rok l) (few : rows.length ≤ 1000) (ff : rows.flatten.length ≤ 100000) : W.h_merged (tp (tp PyData.int) rows) = some (.inr (downI rows.flatten)) := by
  have al : (((rows.map (tp PyData.int)).map fun _ => true).all id) = true := List.all_eq_true.mpr fun b hb => by
    obtain ⟨_, _, rfl⟩ := List.mem_map.mp hb
    rfl
  unfold W.h_merged
  refine bs (a := true) rfl (bs (a := false) (orF1 (bs (a := rows.map (tp PyData.int)) rfl (bs (lcC_map (g' := fun _ => true) (by rw [List.length_map]; omega) fun a ha => ?_) (by rw [al]; rfl)))) (iF rfl (bs ((an_tp (an_tp an_int)).2 _) (bs (a := rows.flatten) ?_ (bs (a := downI rows.flatten) rfl rfl)))))
  · obtain ⟨l, hl, rfl⟩ := List.mem_map.mp ha
    exact bs ((wrow _).trans (is_row_yes (h l hl))) rfl
  · have := lc2C_ok (i := fun x6 : List Int => some x6) (js := fun x => x) (l := rows) (fun _ _ => rfl) (by rw [List.flatMap_id']; omega)
    rw [List.flatMap_id'] at this
    exact this
theorem st_w {a b c : PyData} (h : f_is_natural a = some false) : W.h_stepped a b c = some (.inl (nu "width")) := by
  unfold W.h_stepped
  exact bs ((wnat a).trans h) (iT rfl rfl)
theorem st_f {a b c : PyData} (h : f_is_natural a = some true) (h2 : f_is_natural b = some false) : W.h_stepped a b c = some (.inl (nu "floor")) := by
  unfold W.h_stepped
  exact bs ((wnat a).trans h) (iF rfl (bs ((wnat b).trans h2) (iT rfl rfl)))
theorem st_r {a b c : PyData} (h : f_is_natural a = some true) (h2 : f_is_natural b = some true) (h3 : f_is_row c = some false) : W.h_stepped a b c = some (.inl (nu "row")) := by
  unfold W.h_stepped
  exact bs ((wnat a).trans h) (iF rfl (bs ((wnat b).trans h2) (iF rfl (bs ((wrow c).trans h3) (iT rfl rfl)))))
theorem st_ok : W.h_stepped (.int 1) (.int 1) (tp PyData.int []) = some (.inr [1]) := by kernel_rfl
theorem un_1 {a b : PyData} (h : f_is_row a = some false) : W.h_unlike_at a b = some (.inl (nu "one")) := by
  unfold W.h_unlike_at
  exact bs ((wrow a).trans h) (iT rfl rfl)
theorem un_2 {a b : PyData} (h : f_is_row a = some true) (h2 : f_is_row b = some false) : W.h_unlike_at a b = some (.inl (nu "other")) := by
  unfold W.h_unlike_at
  exact bs ((wrow a).trans h) (iF rfl (bs ((wrow b).trans h2) (iT rfl rfl)))
theorem wun_loop {one other : List Int} : ∀ a b : List Int, forG (fun x_1 (s_ : Unit) => W.h_unlike_at_L1 one other x_1) (a.zip b) () = some (match fd a b with | some r => .rt (.inr r) | none => .nx ())
  | [], [] => rfl
  | [], _ :: _ => rfl
  | x :: l, [] => rfl
  | x :: l, y :: m => by
    rw [List.zip_cons_cons]
    show (W.h_unlike_at_L1 one other (x, y)).bind _ = _
    unfold W.h_unlike_at_L1
    by_cases h : x = y
    · have e : fd (x :: l) (y :: m) = fd l m := if_pos h
      rw [decide_eq_true h, e]
      exact wun_loop (one := one) (other := other) l m
    · have e : fd (x :: l) (y :: m) = some (max x y) := if_neg h
      rw [decide_eq_false h, e]
      rfl
theorem un_ok {a b : List Int} (ha : Rok a) (hb : Rok b) : ∃ o, W.h_unlike_at (tp PyData.int a) (tp PyData.int b) = some o ∧ ∃ r, o = .inr r := by
  unfold W.h_unlike_at
  refine bsX ((wrow _).trans (is_row_yes ha)) (iFX rfl (bsX ((wrow _).trans (is_row_yes hb)) (iFX rfl (bsX ((an_tp an_int).2 _) (bsX ((an_tp an_int).2 _) ?_)))))
  rw [wun_loop]
  cases fd a b with
  | some r => exact ⟨_, rfl, r, rfl⟩
  | none =>
    show ∃ o, (if decide ((b.length : Int) < (a.length : Int)) = true then _ else _) = some o ∧ _
    by_cases c : b.length < a.length
    · exact iTX (decide_eq_true (by omega)) (bsX (atI_at c) ⟨_, rfl, _, rfl⟩)
    · refine iFX (decide_eq_false (by omega)) ?_
      by_cases d : a.length < b.length
      · exact iTX (decide_eq_true (by omega)) (bsX (atI_at d) ⟨_, rfl, _, rfl⟩)
      · exact iFX (decide_eq_false (by omega)) ⟨_, rfl, _, rfl⟩
theorem q_odd {y : Nat} {p : Int} (hp : powO 10 20 = some p) : ∃ d, atI [(PyData.int (0 : Int)), (PyData.int (-1 : Int)), (PyData.bool true), (nn ()), (PyData.str ("2" : Str)), (PyData.int (-p)), ((p1 PyData.int) (1 : Int))] (((y : Nat) : Int) % 7) = some d ∧ f_is_natural d = some false := by
  have p0 : p = 10 ^ 20 := by
    have e : powO 10 20 = some (10 ^ 20 : Int) := by kernel_rfl
    rw [e] at hp
    exact (Option.some.inj hp).symm
  obtain ⟨d, hd, ed⟩ := pickG (l := [(PyData.int (0 : Int)), (PyData.int (-1 : Int)), (PyData.bool true), (nn ()), (PyData.str ("2" : Str)), (PyData.int (-p)), ((p1 PyData.int) (1 : Int))]) (x := y % 7) (by show y % 7 < 7; omega)
  refine ⟨d, by rw [show ((y : Nat) : Int) % 7 = ((y % 7 : Nat) : Int) by omega]; exact ed, ?_⟩
  simp only [List.mem_cons, List.not_mem_nil, or_false] at hd
  rcases hd with rfl | rfl | rfl | rfl | rfl | rfl | rfl
  · rfl
  · rfl
  · rfl
  · rfl
  · rfl
  · rw [q_natural, decide_eq_false (by omega)]
  · rfl
theorem q_refused {r a b c : List Int} {w : Nat} {f : Int} (hr : Rw r 3) (hw : 1 ≤ w) (hf : 1 ≤ f) (ha : Rok a) (hb : Rok b) (hc : Rok c) (la : a.length ≤ 30) (lb : b.length ≤ 30) (lc : c.length ≤ 30) : f_w_refused [a, b, c] (w : Int) f r = some true := by
  obtain ⟨bad, b1, b2⟩ := q_bent hr ha
  obtain ⟨y, ey⟩ := hr.at_ (k := 2) (by omega)
  obtain ⟨p, hp⟩ : ∃ p, powO 10 20 = some p := ⟨_, (show powO 10 20 = some (10 ^ 20 : Int) by kernel_rfl)⟩
  obtain ⟨odd, o1, o2⟩ := q_odd (y := y) hp
  have all3 : ∀ l ∈ [a, b, c], Rok l := fun l hl => by
    simp only [List.mem_cons, List.not_mem_nil, or_false] at hl
    rcases hl with rfl | rfl | rfl
    · exact ha
    · exact hb
    · exact hc
  have nw : f_is_natural (.int (w : Int)) = some true := by rw [q_natural, decide_eq_true (by omega)]
  have nf : f_is_natural (.int f) = some true := by rw [q_natural, decide_eq_true hf]
  have wr : ∀ d : PyData, W.h_merged d = some (.inl (nu "rows")) → f_w_refused_L1 [a, b, c] (w : Int) f bad odd d = some (.nx ()) := fun d h => by
    unfold f_w_refused_L1
    exact bs (w0_up h) (bs same_s1 (iF rfl rfl))
  obtain ⟨u, u1, u2⟩ := un_ok hb ha
  obtain ⟨ur, rfl⟩ := u2
  unfold f_w_refused
  refine bs (a := a) rfl (bs b1 (bs hp (bs ey (bs o1 (bs b2 (bs same_false (bs (a := false) (orF1 (bs (a := a) rfl (bs (is_row_yes ha) (bs same_true rfl)))) (iF rfl ?_))))))))
  refine bs (a := b) rfl (bs (a := bad :: [a, b, c].map (tp PyData.int)) rfl (bs (a := a) rfl (bs (catO_ok (by rw [List.length_singleton]; omega)) ?_)))
  rw [thenL_nx (forG_all fun x hx => ?_)]
  · refine bs (w1_up (st_w o2)) (bs same_s2 (bs (a := false) (orF1 (bs (w1_up (st_f nw o2)) (bs same_s3 rfl))) (iF rfl ?_)))
    refine bs (w1_up (st_r nw nf b2)) (bs same_s4 (bs (a := false) (orF1 (bs (w1_ok st_ok) (bs same_none rfl))) (iF rfl ?_)))
    refine bs (w2_up (un_1 b2)) (bs same_s5 (bs (a := false) (orF1 (bs (a := b) rfl (bs (w2_up (un_2 (is_row_yes hb) b2)) (bs same_s6 rfl)))) (iF rfl ?_)))
    refine bs (a := b) rfl (bs (a := a) rfl (bs (w2_ok u1) (bs same_none (bs (a := true) (andT1 (bs (w0_ok (mg_ok all3 (by show 3 ≤ 1000; omega) ?_)) (bs same_none rfl))) rfl))))
    show (a ++ (b ++ (c ++ []))).length ≤ 100000
    rw [List.append_nil, List.length_append, List.length_append]
    omega
  · have isr : ∀ l ∈ [a, b, c], f_is_row (tp PyData.int l) = some true := fun l hl => is_row_yes (all3 l hl)
    simp only [List.mem_cons, List.not_mem_nil, or_false] at hx
    rcases hx with rfl | rfl | rfl | rfl | rfl | rfl
    · refine wr _ (mg_items (items := [tp PyData.int b, bad]) (by show 2 ≤ 100000; omega) (fun x hx => ?_) ⟨bad, by simp, b2⟩)
      simp only [List.mem_cons, List.not_mem_nil, or_false] at hx
      rcases hx with rfl | rfl
      · exact ⟨_, is_row_yes hb⟩
      · exact ⟨_, b2⟩
    · exact wr _ (mg_nt rfl)
    · refine wr _ ?_
      rw [tp_id]
      refine mg_items (by show 4 ≤ 100000; omega) (fun x hx => ?_) ⟨bad, List.mem_cons_self, b2⟩
      rcases List.mem_cons.mp hx with e | m
      · rw [e]
        exact ⟨_, b2⟩
      · obtain ⟨l, hl, rfl⟩ := List.mem_map.mp m
        exact ⟨_, isr l hl⟩
    · exact wr _ (mg_items (items := [.int 1]) (by show 1 ≤ 100000; omega) (fun x hx => by rw [List.mem_singleton.mp hx]; exact ⟨false, rfl⟩) ⟨.int 1, List.mem_singleton.mpr rfl, rfl⟩)
    · refine wr _ (mg_items (items := (a ++ [2]).map PyData.int) (by rw [List.length_map, List.length_append, List.length_singleton]; omega) (fun x hx => ?_) ⟨.int 2, by simp, rfl⟩)
      obtain ⟨i, _, rfl⟩ := List.mem_map.mp hx
      exact ⟨false, rfl⟩
    · exact wr _ (mg_nt rfl)
end K13
namespace K13
open PySem PySem.Spec PyProof.Rows L2 DL
theorem forS_cs {X σ : Type} {body : X → σ → Option σ} {a : X} {l : List X} {s s' : σ} {o : Option σ} (h : body a s = some s') (k : forS body l s' = o) : forS body (a :: l) s = o := by
  show (body a s).bind _ = _
  rw [h]
  exact k
theorem q_draw {ns : List Int} {a n : Nat} (hn : n ≤ 1000) : ∃ r : List Int, f_w_draw ns (a : Int) (n : Int) = some r ∧ r.length = n ∧ ∀ x ∈ r, 0 ≤ x ∧ x < 9949 := by
  unfold f_w_draw
  by_cases z : ns.length = 0
  · refine iTX (decide_eq_true (by omega)) (bsX (rng1O_n (by omega)) (bsX (lcC_rg (g' := fun _ => (0 : Int)) (by omega) fun _ _ => rfl) ⟨_, rfl, by rw [List.length_map, List.length_range], fun x hx => ?_⟩))
    obtain ⟨k, _, rfl⟩ := List.mem_map.mp hx
    omega
  · refine iFX (decide_eq_false (by omega)) (bsX (modO_ok (by omega)) ?_)
    rw [show (a : Int) % (ns.length : Int) = ((a % ns.length : Nat) : Int) from (Int.natCast_emod _ _).symm]
    refine bsX (atI_at (Nat.mod_lt _ (by omega))) (bsX rfl ?_)
    obtain ⟨cell, hc⟩ : ∃ c, c = gv ns (a % ns.length + 1) := ⟨_, rfl⟩
    rw [← hc]
    refine bsX (andE (q := decide ((10 : Int) ^ 18 ≤ (if cell < 0 then -cell else cell))) fun _ => rfl) ?_
    by_cases y : (decide ((a : Int) < (ns.length : Int)) && decide ((10 : Int) ^ 18 ≤ (if cell < 0 then -cell else cell))) = true
    · refine iTX y (bsX (rng1O_n (by omega)) ?_)
      obtain ⟨s, e1, e2, e3⟩ := forS_J (n := n) (f := fun (k : Nat) => (k : Int)) (fun k (s : Int × List Int) => s.2.length = k ∧ ∀ x ∈ s.2, 0 ≤ x ∧ x < 9949) (body := fun x_1 (s_ : Int × (List Int)) => f_w_draw_L1 (n : Int) x_1 s_.1 s_.2) (s := (cell, [])) ⟨rfl, fun x hx => (by cases hx)⟩ fun k hk s hs => by
        refine ⟨(s.1 / 9949, s.2 ++ [s.1 % 9949]), ?_, by rw [List.length_append, hs.1]; rfl, fun x hx => ?_⟩
        · unfold f_w_draw_L1
          exact bs (appO_ok (by have := hs.1; omega)) (bs rfl rfl)
        · rcases List.mem_append.mp hx with m | m
          · exact hs.2 x m
          · rw [List.mem_singleton.mp m]
            omega
      exact bsX e1 ⟨_, rfl, e2, e3⟩
    · refine iFX (Bool.eq_false_iff.mpr y) (bsX rfl (bsX (rng1O_n (by omega)) ?_))
      obtain ⟨s, e1, e2, e3⟩ := forS_J (n := n) (f := fun (k : Nat) => (k : Int)) (fun k (s : List Int × Int) => s.1.length = k ∧ ∀ x ∈ s.1, 0 ≤ x ∧ x < 9949) (body := fun x_2 (s_ : (List Int) × Int) => f_w_draw_L2 (n : Int) x_2 s_.1 s_.2) (s := ([], (((((cell * (39373 : Int)) + ((a : Int) * (5077 : Int))) + ((ns.length : Int) * (1217 : Int))) + (29 : Int)) % (2147483563 : Int)))) ⟨rfl, fun x hx => (by cases hx)⟩ fun k hk s hs => by
        refine ⟨(s.1 ++ [((((s.2 * (40692 : Int)) + (7793 : Int)) % (2147483399 : Int)) / (13 : Int)) % (9949 : Int)], (((s.2 * (40692 : Int)) + (7793 : Int)) % (2147483399 : Int))), ?_, by rw [List.length_append, hs.1]; rfl, fun x hx => ?_⟩
        · unfold f_w_draw_L2
          exact bs rfl (bs (appO_ok (by have := hs.1; omega)) rfl)
        · rcases List.mem_append.mp hx with m | m
          · exact hs.2 x m
          · rw [List.mem_singleton.mp m]
            omega
      exact bsX e1 ⟨_, rfl, e2, e3⟩
theorem q_row {mn most : Int} (h1 : 1 ≤ most) : ∀ (r acc : List Int), (∀ x ∈ r, 0 ≤ x) → (∀ x ∈ acc, 1 ≤ x) → (mn % 5 = 0 → ∀ x ∈ acc, x ≤ most) → acc.length + r.length ≤ 1000 →
    ∃ out, forS (fun x_1 (members_ : (List Int)) => f_w_row_L1 r most mn x_1 members_) r acc = some out ∧ out.length = acc.length + r.length ∧ (∀ x ∈ out, 1 ≤ x) ∧ (mn % 5 = 0 → ∀ x ∈ out, x ≤ most) := by
  have p29 : powO 10 29 = some (10 ^ 29 : Int) := by kernel_rfl
  have p28 : powO 10 28 = some (10 ^ 28 : Int) := by kernel_rfl
  have p15 : powO 10 15 = some (10 ^ 15 : Int) := by kernel_rfl
  intro r0
  have go : ∀ (r acc : List Int), (∀ x ∈ r, 0 ≤ x) → (∀ x ∈ acc, 1 ≤ x) → (mn % 5 = 0 → ∀ x ∈ acc, x ≤ most) → acc.length + r.length ≤ 1000 →
    ∃ out, forS (fun x_1 (members_ : (List Int)) => f_w_row_L1 r0 most mn x_1 members_) r acc = some out ∧ out.length = acc.length + r.length ∧ (∀ x ∈ out, 1 ≤ x) ∧ (mn % 5 = 0 → ∀ x ∈ out, x ≤ most) := by
    intro r
    induction r with
    | nil => exact fun acc _ h2 h3 _ => ⟨acc, rfl, rfl, h2, h3⟩
    | cons x r ih =>
      intro acc a1 a2 a3 a4
      rw [List.length_cons] at a4
      have x0 := a1 x List.mem_cons_self
      have step : ∃ y, f_w_row_L1 r0 most mn x acc = some (acc ++ [y]) ∧ 1 ≤ y ∧ (mn % 5 = 0 → y ≤ most) := by
        unfold f_w_row_L1
        by_cases c3 : mn % 5 = 3
        · refine ⟨10 ^ 29 + x % 3, iT (decide_eq_true c3) (bs p29 (bs (appO_ok (by omega)) rfl)), by omega, fun e => by omega⟩
        · by_cases c4 : mn % 5 = 4
          · obtain ⟨n, rfl⟩ := nat_of x0
            obtain ⟨d, hd, ed⟩ := pickG (l := [(1 : Int), (2 : Int), 10 ^ 15, 10 ^ 28, 10 ^ 28 + (1 : Int)]) (x := n % 5) (by show n % 5 < 5; omega)
            refine ⟨d, iF (decide_eq_false c3) (iT (decide_eq_true c4) (bs p15 (bs p28 (bs p28 (bs (a := d) ?_ (bs (appO_ok (by omega)) rfl)))))), ?_, fun e => by omega⟩
            · rw [show ((n : Nat) : Int) % 5 = ((n % 5 : Nat) : Int) by omega]
              exact ed
            · simp only [List.mem_cons, List.not_mem_nil, or_false] at hd
              rcases hd with rfl | rfl | rfl | rfl | rfl <;> omega
          · have e1 := Int.emod_nonneg x (show most ≠ 0 by omega)
            have e2 := Int.emod_lt_of_pos x (show 0 < most by omega)
            exact ⟨1 + x % most, iF (decide_eq_false c3) (iF (decide_eq_false c4) (bs (modO_ok (by omega)) (bs (appO_ok (by omega)) rfl))), by omega, fun _ => by omega⟩
      obtain ⟨y, s1, s2, s3⟩ := step
      obtain ⟨out, o1, o2, o3, o4⟩ := ih (acc ++ [y]) (fun z hz => a1 z (List.mem_cons_of_mem _ hz)) (fun z hz => by
        rcases List.mem_append.mp hz with m | m
        · exact a2 z m
        · rw [List.mem_singleton.mp m]; exact s2) (fun e z hz => by
        rcases List.mem_append.mp hz with m | m
        · exact a3 e z m
        · rw [List.mem_singleton.mp m]; exact s3 e) (by rw [List.length_append, List.length_singleton]; omega)
      refine ⟨out, (forS_cs s1 o1), ?_, o3, o4⟩
      rw [o2, List.length_append, List.length_singleton, List.length_cons]
      omega
  exact fun acc => go r0 acc
theorem v_row {mn most : Int} {r : List Int} (h1 : 1 ≤ most) (h : ∀ x ∈ r, 0 ≤ x) (few : r.length ≤ 30) : ∃ l, f_w_row r most mn = some l ∧ Rok l ∧ l.length ≤ 30 ∧ (mn % 5 = 0 → ∀ x ∈ l, x ≤ most) := by
  obtain ⟨out, o1, o2, o3, o4⟩ := q_row (mn := mn) h1 r [] h (fun x hx => by cases hx) (fun _ x hx => by cases hx) (by show 0 + _ ≤ _; omega)
  have lo : out.length ≤ 30 := by
    rw [o2]
    show 0 + _ ≤ _
    omega
  refine ⟨downI out, ?_, rok_down o3 (by omega), by rw [(downI_perm out).length_eq]; exact lo, fun e x hx => o4 e x ((downI_perm out).mem_iff.mp hx)⟩
  unfold f_w_row
  exact bs rfl (bs o1 rfl)
theorem v_row1 {ns first : List Int} {k : Nat} (hk : k < 3) (hf : Rw first 8) : ∃ l, (∀ acc : List (List Int), acc.length ≤ 10 → f_law_L1 ns first (k : Int) acc = some (acc ++ [l])) ∧ Rok l ∧ l.length ≤ 30 := by
  obtain ⟨x, ex⟩ := hf.at_ (k := 5 + k) (by omega)
  obtain ⟨y, ey⟩ := hf.at_ (k := 1) (by omega)
  obtain ⟨z, ez⟩ := hf.at_ (k := 2 + k) (by omega)
  obtain ⟨m, hm, em⟩ := pickG (l := [(2 : Int), (0 : Int), (3 : Int), (1 : Int), (5 : Int), (4 : Int), (7 : Int), (9 : Int), (30 : Int), (6 : Int)]) (x := x % 10) (by show x % 10 < 10; omega)
  have hm : 0 ≤ m ∧ m ≤ 30 := by
    simp only [List.mem_cons, List.not_mem_nil, or_false] at hm
    omega
  obtain ⟨n, rfl⟩ := nat_of hm.1
  obtain ⟨r, r1, r2, r3⟩ := q_draw (ns := ns) (a := 1 + k) (n := n) (by omega)
  obtain ⟨l, l1, l2, l3, _⟩ := v_row (mn := (z : Int)) (most := (2 : Int) + ((y : Int) % 8)) (r := r) (by omega) (fun x hx => (r3 x hx).1) (by omega)
  refine ⟨l, fun acc ha => ?_, l2, l3⟩
  unfold f_law_L1
  refine bs (by rw [show (5 : Int) + (k : Int) = ((5 + k : Nat) : Int) by omega]; exact ex) (bs (by rw [show ((x : Nat) : Int) % 10 = ((x % 10 : Nat) : Int) by omega]; exact em) (bs (by rw [show (1 : Int) + (k : Int) = ((1 + k : Nat) : Int) by omega]; exact r1) (bs ey (bs (by rw [show (2 : Int) + (k : Int) = ((2 + k : Nat) : Int) by omega]; exact ez) (bs l1 (bs (appO_ok (by omega)) rfl))))))
theorem v_law {ns : List Int} : f_law ns = some true := by
  obtain ⟨first, f1, f2, f3⟩ := q_draw (ns := ns) (a := 0) (n := 8) (by omega)
  have hf : Rw first 8 := ⟨by omega, f3⟩
  obtain ⟨x0, ex0⟩ := hf.at_ (k := 0) (by omega)
  obtain ⟨sz, hsz, esz⟩ := pickG (l := [((2 : Int), (2 : Int)), ((1 : Int), (4 : Int)), ((3 : Int), (3 : Int)), ((2 : Int), (4 : Int)), ((4 : Int), (3 : Int)), ((3 : Int), (4 : Int)), ((4 : Int), (2 : Int)), ((1 : Int), (1 : Int)), ((2 : Int), (3 : Int))]) (x := x0 % 9) (by show x0 % 9 < 9; omega)
  have lst : f_w_listed sz.1 sz.2 = some true := by
    simp only [List.mem_cons, List.not_mem_nil, or_false] at hsz
    rcases hsz with rfl | rfl | rfl | rfl | rfl | rfl | rfl | rfl | rfl
    · exact l_22
    · exact l_14
    · exact l_33
    · exact l_24
    · exact l_43
    · exact l_34
    · exact l_42
    · exact l_11
    · exact l_23
  obtain ⟨a, a1, a2, a3⟩ := v_row1 (ns := ns) (k := 0) (by omega) hf
  obtain ⟨b, b1, b2, b3⟩ := v_row1 (ns := ns) (k := 1) (by omega) hf
  obtain ⟨c, c1, c2, c3⟩ := v_row1 (ns := ns) (k := 2) (by omega) hf
  obtain ⟨B, d1, d2, d3⟩ := q_draw (ns := ns) (a := 4) (n := 10) (by omega)
  have hB : Rw B 10 := ⟨by omega, d3⟩
  have p15 : powO 10 15 = some (10 ^ 15 : Int) := by kernel_rfl
  have p29 : powO 10 29 = some (10 ^ 29 : Int) := by kernel_rfl
  obtain ⟨y0, ey0⟩ := hB.at_ (k := 0) (by omega)
  obtain ⟨y1, ey1⟩ := hB.at_ (k := 1) (by omega)
  obtain ⟨y2, ey2⟩ := hB.at_ (k := 2) (by omega)
  obtain ⟨y3, ey3⟩ := hB.at_ (k := 3) (by omega)
  obtain ⟨y4, ey4⟩ := hB.at_ (k := 4) (by omega)
  obtain ⟨y5, ey5⟩ := hB.at_ (k := 5) (by omega)
  obtain ⟨y6, ey6⟩ := hB.at_ (k := 6) (by omega)
  obtain ⟨w, hw, ew⟩ := pickG (l := [(1 : Int), (2 : Int), (3 : Int), (4 : Int), (2 : Int), 10 ^ 15, (3 : Int), (39 : Int)]) (x := y0 % 8) (by show y0 % 8 < 8; omega)
  have hw : 1 ≤ w := by
    simp only [List.mem_cons, List.not_mem_nil, or_false] at hw
    rcases hw with rfl | rfl | rfl | rfl | rfl | rfl | rfl | rfl <;> omega
  obtain ⟨w, rfl⟩ := nat_of (show 0 ≤ w by omega)
  obtain ⟨f, hfl, ef⟩ := pickG (l := [(1 : Int), (2 : Int), (3 : Int), (1 : Int), (5 : Int), 10 ^ 29, (4 : Int), (1 : Int)]) (x := y1 % 8) (by show y1 % 8 < 8; omega)
  have hfl : 1 ≤ f := by
    simp only [List.mem_cons, List.not_mem_nil, or_false] at hfl
    rcases hfl with rfl | rfl | rfl | rfl | rfl | rfl | rfl | rfl <;> omega
  obtain ⟨r, r1, r2, r3⟩ := q_draw (ns := ns) (a := 5) (n := y5 % 9) (by omega)
  obtain ⟨s, s1, s2, s3, s4⟩ := v_row (mn := 0) (most := ((1 : Int) + ((y4 : Int) % 5)) + 3) (r := r) (by omega) (fun x hx => (r3 x hx).1) (by omega)
  have st2 := q_steps (w := 1 + y2 % 4) (f := (1 : Int) + ((y3 : Int) % 6)) (l := b) (by omega) (by omega) b2
  have pl := q_placed (w := 1 + y6 % 3) (f := (1 : Int) + ((y4 : Int) % 5)) (l := s) (by omega) (by omega) (by omega) s2 (s4 rfl)
  have rw3 : Rw (B.drop 7) 3 := ⟨by rw [List.length_drop]; omega, fun x hx => d3 x (List.mem_of_mem_drop hx)⟩
  have ct : cutD B (some (7 : Int)) none = B.drop 7 := by
    rw [show (some (7 : Int)) = some ((7 : Nat) : Int) from rfl, cutD_lo]
  have lp : forS (fun x_1 (rows_ : (List (List Int))) => f_law_L1 ns first x_1 rows_) ((List.range 3).map fun (k : Nat) => (k : Int)) [] = some [a, b, c] :=
    forS_cs (a1 [] (by decide)) (forS_cs (b1 [a] (by show 1 ≤ 10; omega)) (forS_cs (c1 [a, b] (by show 2 ≤ 10; omega)) rfl))
  unfold f_law
  refine bs f1 (bs ex0 (bs (by rw [show ((x0 : Nat) : Int) % 9 = ((x0 % 9 : Nat) : Int) by omega]; exact esz) (bs lst (iF rfl (bs rfl (bs (rng1O_n (n := 3) (by omega)) (bs lp (bs rfl (bs d1 ?_)))))))))
  refine bs p15 (bs ey0 (bs (by rw [show ((y0 : Nat) : Int) % 8 = ((y0 % 8 : Nat) : Int) by omega]; exact ew) (bs p29 (bs ey1 (bs (by rw [show ((y1 : Nat) : Int) % 8 = ((y1 % 8 : Nat) : Int) by omega]; exact ef) ?_)))))
  refine bs (a := a) rfl (bs (q_steps (by omega) hfl a2) (iF rfl ?_))
  refine bs (a := b) rfl (bs ey2 (bs ey3 (bs (a := true) ?_ (iF rfl ?_))))
  · rw [show (1 : Int) + (y2 : Int) % 4 = ((1 + y2 % 4 : Nat) : Int) by omega]
    exact st2
  refine bs ey4 (bs rfl (bs ey5 (bs (a := r) ?_ (bs s1 (bs ey6 (bs (a := true) ?_ (iF rfl ?_)))))))
  · rw [show ((y5 : Nat) : Int) % 9 = ((y5 % 9 : Nat) : Int) by omega]
    exact r1
  · rw [show (1 : Int) + (y6 : Int) % 3 = ((1 + y6 % 3 : Nat) : Int) by omega]
    exact pl
  refine bs (q_merges a2 b2 c2 a3 b3 c3) (bs (a := true) (andT1 (bs ?_ rfl)) rfl)
  rw [ct]
  exact q_refused rw3 (by omega) hfl a2 b2 c2 a3 b3 c3
theorem law_true (ns : List Int) (h : ns.length ≤ 63) : F_law [.list (ns.map PyData.int)] = some (.im (.bool true)) := k_law v_law
end K13
namespace K13
open PySem PySem.Spec PyProof.Rows L2 DL
def level : Nat := 12
def spLaw (K : PySem.W.Frag) : Sp := fun vs H Q _ => ∃ (a : Addr) (ns : List Int), vs = [.ref a] ∧ SqL K H a (ns.map V.int) ∧ ns.length ≤ 63 ∧ ∀ H', Q (.bl true) H'
theorem law_imp {P : Program} {w : World} {K : PySem.W.Frag} {mg : Str → Option Value} {base : Heap} {f : Addr} {fd : FuncData} (h : FnOk P w K mg base CX0 12 f fd ["_law_script"] (spD K 1 F_law)) : FnOk P w K mg base CX0 level f fd ["_law_script"] (spLaw K) := by
  refine h.imp fun vs H Q E z => ?_
  obtain ⟨a, ns, rfl, hs, hl, q⟩ := z
  refine ⟨H, [.list (ns.map PyData.int)], _, Same.refl H, .cons (.lst hs (dpAll_ints ns)) .nil, rfl, law_true ns hl, fun v G' H' _ _ _ _ d => ?_⟩
  cases d
  exact q H'
theorem facts {P : Program} {w : World} {K : PySem.W.Frag} {h : Heap} {mg : Str → Option Value} {f : Addr} (X : K.In h) (G : h.Ns mainGlobals mg) (hfa : mg ("law" : Str) = some (.ref f)) (cx : SaysX fa fn ex K) :
    ∃ fd : FuncData, (∀ (s : Shared) (v : Value), BindsTo s fd ⟨[v], []⟩ [("_law_script", v)]) ∧ ∀ base : Heap, K.In base → base.Ns mainGlobals mg → FnOk P w K mg base CX0 level f fd ["_law_script"] (spLaw K) := by
  have c := cx.d
  have cxx := (He.ba cx.x).1
  have cxr := (He.ba cx.x).2
  have XI := exB_xi X G cxx
  have cxm := cxr
  have B : Bi mg := ⟨He.free_ok X G (c.fact 23 (f := .free "abs") rfl), He.free_ok X G (c.fact 24 (f := .free "all") rfl), He.free_ok X G (c.fact 25 (f := .free "bool") rfl), He.free_ok X G (c.fact 26 (f := .free "int") rfl), He.free_ok X G (c.fact 27 (f := .free "isinstance") rfl), He.free_ok X G (c.fact 28 (f := .free "len") rfl), He.free_ok X G (c.fact 29 (f := .free "list") rfl), He.free_ok X G (c.fact 30 (f := .free "max") rfl), He.free_ok X G (c.fact 31 (f := .free "min") rfl), He.free_ok X G (c.fact 32 (f := .free "range") rfl), He.free_ok X G (c.fact 33 (f := .free "sorted") rfl), He.free_ok X G (c.fact 34 (f := .free "str") rfl), He.free_ok X G (c.fact 35 (f := .free "tuple") rfl), He.free_ok X G (c.fact 36 (f := .free "zip") rfl)⟩
  obtain ⟨fd_is_integer, F_is_integer_⟩ := c.def_ 0 (d := d_is_integer) rfl
  obtain ⟨fd_falling, F_falling_⟩ := c.def_ 2 (d := d_falling) rfl
  obtain ⟨fd_row_after, F_row_after_⟩ := c.def_ 3 (d := d_row_after) rfl
  obtain ⟨fd__law_draw, F__law_draw_⟩ := c.def_ 8 (d := d__law_draw) rfl
  obtain ⟨fd__law_listing, F__law_listing_⟩ := c.def_ 10 (d := d__law_listing) rfl
  obtain ⟨fd__law_row, F__law_row_⟩ := c.def_ 13 (d := d__law_row) rfl
  obtain ⟨fd__law_counted, F__law_counted_⟩ := c.def_ 14 (d := d__law_counted) rfl
  obtain ⟨fd__law_bent, F__law_bent_⟩ := c.def_ 19 (d := d__law_bent) rfl
  obtain ⟨fd_is_natural, F_is_natural_⟩ := c.def_ 1 (d := d_is_natural) rfl
  obtain ⟨fd_is_row, F_is_row_⟩ := c.def_ 4 (d := d_is_row) rfl
  obtain ⟨fd_merged, F_merged_⟩ := c.def_ 5 (d := d_merged) rfl
  obtain ⟨fd_stepped, F_stepped_⟩ := c.def_ 6 (d := d_stepped) rfl
  obtain ⟨fd_unlike_at, F_unlike_at_⟩ := c.def_ 7 (d := d_unlike_at) rfl
  obtain ⟨fd__law_same, F__law_same_⟩ := c.def_ 9 (d := d__law_same) rfl
  obtain ⟨fd__law_unlike, F__law_unlike_⟩ := c.def_ 12 (d := d__law_unlike) rfl
  obtain ⟨fd__law_steps, F__law_steps_⟩ := c.def_ 15 (d := d__law_steps) rfl
  obtain ⟨fd__law_placed, F__law_placed_⟩ := c.def_ 16 (d := d__law_placed) rfl
  obtain ⟨fd__law_merges, F__law_merges_⟩ := c.def_ 17 (d := d__law_merges) rfl
  obtain ⟨fd__law_ask, F__law_ask_⟩ := c.def_ 18 (d := d__law_ask) rfl
  obtain ⟨fd__law_listed, F__law_listed_⟩ := c.def_ 11 (d := d__law_listed) rfl
  obtain ⟨fd__law_refused, F__law_refused_⟩ := c.def_ 20 (d := d__law_refused) rfl
  obtain ⟨fd_law, F_law_⟩ := c.def_ 21 (d := d_law) rfl
  obtain ⟨fd_i_NotUsable, F_i_NotUsable⟩ := c.def_ 22 (d := d_i_NotUsable) rfl
  obtain ⟨fd_i_Faulty, F_i_Faulty⟩ := c.def_ 23 (d := d_i_Faulty) rfl
  have e := hfa.symm.trans (He.glo_ok X G (c.fact 21 (f := .glo "law") rfl))
  cases e
  have b := FunD.bindsA (ps := ["_law_script"]) F_law_ fun _ _ _ _ _ _ us hl => match us, hl with | [_], _ => rfl
  refine ⟨fd_law, fun s v => b s [v] rfl, fun base _ _ => ?_⟩
  have XT_NotUsable : ExT P w K mg base "NotUsable" ["word", "at"] := exB_ini X G cxx (x := "NotUsable") (by decide +kernel) (fun C hC xc hf => init2 F_i_NotUsable sc_i_NotUsable rfl xc.ox (hf "word" (by decide +kernel)) (hf "at" (by decide +kernel)) fun cdv A outer s H E => (pss_cons (ps_ost (pe_var (i := 0) rfl (Or.inl rfl) (by decide) (by decide)) (pe_var (i := 1) rfl (Or.inl rfl) (by decide) (by decide))) (pss_cons (ps_ost (pe_var (i := 0) rfl (Or.inl rfl) (by decide) (by decide)) (pe_var (i := 2) rfl (Or.inl rfl) (by decide) (by decide))) pss_nil))) (F_i_NotUsable.bindsN fun _ _ _ _ _ _ us hl => match us, hl with | [_, _, _], _ => rfl)
  have k_is_integer := ok_is_integer (P := P) (w := w) (mg := mg) (base := base) B F_is_integer_
  have c_is_integer := kfN F_is_integer_ k_is_integer (He.glo_ok X G (c.fact 0 (f := .glo "is_integer") rfl)) fun _ _ _ _ _ _ us hl => match us, hl with | [_], _ => rfl
  have k_falling := ok_falling (P := P) (w := w) (mg := mg) (base := base) B F_falling_
  have c_falling := kfN F_falling_ k_falling (He.glo_ok X G (c.fact 2 (f := .glo "falling") rfl)) fun _ _ _ _ _ _ us hl => match us, hl with | [_], _ => rfl
  have k_row_after := ok_row_after (P := P) (w := w) (mg := mg) (base := base) B F_row_after_
  have c_row_after := kfN F_row_after_ k_row_after (He.glo_ok X G (c.fact 3 (f := .glo "row_after") rfl)) fun _ _ _ _ _ _ us hl => match us, hl with | [_, _, _], _ => rfl
  have k__law_draw := ok__law_draw (P := P) (w := w) (mg := mg) (base := base) B F__law_draw_
  have c__law_draw := kfN F__law_draw_ k__law_draw (He.glo_ok X G (c.fact 8 (f := .glo "_law_draw") rfl)) fun _ _ _ _ _ _ us hl => match us, hl with | [_, _, _], _ => rfl
  have k__law_listing := ok__law_listing (P := P) (w := w) (mg := mg) (base := base) B F__law_listing_
  have c__law_listing := kfN F__law_listing_ k__law_listing (He.glo_ok X G (c.fact 10 (f := .glo "_law_listing") rfl)) fun _ _ _ _ _ _ us hl => match us, hl with | [_, _], _ => rfl
  have k__law_row := ok__law_row (P := P) (w := w) (mg := mg) (base := base) B F__law_row_
  have c__law_row := kfN F__law_row_ k__law_row (He.glo_ok X G (c.fact 13 (f := .glo "_law_row") rfl)) fun _ _ _ _ _ _ us hl => match us, hl with | [_, _, _], _ => rfl
  have k__law_counted := ok__law_counted (P := P) (w := w) (mg := mg) (base := base) B F__law_counted_
  have c__law_counted := kfN F__law_counted_ k__law_counted (He.glo_ok X G (c.fact 14 (f := .glo "_law_counted") rfl)) fun _ _ _ _ _ _ us hl => match us, hl with | [_, _, _], _ => rfl
  have k__law_bent := ok__law_bent (P := P) (w := w) (mg := mg) (base := base) B F__law_bent_
  have c__law_bent := kfN F__law_bent_ k__law_bent (He.glo_ok X G (c.fact 19 (f := .glo "_law_bent") rfl)) fun _ _ _ _ _ _ us hl => match us, hl with | [_, _], _ => rfl
  have k_is_natural := ok_is_natural (P := P) (w := w) (mg := mg) (base := base) F_is_natural_ c_is_integer
  have c_is_natural := kfN F_is_natural_ k_is_natural (He.glo_ok X G (c.fact 1 (f := .glo "is_natural") rfl)) fun _ _ _ _ _ _ us hl => match us, hl with | [_], _ => rfl
  have k_is_row := ok_is_row (P := P) (w := w) (mg := mg) (base := base) B F_is_row_ c_is_natural
  have c_is_row := kfN F_is_row_ k_is_row (He.glo_ok X G (c.fact 4 (f := .glo "is_row") rfl)) fun _ _ _ _ _ _ us hl => match us, hl with | [_], _ => rfl
  have c_is_row_kw0_0 : KfK P w K mg base 3 "is_row" (spD K 1 F_is_row) 0 ["thing"] [0] := ⟨_, fd_is_row, _, k_is_row, (He.glo_ok X G (c.fact 4 (f := .glo "is_row") rfl)), F_is_row_.kp, kbn_of F_is_row_ 0 ["thing"] [0] fun _ _ _ _ _ _ us ws h1 h2 => match us, ws, h1, h2 with | [], [_], _, _ => rfl⟩
  have ky_merged := okx_merged (P := P) (w := w) (mg := mg) (base := base) B XI XT_NotUsable F_merged_ c_falling c_is_row
  have k_merged := ok_merged (P := P) (w := w) (mg := mg) (base := base) B F_merged_ c_falling c_is_row
  have kx_merged := fn_orX k_merged ky_merged
  have c_Xmerged := kfXN F_merged_ kx_merged (He.glo_ok X G (c.fact 5 (f := .glo "merged") rfl)) fun _ _ _ _ _ _ us hl => match us, hl with | [_], _ => rfl
  have c_merged := kfN F_merged_ k_merged (He.glo_ok X G (c.fact 5 (f := .glo "merged") rfl)) fun _ _ _ _ _ _ us hl => match us, hl with | [_], _ => rfl
  have c_merged_kw0_0 : KfK P w K mg base 4 "merged" (spD K 1 F_merged) 0 ["rows"] [0] := ⟨_, fd_merged, _, k_merged, (He.glo_ok X G (c.fact 5 (f := .glo "merged") rfl)), F_merged_.kp, kbn_of F_merged_ 0 ["rows"] [0] fun _ _ _ _ _ _ us ws h1 h2 => match us, ws, h1, h2 with | [], [_], _, _ => rfl⟩
  have ky_stepped := okx_stepped (P := P) (w := w) (mg := mg) (base := base) XI XT_NotUsable F_stepped_ c_is_natural c_is_row c_row_after
  have k_stepped := ok_stepped (P := P) (w := w) (mg := mg) (base := base) F_stepped_ c_is_natural c_is_row c_row_after
  have kx_stepped := fn_orX k_stepped ky_stepped
  have c_Xstepped := kfXN F_stepped_ kx_stepped (He.glo_ok X G (c.fact 6 (f := .glo "stepped") rfl)) fun _ _ _ _ _ _ us hl => match us, hl with | [_, _, _], _ => rfl
  have c_stepped := kfN F_stepped_ k_stepped (He.glo_ok X G (c.fact 6 (f := .glo "stepped") rfl)) fun _ _ _ _ _ _ us hl => match us, hl with | [_, _, _], _ => rfl
  have c_stepped_kw0_2_1_0 : KfK P w K mg base 4 "stepped" (spD K 3 F_stepped) 0 ["row", "floor", "width"] [2, 1, 0] := ⟨_, fd_stepped, _, k_stepped, (He.glo_ok X G (c.fact 6 (f := .glo "stepped") rfl)), F_stepped_.kp, kbn_of F_stepped_ 0 ["row", "floor", "width"] [2, 1, 0] fun _ _ _ _ _ _ us ws h1 h2 => match us, ws, h1, h2 with | [], [_, _, _], _, _ => rfl⟩
  have ky_unlike_at := okx_unlike_at (P := P) (w := w) (mg := mg) (base := base) B XI XT_NotUsable F_unlike_at_ c_is_row
  have k_unlike_at := ok_unlike_at (P := P) (w := w) (mg := mg) (base := base) B F_unlike_at_ c_is_row
  have kx_unlike_at := fn_orX k_unlike_at ky_unlike_at
  have c_Xunlike_at := kfXN F_unlike_at_ kx_unlike_at (He.glo_ok X G (c.fact 7 (f := .glo "unlike_at") rfl)) fun _ _ _ _ _ _ us hl => match us, hl with | [_, _], _ => rfl
  have c_unlike_at := kfN F_unlike_at_ k_unlike_at (He.glo_ok X G (c.fact 7 (f := .glo "unlike_at") rfl)) fun _ _ _ _ _ _ us hl => match us, hl with | [_, _], _ => rfl
  have c_unlike_at_kw0_1_0 : KfK P w K mg base 4 "unlike_at" (spD K 2 F_unlike_at) 0 ["other", "one"] [1, 0] := ⟨_, fd_unlike_at, _, k_unlike_at, (He.glo_ok X G (c.fact 7 (f := .glo "unlike_at") rfl)), F_unlike_at_.kp, kbn_of F_unlike_at_ 0 ["other", "one"] [1, 0] fun _ _ _ _ _ _ us ws h1 h2 => match us, ws, h1, h2 with | [], [_, _], _, _ => rfl⟩
  have kh__law_same : L2H.FnH P w K mg base CX0 9 _ fd__law_same ["_law_one", "_law_other"] (spD K 2 F__law_same) := okh__law_same (P := P) (w := w) (mg := mg) (base := base) B F__law_same_ (fun ok => kfHN F__law_same_ ok (He.glo_ok X G (c.fact 9 (f := .glo "_law_same") rfl)) fun _ _ _ _ _ _ us hl => match us, hl with | [_, _], _ => rfl) 8
  have c_H_law_same := kfHN F__law_same_ kh__law_same (He.glo_ok X G (c.fact 9 (f := .glo "_law_same") rfl)) fun _ _ _ _ _ _ us hl => match us, hl with | [_, _], _ => rfl
  have k__law_same : FnOk P w K mg base CX0 9 _ fd__law_same ["_law_one", "_law_other"] (spD K 2 F__law_same) := ok__law_same (P := P) (w := w) (mg := mg) (base := base) B F__law_same_ (fun ok => kfN F__law_same_ ok (He.glo_ok X G (c.fact 9 (f := .glo "_law_same") rfl)) fun _ _ _ _ _ _ us hl => match us, hl with | [_, _], _ => rfl) 8
  have c__law_same := kfN F__law_same_ k__law_same (He.glo_ok X G (c.fact 9 (f := .glo "_law_same") rfl)) fun _ _ _ _ _ _ us hl => match us, hl with | [_, _], _ => rfl
  have k__law_unlike := ok__law_unlike (P := P) (w := w) (mg := mg) (base := base) B F__law_unlike_ c__law_same c_unlike_at c_unlike_at_kw0_1_0
  have c__law_unlike := kfN F__law_unlike_ k__law_unlike (He.glo_ok X G (c.fact 12 (f := .glo "_law_unlike") rfl)) fun _ _ _ _ _ _ us hl => match us, hl with | [_, _, _], _ => rfl
  have k__law_steps := ok__law_steps (P := P) (w := w) (mg := mg) (base := base) B F__law_steps_ c__law_counted c__law_same c_stepped c_stepped_kw0_2_1_0
  have c__law_steps := kfN F__law_steps_ k__law_steps (He.glo_ok X G (c.fact 15 (f := .glo "_law_steps") rfl)) fun _ _ _ _ _ _ us hl => match us, hl with | [_, _, _], _ => rfl
  have k__law_placed := ok__law_placed (P := P) (w := w) (mg := mg) (base := base) B F__law_placed_ c__law_listing c__law_same c_stepped
  have c__law_placed := kfN F__law_placed_ k__law_placed (He.glo_ok X G (c.fact 16 (f := .glo "_law_placed") rfl)) fun _ _ _ _ _ _ us hl => match us, hl with | [_, _, _], _ => rfl
  have k__law_merges := ok__law_merges (P := P) (w := w) (mg := mg) (base := base) B F__law_merges_ c__law_same c_is_row_kw0_0 c_merged c_merged_kw0_0 c_unlike_at
  have c__law_merges := kfN F__law_merges_ k__law_merges (He.glo_ok X G (c.fact 17 (f := .glo "_law_merges") rfl)) fun _ _ _ _ _ _ us hl => match us, hl with | [_], _ => rfl
  have k__law_ask := ok__law_ask (P := P) (w := w) (mg := mg) (base := base) B XI F__law_ask_ c_H_law_same c_Xmerged c_Xstepped c_Xunlike_at
  have c__law_ask := kfN F__law_ask_ k__law_ask (He.glo_ok X G (c.fact 18 (f := .glo "_law_ask") rfl)) fun _ _ _ _ _ _ us hl => match us, hl with | [_, _, _, _], _ => rfl
  have k__law_listed := ok__law_listed (P := P) (w := w) (mg := mg) (base := base) B F__law_listed_ c__law_listing c__law_same c__law_unlike c_is_row c_stepped
  have c__law_listed := kfN F__law_listed_ k__law_listed (He.glo_ok X G (c.fact 11 (f := .glo "_law_listed") rfl)) fun _ _ _ _ _ _ us hl => match us, hl with | [_, _], _ => rfl
  have k__law_refused := ok__law_refused (P := P) (w := w) (mg := mg) (base := base) B F__law_refused_ c__law_ask c__law_bent c__law_same c_is_row
  have c__law_refused := kfN F__law_refused_ k__law_refused (He.glo_ok X G (c.fact 20 (f := .glo "_law_refused") rfl)) fun _ _ _ _ _ _ us hl => match us, hl with | [_, _, _, _], _ => rfl
  have k_law := ok_law (P := P) (w := w) (mg := mg) (base := base) B F_law_ c__law_draw c__law_listed c__law_merges c__law_placed c__law_refused c__law_row c__law_steps
  exact law_imp k_law
end K13
open PySem PySem.W PySem.Calls PyProof.Rows
theorem PySem.Challenge.cw_sincemarks_k13_whole_steps_go_to_the_nex_holds : PySem.Challenge.rw_sincemarks_k13_whole_steps_go_to_the_nex.Holds := by
  w_on; o_law
  refine HandSHeadRun.head_any (r := OpenLaw.row PySem.Challenge.rw_sincemarks_k13_whole_steps_go_to_the_nex) (q := view (OpenLaw.row PySem.Challenge.rw_sincemarks_k13_whole_steps_go_to_the_nex).prog [30]) (H := K13.hk) (ob := K13.ob) (M := 6000) (loose := K13.names) (d := HandSHeadRun.topDef (OpenLaw.row PySem.Challenge.rw_sincemarks_k13_whole_steps_go_to_the_nex).prog 30) (kwd := []) K13.ob_eq
    (by kernel_rfl) (fun s => by kernel_rfl) K13.run (by kernel_rfl) (by kernel_rfl) (by kernel_rfl) (by rfl) (by first | assumption | decide +kernel) (by decide +kernel) ⟨rfl, rfl, rfl, rfl, rfl, by decide +kernel⟩ ?hw ?hc
  case hw => w_witness2
  case hc =>
    refine L2.walk_ofE (l := PySem.Challenge.rw_sincemarks_k13_whole_steps_go_to_the_nex) (n := 63) (k := K13.level) (x := "_law_script") (CX := L2.CX0) rfl (by decide) (by kernel_rfl) ⟨rfl, by decide, by decide⟩ ?F (fun _ _ _ _ z => z)
    intro w mg fa h Y G hmg0
    obtain ⟨K, KX, c⟩ := Y
    have hmg : mg ("law" : PySem.Str) = some (.ref fa) := by
      have e : (HandSHeadRun.topDef (OpenLaw.row PySem.Challenge.rw_sincemarks_k13_whole_steps_go_to_the_nex).prog 30).name = ("law" : PySem.Str) := by kernel_rfl
      rw [← e]
      exact hmg0
    obtain ⟨fd, hb, hF⟩ := K13.facts (P := (PySem.Challenge.rw_sincemarks_k13_whole_steps_go_to_the_nex).prog) (w := w) KX G hmg c
    exact ⟨K, fd, K13.spLaw K, KX, hb, fun H a ns hl _ hS => ⟨a, ns, rfl, hS, hl, fun _ => rfl⟩, hF⟩
