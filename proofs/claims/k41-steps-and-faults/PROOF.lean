import PyProof.Rows.All
import HandS.HeadHook4
import HandS.EndTab
import Wide.All
import OpenK.AllK
import Wide.FinOn
import KE.KStateDown
import HandS.ForMost
import HandS.Exc
import HandS.TryOnly
import HandS.ExcOwn
import HandS.Wide
import HandS.IsInst
import HandS.Defaults
import HandS.WordsExc
import HandS.HeadHook1
import HandS.HeadHook2
import HandS.Lambda
import KE.KDictKeyed
import HandS.CallSlots
import HandS.SortInts
import HandS.Text
import HandS.Head0
import HandS.Head1
import HandS.Head2
import HandS.HeadEnd
import HandS.Conv
import HandS.Style
import HandS.More
import HandS.TupLe
import HandS.SortOrd
import HandS.SortRule
import PyProof.Draws
import PyProof.EnumMake
import HandS.SetFor
import PyProof.SetRoads
import PyProof.Rows.SetFrom
import PyProof.StrOps2
import HandS.SetBool
import HandS.Strs
import KE.DataCmp
import KE.KStar
import HandS.Star
import HandS.ExcField
import HandS.ExcInit
import KE.KIsAll
import KE.KDictSum
import HandS.ExcValue
import HandS.RaiseMore
import HandS.Dict
import PyProof.ReprReads
import PyProof.ReprRoads
import HandS.Replace
import HandS.ReplaceLit
import HandS.ReplaceDef
import KE.DataMinMax
import PyProof.Claim2Refuses
import PyProof.NeKinds
import KE.KIntText
import HandS.Deep
import HandS.ExcIs
import KE.KExcIs
import PyProof.CompFree
import HandS.DictComp
import KE.SortData
import KE.KDictDisplayH
import KE.KDictWalk
import KE.GoesEnum
import KE.GoesMore
import HandS.Zip
import PyProof.WalksMore
import PyProof.CollectIter
import HandS.HeadHook3
import HandS.TupSets
import KE.KeyNested
import KE.KSortTup
import KE.KDictCopyH
import PySem.Challenge.RW_strictranks_k41_steps_and_faults
import PyProof.ReprLen
import PyProof.FitsInt
import PyProof.StrLawsRepr
import PyProof.ReprText
import HandS.ReplaceList
namespace L2.VL
end L2.VL
namespace L2.TX
end L2.TX
section
set_option Elab.async false
set_option linter.all false
namespace L2.VL
open PySem
def lamN : List Str := []
end L2.VL
end
section
set_option Elab.async false
set_option linter.all false
set_option maxRecDepth 100000
namespace L2.VL
open PySem PySem.Spec PyProof.Rows
inductive D where
  | con (v : V)
  | lst (xs : List D)
  | tup (xs : List D)
  | dic (kvs : List (Key × D))
  | dit (kvs : List (List Key × D))
  /-- a list whose items are lists of their own (or tuples with one) -/
  | own (xs : List D)
  /-- a caught exception of the own class c -/
  | exv (c : Str)
  /-- the function object at f, made by a lambda, with the values that it took along and their data -/
  | fnv (f : Addr) (us : List V) (xs : List D)
  /-- a dict whose keys are whole numbers and tuples of these, nested -/
  | dix (kvs : List (NestedKey × V))
abbrev D.int (i : Int) : D := .con (.int i)
abbrev D.str (s : Str) : D := .con (.str s)
abbrev D.bl (b : Bool) : D := .con (.bl b)
abbrev D.non : D := .con .non
/-- a list, a tuple of the written part -/
def KL (K : PySem.W.Frag) (a : Addr) (vs : List V) : Prop :=
  ∃ (o : Obj) (its : Array Value) (n : Nat), K.lookup a = some o ∧ o.cls = .type "list" ∧ o.dict = none ∧ o.data = .seq its n ∧ its.size ≤ sizeLine ∧ Vals vs its.toList
def KT (K : PySem.W.Frag) (a : Addr) (vs : List V) : Prop :=
  ∃ (o : Obj) (its : Array Value) (n : Nat), K.lookup a = some o ∧ o.cls = .type "tuple" ∧ o.data = .seq its n ∧ its.size ≤ sizeLine ∧ Vals vs its.toList
mutual
/-- whole numbers, and tuples of these -/
def flI : NestedKey → Bool
  | .num _ => true
  | .tup ks => flIs ks
  | _ => false
def flIs : List NestedKey → Bool
  | [] => true
  | k :: ks => flI k && flIs ks
end
mutual
/-- such a key as data -/
def nkD : NestedKey → D
  | .num i => .con (.int i)
  | .tup ks => .tup (nkDs ks)
  | _ => .con .non
def nkDs : List NestedKey → List D
  | [] => []
  | k :: ks => nkD k :: nkDs ks
end
/-- the dict at a: its keys' tuples at the addresses told, its values -/
def DixR (h : Heap) (a : Addr) (xs : List (NestedKey × Addr × V)) : Prop := ∃ (w : World) (o : Obj) (es : Array DictEntry) (ep : Nat) (ys : List (NestedKey × Addr × Value)), (a == sysModules) = false ∧ h.get? a = some o ∧ o.ExactDict ∧ o.data = .dict es ep ∧
  es.toList = ys.map (fun x => (⟨x.1.hash w, .ref x.2.1, x.2.2⟩ : DictEntry)) ∧ Paired (fun (x : NestedKey × Addr × V) (y : NestedKey × Addr × Value) => x.1 = y.1 ∧ x.2.1 = y.2.1 ∧ RelV x.2.2 y.2.2) xs ys ∧ (xs.map (·.1)).Nodup ∧ xs.length ≤ sizeLine ∧ ∀ x ∈ xs, flI x.1 = true ∧ x.1.depth ≤ 8
/-- an exception's object: its class, its dict -/
def exHO (a : Addr) (cls : Value) (d : Option Addr) : HO := .ext fun h => ∃ oe vs, h.get? a = some oe ∧ Zc cls d oe ∧ oe.data = .fields vs
mutual
/-- the value v is the data d; L: the addresses that it may not hold -/
inductive Rep (K : PySem.W.Frag) (H : Hp) (L : Addr → Prop) : V → D → Prop
  | con (v : V) : Rep K H L v (.con v)
  | obj {a : Addr} {ho : HO} {d : D} : ¬ L a → Rd H a ho → Cont K H L ho d → Rep K H L (.ref a) d
  | kl {a : Addr} {vs : List V} {ds : List D} : KL K a vs → Reps K H L vs ds → Rep K H L (.ref a) (.lst ds)
  | kt {a : Addr} {vs : List V} {ds : List D} : KT K a vs → Reps K H L vs ds → Rep K H L (.ref a) (.tup ds)
  | ow {v : V} {ds : List D} : Rep K H L v (.lst ds) → Rep K H L v (.own ds)
  | exv {a : Addr} {c : Str} {d : Option Addr} : ¬ L a → H a = some (exHO a (.ref (He.ga K c)) d) → (∀ e, d = some e → ¬ L e ∧ ∃ ho, H e = some ho) → Rep K H L (.ref a) (.exv c)
  | fnv {f : Addr} {us : List V} {ds : List D} : Reps K H L us ds → Rep K H L (.ref f) (.fnv f us ds)
inductive Reps (K : PySem.W.Frag) (H : Hp) (L : Addr → Prop) : List V → List D → Prop
  | nil : Reps K H L [] []
  | cons {v : V} {vs : List V} {d : D} {ds : List D} : Rep K H L v d → Reps K H L vs ds → Reps K H L (v :: vs) (d :: ds)
inductive RepK (K : PySem.W.Frag) (H : Hp) (L : Addr → Prop) : List (Key × V) → List (Key × D) → Prop
  | nil : RepK K H L [] []
  | cons {k : Key} {v : V} {vs : List (Key × V)} {d : D} {ds : List (Key × D)} : Rep K H L v d → RepK K H L vs ds → RepK K H L ((k, v) :: vs) ((k, d) :: ds)
inductive RepT (K : PySem.W.Frag) (H : Hp) (L : Addr → Prop) : List (List Key × V) → List (List Key × D) → Prop
  | nil : RepT K H L [] []
  | cons {k : List Key} {v : V} {vs : List (List Key × V)} {d : D} {ds : List (List Key × D)} : Rep K H L v d → RepT K H L vs ds → RepT K H L ((k, v) :: vs) ((k, d) :: ds)
/-- what an object's content says -/
inductive Cont (K : PySem.W.Frag) (H : Hp) (L : Addr → Prop) : HO → D → Prop
  | lst {vs : List V} {ds : List D} : Reps K H L vs ds → Cont K H L (.lst vs) (.lst ds)
  | tup {vs : List V} {ds : List D} : Reps K H L vs ds → Cont K H L (.tup vs) (.tup ds)
  | dic {vs : List (Key × V)} {ds : List (Key × D)} : RepK K H L vs ds → Cont K H L (.dK vs) (.dic ds)
  | dit {vs : List (List Key × V)} {ds : List (List Key × D)} : RepT K H L vs ds → Cont K H L (.dT vs) (.dit ds)
  | dixE : Cont K H L (.dK []) (.dix [])
  | dix {a : Addr} {xs : List (NestedKey × Addr × V)} {kvs : List (NestedKey × V)} : kvs = xs.map (fun x => (x.1, x.2.2)) → Reps K H L (xs.map fun x => V.ref x.2.1) (xs.map fun x => nkD x.1) → Cont K H L (.ext fun h => DixR h a xs) (.dix kvs)
end
section
variable {K : PySem.W.Frag} {H H' : Hp} {L L' : Addr → Prop}
/-- what is read stays -/
def Stay (H H' : Hp) (L L' : Addr → Prop) : Prop := ∀ a o, ¬ L a → H a = some o → H' a = some o ∧ ¬ L' a
theorem Stay.rd (h : Stay H H' L L') {a : Addr} {ho : HO} (n : ¬ L a) (r : Rd H a ho) : Rd H' a ho ∧ ¬ L' a := by
  rcases r with r | ⟨o, r⟩
  · exact ⟨.inl (h a _ n r).1, (h a _ n r).2⟩
  · exact ⟨.inr ⟨o, (h a _ n r).1⟩, (h a _ n r).2⟩
mutual
theorem Rep.mono (h : Stay H H' L L') : ∀ {v : V} {d : D}, Rep K H L v d → Rep K H' L' v d
  | _, _, .con v => .con v
  | _, _, .obj n r c => .obj (h.rd n r).2 (h.rd n r).1 (Cont.mono h c)
  | _, _, .kl k r => .kl k (Reps.mono h r)
  | _, _, .kt k r => .kt k (Reps.mono h r)
  | _, _, .ow r => .ow (Rep.mono h r)
  | _, _, .exv n r q => .exv (h _ _ n r).2 (h _ _ n r).1 fun e he => (q e he).elim fun n2 ⟨ho, r2⟩ => ⟨(h _ _ n2 r2).2, ho, (h _ _ n2 r2).1⟩
  | _, _, .fnv r => .fnv (Reps.mono h r)
theorem Reps.mono (h : Stay H H' L L') : ∀ {v : List V} {d : List D}, Reps K H L v d → Reps K H' L' v d
  | _, _, .nil => .nil
  | _, _, .cons a b => .cons (Rep.mono h a) (Reps.mono h b)
theorem RepK.mono (h : Stay H H' L L') : ∀ {v : List (Key × V)} {d : List (Key × D)}, RepK K H L v d → RepK K H' L' v d
  | _, _, .nil => .nil
  | _, _, .cons a b => .cons (Rep.mono h a) (RepK.mono h b)
theorem RepT.mono (h : Stay H H' L L') : ∀ {v : List (List Key × V)} {d : List (List Key × D)}, RepT K H L v d → RepT K H' L' v d
  | _, _, .nil => .nil
  | _, _, .cons a b => .cons (Rep.mono h a) (RepT.mono h b)
theorem Cont.mono (h : Stay H H' L L') : ∀ {v : HO} {d : D}, Cont K H L v d → Cont K H' L' v d
  | _, _, .lst r => .lst (Reps.mono h r)
  | _, _, .tup r => .tup (Reps.mono h r)
  | _, _, .dic r => .dic (RepK.mono h r)
  | _, _, .dit r => .dit (RepT.mono h r)
  | _, _, .dixE => .dixE
  | _, _, .dix e r => .dix e (Reps.mono h r)
end
theorem Reps.len : ∀ {v : List V} {d : List D}, Reps K H L v d → v.length = d.length
  | _, _, .nil => rfl
  | _, _, .cons _ b => congrArg (· + 1) b.len
theorem Reps.get : ∀ {v : List V} {d : List D} {i : Nat} {x : D}, Reps K H L v d → d[i]? = some x → ∃ u, v[i]? = some u ∧ Rep K H L u x
  | _, _, _, _, .nil, e => by simp at e
  | _, _, 0, _, .cons a b, e => by simp at e; subst e; exact ⟨_, rfl, a⟩
  | _, _, i + 1, x, .cons a b, e => by
    obtain ⟨u, h1, h2⟩ := Reps.get (i := i) (x := x) b (by simpa using e)
    exact ⟨u, by simpa using h1, h2⟩
theorem Reps.append : ∀ {v w : List V} {d e : List D}, Reps K H L v d → Reps K H L w e → Reps K H L (v ++ w) (d ++ e)
  | _, _, _, _, .nil, r => r
  | _, _, _, _, .cons a b, r => .cons a (b.append r)
theorem Reps.set {u : V} {x : D} (r : Rep K H L u x) : ∀ {v : List V} {d : List D} (i : Nat), Reps K H L v d → Reps K H L (v.set i u) (d.set i x)
  | _, _, _, .nil => .nil
  | _, _, 0, .cons _ b => .cons r b
  | _, _, i + 1, .cons a b => .cons a (Reps.set r i b)
theorem Reps.take : ∀ {v : List V} {d : List D} (n : Nat), Reps K H L v d → Reps K H L (v.take n) (d.take n)
  | _, _, 0, _ => by simpa using .nil
  | _, _, _ + 1, .nil => .nil
  | _, _, n + 1, .cons a b => .cons a (Reps.take n b)
theorem Reps.drop : ∀ {v : List V} {d : List D} (n : Nat), Reps K H L v d → Reps K H L (v.drop n) (d.drop n)
  | _, _, 0, r => r
  | _, _, _ + 1, .nil => .nil
  | _, _, n + 1, .cons a b => Reps.drop n b
/-- scalars -/
theorem Reps.cons_map {α : Type} (f : α → V) : ∀ xs : List α, Reps K H L (xs.map f) (xs.map fun x => .con (f x))
  | [] => .nil
  | x :: r => .cons (.con _) (Reps.cons_map f r)
theorem Rep.con_inv {v c : V} (r : Rep K H L v (.con c)) : v = c := by
  cases r with
  | con => rfl
  | obj _ _ c => cases c
theorem Reps.con_inv {α : Type} {f : α → V} : ∀ {v : List V} {xs : List α}, Reps K H L v (xs.map fun x => .con (f x)) → v = xs.map f
  | _, [], r => by cases r; rfl
  | _, x :: xs, r => by
    cases r with
    | cons a b => rw [a.con_inv, b.con_inv]; rfl
end
inductive Ow where
  | sl (i : Nat) | tp (n : Nat) | out
  deriving DecidableEq
abbrev Own := Addr → Option Ow
def lin (O : Own) (a : Addr) : Prop := O a ≠ none
structure Slot where
  d : D
  own : Bool
  pin : Bool
abbrev Rho := List (Option Slot)
inductive Kd where
  | shr | fr | nm (i : Nat)
structure Tmp where
  v : V
  d : D
  k : Kd
/-- the table at b of a maker's code object, with the name that the code objects in it bear -/
def tbkL (K : PySem.W.Frag) (b : Addr) : List Str → Option Str
  | [] => none
  | x :: r => if b = (He.cT K (x, none)).2 then some ((x ++ ".<locals>.") ++ "<lambda>") else tbkL K b r
def tbk (K : PySem.W.Frag) (b : Addr) : Option Str := tbkL K b lamN
/-- what stays the same through a def's body: what stands outside, what is outside's own, the pinned parameters -/
structure Fix where
  K : PySem.W.Frag
  Fr : Hp
  Out : Addr → Prop
  Pin : Nat → Option V
  tbo : ∀ P q, tbk K P = some q → Out P ∧ Fr P = none
/-- the tables of code objects that may grow, each with the name that its code objects bear -/
abbrev Fix.Tb (G : Fix) (b : Addr) : Option Str := tbk G.K b
/-- all stands still, but tables -/
def frzT (K : PySem.W.Frag) (H : Hp) (Pin : Nat → Option V) : Fix := { K := K, Fr := fun b => if (tbk K b).isSome = true then none else H b, Out := fun b => (tbk K b).isSome = true, Pin := Pin, tbo := fun P q h => by rw [h]; exact ⟨rfl, if_pos rfl⟩ }
def ownT (K : PySem.W.Frag) : Own := fun b => if (tbk K b).isSome = true then some .out else none
/-- an object is there; where it is a table that is told of, its code objects bear its name -/
def TrOk (G : Fix) (H : Hp) (a : Addr) : Prop := (∃ o, H a = some o) ∧ ∀ q, G.Tb a = some q → LamX.TabS H a q
/-- neither a table nor a code object -/
def Pl (a : Addr) (o : HO) : Prop := (∀ ps, o ≠ .tbl ps) ∧ ∀ q, o ≠ LamX.CodeO a q
theorem tab_upd {H : Hp} {a P : Addr} {q : Str} {ho ho' : HO} (t : LamX.TabS H P q) (ha : H a = some ho) (p : Pl a ho) : LamX.TabS (upd H a ho') P q := by
  obtain ⟨ps, h1, h2, h3⟩ := t
  have n1 : P ≠ a := fun z => by
    rw [z, ha] at h1
    exact p.1 _ (Option.some.inj h1)
  refine ⟨ps, by rw [upd_ne n1]; exact h1, h2, fun pos cv hc => ?_⟩
  obtain ⟨c, e1, e2⟩ := h3 pos cv hc
  have n2 : c ≠ a := fun z => by
    rw [z, ha] at e2
    exact p.2 _ (Option.some.inj e2)
  exact ⟨c, e1, by rw [upd_ne n2]; exact e2⟩
theorem TrOk.ext {G : Fix} {H H' : Hp} {a : Addr} (t : TrOk G H a) (e : ∀ b o, H b = some o → H' b = some o) : TrOk G H' a := ⟨let ⟨o, h⟩ := t.1; ⟨o, e _ _ h⟩, fun q hq => (t.2 q hq).ext e⟩
theorem TrOk.upd {G : Fix} {H : Hp} {a b : Addr} {ho ho' : HO} (t : TrOk G H a) (hb : H b = some ho) (p : Pl b ho) : TrOk G (L2.upd H b ho') a := by
  refine ⟨?_, fun q hq => tab_upd (t.2 q hq) hb p⟩
  by_cases z : a = b
  · rw [z]; exact ⟨_, upd_same⟩
  · rw [upd_ne z]; exact t.1
theorem TrOk.fresh {G : Fix} {H : Hp} {a p : Addr} {ho : HO} (t : TrOk G H a) (hp : H p = none) : TrOk G (L2.upd H p ho) a := t.ext fun b o e => by rw [upd_ne (fun z => by rw [z, hp] at e; cases e)]; exact e
def Owned (K : PySem.W.Frag) (H : Hp) (O : Own) (w : Ow) (v : V) (d : D) : Prop :=
  ∃ a ho, v = .ref a ∧ O a = some w ∧ H a = some ho ∧ Cont K H (lin O) ho d
/-- an item with an object of its own at b: a list, or a tuple of two with a list behind -/
def Itm (K : PySem.W.Frag) (H : Hp) (O : Own) (w : Ow) (u : V) (d : D) (b : Addr) : Prop :=
  O b = some w ∧ ((∃ ho es, d = .lst es ∧ u = .ref b ∧ H b = some ho ∧ Cont K H (lin O) ho d) ∨
    ∃ c x ho d1 d2, d = .tup [d1, d2] ∧ u = .ref c ∧ O c = none ∧ H c = some (.tup [x, .ref b]) ∧ Rep K H (lin O) x d1 ∧ H b = some ho ∧ Cont K H (lin O) ho d2)
inductive Itms (K : PySem.W.Frag) (H : Hp) (O : Own) (w : Ow) : List V → List D → List Addr → Prop
  | nil : Itms K H O w [] [] []
  | cons {u : V} {vs : List V} {d : D} {ds : List D} {b : Addr} {bs : List Addr} : Itm K H O w u d b → Itms K H O w vs ds bs → Itms K H O w (u :: vs) (d :: ds) (b :: bs)
/-- a list with items of their own -/
def DeepO (K : PySem.W.Frag) (H : Hp) (O : Own) (w : Ow) (v : V) (ds : List D) : Prop :=
  ∃ a vs bs, v = .ref a ∧ O a = some w ∧ H a = some (.lst vs) ∧ (a :: bs).Nodup ∧ Itms K H O w vs ds bs
def OwnX (K : PySem.W.Frag) (H : Hp) (O : Own) (w : Ow) (v : V) (d : D) : Prop := Owned K H O w v d ∨ ∃ ds, d = .own ds ∧ DeepO K H O w v ds
def SlotOk (K : PySem.W.Frag) (H : Hp) (O : Own) (i : Nat) (v : V) (s : Slot) : Prop :=
  match s.own with
  | true => OwnX K H O (.sl i) v s.d
  | false => Rep K H (lin O) v s.d
def TmpOk (K : PySem.W.Frag) (H : Hp) (O : Own) (σ : St) (n : Nat) (t : Tmp) : Prop :=
  match t.k with
  | .shr => Rep K H (lin O) t.v t.d
  | .fr => OwnX K H O (.tp n) t.v t.d
  | .nm i => σ[i]? = some (some t.v)
def TmpsOk (K : PySem.W.Frag) (H : Hp) (O : Own) (σ : St) : List Tmp → Prop
  | [] => True
  | t :: T => TmpOk K H O σ T.length t ∧ TmpsOk K H O σ T
structure Rel (G : Fix) (O : Own) (σ : St) (H : Hp) (ρ : Rho) (T : List Tmp) : Prop where
  len : ρ.length = σ.length
  fr : ∀ b o, G.Fr b = some o → H b = some o ∧ (O b = none ∨ O b = some .out)
  ot : ∀ b, O b = some .out ↔ G.Out b
  tr : ∀ a w, O a = some w → TrOk G H a
  pn : ∀ i v, G.Pin i = some v → σ[i]? = some (some v) ∧ ∃ s, ρ[i]? = some (some s) ∧ s.pin = true
  sl : ∀ i s, ρ[i]? = some (some s) → ∃ v, σ[i]? = some (some v) ∧ SlotOk G.K H O i v s
  tm : TmpsOk G.K H O σ T
def Vw (K : PySem.W.Frag) (H : Hp) (O : Own) (v : V) (d : D) : Prop :=
  Rep K H (lin O) v d ∨ (∃ a ho, v = .ref a ∧ H a = some ho ∧ Cont K H (lin O) ho d) ∨ ∃ a ds, v = .ref a ∧ d = .own ds
theorem Owned.vw {K : PySem.W.Frag} {H : Hp} {O : Own} {w : Ow} {v : V} {d : D} (h : Owned K H O w v d) : Vw K H O v d := by
  obtain ⟨a, ho, e, _, h1, c⟩ := h
  exact .inr (.inl ⟨a, ho, e, h1, c⟩)
theorem OwnX.vw {K : PySem.W.Frag} {H : Hp} {O : Own} {w : Ow} {v : V} {d : D} (h : OwnX K H O w v d) : Vw K H O v d := by
  rcases h with h | ⟨ds, e, a, _, _, e2, _⟩
  · exact h.vw
  · exact .inr (.inr ⟨a, ds, e2, e⟩)
/-- not deep -/
def notOwn : D → Bool
  | .own _ => false
  | _ => true
theorem OwnX.flat {K : PySem.W.Frag} {H : Hp} {O : Own} {w : Ow} {v : V} {d : D} (h : OwnX K H O w v d) (hd : notOwn d = true := by rfl) : Owned K H O w v d := by
  rcases h with h | ⟨ds, e, _⟩
  · exact h
  · subst e; cases hd
theorem OwnX.root {K : PySem.W.Frag} {H : Hp} {O : Own} {w : Ow} {v : V} {d : D} (h : OwnX K H O w v d) : ∃ a ho, v = .ref a ∧ O a = some w ∧ H a = some ho := by
  rcases h with ⟨a, ho, e, h1, h2, _⟩ | ⟨ds, _, a, vs, bs, e, h1, h2, _⟩
  · exact ⟨a, ho, e, h1, h2⟩
  · exact ⟨a, _, e, h1, h2⟩
theorem dixR_plain {a b : Addr} {xs : List (NestedKey × Addr × V)} : Pl b (.ext fun h => DixR h a xs) := by
  refine ⟨fun _ z => (by cases z), fun q z => ?_⟩
  unfold LamX.CodeO at z
  have e := HO.ext.inj z
  have hg : ∃ h : Heap, h.get? b = some ({ cls := .none, data := .fields #[.none, .str q 0] } : Obj) ∧ ∀ c o, h.get? c = some o → o.data = .fields #[.none, .str q 0] := ⟨{ objs := Array.replicate (b + 1) { cls := .none, data := .fields #[.none, .str q 0] } }, by simp [Heap.get?], fun c o hc => by
    simp only [Heap.get?, Array.getElem?_replicate] at hc
    by_cases hl : c < b + 1
    · rw [if_pos hl] at hc
      exact (Option.some.inj hc) ▸ rfl
    · rw [if_neg hl] at hc
      exact absurd hc (by simp)⟩
  obtain ⟨h, hg, all⟩ := hg
  have r : DixR h a xs := by
    rw [show DixR h a xs = _ from congrFun e h]
    exact ⟨_, _, _, hg, rfl, rfl⟩
  obtain ⟨w, o, es, ep, ys, _, h1, _, h2, _⟩ := r
  rw [all _ _ h1] at h2
  cases h2
theorem Cont.plain {K : PySem.W.Frag} {H : Hp} {L : Addr → Prop} {ho : HO} {d : D} {a : Addr} (c : Cont K H L ho d) : Pl a ho := by
  cases c with
  | dix e r => exact dixR_plain
  | _ => exact ⟨fun _ z => (nomatch z), fun _ z => by unfold LamX.CodeO at z; cases z⟩
theorem plain_lst {a : Addr} {vs : List V} : Pl a (.lst vs) := ⟨fun _ z => (nomatch z), fun _ z => by unfold LamX.CodeO at z; cases z⟩
theorem OwnX.plain {K : PySem.W.Frag} {H : Hp} {O : Own} {w : Ow} {a : Addr} {d : D} {ho : HO} (h : OwnX K H O w (.ref a) d) (ha : H a = some ho) : Pl a ho := by
  rcases h with ⟨a', ho', e, _, h2, c⟩ | ⟨_, _, a', vs, bs, e, _, h2, _⟩
  · cases e
    rw [ha] at h2
    cases h2
    exact c.plain
  · cases e
    rw [ha] at h2
    cases h2
    exact plain_lst
theorem SlotOk.vw {K : PySem.W.Frag} {H : Hp} {O : Own} {i : Nat} {v : V} {s : Slot} (h : SlotOk K H O i v s) : Vw K H O v s.d := by
  unfold SlotOk at h
  cases e : s.own with
  | true => rw [e] at h; exact OwnX.vw h
  | false => rw [e] at h; exact .inl h
section
variable {K : PySem.W.Frag} {H : Hp} {O : Own} {v : V} {d : D}
theorem Vw.con {c : V} (h : Vw K H O v (.con c)) : v = c := by
  rcases h with h | ⟨a, ho, _, _, c⟩ | ⟨_, _, _, e⟩
  · exact h.con_inv
  · cases c
  · cases e
theorem Vw.lst {ds : List D} (h : Vw K H O v (.lst ds)) : ∃ a vs, v = .ref a ∧ SqL K H a vs ∧ Reps K H (lin O) vs ds := by
  rcases h with h | ⟨a, ho, e, h1, c⟩ | ⟨_, _, _, e⟩
  · cases h with
    | obj n r c =>
      cases c with
      | lst q => exact ⟨_, _, rfl, .inl r, q⟩
    | kl k q => exact ⟨_, _, rfl, .inr k, q⟩
  · cases c with
    | lst q => exact ⟨a, _, e, .inl (.inl h1), q⟩
  · cases e
theorem Vw.exv {c : Str} (h : Vw K H O v (.exv c)) : ∃ a d, v = .ref a ∧ H a = some (exHO a (.ref (He.ga K c)) d) ∧ ∀ e, d = some e → ∃ ho, H e = some ho := by
  rcases h with h | ⟨a, ho, e, h1, c⟩ | ⟨_, _, _, e⟩
  · cases h with
    | obj n r c => cases c
    | exv n r q => exact ⟨_, _, rfl, r, fun e he => (q e he).2⟩
  · cases c
  · cases e
theorem Vw.tup {ds : List D} (h : Vw K H O v (.tup ds)) : ∃ a vs, v = .ref a ∧ SqT K H a vs ∧ Reps K H (lin O) vs ds := by
  rcases h with h | ⟨a, ho, e, h1, c⟩ | ⟨_, _, _, e⟩
  · cases h with
    | obj n r c =>
      cases c with
      | tup q => exact ⟨_, _, rfl, .inl r, q⟩
    | kt k q => exact ⟨_, _, rfl, .inr k, q⟩
  · cases c with
    | tup q => exact ⟨a, _, e, .inl (.inl h1), q⟩
  · cases e
end
def oset (O : Own) (a : Addr) (w : Option Ow) : Own := fun b => if b = a then w else O b
theorem oset_eq {O : Own} {a b : Addr} {w : Option Ow} (h : b = a) : oset O a w b = w := if_pos h
theorem oset_ne {O : Own} {a b : Addr} {w : Option Ow} (h : b ≠ a) : oset O a w b = O b := if_neg h
section
variable {K : PySem.W.Frag} {G : Fix} {O O' : Own} {σ : St} {H H' : Hp} {ρ ρ' : Rho} {T : List Tmp} {t : Tmp} {v : V} {d : D}
theorem Owned.mono {w w' : Ow} (hs : Stay H H' (lin O) (lin O')) (h : Owned K H O w v d) (hw : ∀ a o, O a = some w → H a = some o → O' a = some w' ∧ H' a = some o) : Owned K H' O' w' v d := by
  obtain ⟨a, u, e, h1, h2, c⟩ := h
  obtain ⟨p, q⟩ := hw a u h1 h2
  exact ⟨a, u, e, p, q, c.mono hs⟩
theorem Itm.mono {w w' : Ow} {u : V} {d : D} {b : Addr} (hs : Stay H H' (lin O) (lin O')) (h : Itm K H O w u d b) (hw : ∀ a o, O a = some w → H a = some o → O' a = some w' ∧ H' a = some o) (hc : ∀ a o, O a = none → H a = some o → O' a = none) : Itm K H' O' w' u d b := by
  obtain ⟨h0, h⟩ := h
  have nl : ∀ c, O c = none → ¬ lin O c := fun c e z => z e
  rcases h with ⟨ho, es, he, h1, h2, h3⟩ | ⟨c, x, ho, d1, d2, h1, h2, h3, h4, h5, h6, h7⟩
  · exact ⟨(hw b ho h0 h2).1, .inl ⟨ho, es, he, h1, (hw b ho h0 h2).2, h3.mono hs⟩⟩
  · exact ⟨(hw b ho h0 h6).1, .inr ⟨c, x, ho, d1, d2, h1, h2, hc c _ h3 h4, (hs c _ (nl c h3) h4).1, h5.mono hs, (hw b ho h0 h6).2, h7.mono hs⟩⟩
theorem stay_none (hs : Stay H H' (lin O) (lin O')) : ∀ a o, O a = none → H a = some o → O' a = none := fun a o e h => Classical.byContradiction fun z => (hs a o (fun q => q e) h).2 z
theorem Itms.mono {w w' : Ow} (hs : Stay H H' (lin O) (lin O')) (hw : ∀ a o, O a = some w → H a = some o → O' a = some w' ∧ H' a = some o) : ∀ {vs : List V} {ds : List D} {bs : List Addr}, Itms K H O w vs ds bs → Itms K H' O' w' vs ds bs
  | _, _, _, .nil => .nil
  | _, _, _, .cons a b => .cons (a.mono hs hw (stay_none hs)) (Itms.mono hs hw b)
theorem DeepO.mono {w w' : Ow} {ds : List D} (hs : Stay H H' (lin O) (lin O')) (h : DeepO K H O w v ds) (hw : ∀ a o, O a = some w → H a = some o → O' a = some w' ∧ H' a = some o) : DeepO K H' O' w' v ds := by
  obtain ⟨a, vs, bs, e, h1, h2, h3, h4⟩ := h
  exact ⟨a, vs, bs, e, (hw a _ h1 h2).1, (hw a _ h1 h2).2, h3, h4.mono hs hw⟩
theorem OwnX.mono {w w' : Ow} (hs : Stay H H' (lin O) (lin O')) (h : OwnX K H O w v d) (hw : ∀ a o, O a = some w → H a = some o → O' a = some w' ∧ H' a = some o) : OwnX K H' O' w' v d := by
  rcases h with h | ⟨ds, e, h⟩
  · exact .inl (h.mono hs hw)
  · exact .inr ⟨ds, e, h.mono hs hw⟩
/-- an item that may be held by others -/
theorem Itm.rep {w : Ow} {u : V} {d : D} {b : Addr} (hs : Stay H H' (lin O) (lin O')) (h : Itm K H O w u d b) (hw : ∀ a o, O a = some w → H a = some o → O' a = none ∧ H' a = some o) : Rep K H' (lin O') u d := by
  obtain ⟨h0, h⟩ := h
  have nl : ∀ c, O c = none → ¬ lin O c := fun c e z => z e
  rcases h with ⟨ho, es, he, rfl, h2, h3⟩ | ⟨c, x, ho, d1, d2, rfl, rfl, h3, h4, h5, h6, h7⟩
  · obtain ⟨p, q⟩ := hw b ho h0 h2
    exact .obj (fun z => z p) (.inl q) (h3.mono hs)
  · obtain ⟨p, q⟩ := hw b ho h0 h6
    have hc := hs c _ (nl c h3) h4
    exact .obj hc.2 (.inl hc.1) (.tup (.cons (h5.mono hs) (.cons (.obj (fun z => z p) (.inl q) (h7.mono hs)) .nil)))
theorem Itms.reps {w : Ow} (hs : Stay H H' (lin O) (lin O')) (hw : ∀ a o, O a = some w → H a = some o → O' a = none ∧ H' a = some o) : ∀ {vs : List V} {ds : List D} {bs : List Addr}, Itms K H O w vs ds bs → Reps K H' (lin O') vs ds
  | _, _, _, .nil => .nil
  | _, _, _, .cons a b => .cons (a.rep hs hw) (Itms.reps hs hw b)
/-- what is owned is shared from now on: the owner goes from all that it owns -/
theorem OwnX.rep {w : Ow} (hs : Stay H H' (lin O) (lin O')) (h : OwnX K H O w v d) (hw : ∀ a o, O a = some w → H a = some o → O' a = none ∧ H' a = some o) : Rep K H' (lin O') v d := by
  rcases h with ⟨a, ho, rfl, h1, h2, c⟩ | ⟨ds, rfl, a, vs, bs, rfl, h1, h2, h3, h4⟩
  · obtain ⟨p, q⟩ := hw a ho h1 h2
    exact .obj (fun z => z p) (.inl q) (c.mono hs)
  · obtain ⟨p, q⟩ := hw a _ h1 h2
    exact .ow (.obj (fun z => z p) (.inl q) (.lst (h4.reps hs hw)))
/-- all that w owns goes to w' -/
def reO (O : Own) (w : Ow) (w' : Option Ow) : Own := fun b => if O b = some w then w' else O b
theorem reO_eq {w : Ow} {w' : Option Ow} {b : Addr} (h : O b = some w) : reO O w w' b = w' := if_pos h
theorem reO_ne {w : Ow} {w' : Option Ow} {b : Addr} (h : O b ≠ some w) : reO O w w' b = O b := if_neg h
theorem reO_other {w x : Ow} {w' : Option Ow} {b : Addr} (h : O b = some x) (hx : x ≠ w) : reO O w w' b = some x := by
  rw [reO_ne (by rw [h]; exact fun z => hx (Option.some.inj z)), h]
theorem reO_stay {w : Ow} {w' : Option Ow} : Stay H H (lin O) (lin (reO O w w')) := fun a o n e => by
  refine ⟨e, ?_⟩
  unfold lin at n ⊢
  rw [reO_ne (fun z => n (by rw [z]; simp))]; exact n
theorem TmpsOk.mono {N : Nat} {H H' : Hp} {O O' : Own} (h1 : ∀ t n, TmpOk K H O σ n t → n < N → TmpOk K H' O' σ n t) : ∀ {T : List Tmp}, T.length ≤ N → TmpsOk K H O σ T → TmpsOk K H' O' σ T
  | [], _, _ => trivial
  | t :: T, hl, ⟨a, b⟩ => ⟨h1 t T.length a hl, TmpsOk.mono h1 (Nat.le_of_succ_le hl) b⟩
/-- slots' states: from one place to another -/
theorem slot_mono {i j : Nat} {s : Slot} (hs : Stay H H' (lin O) (lin O')) (hw : ∀ a o, O a = some (.sl i) → H a = some o → O' a = some (.sl j) ∧ H' a = some o) (h : SlotOk K H O i v s) : SlotOk K H' O' j v s := by
  unfold SlotOk at h ⊢
  cases q : s.own with
  | true => rw [q] at h; exact OwnX.mono hs h hw
  | false => rw [q] at h; exact h.mono hs
theorem tmps_mono (hs : Stay H H' (lin O) (lin O')) (hw : ∀ a o n, n < T.length → O a = some (.tp n) → H a = some o → O' a = some (.tp n) ∧ H' a = some o) (h : TmpsOk K H O σ T) : TmpsOk K H' O' σ T := by
  refine TmpsOk.mono (N := T.length) (fun t n h hn => ?_) (Nat.le_refl _) h
  unfold TmpOk at h ⊢
  cases q : t.k with
  | shr => rw [q] at h; exact h.mono hs
  | fr => rw [q] at h; exact OwnX.mono hs h fun a o e1 e2 => hw a o n hn e1 e2
  | nm i => rw [q] at h; exact h
theorem Rel.pop (R : Rel G O σ H ρ (t :: T)) : Rel G O σ H ρ T := ⟨R.len, R.fr, R.ot, R.tr, R.pn, R.sl, R.tm.2⟩
theorem Rel.push (R : Rel G O σ H ρ T) (h : TmpOk G.K H O σ T.length t) : Rel G O σ H ρ (t :: T) := ⟨R.len, R.fr, R.ot, R.tr, R.pn, R.sl, ⟨h, R.tm⟩⟩
theorem Rel.con (R : Rel G O σ H ρ T) (c : V) : Rel G O σ H ρ (⟨c, .con c, .shr⟩ :: T) := R.push (.con c)
theorem Rel.nil (R : Rel G O σ H ρ T) : Rel G O σ H ρ [] := ⟨R.len, R.fr, R.ot, R.tr, R.pn, R.sl, trivial⟩
theorem Rel.lout (R : Rel G O σ H ρ T) (p : Addr) (hp : H p = none) : O p = none := by
  cases e : O p with
  | none => rfl
  | some w =>
    obtain ⟨o, q⟩ := (R.tr p w e).1
    rw [hp] at q; cases q
/-- the data that a pending value stands for -/
def cur (ρ : Rho) (x : D × Kd) : Option D := match x.2 with
  | .nm i => match ρ[i]? with
    | some (some s) => some s.d
    | _ => none
  | _ => some x.1
theorem Rel.view (R : Rel G O σ H ρ T) {n : Nat} (h : TmpOk G.K H O σ n t) (e : cur ρ (t.d, t.k) = some d) : Vw G.K H O t.v d := by
  unfold TmpOk at h
  unfold cur at e
  cases q : t.k with
  | shr => rw [q] at h e; cases e; exact .inl h
  | fr => rw [q] at h e; cases e; exact OwnX.vw h
  | nm i =>
    rw [q] at h e
    dsimp only at e h
    split at e
    · rename_i s hs
      cases e
      obtain ⟨v', h1, h2⟩ := R.sl i s hs
      rw [h1] at h
      cases h
      exact h2.vw
    · cases e
/-- a new object -/
theorem Rel.fresh {p : Addr} {ho : HO} (R : Rel G O σ H ρ T) (hp : H p = none) (c : Cont G.K H (lin O) ho d) :
    ∃ O', Rel G O' σ (upd H p ho) ρ (⟨.ref p, d, .fr⟩ :: T) := by
  have op := R.lout p hp
  have ne : ∀ {a : Addr} {o : HO}, H a = some o → a ≠ p := fun e z => by rw [z, hp] at e; cases e
  have ne' : ∀ {a : Addr} {w : Ow}, O a = some w → a ≠ p := fun e z => by rw [z, op] at e; cases e
  have hs : Stay H (upd H p ho) (lin O) (lin (oset O p (some (.tp T.length)))) := fun a o n e => by
    refine ⟨by rw [upd_ne (ne e)]; exact e, ?_⟩
    unfold lin at n ⊢
    rw [oset_ne (ne e)]; exact n
  refine ⟨oset O p (some (.tp T.length)), R.len, fun b o e => ?_, fun b => ?_, fun a w e => ?_, R.pn, fun i s e => ?_, ⟨?_, ?_⟩⟩
  · obtain ⟨h1, h2⟩ := R.fr b o e
    rw [oset_ne (ne h1), upd_ne (ne h1)]; exact ⟨h1, h2⟩
  · by_cases e : b = p
    · rw [oset_eq e]
      constructor
      · intro z; cases z
      · intro z
        have := (R.ot b).mpr z
        rw [e, op] at this; cases this
    · rw [oset_ne e]; exact R.ot b
  · by_cases z : a = p
    · subst z
      refine ⟨⟨_, upd_same⟩, fun q hq => ?_⟩
      have := (R.ot a).mpr (G.tbo a q hq).1
      rw [op] at this; cases this
    · rw [oset_ne z] at e
      exact (R.tr a w e).fresh hp
  · obtain ⟨v, h1, h2⟩ := R.sl i s e
    refine ⟨v, h1, slot_mono hs (fun a o e1 e2 => ?_) h2⟩
    rw [oset_ne (ne e2), upd_ne (ne e2)]; exact ⟨e1, e2⟩
  · exact .inl ⟨p, ho, rfl, oset_eq rfl, upd_same, c.mono hs⟩
  · refine tmps_mono hs (fun a o n _ e1 e2 => ?_) R.tm
    rw [oset_ne (ne e2), upd_ne (ne e2)]; exact ⟨e1, e2⟩
/-- a new object that never changes (a tuple) -/
theorem Rel.freshT {p : Addr} {ho : HO} (R : Rel G O σ H ρ T) (hp : H p = none) (c : Cont G.K H (lin O) ho d) :
    Rel G O σ (upd H p ho) ρ (⟨.ref p, d, .shr⟩ :: T) := by
  have op := R.lout p hp
  have ne : ∀ {a : Addr} {o : HO}, H a = some o → a ≠ p := fun e z => by rw [z, hp] at e; cases e
  have hs : Stay H (upd H p ho) (lin O) (lin O) := fun a o n e => ⟨by rw [upd_ne (ne e)]; exact e, n⟩
  refine ⟨R.len, fun b o e => ?_, R.ot, fun a w e => ?_, R.pn, fun i s e => ?_, ⟨?_, ?_⟩⟩
  · obtain ⟨h1, h2⟩ := R.fr b o e
    rw [upd_ne (ne h1)]; exact ⟨h1, h2⟩
  · exact (R.tr a w e).fresh hp
  · obtain ⟨v, h1, h2⟩ := R.sl i s e
    refine ⟨v, h1, slot_mono hs (fun a o e1 e2 => ?_) h2⟩
    rw [upd_ne (ne e2)]; exact ⟨e1, e2⟩
  · exact .obj (fun z => z op) (.inl upd_same) (c.mono hs)
  · refine tmps_mono hs (fun a o n _ e1 e2 => ?_) R.tm
    rw [upd_ne (ne e2)]; exact ⟨e1, e2⟩
/-- the owner of one address goes -/
theorem Rel.drop (R : Rel G O σ H ρ T) (a0 : Addr) (w : Ow) (hw : O a0 = some w) (ho : w ≠ .out) (hsl : ∀ i s, ρ[i]? = some (some s) → s.own = true → w = .sl i → False) (htp : ∀ n, n < T.length → w ≠ .tp n) :
    Rel G (oset O a0 none) σ H ρ T := by
  have hs : Stay H H (lin O) (lin (oset O a0 none)) := fun a o n e => by
    refine ⟨e, ?_⟩
    unfold lin at n ⊢
    by_cases z : a = a0
    · rw [oset_eq z]; exact fun h => h rfl
    · rw [oset_ne z]; exact n
  refine ⟨R.len, fun b o e => ?_, fun b => ?_, fun a w' e => ?_, R.pn, fun i s e => ?_, ?_⟩
  · obtain ⟨h1, h2⟩ := R.fr b o e
    refine ⟨h1, ?_⟩
    by_cases z : b = a0
    · rw [oset_eq z]; exact .inl rfl
    · rw [oset_ne z]; exact h2
  · by_cases z : b = a0
    · rw [oset_eq z]
      constructor
      · intro q; cases q
      · intro q
        have := (R.ot b).mpr q
        rw [z, hw] at this
        cases this
        exact absurd rfl ho
    · rw [oset_ne z]; exact R.ot b
  · by_cases z : a = a0
    · rw [oset_eq z] at e; cases e
    · rw [oset_ne z] at e; exact R.tr a w' e
  · obtain ⟨v, h1, h2⟩ := R.sl i s e
    refine ⟨v, h1, ?_⟩
    unfold SlotOk at h2 ⊢
    cases q : s.own with
    | true =>
      rw [q] at h2
      refine OwnX.mono hs h2 fun a o e1 e2 => ?_
      rw [oset_ne (fun z => ?_)]
      · exact ⟨e1, e2⟩
      · rw [z, hw] at e1
        cases e1
        exact hsl i s e q rfl
    | false => rw [q] at h2; exact h2.mono hs
  · refine tmps_mono hs (fun a o n hn e1 e2 => ?_) R.tm
    rw [oset_ne (fun z => ?_)]
    · exact ⟨e1, e2⟩
    · rw [z, hw] at e1
      cases e1
      exact htp n hn rfl
/-- an owner goes from all that it owns -/
theorem Rel.dropW (R : Rel G O σ H ρ T) (w : Ow) (ho : w ≠ .out) (hsl : ∀ i s, ρ[i]? = some (some s) → s.own = true → w = .sl i → False) (htp : ∀ n, n < T.length → w ≠ .tp n) : Rel G (reO O w none) σ H ρ T := by
  have hs : Stay H H (lin O) (lin (reO O w none)) := reO_stay
  refine ⟨R.len, fun b o e => ?_, fun b => ?_, fun a w' e => ?_, R.pn, fun i s e => ?_, ?_⟩
  · obtain ⟨h1, h2⟩ := R.fr b o e
    refine ⟨h1, ?_⟩
    by_cases z : O b = some w
    · rw [reO_eq z]; exact .inl rfl
    · rw [reO_ne z]; exact h2
  · by_cases z : O b = some w
    · rw [reO_eq z]
      constructor
      · intro q; cases q
      · intro q
        have := (R.ot b).mpr q
        rw [z] at this
        exact absurd (Option.some.inj this) ho
    · rw [reO_ne z]; exact R.ot b
  · by_cases z : O a = some w
    · rw [reO_eq z] at e; cases e
    · rw [reO_ne z] at e; exact R.tr a w' e
  · obtain ⟨v, h1, h2⟩ := R.sl i s e
    refine ⟨v, h1, ?_⟩
    unfold SlotOk at h2 ⊢
    cases q : s.own with
    | true =>
      rw [q] at h2
      exact OwnX.mono hs h2 fun a o e1 e2 => ⟨reO_other e1 fun z => hsl i s e q z.symm, e2⟩
    | false => rw [q] at h2; exact h2.mono hs
  · exact tmps_mono hs (fun a o n hn e1 e2 => ⟨reO_other e1 fun z => htp n hn z.symm, e2⟩) R.tm
def shareR (ρ : Rho) (i : Nat) : Rho := match ρ[i]? with
  | some (some s) => ρ.set i (some { s with own := false })
  | _ => ρ
/-- a slot's object may be held by others from now on -/
theorem Rel.share (R : Rel G O σ H ρ T) {i : Nat} {s : Slot} (e : ρ[i]? = some (some s)) :
    ∃ O' v, Rel G O' σ H (shareR ρ i) T ∧ σ[i]? = some (some v) ∧ Rep G.K H (lin O') v s.d := by
  obtain ⟨v, h1, h2⟩ := R.sl i s e
  have es : shareR ρ i = ρ.set i (some { s with own := false }) := by unfold shareR; rw [e]
  have hi : i < ρ.length := (List.getElem?_eq_some_iff.mp e).1
  have get : ∀ j u, (ρ.set i (some { s with own := false }))[j]? = some (some u) → (j = i ∧ u = { s with own := false }) ∨ (j ≠ i ∧ ρ[j]? = some (some u)) := fun j u q => by
    by_cases z : j = i
    · subst z
      rw [List.getElem?_set_self hi] at q
      cases q
      exact .inl ⟨rfl, rfl⟩
    · rw [List.getElem?_set_ne (Ne.symm z)] at q
      exact .inr ⟨z, q⟩
  rw [es]
  unfold SlotOk at h2
  cases q : s.own with
  | false =>
    rw [q] at h2
    refine ⟨O, v, ⟨by simpa using R.len, R.fr, R.ot, R.tr, fun j u hj => ?_, fun j u hj => ?_, R.tm⟩, h1, h2⟩
    · obtain ⟨a, s', b, c⟩ := R.pn j u hj
      refine ⟨a, ?_⟩
      by_cases z : j = i
      · subst z
        rw [e] at b; cases b
        exact ⟨_, List.getElem?_set_self hi, c⟩
      · exact ⟨s', by rw [List.getElem?_set_ne (Ne.symm z)]; exact b, c⟩
    · rcases get j u hj with ⟨z, z2⟩ | ⟨_, z⟩
      · subst z z2
        exact ⟨v, h1, h2⟩
      · exact R.sl j u z
  | true =>
    rw [q] at h2
    have hs : Stay H H (lin O) (lin (reO O (.sl i) none)) := reO_stay
    have rp : Rep G.K H (lin (reO O (.sl i) none)) v s.d := OwnX.rep hs h2 fun a o e1 e2 => ⟨reO_eq e1, e2⟩
    refine ⟨reO O (.sl i) none, v, ⟨by simpa using R.len, fun b o e => ?_, fun b => ?_, fun a w' e => ?_, fun j u hj => ?_, fun j u hj => ?_, ?_⟩, h1, rp⟩
    · obtain ⟨p1, p2⟩ := R.fr b o e
      refine ⟨p1, ?_⟩
      by_cases z : O b = some (.sl i)
      · rw [reO_eq z]; exact .inl rfl
      · rw [reO_ne z]; exact p2
    · by_cases z : O b = some (.sl i)
      · rw [reO_eq z]
        constructor
        · intro q; cases q
        · intro q
          have := (R.ot b).mpr q
          rw [z] at this
          cases this
      · rw [reO_ne z]; exact R.ot b
    · by_cases z : O a = some (.sl i)
      · rw [reO_eq z] at e; cases e
      · rw [reO_ne z] at e; exact R.tr a w' e
    · obtain ⟨a, s', b, c⟩ := R.pn j u hj
      refine ⟨a, ?_⟩
      by_cases z : j = i
      · subst z
        rw [e] at b; cases b
        exact ⟨_, List.getElem?_set_self hi, c⟩
      · exact ⟨s', by rw [List.getElem?_set_ne (Ne.symm z)]; exact b, c⟩
    · rcases get j u hj with ⟨z, z2⟩ | ⟨nz, z⟩
      · subst z z2
        exact ⟨v, h1, rp⟩
      · obtain ⟨v', p1, p2⟩ := R.sl j u z
        exact ⟨v', p1, slot_mono hs (fun a o e1 e2 => ⟨reO_other e1 fun y => nz (Ow.sl.inj y), e2⟩) p2⟩
    · exact tmps_mono hs (fun a o n hn e1 e2 => ⟨reO_other e1 fun y => (by cases y), e2⟩) R.tm
def settleR (ρ : Rho) : Kd → Rho
  | .nm i => shareR ρ i
  | _ => ρ
/-- a pending value may be held by others from now on -/
theorem Rel.settle (R : Rel G O σ H ρ (t :: T)) (e : cur ρ (t.d, t.k) = some d) : ∃ O', Rel G O' σ H (settleR ρ t.k) (⟨t.v, d, .shr⟩ :: T) := by
  have h := R.tm.1
  unfold TmpOk at h
  unfold cur at e
  cases q : t.k with
  | shr =>
    rw [q] at h e; cases e
    exact ⟨O, R.pop.push h⟩
  | fr =>
    rw [q] at h e; cases e
    have R2 := R.pop.dropW (.tp T.length) (by simp) (fun i s _ _ z => by cases z) (fun n hn z => by cases z; exact Nat.lt_irrefl _ hn)
    refine ⟨_, R2.push ?_⟩
    show Rep _ _ _ _ _
    exact OwnX.rep reO_stay h fun a o e1 e2 => ⟨reO_eq e1, e2⟩
  | nm i =>
    rw [q] at h e
    dsimp only at e h
    split at e
    · rename_i s hs
      cases e
      obtain ⟨O', v, R', e1, r⟩ := R.pop.share hs
      rw [h] at e1
      cases e1
      exact ⟨O', R'.push r⟩
    · cases e
/-- an owned object is written -/
theorem Rel.write {i : Nat} {s : Slot} {a : Addr} {ho ho' : HO} (R : Rel G O σ H ρ T) (e : ρ[i]? = some (some s)) (ow : s.own = true) (hv : σ[i]? = some (some (.ref a))) (ha : H a = some ho) (c : Cont G.K H (lin O) ho' d) :
    Rel G O σ (upd H a ho') (ρ.set i (some { s with d := d })) T ∧ O a = some (.sl i) := by
  have hi : i < ρ.length := (List.getElem?_eq_some_iff.mp e).1
  obtain ⟨v, h1, h2⟩ := R.sl i s e
  rw [hv] at h1; cases h1
  unfold SlotOk at h2
  rw [ow] at h2
  obtain ⟨a1, ho1, ev, ea, hh⟩ := OwnX.root h2
  cases ev
  have pl := OwnX.plain h2 ha
  have hs : Stay H (upd H a ho') (lin O) (lin O) := fun b o n eb => by
    refine ⟨?_, n⟩
    rw [upd_ne]
    · exact eb
    · intro z; exact n (by unfold lin; rw [z, ea]; simp)
  refine ⟨⟨by simpa using R.len, fun b o eb => ?_, R.ot, fun b w eb => ?_, fun j u hj => ?_, fun j u hj => ?_, ?_⟩, ea⟩
  · obtain ⟨p1, p2⟩ := R.fr b o eb
    rw [upd_ne]
    · exact ⟨p1, p2⟩
    · intro z
      rw [z, ea] at p2
      rcases p2 with p2 | p2 <;> cases p2
  · exact (R.tr b w eb).upd ha pl
  · obtain ⟨p, s', b, c⟩ := R.pn j u hj
    refine ⟨p, ?_⟩
    by_cases z : j = i
    · subst z
      rw [e] at b; cases b
      exact ⟨_, List.getElem?_set_self hi, c⟩
    · exact ⟨s', by rw [List.getElem?_set_ne (Ne.symm z)]; exact b, c⟩
  · by_cases z : j = i
    · subst z
      rw [List.getElem?_set_self hi] at hj
      cases hj
      refine ⟨_, hv, ?_⟩
      unfold SlotOk
      dsimp only
      rw [ow]
      exact .inl ⟨a, ho', rfl, ea, upd_same, c.mono hs⟩
    · rw [List.getElem?_set_ne (Ne.symm z)] at hj
      obtain ⟨v', p1, p2⟩ := R.sl j u hj
      refine ⟨v', p1, slot_mono hs (fun b o e1 e2 => ?_) p2⟩
      rw [upd_ne]
      · exact ⟨e1, e2⟩
      · intro y
        rw [y, ea] at e1
        cases e1
        exact z rfl
  · refine tmps_mono hs (fun b o n hn e1 e2 => ?_) R.tm
    rw [upd_ne]
    · exact ⟨e1, e2⟩
    · intro y
      rw [y, ea] at e1
      cases e1
/-- is the slot a pinned one? -/
def pinned (ρ : Rho) (i : Nat) : Bool := match ρ[i]? with
  | some (some s) => s.pin
  | some none => false
  | none => true
/-- a pending value goes to a slot -/
def ownOf : Kd → Bool
  | .fr => true
  | _ => false
/-- none of them is a name's -/
def NoNm (T : List Tmp) : Prop := ∀ t ∈ T, ∀ i, t.k ≠ .nm i
theorem NoNm.nil : NoNm [] := fun _ h => by cases h
theorem NoNm.cons (h : NoNm T) (ht : ∀ i, t.k ≠ .nm i) : NoNm (t :: T) := fun u hu => by
  rcases List.mem_cons.mp hu with e | e
  · rw [e]; exact ht
  · exact h u e
theorem tmps_slots {σ' : St} : ∀ {T : List Tmp}, (∀ t ∈ T, ∀ i, t.k = .nm i → σ'[i]? = σ[i]?) → TmpsOk K H O σ T → TmpsOk K H O σ' T
  | [], _, _ => trivial
  | t :: T, h, ⟨a, b⟩ => ⟨by
      unfold TmpOk at a ⊢
      cases q : t.k with
      | shr => rw [q] at a; exact a
      | fr => rw [q] at a; exact a
      | nm i =>
        rw [q] at a
        dsimp only at a ⊢
        rw [h t List.mem_cons_self i q]; exact a, tmps_slots (fun u hu => h u (List.mem_cons_of_mem _ hu)) b⟩
theorem Rel.assign {i : Nat} (hT : NoNm T) (R : Rel G O σ H ρ (t :: T)) (e : cur ρ (t.d, t.k) = some d) (hp : pinned (settleR ρ t.k) i = false) :
    ∃ O', Rel G O' (σ.set i (some t.v)) H ((settleR ρ t.k).set i (some ⟨d, ownOf t.k, false⟩)) T := by
  -- the store of a value that is shared, or new
  have fin : ∀ {O1 : Own} {ρ1 : Rho} {b : Bool}, Rel G O1 σ H ρ1 T → pinned ρ1 i = false →
      (if b = true then OwnX G.K H O1 (.tp T.length) t.v d else Rep G.K H (lin O1) t.v d) → ∃ O', Rel G O' (σ.set i (some t.v)) H (ρ1.set i (some ⟨d, b, false⟩)) T := by
    intro O1 ρ1 b R1 hp1 h
    have hi : i < ρ1.length := by
      unfold pinned at hp1
      cases q : ρ1[i]? with
      | none => rw [q] at hp1; cases hp1
      | some _ => exact (List.getElem?_eq_some_iff.mp q).1
    have hiσ : i < σ.length := by rw [← R1.len]; exact hi
    have pins : ∀ j u, G.Pin j = some u → (σ.set i (some t.v))[j]? = some (some u) ∧ ∃ s, (ρ1.set i (some ⟨d, b, false⟩))[j]? = some (some s) ∧ s.pin = true := fun j u hj => by
      obtain ⟨p, s', q, c⟩ := R1.pn j u hj
      have z : j ≠ i := fun z => by
        subst z
        unfold pinned at hp1
        rw [q] at hp1
        dsimp only at hp1
        rw [c] at hp1; cases hp1
      exact ⟨by rw [List.getElem?_set_ne (Ne.symm z)]; exact p, s', by rw [List.getElem?_set_ne (Ne.symm z)]; exact q, c⟩
    have tms : TmpsOk G.K H O1 (σ.set i (some t.v)) T := tmps_slots (fun u hu j hj => absurd hj (hT u hu j)) R1.tm
    cases b with
    | false =>
      have h : Rep G.K H (lin O1) t.v d := by simpa using h
      refine ⟨O1, by simpa using R1.len, R1.fr, R1.ot, R1.tr, pins, fun j u hj => ?_, tms⟩
      by_cases z : j = i
      · subst z
        rw [List.getElem?_set_self hi] at hj
        cases hj
        exact ⟨t.v, List.getElem?_set_self hiσ, h⟩
      · rw [List.getElem?_set_ne (Ne.symm z)] at hj ⊢
        exact R1.sl j u hj
    | true =>
      have h : OwnX G.K H O1 (.tp T.length) t.v d := by simpa using h
      have hs : Stay H H (lin O1) (lin (reO O1 (.tp T.length) (some (.sl i)))) := reO_stay
      refine ⟨reO O1 (.tp T.length) (some (.sl i)), by simpa using R1.len, fun b o e => ?_, fun b => ?_, fun a w e => ?_, pins, fun j u hj => ?_, ?_⟩
      · obtain ⟨p1, p2⟩ := R1.fr b o e
        rw [reO_ne (fun z => ?_)]
        · exact ⟨p1, p2⟩
        · rw [z] at p2
          rcases p2 with p2 | p2 <;> cases p2
      · by_cases z : O1 b = some (.tp T.length)
        · rw [reO_eq z]
          constructor
          · intro q; cases q
          · intro q
            have := (R1.ot b).mpr q
            rw [z] at this; cases this
        · rw [reO_ne z]; exact R1.ot b
      · by_cases z : O1 a = some (.tp T.length)
        · exact R1.tr a _ z
        · rw [reO_ne z] at e; exact R1.tr a w e
      · by_cases z : j = i
        · subst z
          rw [List.getElem?_set_self hi] at hj
          cases hj
          refine ⟨t.v, List.getElem?_set_self hiσ, ?_⟩
          exact OwnX.mono hs h fun a o e1 e2 => ⟨reO_eq e1, e2⟩
        · rw [List.getElem?_set_ne (Ne.symm z)] at hj ⊢
          obtain ⟨v', p1, p2⟩ := R1.sl j u hj
          exact ⟨v', p1, slot_mono hs (fun a o e1 e2 => ⟨reO_other e1 fun y => (by cases y), e2⟩) p2⟩
      · exact tmps_mono hs (fun a o n hn e1 e2 => ⟨reO_other e1 fun y => (by cases y; exact absurd hn (Nat.lt_irrefl _)), e2⟩) tms
  cases q : t.k with
  | fr =>
    rw [q] at hp
    have h := R.tm.1
    unfold TmpOk at h
    unfold cur at e
    rw [q] at h e
    cases e
    exact fin (b := true) R.pop hp (by simpa using h)
  | shr =>
    rw [q] at hp
    obtain ⟨O1, R1⟩ := R.settle e
    rw [q] at R1
    exact fin (b := false) R1.pop hp (show Rep _ _ _ _ _ from R1.tm.1)
  | nm j =>
    rw [q] at hp
    obtain ⟨O1, R1⟩ := R.settle e
    rw [q] at R1
    exact fin (b := false) R1.pop hp (show Rep _ _ _ _ _ from R1.tm.1)
/-- a pending new object is written -/
theorem Rel.writeT {a : Addr} {ho ho' : HO} {d0 : D} (R : Rel G O σ H ρ (⟨.ref a, d0, .fr⟩ :: T)) (ha : H a = some ho) (c : Cont G.K H (lin O) ho' d) : Rel G O σ (upd H a ho') ρ (⟨.ref a, d, .fr⟩ :: T) := by
  obtain ⟨a1, ho1, ev, ea, hh⟩ := OwnX.root (show OwnX _ _ _ _ _ _ from R.tm.1)
  cases ev
  have pl := OwnX.plain (show OwnX _ _ _ _ _ _ from R.tm.1) ha
  have hs : Stay H (upd H a ho') (lin O) (lin O) := fun b o n eb => by
    refine ⟨?_, n⟩
    rw [upd_ne]
    · exact eb
    · intro z; exact n (by unfold lin; rw [z, ea]; simp)
  refine ⟨R.len, fun b o eb => ?_, R.ot, fun b w eb => ?_, R.pn, fun j u hj => ?_, ⟨.inl ⟨a, ho', rfl, ea, upd_same, c.mono hs⟩, ?_⟩⟩
  · obtain ⟨p1, p2⟩ := R.fr b o eb
    rw [upd_ne]
    · exact ⟨p1, p2⟩
    · intro z
      rw [z, ea] at p2
      rcases p2 with p2 | p2 <;> cases p2
  · exact (R.tr b w eb).upd ha pl
  · obtain ⟨v', p1, p2⟩ := R.sl j u hj
    refine ⟨v', p1, slot_mono hs (fun b o e1 e2 => ?_) p2⟩
    rw [upd_ne]
    · exact ⟨e1, e2⟩
    · intro y
      rw [y, ea] at e1
      cases e1
  · refine tmps_mono hs (fun b o n hn e1 e2 => ?_) R.tm.2
    rw [upd_ne]
    · exact ⟨e1, e2⟩
    · intro y
      rw [y, ea] at e1
      cases e1
      exact absurd hn (Nat.lt_irrefl _)
/-- one pending value alone -/
theorem Rel.only (R : Rel G O σ H ρ (t :: T)) : ∃ O', Rel G O' σ H ρ [t] := by
  cases q : t.k with
  | shr =>
    refine ⟨O, R.nil.push ?_⟩
    have h := R.tm.1
    unfold TmpOk at h ⊢
    rw [q] at h ⊢; exact h
  | nm i =>
    refine ⟨O, R.nil.push ?_⟩
    have h := R.tm.1
    unfold TmpOk at h ⊢
    rw [q] at h ⊢; exact h
  | fr =>
    have h := R.tm.1
    unfold TmpOk at h
    rw [q] at h
    have hs : Stay H H (lin O) (lin (reO O (.tp T.length) (some (.tp 0)))) := reO_stay
    refine ⟨reO O (.tp T.length) (some (.tp 0)), R.len, fun b o e => ?_, fun b => ?_, fun a w e => ?_, R.pn, fun j u hj => ?_, ⟨?_, trivial⟩⟩
    · obtain ⟨p1, p2⟩ := R.fr b o e
      rw [reO_ne (fun z => ?_)]
      · exact ⟨p1, p2⟩
      · rw [z] at p2
        rcases p2 with p2 | p2 <;> cases p2
    · by_cases z : O b = some (.tp T.length)
      · rw [reO_eq z]
        constructor
        · intro q; cases q
        · intro q
          have := (R.ot b).mpr q
          rw [z] at this; cases this
      · rw [reO_ne z]; exact R.ot b
    · by_cases z : O a = some (.tp T.length)
      · exact R.tr a _ z
      · rw [reO_ne z] at e; exact R.tr a w e
    · obtain ⟨v', p1, p2⟩ := R.sl j u hj
      exact ⟨v', p1, slot_mono hs (fun a o e1 e2 => ⟨reO_other e1 fun y => (by cases y), e2⟩) p2⟩
    · unfold TmpOk
      rw [q]
      exact OwnX.mono hs h fun a o e1 e2 => ⟨reO_eq e1, e2⟩
end
end L2.VL
end
section
set_option Elab.async false
set_option linter.all false
set_option maxRecDepth 100000
namespace L2.VL
open PySem PySem.Spec PyProof.Rows
/-- an exception: its class by the name that the module gives it, its fields -/
structure Exn where
  c : Str
  fs : Option (List (Str × D))
inductive Res (α : Type) where
  | stuck | ok (a : α) (ρ : Rho) | ex (x : Exn) (ρ : Rho)
def M (α : Type) : Type := Rho → Res α
def M.bind {α β : Type} (m : M α) (f : α → M β) : M β := fun ρ => match m ρ with
  | .stuck => .stuck
  | .ok a ρ' => f a ρ'
  | .ex x ρ' => .ex x ρ'
def M.ret {α : Type} (a : α) : M α := fun ρ => .ok a ρ
instance : Monad M := { pure := M.ret, bind := M.bind }
def mStuck {α : Type} : M α := fun _ => .stuck
def mOpt {α : Type} (o : Option α) : M α := fun ρ => match o with
  | some a => .ok a ρ
  | none => .stuck
def Res.post {α : Type} (r : Res α) (Q : α → Rho → Prop) (E : Exn → Rho → Prop) : Prop := match r with
  | .stuck => False
  | .ok a ρ => Q a ρ
  | .ex x ρ => E x ρ
section
variable {α β : Type} {Q Q' : α → Rho → Prop} {R : β → Rho → Prop} {E E' : Exn → Rho → Prop} {ρ : Rho}
theorem post_bind (m : M α) (f : α → M β) : ((m >>= f) ρ).post R E ↔ (m ρ).post (fun a ρ' => (f a ρ').post R E) E := by
  show ((M.bind m f) ρ).post R E ↔ _
  unfold M.bind
  cases m ρ <;> exact Iff.rfl
theorem post_opt (o : Option α) : ((mOpt o) ρ).post Q E ↔ ∃ a, o = some a ∧ Q a ρ := by
  unfold mOpt
  cases o with
  | none => exact ⟨fun h => h.elim, fun ⟨_, e, _⟩ => by cases e⟩
  | some a => exact ⟨fun h => ⟨a, rfl, h⟩, fun ⟨_, e, h⟩ => by cases e; exact h⟩
theorem Res.post_mono {r : Res α} (h : r.post Q E) (h1 : ∀ a ρ, Q a ρ → Q' a ρ) (h2 : ∀ x ρ, E x ρ → E' x ρ) : r.post Q' E' := by
  cases r with
  | stuck => exact h
  | ok a ρ => exact h1 a ρ h
  | ex x ρ => exact h2 x ρ h
theorem Res.post_ok {r : Res α} (h : r.post Q E) (h1 : ∀ a ρ, Q a ρ → Q' a ρ) : r.post Q' E := Res.post_mono h h1 fun _ _ z => z
end
def dcur (x : D × Kd) : M D := fun ρ => match cur ρ x with
  | some d => .ok d ρ
  | none => .stuck
theorem post_cur {x : D × Kd} {Q : D → Rho → Prop} {E : Exn → Rho → Prop} {ρ : Rho} : ((dcur x) ρ).post Q E ↔ ∃ d, cur ρ x = some d ∧ Q d ρ := by
  unfold dcur
  cases cur ρ x with
  | none => exact ⟨fun h => h.elim, fun ⟨_, e, _⟩ => by cases e⟩
  | some a => exact ⟨fun h => ⟨a, rfl, h⟩, fun ⟨_, e, h⟩ => by cases e; exact h⟩
def settleM (k : Kd) : M Unit := fun ρ => .ok () (settleR ρ k)
/-- an exception's fields -/
def ExnRep (K : PySem.W.Frag) (H : Hp) (O : Own) (x : Exn) (dd : Option Addr) : Prop := match x.fs with
  | none => dd = none
  | some fs => ∃ d vs, dd = some d ∧ H d = some (.xd vs) ∧ vs.map (·.1) = fs.map (·.1) ∧ Reps K H (lin O) (vs.map (·.2)) (fs.map (·.2)) ∧ ¬ lin O d
def clsV (K : PySem.W.Frag) (c : Str) : Value := .ref (He.ga K c)
def EX (G : Fix) (σ : St) (W : WX) (x : Exn) (ρ' : Rho) : Prop := ∀ O' H' dd, Rel G O' σ H' ρ' [] → ExnRep G.K H' O' x dd → W (clsV G.K x.c) dd σ H'
abbrev DE := M (D × Kd)
def tE (K : PySem.W.Frag) (W : WX) (r : DE) : TE := fun σ H Q => ∃ G O ρ, G.K = K ∧ Rel G O σ H ρ [] ∧
  (r ρ).post (fun x ρ' => ∀ O' v H', Rel G O' σ H' ρ' [⟨v, x.1, x.2⟩] → Q v H') (EX G σ W)
def SE (X : Cx) (e : Expr) (r : DE) : Prop := ∀ W, Takes X W → PE X e (tE X.K W r)
def tT (K : PySem.W.Frag) (W : WX) (r : M Bool) : TT := fun σ H Q => ∃ G O ρ, G.K = K ∧ Rel G O σ H ρ [] ∧
  (r ρ).post (fun b ρ' => ∀ O' H', Rel G O' σ H' ρ' [] → Q b H') (EX G σ W)
def ST (X : Cx) (e : Expr) (r : M Bool) : Prop := ∀ W, Takes X W → PT X e (tT X.K W r)
theorem PE.imp {X : Cx} {e : Expr} {t t' : TE} (h : PE X e t) (i : ∀ σ H Q, t' σ H Q → t σ H Q) : PE X e t' := ⟨fun pins s σ H Q I q => h.run pins s σ H Q I (i σ H Q q)⟩
theorem PT.imp {X : Cx} {e : Expr} {t t' : TT} (h : PT X e t) (i : ∀ σ H Q, t' σ H Q → t σ H Q) : PT X e t' := ⟨fun pins s σ H Q I q => h.run pins s σ H Q I (i σ H Q q)⟩
theorem PA.imp {X : Cx} {e : List Expr} {t t' : TA} (h : PA X e t) (i : ∀ σ H Q, t' σ H Q → t σ H Q) : PA X e t' := ⟨fun pos pins s σ H Q I q => h.run pos pins s σ H Q I (i σ H Q q)⟩
theorem PS.imp {X : Cx} {e : Stmt} {t t' : TS} (h : PS X e t) (i : ∀ D σ H, t' D σ H → t D σ H) : PS X e t' := ⟨fun pins s σ H D I q => h.run pins s σ H D I (i D σ H q)⟩
theorem PSs.imp {X : Cx} {e : List Stmt} {t t' : TS} (h : PSs X e t) (i : ∀ D σ H, t' D σ H → t D σ H) : PSs X e t' := ⟨fun pins s σ H D I q => h.run pins s σ H D I (i D σ H q)⟩
def frG (G : Fix) (O : Own) (H : Hp) : Fix :=
  { K := G.K, Pin := G.Pin, Out := fun b => (∃ n, O b = some (.tp n)) ∨ O b = some .out ∨ (G.Tb b).isSome = true, Fr := fun b => if (G.Tb b).isSome = true then none else match O b with
    | some (.sl _) => none
    | _ => H b, tbo := fun P q h => by
      have h : G.Tb P = some q := h
      rw [h]
      exact ⟨.inr (.inr rfl), if_pos rfl⟩ }
theorem tb_out {G : Fix} {O : Own} {σ : St} {H : Hp} {ρ : Rho} {T : List Tmp} (R : Rel G O σ H ρ T) {P : Addr} {q : Str} (h : G.Tb P = some q) : O P = some .out := (R.ot P).mpr (G.tbo P q h).1
theorem tb_sl {G : Fix} {O : Own} {σ : St} {H : Hp} {ρ : Rho} {T : List Tmp} (R : Rel G O σ H ρ T) {a : Addr} (n : O a ≠ some .out) : (G.Tb a).isSome = false := by
  cases e : G.Tb a with
  | none => rfl
  | some q => exact absurd (tb_out R e) n
theorem tb_is {G : Fix} {O : Own} {σ : St} {H : Hp} {ρ : Rho} {T : List Tmp} (R : Rel G O σ H ρ T) {a : Addr} (h : (G.Tb a).isSome = true) : O a = some .out := by
  obtain ⟨q, e⟩ := Option.isSome_iff_exists.mp h
  exact tb_out R e
theorem frG_fr {G : Fix} {O : Own} {H : Hp} {b : Addr} (h : (G.Tb b).isSome = false) (n : ∀ i, O b ≠ some (.sl i)) : (frG G O H).Fr b = H b := by
  unfold frG
  dsimp only
  rw [if_neg (by rw [h]; simp)]
  cases q : O b with
  | none => rfl
  | some w =>
    cases w with
    | sl i => exact absurd q (n i)
    | tp k => rfl
    | out => rfl
theorem tb_none {G : Fix} {b : Addr} {o : HO} (h : G.Fr b = some o) : G.Tb b = none := by
  cases e : G.Tb b with
  | none => rfl
  | some q => rw [(G.tbo b q e).2] at h; cases h
def frO (O : Own) : Own := fun b => match O b with
  | some (.tp _) => some .out
  | w => w
def unO (O O1 : Own) (n : Nat) : Own := fun b => match O b with
  | some (.tp k) => some (.tp k)
  | some .out => some .out
  | _ => match O1 b with
    | some (.tp m) => some (.tp (m + n))
    | w => w
section
variable {G : Fix} {O O1 : Own} {σ : St} {H H' : Hp} {ρ ρ' : Rho} {T T' : List Tmp}
theorem lin_frO {a : Addr} : lin (frO O) a ↔ lin O a := by
  unfold lin frO
  cases O a with
  | none => exact Iff.rfl
  | some w => cases w <;> simp
theorem Rel.frame (R : Rel G O σ H ρ T) : Rel (frG G O H) (frO O) σ H ρ [] := by
  have hs : Stay H H (lin O) (lin (frO O)) := fun a o n e => ⟨e, fun z => n (lin_frO.mp z)⟩
  refine ⟨R.len, fun b o e => ?_, fun b => ?_, fun a w e => ?_, R.pn, fun i s e => ?_, trivial⟩
  · replace e : (if (G.Tb b).isSome = true then none else match O b with
      | some (.sl _) => none
      | _ => H b) = some o := e
    split at e
    · cases e
    · unfold frO
      cases q : O b with
      | none => rw [q] at e; exact ⟨e, .inl rfl⟩
      | some w =>
        rw [q] at e
        cases w with
        | sl i => cases e
        | tp n => exact ⟨e, .inr rfl⟩
        | out => exact ⟨e, .inr rfl⟩
  · have tb : (G.Tb b).isSome = true → O b = some .out := tb_is R
    show frO O b = some .out ↔ ((∃ n, O b = some (.tp n)) ∨ O b = some .out ∨ (G.Tb b).isSome = true)
    unfold frO
    cases q : O b with
    | none =>
      rw [q] at tb
      constructor
      · intro z; cases z
      · rintro (⟨n, z⟩ | z | z)
        · cases z
        · cases z
        · exact tb z
    | some w =>
      rw [q] at tb
      cases w with
      | sl i =>
        constructor
        · intro z; cases z
        · rintro (⟨n, z⟩ | z | z)
          · cases z
          · cases z
          · exact tb z
      | tp n => exact ⟨fun _ => .inl ⟨n, rfl⟩, fun _ => rfl⟩
      | out => exact ⟨fun _ => .inr (.inl rfl), fun _ => rfl⟩
  · have : lin O a := lin_frO.mp (by unfold lin; rw [e]; simp)
    unfold lin at this
    cases q : O a with
    | none => exact absurd q this
    | some w' => exact R.tr a w' q
  · obtain ⟨v, h1, h2⟩ := R.sl i s e
    refine ⟨v, h1, slot_mono hs (fun a o e1 e2 => ⟨?_, e2⟩) h2⟩
    unfold frO
    rw [e1]
theorem Rel.unframe {σ' : St} (hσ : ∀ t ∈ T, ∀ i, t.k = .nm i → σ'[i]? = σ[i]?) (R : Rel G O σ H ρ T) (R' : Rel (frG G O H) O1 σ' H' ρ' T') : Rel G (unO O O1 T.length) σ' H' ρ' (T' ++ T) := by
  -- what O says of O1
  have nout : ∀ a, (O a = none ∨ ∃ i, O a = some (.sl i)) → O1 a ≠ some .out := fun a h z => by
    have := (R'.ot a).mp z
    rcases this with ⟨n, q⟩ | q | q
    · rcases h with h | ⟨i, h⟩ <;> (rw [q] at h; cases h)
    · rcases h with h | ⟨i, h⟩ <;> (rw [q] at h; cases h)
    · have q := tb_is R q
      rcases h with h | ⟨i, h⟩ <;> (rw [q] at h; cases h)
  have isout : ∀ a, ((∃ n, O a = some (.tp n)) ∨ O a = some .out) → O1 a = some .out := fun a h => (R'.ot a).mpr (h.imp id .inl)
  have fr0 : ∀ a o, O a = none → H a = some o → H' a = some o ∧ O1 a = none := fun a o e1 e2 => by
    obtain ⟨p, q⟩ := R'.fr a o (by rw [frG_fr (tb_sl R (by rw [e1]; simp)) (fun i => by rw [e1]; simp)]; exact e2)
    exact ⟨p, q.resolve_right (nout a (.inl e1))⟩
  have frT : ∀ a n o, O a = some (.tp n) → H a = some o → H' a = some o := fun a n o e1 e2 => (R'.fr a o (by rw [frG_fr (tb_sl R (by rw [e1]; simp)) (fun i => by rw [e1]; simp)]; exact e2)).1
  have frX : ∀ a o, O a = some .out → G.Tb a = none → H a = some o → H' a = some o := fun a o e1 et e2 => (R'.fr a o (by rw [frG_fr (by rw [et]; rfl) (fun i => by rw [e1]; simp)]; exact e2)).1
  have hs : Stay H' H' (lin O1) (lin (unO O O1 T.length)) := fun a o n e => by
    refine ⟨e, fun z => ?_⟩
    unfold lin unO at z
    unfold lin at n
    have n' : O1 a = none := by
      cases q : O1 a with
      | none => rfl
      | some _ => exact absurd (by rw [q]; simp) n
    cases q : O a with
    | none => rw [q] at z; dsimp only at z; rw [n'] at z; exact z rfl
    | some w =>
      cases w with
      | sl i => rw [q] at z; dsimp only at z; rw [n'] at z; exact z rfl
      | tp k => rw [isout a (.inl ⟨k, q⟩)] at n'; cases n'
      | out => rw [isout a (.inr q)] at n'; cases n'
  have hsT : Stay H H' (lin O) (lin (unO O O1 T.length)) := fun a o n e => by
    have n' : O a = none := by
      cases q : O a with
      | none => rfl
      | some _ => exact absurd (show lin O a by unfold lin; rw [q]; simp) n
    obtain ⟨p, q⟩ := fr0 a o n' e
    refine ⟨p, fun z => ?_⟩
    unfold lin unO at z
    rw [n'] at z
    dsimp only at z
    rw [q] at z
    exact z rfl
  refine ⟨R'.len, fun b o e => ?_, fun b => ?_, fun a w e => ?_, R'.pn, fun i s e => ?_, ?_⟩
  · obtain ⟨p, q⟩ := R.fr b o e
    rcases q with q | q
    · obtain ⟨p2, q2⟩ := fr0 b o q p
      exact ⟨p2, .inl (by unfold unO; rw [q]; dsimp only; rw [q2])⟩
    · exact ⟨frX b o q (tb_none e) p, .inr (by unfold unO; rw [q])⟩
  · constructor
    · intro z
      unfold unO at z
      cases q : O b with
      | none =>
        rw [q] at z
        dsimp only at z
        cases q2 : O1 b with
        | none => rw [q2] at z; cases z
        | some w =>
          rw [q2] at z
          cases w with
          | sl i => cases z
          | tp n => cases z
          | out => exact absurd q2 (nout b (.inl q))
      | some w =>
        cases w with
        | sl i =>
          rw [q] at z
          dsimp only at z
          cases q2 : O1 b with
          | none => rw [q2] at z; cases z
          | some w =>
            rw [q2] at z
            cases w with
            | sl i => cases z
            | tp n => cases z
            | out => exact absurd q2 (nout b (.inr ⟨i, q⟩))
        | tp k => rw [q] at z; cases z
        | out => exact (R.ot b).mp q
    · intro z
      unfold unO
      rw [(R.ot b).mpr z]
  · have noT : O a ≠ some .out → ∀ q, G.Tb a = some q → LamX.TabS H' a q := fun n q hq => absurd (tb_out R hq) n
    cases q : O a with
    | none =>
      unfold unO at e
      rw [q] at e
      dsimp only at e
      cases q2 : O1 a with
      | none => rw [q2] at e; cases e
      | some w => exact ⟨(R'.tr a w q2).1, noT (by rw [q]; simp)⟩
    | some w =>
      cases w with
      | sl i =>
        unfold unO at e
        rw [q] at e
        dsimp only at e
        cases q2 : O1 a with
        | none => rw [q2] at e; cases e
        | some w => exact ⟨(R'.tr a w q2).1, noT (by rw [q]; simp)⟩
      | tp k =>
        obtain ⟨o, ho⟩ := (R.tr a _ q).1
        exact ⟨⟨o, frT a k o q ho⟩, noT (by rw [q]; simp)⟩
      | out =>
        obtain ⟨t1, t2⟩ := R'.tr a _ (isout a (.inr q))
        exact ⟨t1, fun z hz => t2 z hz⟩
  · obtain ⟨v, h1, h2⟩ := R'.sl i s e
    refine ⟨v, h1, slot_mono hs (fun a o e1 e2 => ⟨?_, e2⟩) h2⟩
    unfold unO
    cases q : O a with
    | none => dsimp only; rw [e1]
    | some w =>
      cases w with
      | sl i => dsimp only; rw [e1]
      | tp k => rw [isout a (.inl ⟨k, q⟩)] at e1; cases e1
      | out => rw [isout a (.inr q)] at e1; cases e1
  · have tail : TmpsOk G.K H' (unO O O1 T.length) σ' T := tmps_mono hsT (fun a o n _ e1 e2 => ⟨by unfold unO; rw [e1], frT a n o e1 e2⟩) (tmps_slots hσ R.tm)
    have all : ∀ T' : List Tmp, TmpsOk G.K H' O1 σ' T' → TmpsOk G.K H' (unO O O1 T.length) σ' (T' ++ T) := by
      intro T'
      induction T' with
      | nil => intro _; exact tail
      | cons t r ih =>
        rintro ⟨h1, h2⟩
        refine ⟨?_, ih h2⟩
        show TmpOk G.K H' (unO O O1 T.length) σ' (r ++ T).length t
        rw [List.length_append]
        unfold TmpOk at h1 ⊢
        cases q : t.k with
        | shr => rw [q] at h1; exact h1.mono hs
        | fr =>
          rw [q] at h1
          refine OwnX.mono hs h1 fun a o e1 e2 => ⟨?_, e2⟩
          unfold unO
          cases q : O a with
          | none => dsimp only; rw [e1]
          | some w =>
            cases w with
            | sl i => dsimp only; rw [e1]
            | tp k => rw [isout a (.inl ⟨k, q⟩)] at e1; cases e1
            | out => rw [isout a (.inr q)] at e1; cases e1
        | nm i => rw [q] at h1; exact h1
    exact all T' R'.tm
theorem ExnRep.unframe {σ' : St} {x : Exn} {dd : Option Addr} {n : Nat} (R' : Rel (frG G O H) O1 σ' H' ρ' []) (er : ExnRep G.K H' O1 x dd) : ExnRep G.K H' (unO O O1 n) x dd := by
  unfold ExnRep at er ⊢
  cases q : x.fs with
  | none => rw [q] at er; exact er
  | some fs =>
    rw [q] at er
    obtain ⟨d, vs, e1, e2, e3, e4, e5⟩ := er
    have key : ∀ a, ¬ lin O1 a → ¬ lin (unO O O1 n) a := fun a n z => n (by
      unfold lin at z ⊢
      intro z2
      unfold unO at z
      cases q : O a with
      | none => rw [q] at z; dsimp only at z; rw [z2] at z; exact z rfl
      | some w =>
        cases w with
        | sl i => rw [q] at z; dsimp only at z; rw [z2] at z; exact z rfl
        | tp k => rw [(R'.ot a).mpr (.inl ⟨k, q⟩)] at z2; cases z2
        | out => rw [(R'.ot a).mpr (.inr (.inl q))] at z2; cases z2)
    exact ⟨d, vs, e1, e2, e3, e4.mono fun a o n e => ⟨e, key a n⟩, key d e5⟩
theorem EX.unframe {W : WX} {σ' : St} {x : Exn} (R : Rel G O σ H ρ T) (h : EX G σ' W x ρ') : EX (frG G O H) σ' W x ρ' := fun O' H' dd R' er =>
  h _ H' dd (R.nil.unframe (T := []) (T' := []) (fun _ z => by cases z) R') (ExnRep.unframe R' er)
/-- a reading within the frame of what is pending -/
theorem tE.at {K : PySem.W.Frag} {W : WX} {r : DE} {Q : VK} (hK : G.K = K) (R : Rel G O σ H ρ T) (h : (r ρ).post (fun x ρ' => ∀ O' v H', Rel G O' σ H' ρ' (⟨v, x.1, x.2⟩ :: T) → Q v H') (EX G σ W)) : tE K W r σ H Q :=
  ⟨frG G O H, frO O, ρ, hK, R.frame, Res.post_mono h (fun x ρ' q O' v H' R' => q _ v H' (R.unframe (fun _ _ _ _ => rfl) R')) fun x ρ' q => EX.unframe R q⟩
theorem tT.at {K : PySem.W.Frag} {W : WX} {r : M Bool} {Q : Bool → Hp → Prop} (hK : G.K = K) (R : Rel G O σ H ρ T) (h : (r ρ).post (fun b ρ' => ∀ O' H', Rel G O' σ H' ρ' T → Q b H') (EX G σ W)) : tT K W r σ H Q :=
  ⟨frG G O H, frO O, ρ, hK, R.frame, Res.post_mono h (fun x ρ' q O' H' R' => q _ H' (R.unframe (T' := []) (fun _ _ _ _ => rfl) R')) fun x ρ' q => EX.unframe R q⟩
end
inductive Fl where
  | nx | brk | cnt | ret (d : D) (fr : Bool)
abbrev DS := M Fl
def frK (b : Bool) : Kd := match b with
  | true => .fr
  | false => .shr
def FlOk (G : Fix) (D : Ends) (T : List Tmp) (f : Fl) (ρ' : Rho) : Prop := match f with
  | .nx => ∀ O' σ' H', Rel G O' σ' H' ρ' T → D.nx σ' H'
  | .brk => ∀ O' σ' H', Rel G O' σ' H' ρ' T → D.bk σ' H'
  | .cnt => ∀ O' σ' H', Rel G O' σ' H' ρ' T → D.ct σ' H'
  | .ret d b => ∀ O' σ' v H', Rel G O' σ' H' ρ' (⟨v, d, frK b⟩ :: T) → D.rt v H'
def EXs (G : Fix) (W : WX) (x : Exn) (ρ' : Rho) : Prop := ∀ σ', EX G σ' W x ρ'
def tS (K : PySem.W.Frag) (W : WX) (r : DS) : TS := fun D σ H => ∃ G O ρ, G.K = K ∧ Rel G O σ H ρ [] ∧ (r ρ).post (FlOk G D []) (EXs G W)
/-- what is handed back, seen through p -/
def _root_.L2.Ends.re (p : VK → VK) (D : Ends) : Ends := { D with rt := p D.rt }
def SSf (p : VK → VK) (X : Cx) (st : Stmt) (r : DS) : Prop := ∀ W, Takes X W → PS X st fun D => tS X.K W r (D.re p)
def SSsf (p : VK → VK) (X : Cx) (st : List Stmt) (r : DS) : Prop := ∀ W, Takes X W → PSs X st fun D => tS X.K W r (D.re p)
abbrev SS (X : Cx) (st : Stmt) (r : DS) : Prop := SSf id X st r
abbrev SSs (X : Cx) (st : List Stmt) (r : DS) : Prop := SSsf id X st r
section
variable {G : Fix} {O O1 : Own} {σ : St} {H H' : Hp} {ρ ρ' : Rho} {T T' : List Tmp}
theorem tS.at {K : PySem.W.Frag} {W : WX} {r : DS} {D : Ends} (hT : NoNm T) (hK : G.K = K) (R : Rel G O σ H ρ T) (h : (r ρ).post (FlOk G D T) (EXs G W)) : tS K W r D σ H := by
  have hσ : ∀ σ' : St, ∀ t ∈ T, ∀ i, t.k = .nm i → σ'[i]? = σ[i]? := fun σ' t ht i e => absurd e (hT t ht i)
  refine ⟨frG G O H, frO O, ρ, hK, R.frame, Res.post_mono h (fun f ρ' q => ?_) fun x ρ' q σ' => EX.unframe R (q σ')⟩
  cases f with
  | nx => exact fun O' σ' H' R' => q _ σ' H' (R.unframe (T' := []) (hσ σ') R')
  | brk => exact fun O' σ' H' R' => q _ σ' H' (R.unframe (T' := []) (hσ σ') R')
  | cnt => exact fun O' σ' H' R' => q _ σ' H' (R.unframe (T' := []) (hσ σ') R')
  | ret d b => exact fun O' σ' v H' R' => q _ σ' v H' (R.unframe (T' := [_]) (hσ σ') R')
/-- what is pending does not matter at the end -/
theorem FlOk.drop {D : Ends} {f : Fl} (h : FlOk G D [] f ρ') : FlOk G D T f ρ' := by
  cases f with
  | nx => exact fun O' σ' H' R' => h O' σ' H' R'.nil
  | brk => exact fun O' σ' H' R' => h O' σ' H' R'.nil
  | cnt => exact fun O' σ' H' R' => h O' σ' H' R'.nil
  | ret d b => exact fun O' σ' v H' R' => let ⟨O2, R2⟩ := R'.only; h O2 σ' v H' R2
end
end L2.VL
end
section
set_option Elab.async false
set_option linter.all false
set_option maxRecDepth 100000
namespace L2.VL
open PySem PySem.Spec PyProof.Rows
section
variable {X : Cx} {a b c e : Expr} {ra rb rc r : DE} {pos : Pos}
def dVar (i : Nat) : DE := fun ρ => match ρ[i]? with
  | some (some s) => .ok (s.d, .nm i) ρ
  | _ => .stuck
def dCon (v : V) : DE := pure (.con v, .shr)
theorem se_var (i : Nat) {x : Str} (hN : X.N[i]? = some x := by rfl) (hv : Vis X.env.scope x := by first | exact Or.inl rfl | exact Or.inr (Or.inl rfl) | exact Or.inr (Or.inr rfl)) (hd : (x == ("__debug__" : Str)) = false := by decide)
    (hcd : (x == ("__classdict__" : Str)) = false := by decide) : SE X (.Name x pos) (dVar i) := fun W tk => PE.imp (pe_var hN hv hd hcd) fun σ H Q ⟨G, O, ρ, hK, R, h⟩ => by
  unfold dVar at h
  split at h
  · rename_i s hs
    obtain ⟨v, h1, h2⟩ := R.sl i s hs
    exact ⟨v, h1, h O v H (R.push h1)⟩
  · exact h.elim
theorem se_tC {v : V} (h : PE X e (tC v)) : SE X e (dCon v) := fun W tk => PE.imp h fun σ H Q ⟨G, O, ρ, hK, R, h⟩ => h O v H (R.con v)
theorem se_int {i j} : SE X (.Constant (.int i) j pos) (dCon (.int i)) := se_tC pe_int
theorem se_bl {b j} : SE X (.Constant (.bool b) j pos) (dCon (.bl b)) := se_tC pe_bl
theorem se_non {j} : SE X (.Constant .none j pos) (dCon .non) := se_tC pe_non
theorem se_str {x j} : SE X (.Constant (.str x) j pos) (dCon (.str x)) := se_tC pe_str
theorem se_glob {x : Str} {v : V} {u : Value} (hm : X.mg x = some u) (r : RelV v u) (hg : Gl X x := by rfl) (hd : (x == ("__debug__" : Str)) = false := by decide) : SE X (.Name x pos) (dCon v) := se_tC (pe_glob hg hm r hd)
def dOp2 (g : D → D → Option (D × Kd)) (ra rb : DE) : DE := do
  let x ← ra
  let y ← rb
  let d ← dcur x
  let e ← dcur y
  mOpt (g d e)
def OpS2 (K : PySem.W.Frag) (r : R2) (g : D → D → Option (D × Kd)) : Prop := ∀ (G : Fix) (O : Own) (σ : St) (H : Hp) (ρ : Rho) (a b : V) (x y : D) (z : D × Kd) (Q : VK), G.K = K → Rel G O σ H ρ [] → Vw K H O a x → Vw K H O b y →
  g x y = some z → (∀ O' v H', Rel G O' σ H' ρ [⟨v, z.1, z.2⟩] → Q v H') → r a b H Q
theorem OpS2.tOp {K : PySem.W.Frag} {W : WX} {rr : R2} {g : D → D → Option (D × Kd)} (hs : OpS2 K rr g) (σ : St) (H : Hp) (Q : VK) (h : tE K W (dOp2 g ra rb) σ H Q) : L2.tOp rr (tE K W ra) (tE K W rb) σ H Q := by
  obtain ⟨G, O, ρ, hK, R, h⟩ := h
  refine tE.at hK R (Res.post_ok ((post_bind _ _).mp h) fun x ρ1 q O1 v H1 R1 => ?_)
  refine tE.at hK R1 (Res.post_ok ((post_bind _ _).mp q) fun y ρ2 q2 O2 w H2 R2 => ?_)
  obtain ⟨d, e1, q3⟩ := post_cur.mp ((post_bind _ _).mp q2)
  obtain ⟨e, e2, q4⟩ := post_cur.mp ((post_bind _ _).mp q3)
  obtain ⟨z, e3, q5⟩ := (post_opt _).mp q4
  have v1 := R2.view R2.tm.2.1 e1
  have v2 := R2.view R2.tm.1 e2
  rw [hK] at v1 v2
  exact hs G O2 σ H2 ρ2 v w d e z Q hK R2.nil v1 v2 e3 q5
theorem se_op {op : Operator} {rr : R2} {g : D → D → Option (D × Kd)} (ho : OpR X (binaryOp op) rr) (hs : OpS2 X.K rr g) (ha : SE X a ra) (hb : SE X b rb) : SE X (.BinOp a op b pos) (dOp2 g ra rb) :=
  fun W tk => PE.imp (pe_op ho (ha W tk) (hb W tk)) (hs.tOp)
theorem se_cmp {op : CmpOp} {rr : R2} {g : D → D → Option (D × Kd)} (ho : OpR X (compareOp op) rr) (hs : OpS2 X.K rr g) (ha : SE X a ra) (hb : SE X b rb) (hm : behindInMarks op b = false) : SE X (.Compare a [op] [b] pos) (dOp2 g ra rb) :=
  fun W tk => PE.imp (pe_cmpR ho (ha W tk) (hb W tk) hm) (hs.tOp)
theorem se_ix {rr : R2} {g : D → D → Option (D × Kd)} (ho : IxR X rr) (hs : OpS2 X.K rr g) (ha : SE X a ra) (hb : SE X b rb) (hp : PlainIx b) : SE X (.Subscript a b pos) (dOp2 g ra rb) :=
  fun W tk => PE.imp (pe_ix ho (ha W tk) (hb W tk) hp) (hs.tOp)
theorem OpS2.or {K : PySem.W.Frag} {r1 r2 : R2} {g1 g2 : D → D → Option (D × Kd)} (h1 : OpS2 K r1 g1) (h2 : OpS2 K r2 g2) : OpS2 K (fun x y H Q => r1 x y H Q ∨ r2 x y H Q) (fun x y => (g1 x y).or (g2 x y)) := by
  intro G O σ H ρ a b x y z Q hK R v1 v2 e q
  replace e : (g1 x y).or (g2 x y) = some z := e
  cases e1 : g1 x y with
  | none =>
    rw [e1] at e
    exact .inr (h2 G O σ H ρ a b x y z Q hK R v1 v2 (by simpa using e) q)
  | some u =>
    rw [e1] at e
    exact .inl (h1 G O σ H ρ a b x y z Q hK R v1 v2 (by rw [e1]; simpa using e) q)
def asB (d : D) : Option Bool := match d with
  | .con (.bl b) => some b
  | _ => none
/-- a value that is True or False, as a test -/
def dB (r : DE) : M Bool := do
  let x ← r
  let d ← dcur x
  mOpt (asB d)
theorem dB_post {G : Fix} {O : Own} {σ : St} {H : Hp} {ρ : Rho} {K : PySem.W.Frag} {W : WX} {Q : Bool → Hp → Prop} (hK : G.K = K) (R : Rel G O σ H ρ []) (h : ((dB r) ρ).post (fun b ρ' => ∀ O' H', Rel G O' σ H' ρ' [] → Q b H') (EX G σ W)) :
    tE K W r σ H fun x H' => ∃ k, x = .bl k ∧ Q k H' := by
  refine tE.at hK R (Res.post_ok ((post_bind _ _).mp h) fun x ρ1 q O1 v H1 R1 => ?_)
  obtain ⟨d, e1, q3⟩ := post_cur.mp ((post_bind _ _).mp q)
  obtain ⟨b, e2, q4⟩ := (post_opt _).mp q3
  have v1 := R1.view R1.tm.1 e1
  unfold asB at e2
  split at e2
  · cases e2
    exact ⟨_, v1.con, q4 O1 H1 R1.pop⟩
  · cases e2
theorem st_cmp {op : CmpOp} {rr : R2} {g : D → D → Option (D × Kd)} (ho : OpR X (compareOp op) rr) (hs : OpS2 X.K rr g) (ha : SE X a ra) (hb : SE X b rb) (hm : behindInMarks op b = false) : ST X (.Compare a [op] [b] pos) (dB (dOp2 g ra rb)) :=
  fun W tk => PT.imp (pt_cmpR ho (ha W tk) (hb W tk) hm) fun σ H Q ⟨G, O, ρ, hK, R, h⟩ => hs.tOp (W := W) σ H _ (dB_post hK R h)
def truthD (d : D) : Option Bool := match d with
  | .con .non => some false
  | .con (.bl b) => some b
  | .con (.int i) => some (i != 0)
  | .con (.str s) => if s.length ≤ 16777216 then some ((s.length : Int) != 0) else none
  | .lst xs => some !xs.isEmpty
  | .tup xs => some !xs.isEmpty
  | _ => none
def dTr (r : DE) : M Bool := do
  let x ← r
  let d ← dcur x
  mOpt (truthD d)
theorem Reps.isEmpty {K : PySem.W.Frag} {H : Hp} {L : Addr → Prop} {vs : List V} {ds : List D} (h : Reps K H L vs ds) : vs.isEmpty = ds.isEmpty := by
  cases h <;> rfl
theorem RepK.isEmpty {K : PySem.W.Frag} {H : Hp} {L : Addr → Prop} {vs : List (Key × V)} {ds : List (Key × D)} (h : RepK K H L vs ds) : vs.isEmpty = ds.isEmpty := by
  cases h <;> rfl
theorem tru_of {K : PySem.W.Frag} {H : Hp} {O : Own} {v : V} {d : D} {k : Bool} (h : Vw K H O v d) (e : truthD d = some k) : TruV K v H k := by
  unfold truthD at e
  split at e
  · cases e; rw [h.con]; rfl
  · cases e; rw [h.con]; rfl
  · cases e; rw [h.con]; rfl
  · split at e
    · cases e
      rw [h.con]
      exact ⟨by rw [sizeLine_eq]; assumption, rfl⟩
    · cases e
  · cases e
    obtain ⟨a, vs, rfl, q, r⟩ := h.lst
    exact .inl ⟨vs, q, by rw [r.isEmpty]⟩
  · cases e
    obtain ⟨a, vs, rfl, q, r⟩ := h.tup
    exact .inr (.inl ⟨vs, q, by rw [r.isEmpty]⟩)
  · cases e
theorem st_val (ha : SE X a ra) (he : ∀ whole, isTrue a X.env whole = (do let v ← whole; standAt a.pos; holding [v] (truthy v)) := by intro _; rfl) : ST X a (dTr ra) :=
  fun W tk => PT.imp (pt_truth (ha W tk) he) fun σ H Q ⟨G, O, ρ, hK, R, h⟩ => by
    refine tE.at hK R (Res.post_ok ((post_bind _ _).mp h) fun x ρ1 q O1 v H1 R1 => ?_)
    obtain ⟨d, e1, q3⟩ := post_cur.mp ((post_bind _ _).mp q)
    obtain ⟨b, e2, q4⟩ := (post_opt _).mp q3
    have v1 := R1.view R1.tm.1 e1
    rw [hK] at v1
    exact ⟨b, tru_of v1 e2, q4 O1 H1 R1.pop⟩
end
def dNot (r : M Bool) : M Bool := do
  let b ← r
  pure !b
theorem tT.imp {K : PySem.W.Frag} {W : WX} {r : M Bool} {σ : St} {H : Hp} {Q Q' : Bool → Hp → Prop} (h : tT K W r σ H Q) (i : ∀ b H, Q b H → Q' b H) : tT K W r σ H Q' := by
  obtain ⟨G, O, ρ, hK, R, h⟩ := h
  exact ⟨G, O, ρ, hK, R, Res.post_ok h fun b ρ1 q O1 H1 R1 => i _ _ (q O1 H1 R1)⟩
section
variable {X : Cx} {a b c e : Expr} {rest es : List Expr} {ra rb rc r : DE} {qa qb qc : M Bool} {pos : Pos}
theorem st_not (ha : ST X a qa) : ST X (.UnaryOp .Not a pos) (dNot qa) := fun W tk => PT.imp (pt_not (ha W tk)) fun σ H Q ⟨G, O, ρ, hK, R, h⟩ =>
  ⟨G, O, ρ, hK, R, Res.post_ok ((post_bind _ _).mp h) fun b ρ1 q O1 H1 R1 => q O1 H1 R1⟩
def SW (X : Cx) (e : Expr) (r : M Bool) : Prop := ∀ W, Takes X W → PW X e (tT X.K W r)
theorem SW.st (h : SW X e qa) : ST X e qa := fun W tk => (h W tk).pt
theorem PW.imp {X : Cx} {e : Expr} {t t' : TT} (h : PW X e t) (i : ∀ σ H Q, t' σ H Q → t σ H Q) : PW X e t' := ⟨fun wh pins s σ H Q I q => h.run wh pins s σ H Q I (i σ H Q q)⟩
def dAnd (qa qb : M Bool) : M Bool := do
  let b ← qa
  if b then qb else pure false
def dOr (qa qb : M Bool) : M Bool := do
  let b ← qa
  if b then pure true else qb
theorem sw_and1 (ha : ST X a qa) : SW X (.BoolOp .And [a] pos) qa := fun W tk => pw_and1 (ha W tk)
theorem sw_or1 (ha : ST X a qa) : SW X (.BoolOp .Or [a] pos) qa := fun W tk => pw_or1 (ha W tk)
theorem sw_and (ha : ST X a qa) (hb : SW X (.BoolOp .And (b :: rest) pos) qb) : SW X (.BoolOp .And (a :: b :: rest) pos) (dAnd qa qb) := fun W tk => PW.imp (pw_and (ha W tk) (hb W tk)) fun σ H Q ⟨G, O, ρ, hK, R, h⟩ =>
  ⟨G, O, ρ, hK, R, Res.post_ok ((post_bind _ _).mp h) fun b ρ1 q O1 H1 R1 => by
    cases b with
    | true => rw [if_pos rfl] at q ⊢; exact ⟨G, O1, ρ1, hK, R1, q⟩
    | false => rw [if_neg Bool.false_ne_true] at q ⊢; exact q O1 H1 R1⟩
theorem sw_or (ha : ST X a qa) (hb : SW X (.BoolOp .Or (b :: rest) pos) qb) : SW X (.BoolOp .Or (a :: b :: rest) pos) (dOr qa qb) := fun W tk => PW.imp (pw_or (ha W tk) (hb W tk)) fun σ H Q ⟨G, O, ρ, hK, R, h⟩ =>
  ⟨G, O, ρ, hK, R, Res.post_ok ((post_bind _ _).mp h) fun b ρ1 q O1 H1 R1 => by
    cases b with
    | true => rw [if_pos rfl] at q ⊢; exact q O1 H1 R1
    | false => rw [if_neg Bool.false_ne_true] at q ⊢; exact ⟨G, O1, ρ1, hK, R1, q⟩⟩
/-- and, or, not as values -/
def dAndV (ra rb : DE) : DE := do
  let b ← dB ra
  if b then rb else pure (.bl false, .shr)
theorem dB_bind {G : Fix} {O : Own} {σ : St} {H : Hp} {ρ : Rho} {K : PySem.W.Frag} {W : WX} {f : Bool → DE} {Q : Bool → Hp → Prop} {Q2 : VK} (hK : G.K = K) (R : Rel G O σ H ρ [])
    (h : ((dB ra >>= f) ρ).post (fun x ρ' => ∀ O' v H', Rel G O' σ H' ρ' [⟨v, x.1, x.2⟩] → Q2 v H') (EX G σ W))
    (i : ∀ b ρ1 O1 H1, Rel G O1 σ H1 ρ1 [] → ((f b) ρ1).post (fun x ρ' => ∀ O' v H', Rel G O' σ H' ρ' [⟨v, x.1, x.2⟩] → Q2 v H') (EX G σ W) → Q b H1) : tE K W ra σ H fun x H' => ∃ k, x = .bl k ∧ Q k H' :=
  dB_post hK R (Res.post_ok ((post_bind _ _).mp h) fun b ρ1 q O1 H1 R1 => i b ρ1 O1 H1 R1 q)
theorem se_and (ha : SE X a ra) (hb : SE X (.BoolOp .And (b :: rest) pos) rb) : SE X (.BoolOp .And (a :: b :: rest) pos) (dAndV ra rb) := fun W tk => PE.imp (pe_and (ha W tk) (hb W tk)) fun σ H Q ⟨G, O, ρ, hK, R, h⟩ =>
  dB_bind hK R h fun b ρ1 O1 H1 R1 q => by
    cases b with
    | true => rw [if_pos rfl] at q ⊢; exact ⟨G, O1, ρ1, hK, R1, q⟩
    | false => rw [if_neg Bool.false_ne_true] at q ⊢; exact q O1 _ H1 (R1.con _)
theorem se_one {op} (ha : SE X a ra) : SE X (.BoolOp op [a] pos) ra := fun W tk => pe_one (ha W tk)
def dIfx (q : M Bool) (ra rb : DE) : DE := do
  let b ← q
  if b then ra else rb
theorem se_ifx {t : Expr} (ht : ST X t qa) (ha : SE X a ra) (hb : SE X b rb) : SE X (.IfExp t a b pos) (dIfx qa ra rb) := fun W tk => PE.imp (pe_ifExp (ht W tk) (ha W tk) (hb W tk)) fun σ H Q ⟨G, O, ρ, hK, R, h⟩ =>
  ⟨G, O, ρ, hK, R, Res.post_ok ((post_bind _ _).mp h) fun b ρ1 q O1 H1 R1 => by
    cases b with
    | true => rw [if_pos rfl] at q ⊢; exact ⟨G, O1, ρ1, hK, R1, q⟩
    | false => rw [if_neg Bool.false_ne_true] at q ⊢; exact ⟨G, O1, ρ1, hK, R1, q⟩⟩
/-- a comparison: the heap stays -/
def CmpS (K : PySem.W.Frag) (rr : R2) (g : D → D → Option Bool) : Prop := ∀ (a b : V) (H : Hp) (x y : D) (k : Bool) (O : Own) (Q : VK), Vw K H O a x → Vw K H O b y → g x y = some k → Q (.bl k) H → rr a b H Q
def dCmp (g : D → D → Option Bool) (ra rb : DE) : DE := dOp2 (fun x y => (g x y).map fun k => (.bl k, .shr)) ra rb
theorem CmpS.os {K : PySem.W.Frag} {rr : R2} {g : D → D → Option Bool} (h : CmpS K rr g) : OpS2 K rr (fun x y => (g x y).map fun k => (.bl k, .shr)) := by
  intro G O σ H ρ a b x y z Q hK R v1 v2 e q
  obtain ⟨v, e1, e2⟩ := Option.map_eq_some_iff.mp e
  subst e2
  exact h a b H x y v O Q v1 v2 e1 (q O _ H (R.con _))
def gC (f : Int → Int → Bool) (x y : D) : Option Bool := match x, y with
  | .con (.int i), .con (.int j) => some (f i j)
  | _, _ => none
theorem cs_int {K : PySem.W.Frag} {f : Int → Int → Bool} : CmpS K (rI0 fun i j => .bl (f i j)) (gC f) := fun a b H x y k O Q v1 v2 e q => by
  unfold gC at e
  split at e
  · cases e
    exact ⟨_, _, v1.con, v2.con, q⟩
  · cases e
/-- a op1 b op2 c -/
def dChain (g g' : D → D → Option Bool) (ra rb rc : DE) : DE := do
  let x ← ra
  let y ← rb
  let d ← dcur x
  let e ← dcur y
  let k ← mOpt (g d e)
  if k then do
    let u ← rc
    let e' ← dcur y
    let f ← dcur u
    let k' ← mOpt (g' e' f)
    pure (.bl k', .shr)
  else pure (.bl false, .shr)
theorem chain_of {K : PySem.W.Frag} {W : WX} {rr rr' : R2} {g g' : D → D → Option Bool} (hs : CmpS K rr g) (hs' : CmpS K rr' g') (σ : St) (H : Hp) (Q : VK)
    (h : tE K W (dChain g g' ra rb rc) σ H Q) : tChain rr rr' (tE K W ra) (tE K W rb) (tE K W rc) σ H Q := by
  obtain ⟨G, O, ρ, hK, R, h⟩ := h
  refine tE.at hK R (Res.post_ok ((post_bind _ _).mp h) fun x ρ1 q O1 v H1 R1 => ?_)
  refine tE.at hK R1 (Res.post_ok ((post_bind _ _).mp q) fun y ρ2 q2 O2 w H2 R2 => ?_)
  obtain ⟨d, e1, q3⟩ := post_cur.mp ((post_bind _ _).mp q2)
  obtain ⟨e, e2, q4⟩ := post_cur.mp ((post_bind _ _).mp q3)
  obtain ⟨k, e3, q5⟩ := (post_opt _).mp ((post_bind _ _).mp q4)
  have v1 := R2.view R2.tm.2.1 e1
  have v2 := R2.view R2.tm.1 e2
  rw [hK] at v1 v2
  refine hs v w H2 d e k O2 _ v1 v2 e3 ⟨k, rfl, ?_⟩
  cases k with
  | false => rw [if_neg Bool.false_ne_true] at q5 ⊢; exact q5 O2 _ H2 (R2.nil.con _)
  | true =>
    rw [if_pos rfl] at q5 ⊢
    refine tE.at hK R2 (Res.post_ok ((post_bind _ _).mp q5) fun u ρ3 q6 O3 w3 H3 R3 => ?_)
    obtain ⟨e', e4, q7⟩ := post_cur.mp ((post_bind _ _).mp q6)
    obtain ⟨f, e5, q8⟩ := post_cur.mp ((post_bind _ _).mp q7)
    obtain ⟨k', e6, q9⟩ := (post_opt _).mp ((post_bind _ _).mp q8)
    have v3 := R3.view R3.tm.2.1 e4
    have v4 := R3.view R3.tm.1 e5
    rw [hK] at v3 v4
    exact hs' w w3 H3 e' f k' O3 Q v3 v4 e6 (q9 O3 _ H3 (R3.nil.con _))
theorem st_chain {op op' : CmpOp} {rr rr' : R2} {g g' : D → D → Option Bool} (ho : OpR X (compareOp op) rr) (ho' : OpR X (compareOp op') rr') (hs : CmpS X.K rr g) (hs' : CmpS X.K rr' g') (ha : SE X a ra) (hb : SE X b rb) (hc : SE X c rc)
    (hm : lastMarks [op, op'] [b, c] = false := by with_unfolding_all rfl) : ST X (.Compare a [op, op'] [b, c] pos) (dB (dChain g g' ra rb rc)) := fun W tk => PT.imp (pt_chain ho ho' (ha W tk) (hb W tk) (hc W tk) hm) fun σ H Q ⟨G, O, ρ, hK, R, h⟩ => chain_of (W := W) hs hs' σ H _ (dB_post hK R h)
def pushC : List V → List (D × Kd) → List Tmp → List Tmp
  | v :: vs, x :: xs, T => pushC vs xs (⟨v, x.1, x.2⟩ :: T)
  | _, _, T => T
def keep (b : Bool) (x : D × Kd) : M (D × Kd) := match b with
  | true => pure x
  | false => do
    let d ← dcur x
    settleM x.2
    pure (d, .shr)
def dA : List (Bool × DE) → M (List (D × Kd))
  | [] => pure []
  | (b, e) :: es => do
    let x ← e
    let y ← keep b x
    let ys ← dA es
    pure (y :: ys)
def tA (K : PySem.W.Frag) (W : WX) (r : M (List (D × Kd))) : TA := fun σ H Q => ∃ G O ρ T, G.K = K ∧ Rel G O σ H ρ T ∧
  (r ρ).post (fun xs ρ' => ∀ O' vs H', vs.length = xs.length → Rel G O' σ H' ρ' (pushC vs xs T) → Q vs H') (EX G σ W)
def SA (X : Cx) (es : List Expr) (l : List (Bool × DE)) : Prop := ∀ W, Takes X W → PA X es (tA X.K W (dA l))
theorem sa_nil : SA X [] [] := fun W tk => PA.imp pa_nil fun σ H Q ⟨G, O, ρ, T, hK, R, h⟩ => h O [] H rfl R
theorem keep_post {G : Fix} {O : Own} {σ : St} {H : Hp} {ρ : Rho} {b : Bool} {x : D × Kd} {v : V} {T : List Tmp} {Q : D × Kd → Rho → Prop} {E : Exn → Rho → Prop} (R : Rel G O σ H ρ (⟨v, x.1, x.2⟩ :: T)) (h : ((keep b x) ρ).post Q E) :
    ∃ O' y ρ', Rel G O' σ H ρ' (⟨v, y.1, y.2⟩ :: T) ∧ Q y ρ' := by
  cases b with
  | true => exact ⟨O, x, ρ, R, h⟩
  | false =>
    obtain ⟨d, e1, q⟩ := post_cur.mp ((post_bind _ _).mp h)
    obtain ⟨O', R'⟩ := R.settle (d := d) e1
    exact ⟨O', (d, .shr), _, R', q⟩
theorem sa_cons {b : Bool} {l : List (Bool × DE)} (ha : SE X e r) (hs : SA X es l) (hst : starEach (e :: es) X.env = (false, eval e X.env) :: starEach es X.env := by rfl) : SA X (e :: es) ((b, r) :: l) := fun W tk =>
  PA.imp (pa_cons (ha W tk) (hs W tk) hst) fun σ H Q ⟨G, O, ρ, T, hK, R, h⟩ => by
    refine tE.at hK R (Res.post_ok ((post_bind _ _).mp h) fun x ρ1 q O1 v H1 R1 => ?_)
    obtain ⟨O2, y, ρ2, R2, q2⟩ := keep_post R1 ((post_bind _ _).mp q)
    exact ⟨G, O2, ρ2, _, hK, R2, Res.post_ok ((post_bind _ _).mp q2) fun ys ρ3 q3 O3 vs H3 hl R3 => q3 O3 (v :: vs) H3 (congrArg (· + 1) hl) R3⟩
theorem pushC_pop {G : Fix} {O : Own} {σ : St} {H : Hp} {ρ : Rho} : ∀ {vs : List V} {xs : List (D × Kd)} {T : List Tmp}, Rel G O σ H ρ (pushC vs xs T) → Rel G O σ H ρ T
  | v :: vs, x :: xs, T, R => (pushC_pop (vs := vs) (xs := xs) R).pop
  | [], _, T, R => by unfold pushC at R; exact R
  | _ :: _, [], T, R => by unfold pushC at R; exact R
/-- all values that are shared -/
def shrs : List (D × Kd) → Option (List D)
  | [] => some []
  | (d, .shr) :: r => (shrs r).map (d :: ·)
  | _ => none
theorem pushC_reps {G : Fix} {O : Own} {σ : St} {H : Hp} {ρ : Rho} : ∀ {vs : List V} {xs : List (D × Kd)} {T : List Tmp} {ds : List D}, vs.length = xs.length → Rel G O σ H ρ (pushC vs xs T) → shrs xs = some ds → Reps G.K H (lin O) vs ds
  | [], [], T, ds, _, R, e => by cases e; exact .nil
  | v :: vs, (d, k) :: xs, T, ds, hl, R, e => by
    cases k with
    | shr =>
      obtain ⟨r, e1, e2⟩ := Option.map_eq_some_iff.mp (show (shrs xs).map (d :: ·) = some ds from e)
      subst e2
      exact .cons (pushC_pop (vs := vs) (xs := xs) (T := ⟨v, d, .shr⟩ :: T) R).tm.1 (pushC_reps (T := ⟨v, d, .shr⟩ :: T) (Nat.succ.inj hl) R e1)
    | fr => cases e
    | nm i => cases e
  | [], _ :: _, _, _, hl, _, _ => by cases hl
  | _ :: _, [], _, _, hl, _, _ => by cases hl
def curs (ρ : Rho) : List (D × Kd) → Option (List D)
  | [] => some []
  | x :: xs => match cur ρ x with
    | some d => (curs ρ xs).map (d :: ·)
    | none => none
inductive Vws (K : PySem.W.Frag) (H : Hp) (O : Own) : List V → List D → Prop
  | nil : Vws K H O [] []
  | cons {v : V} {vs : List V} {d : D} {ds : List D} : Vw K H O v d → Vws K H O vs ds → Vws K H O (v :: vs) (d :: ds)
theorem pushC_vws {G : Fix} {O : Own} {σ : St} {H : Hp} {ρ : Rho} : ∀ {vs : List V} {xs : List (D × Kd)} {T : List Tmp} {ds : List D}, vs.length = xs.length → Rel G O σ H ρ (pushC vs xs T) → curs ρ xs = some ds → Vws G.K H O vs ds
  | [], [], T, ds, _, R, e => by cases e; exact .nil
  | v :: vs, x :: xs, T, ds, hl, R, e => by
    unfold curs at e
    split at e
    · rename_i d hd
      obtain ⟨r, e1, e2⟩ := Option.map_eq_some_iff.mp e
      subst e2
      have R1 := pushC_pop (vs := vs) (xs := xs) (T := ⟨v, x.1, x.2⟩ :: T) R
      exact .cons (R1.view R1.tm.1 hd) (pushC_vws (T := ⟨v, x.1, x.2⟩ :: T) (Nat.succ.inj hl) R e1)
    · cases e
  | [], _ :: _, _, _, hl, _, _ => by cases hl
  | _ :: _, [], _, _, hl, _, _ => by cases hl
def dcurs (xs : List (D × Kd)) : M (List D) := fun ρ => match curs ρ xs with
  | some ds => .ok ds ρ
  | none => .stuck
theorem post_curs {xs : List (D × Kd)} {Q : List D → Rho → Prop} {E : Exn → Rho → Prop} {ρ : Rho} : ((dcurs xs) ρ).post Q E ↔ ∃ d, curs ρ xs = some d ∧ Q d ρ := by
  unfold dcurs
  cases curs ρ xs with
  | none => exact ⟨fun h => h.elim, fun ⟨_, e, _⟩ => by cases e⟩
  | some a => exact ⟨fun h => ⟨a, rfl, h⟩, fun ⟨_, e, h⟩ => by cases e; exact h⟩
def cap : Nat := 16777216
def gD (f : List D → D) (k : Kd) (xs : List (D × Kd)) : Option (D × Kd) := match shrs xs with
  | some ds => if ds.length ≤ cap then some (f ds, k) else none
  | none => none
def dLst (l : List (Bool × DE)) : DE := do
  let xs ← dA l
  mOpt (gD .lst .fr xs)
def dTup (l : List (Bool × DE)) : DE := do
  let xs ← dA l
  mOpt (gD .tup .shr xs)
theorem cap_eq : cap = sizeLine := sizeLine_eq.symm
theorem gD_of {f : List D → D} {k : Kd} {xs : List (D × Kd)} {z : D × Kd} (h : gD f k xs = some z) : ∃ ds, shrs xs = some ds ∧ ds.length ≤ sizeLine ∧ z = (f ds, k) := by
  unfold gD at h
  split at h
  · rename_i ds e
    split at h
    · rename_i hl
      cases h
      exact ⟨ds, e, by rw [← cap_eq]; exact hl, rfl⟩
    · cases h
  · cases h
theorem se_lst {l : List (Bool × DE)} (hs : SA X es l) : SE X (.List es pos) (dLst l) := fun W tk => PE.imp (pe_lst (hs W tk)) fun σ H Q ⟨G, O, ρ, hK, R, h⟩ => by
  refine ⟨G, O, ρ, [], hK, R, Res.post_ok ((post_bind _ _).mp h) fun xs ρ1 q O1 vs H1 hl R1 => ?_⟩
  obtain ⟨z, e, q2⟩ := (post_opt _).mp q
  obtain ⟨ds, e1, e2, e3⟩ := gD_of e
  subst e3
  have rp := pushC_reps hl R1 e1
  refine ⟨by rw [rp.len]; exact e2, fun p hp => ?_⟩
  obtain ⟨O2, R2⟩ := (pushC_pop R1).fresh (d := .lst ds) hp (.lst rp)
  exact q2 O2 _ _ R2
theorem se_tup {k} {l : List (Bool × DE)} (hs : SA X es l) : SE X (.Tuple es k pos) (dTup l) := fun W tk => PE.imp (pe_tup (hs W tk)) fun σ H Q ⟨G, O, ρ, hK, R, h⟩ => by
  refine ⟨G, O, ρ, [], hK, R, Res.post_ok ((post_bind _ _).mp h) fun xs ρ1 q O1 vs H1 hl R1 => ?_⟩
  obtain ⟨z, e, q2⟩ := (post_opt _).mp q
  obtain ⟨ds, e1, e2, e3⟩ := gD_of e
  subst e3
  have rp := pushC_reps hl R1 e1
  refine ⟨by rw [rp.len]; exact e2, fun p hp => ?_⟩
  exact q2 O1 _ _ ((pushC_pop R1).freshT (d := .tup ds) hp (.tup rp))
def OpS (K : PySem.W.Frag) (r : List V → Hp → VK → Prop) (g : List D → Option (D × Kd)) : Prop := ∀ (G : Fix) (O : Own) (σ : St) (H : Hp) (ρ : Rho) (vs : List V) (ds : List D) (z : D × Kd) (Q : VK), G.K = K → Rel G O σ H ρ [] → Vws K H O vs ds →
  g ds = some z → (∀ O' v H', Rel G O' σ H' ρ [⟨v, z.1, z.2⟩] → Q v H') → r vs H Q
def dBi (g : List D → Option (D × Kd)) (l : List (Bool × DE)) : DE := do
  let xs ← dA l
  let ds ← dcurs xs
  mOpt (g ds)
theorem OpS.tCB {K : PySem.W.Frag} {W : WX} {rr : List V → Hp → VK → Prop} {g : List D → Option (D × Kd)} {l : List (Bool × DE)} (hs : OpS K rr g) (σ : St) (H : Hp) (Q : VK) (h : tE K W (dBi g l) σ H Q) : L2.tCB rr (tA K W (dA l)) σ H Q := by
  obtain ⟨G, O, ρ, hK, R, h⟩ := h
  refine ⟨G, O, ρ, [], hK, R, Res.post_ok ((post_bind _ _).mp h) fun xs ρ1 q O1 vs H1 hl R1 => ?_⟩
  obtain ⟨ds, e1, q2⟩ := post_curs.mp ((post_bind _ _).mp q)
  obtain ⟨z, e2, q3⟩ := (post_opt _).mp q2
  have v1 := pushC_vws hl R1 e1
  rw [hK] at v1
  exact hs G O1 σ H1 ρ1 vs ds z Q hK (pushC_pop R1) v1 e2 q3
theorem se_callB {x : Str} {p : Pos} {id : String} {rr : List V → Hp → VK → Prop} {g : List D → Option (D × Kd)} {l : List (Bool × DE)} (hc : CallR X (.builtin id) rr) (hs : OpS X.K rr g) (hm : X.mg x = none) (ha : SA X (e :: es) l)
    (hv : bootBuiltins x = some (.builtin id) := by decide +kernel) (hg : Gl X x := by rfl) (hn : x ≠ "__name__" := by decide) (hdb : (x == ("__debug__" : Str)) = false := by decide)
    (he : starEach (e :: es) X.env = (false, eval e X.env) :: starEach es X.env := by rfl) (hpl : (backTo pos (starEach es X.env)).any (·.1) = false := by rfl) : SE X (.Call (.Name x p) (e :: es) [] pos) (dBi g l) :=
  fun W tk => PE.imp (pe_callB hc hg hm hv (ha W tk) hn hdb he hpl) (hs.tCB)
theorem se_callTy {x : Str} {p : Pos} {T : String} {rr : List V → Hp → VK → Prop} {g : List D → Option (D × Kd)} {l : List (Bool × DE)} (hc : CallR X (.type T) rr) (hs : OpS X.K rr g) (hm : X.mg x = none) (ha : SA X (e :: es) l)
    (hv : bootBuiltins x = some (.type T) := by decide +kernel) (hg : Gl X x := by rfl) (hn : x ≠ "__name__" := by decide) (hdb : (x == ("__debug__" : Str)) = false := by decide)
    (he : starEach (e :: es) X.env = (false, eval e X.env) :: starEach es X.env := by rfl) (hpl : (backTo pos (starEach es X.env)).any (·.1) = false := by rfl) : SE X (.Call (.Name x p) (e :: es) [] pos) (dBi g l) :=
  fun W tk => PE.imp (pe_callTy hc hg hm hv (ha W tk) hn hdb he hpl) (hs.tCB)
end
end L2.VL
end
section
set_option Elab.async false
set_option linter.all false
set_option maxRecDepth 100000
namespace L2.VL
open PySem PySem.Spec PyProof.Rows
/-- the context's plain facts -/
structure CxG (X : Cx) : Prop where
  calm : X.calm = true
  nd : X.N.Nodup
  pass : PassesOwn (model X.prog X.w) X.A X.env X.xe
  gu : X.A.guards = some []
section
variable {X : Cx} {a b c e : Expr} {es : List Expr} {st : Stmt} {sts : List Stmt} {ra rb rc r : DE} {qa : M Bool} {sa sb : DS} {pos : Pos}
def dNext : DS := pure .nx
def dSeq (sa sb : DS) : DS := do
  let f ← sa
  match f with
  | .nx => sb
  | f => pure f
theorem ss_nil {pj : VK → VK} : SSsf pj X [] dNext := fun W tk => PSs.imp pss_nil fun D σ H ⟨G, O, ρ, hK, R, h⟩ => h O σ H R
theorem ss_cons {pj : VK → VK} (h1 : SSf pj X st sa) (h2 : SSsf pj X sts sb) : SSsf pj X (st :: sts) (dSeq sa sb) := fun W tk => PSs.imp (pss_cons (h1 W tk) (h2 W tk)) fun D σ H ⟨G, O, ρ, hK, R, h⟩ =>
  ⟨G, O, ρ, hK, R, Res.post_ok ((post_bind _ _).mp h) fun f ρ1 q => by
    cases f with
    | nx => exact fun O' σ' H' R' => ⟨G, O', ρ1, hK, R', q⟩
    | brk => exact q
    | cnt => exact q
    | ret d b => exact q⟩
theorem ss_one {pj : VK → VK} (h1 : SSf pj X st sa) : SSsf pj X [st] sa := fun W tk => pss_one (h1 W tk)
def dExpr (r : DE) : DS := do
  let _ ← r
  pure .nx
theorem ss_expr {pj : VK → VK} (he : SE X e r) (hs : swapsWith e none pos.line X.env = pure false := by rfl) : SSf pj X (.Expr e pos) (dExpr r) := fun W tk => PS.imp (ps_expr (he W tk) hs) fun D σ H ⟨G, O, ρ, hK, R, h⟩ =>
  ⟨G, O, ρ, hK, R, Res.post_mono ((post_bind _ _).mp h) (fun x ρ1 q O' v H' R' => q O' σ H' R'.pop) fun x ρ' q => q σ⟩
/-- what is handed back: a def's own new object goes along with its name -/
def takeNm (d : D) (i : Nat) : M (D × Bool) := fun ρ => match ρ[i]? with
  | some (some s) => if s.own && !s.pin then .ok (d, true) (ρ.set i none) else .ok (d, false) (shareR ρ i)
  | _ => .stuck
def dTake (x : D × Kd) : M (D × Bool) := do
  let d ← dcur x
  match x.2 with
  | .fr => pure (d, true)
  | .shr => pure (d, false)
  | .nm i => takeNm d i
def dRet (r : DE) : DS := do
  let x ← r
  let y ← dTake x
  pure (.ret y.1 y.2)
theorem Rel.take {G : Fix} {O : Own} {σ : St} {H : Hp} {ρ : Rho} {i : Nat} {s : Slot} {v : V} {T : List Tmp} (R : Rel G O σ H ρ T) (e : ρ[i]? = some (some s)) (ho : s.own = true) (hp : s.pin = false) (hv : σ[i]? = some (some v)) :
    ∃ O', Rel G O' σ H (ρ.set i none) (⟨v, s.d, .fr⟩ :: T) := by
  have hi : i < ρ.length := (List.getElem?_eq_some_iff.mp e).1
  obtain ⟨v', h1, h2⟩ := R.sl i s e
  rw [hv] at h1; cases h1
  unfold SlotOk at h2
  rw [ho] at h2
  have hs : Stay H H (lin O) (lin (reO O (.sl i) (some (.tp T.length)))) := reO_stay
  refine ⟨reO O (.sl i) (some (.tp T.length)), by simpa using R.len, fun b o e => ?_, fun b => ?_, fun a w e => ?_, fun j u hj => ?_, fun j u hj => ?_, ⟨OwnX.mono hs h2 fun a o e1 e2 => ⟨reO_eq e1, e2⟩, ?_⟩⟩
  · obtain ⟨p1, p2⟩ := R.fr b o e
    rw [reO_ne (fun z => ?_)]
    · exact ⟨p1, p2⟩
    · rw [z] at p2
      rcases p2 with p2 | p2 <;> cases p2
  · by_cases z : O b = some (.sl i)
    · rw [reO_eq z]
      constructor
      · intro q; cases q
      · intro q
        have := (R.ot b).mpr q
        rw [z] at this; cases this
    · rw [reO_ne z]; exact R.ot b
  · by_cases z : O a = some (.sl i)
    · exact R.tr a _ z
    · rw [reO_ne z] at e; exact R.tr a w e
  · obtain ⟨p, s', q, c⟩ := R.pn j u hj
    refine ⟨p, s', ?_, c⟩
    rw [List.getElem?_set_ne (fun z => ?_)]
    · exact q
    · rw [← z, e] at q
      cases q
      rw [hp] at c; cases c
  · have z : j ≠ i := fun z => by
      rw [z, List.getElem?_set_self hi] at hj
      cases hj
    rw [List.getElem?_set_ne (Ne.symm z)] at hj
    obtain ⟨v', p1, p2⟩ := R.sl j u hj
    exact ⟨v', p1, slot_mono hs (fun a o e1 e2 => ⟨reO_other e1 fun y => z (Ow.sl.inj y), e2⟩) p2⟩
  · exact tmps_mono hs (fun a o n hn e1 e2 => ⟨reO_other e1 fun y => (by cases y), e2⟩) R.tm
theorem take_post {G : Fix} {O : Own} {σ : St} {H : Hp} {ρ : Rho} {x : D × Kd} {v : V} {Q : D × Bool → Rho → Prop} {E : Exn → Rho → Prop} (R : Rel G O σ H ρ [⟨v, x.1, x.2⟩]) (h : ((dTake x) ρ).post Q E) :
    ∃ O' y ρ', Rel G O' σ H ρ' [⟨v, y.1, frK y.2⟩] ∧ Q y ρ' := by
  obtain ⟨d, e1, q⟩ := post_cur.mp ((post_bind _ _).mp h)
  obtain ⟨d0, k⟩ := x
  cases k with
  | fr => cases e1; exact ⟨O, (d0, true), ρ, R, q⟩
  | shr => cases e1; exact ⟨O, (d0, false), ρ, R, q⟩
  | nm i =>
    dsimp only at q
    unfold takeNm at q
    unfold cur at e1
    dsimp only at e1
    split at e1
    · rename_i s hs
      cases e1
      rw [hs] at q
      dsimp only at q
      by_cases z : (s.own && !s.pin) = true
      · rw [if_pos z] at q
        simp only [Bool.and_eq_true, Bool.not_eq_true'] at z
        obtain ⟨O', R'⟩ := R.pop.take hs z.1 z.2 R.tm.1
        exact ⟨O', (s.d, true), _, R', q⟩
      · rw [if_neg z] at q
        obtain ⟨O', R'⟩ := R.settle (d := s.d) (by unfold cur; dsimp only; rw [hs])
        exact ⟨O', (s.d, false), _, R', q⟩
    · cases e1
theorem ss_ret (he : SE X e r) : SS X (.Return (some e) pos) (dRet r) := fun W tk => PS.imp (ps_ret (he W tk)) fun D σ H ⟨G, O, ρ, hK, R, h⟩ =>
  ⟨G, O, ρ, hK, R, Res.post_mono ((post_bind _ _).mp h) (fun x ρ1 q O' v H' R' => by
    obtain ⟨O2, y, ρ2, R2, q2⟩ := take_post R' ((post_bind _ _).mp q)
    exact q2 O2 σ v H' R2) fun x ρ' q => q σ⟩
def dIf (q : M Bool) (sa sb : DS) : DS := do
  let b ← q
  if b then sa else sb
theorem ss_if {pj : VK → VK} {t : Expr} {A B : List Stmt} (ht : ST X t qa) (ha : SSsf pj X A sa) (hb : SSsf pj X B sb) : SSf pj X (.If t A B pos) (dIf qa sa sb) := fun W tk => PS.imp (ps_if (ht W tk) (ha W tk) (hb W tk)) fun D σ H ⟨G, O, ρ, hK, R, h⟩ =>
  ⟨G, O, ρ, hK, R, Res.post_mono ((post_bind _ _).mp h) (fun b ρ1 q O1 H1 R1 => by
    cases b with
    | true => rw [if_pos rfl] at q ⊢; exact ⟨G, O1, ρ1, hK, R1, q⟩
    | false => rw [if_neg Bool.false_ne_true] at q ⊢; exact ⟨G, O1, ρ1, hK, R1, q⟩) fun x ρ' q => q σ⟩
/-- name = e -/
def putEnd (i : Nat) (k : Kd) (d : D) : M Unit := fun ρ => if pinned (settleR ρ k) i then .stuck else .ok () ((settleR ρ k).set i (some ⟨d, ownOf k, false⟩))
def dPut (i : Nat) (x : D × Kd) : M Unit := do
  let d ← dcur x
  putEnd i x.2 d
theorem put_post {G : Fix} {O : Own} {σ : St} {H : Hp} {ρ : Rho} {i : Nat} {x : D × Kd} {v : V} {T : List Tmp} {Q : Unit → Rho → Prop} {E : Exn → Rho → Prop} (hT : NoNm T) (R : Rel G O σ H ρ (⟨v, x.1, x.2⟩ :: T)) (h : ((dPut i x) ρ).post Q E) :
    ∃ O' ρ', Rel G O' (σ.set i (some v)) H ρ' T ∧ Q () ρ' := by
  obtain ⟨d, e1, q⟩ := post_cur.mp ((post_bind _ _).mp h)
  unfold putEnd at q
  cases hp : pinned (settleR ρ x.2) i with
  | true => rw [hp] at q; exact q.elim
  | false =>
    rw [hp] at q
    obtain ⟨O', R'⟩ := R.assign (i := i) hT e1 hp
    exact ⟨O', _, R', q⟩
def dSet (i : Nat) (r : DE) : DS := do
  let x ← r
  dPut i x
  pure .nx
theorem ss_set {pj : VK → VK} (i : Nat) {x : Str} {pos' : Pos} (hx : CxG X) (he : SE X e r) (hi : X.N[i]? = some x := by rfl) (hl : Loc X.env.scope x := by first | exact Or.inl rfl | exact Or.inr rfl) (hs : swapsWith e (some (.Name x pos')) pos.line X.env = pure false := by rfl)
    (hf : X.fn x = true ∨ X.env.scope.names.lookup x = some .local := by first | exact .inl rfl | exact .inr rfl) : SSf pj X (.Assign [.Name x pos'] e pos) (dSet i r) := fun W tk => PS.imp (ps_set hx.nd hi hl (he W tk) hs hf) fun D σ H ⟨G, O, ρ, hK, R, h⟩ =>
  ⟨G, O, ρ, hK, R, Res.post_mono ((post_bind _ _).mp h) (fun y ρ1 q O' v H' R' => by
    obtain ⟨O2, ρ2, R2, q2⟩ := put_post .nil R' ((post_bind _ _).mp q)
    exact q2 O2 _ H' R2) fun x ρ' q => q σ⟩
/-- a target's names: one, or a tuple of them -/
inductive Tg where
  | one (i : Nat) | many (is : List Nat)
def Tg.slots : Tg → List Nat
  | .one i => [i]
  | .many is => is
def putAll : List Nat → List D → M Unit
  | [], [] => pure ()
  | i :: is, d :: ds => do
    dPut i (d, .shr)
    putAll is ds
  | _, _ => mStuck
def items (d : D) : Option (List D) := match d with
  | .tup ds => some ds
  | .lst ds => some ds
  | _ => none
def Tg.put (t : Tg) (d : D) : M Unit := match t with
  | .one i => dPut i (d, .shr)
  | .many is => do
    let ds ← mOpt (items d)
    putAll is ds
/-- the slots outside are as they were -/
def AgOut (is : List Nat) (σ σ' : St) : Prop := σ'.length = σ.length ∧ ∀ j, j ∉ is → σ'[j]? = σ[j]?
theorem AgOut.refl {is : List Nat} {σ : St} : AgOut is σ σ := ⟨rfl, fun _ _ => rfl⟩
def tG (K : PySem.W.Frag) (is : List Nat) (f : D → M Unit) : TG := fun v σ H Q => ∃ G O ρ T x, G.K = K ∧ NoNm T ∧ Rel G O σ H ρ (⟨v, x, .shr⟩ :: T) ∧ ((f x) ρ).post (fun _ ρ' => ∀ O' σ' H', AgOut is σ σ' → Rel G O' σ' H' ρ' T → Q σ' H') (fun _ _ => False)
def SG (X : Cx) (tg : Expr) (t : Tg) : Prop := PG X tg (tG X.K t.slots t.put)
theorem PG.imp {X : Cx} {e : Expr} {t t' : TG} (h : PG X e t) (i : ∀ v σ H Q, t' v σ H Q → t v σ H Q) : PG X e t' := ⟨fun pins s σ H v u Q I r q => h.run pins s σ H v u Q I r (i v σ H Q q)⟩
theorem PGs.imp {X : Cx} {e : List Expr} {t t' : TGs} (h : PGs X e t) (i : ∀ v σ H Q, t' v σ H Q → t v σ H Q) : PGs X e t' := ⟨fun pins s σ H v u Q I r q => h.run pins s σ H v u Q I r (i v σ H Q q)⟩
theorem AgOut.set {is : List Nat} {σ : St} {i : Nat} {v : Option V} (h : i ∈ is) : AgOut is σ (σ.set i v) := ⟨by simp, fun j hj => by rw [List.getElem?_set_ne]; exact fun z => hj (z ▸ h)⟩
theorem sg_name (i : Nat) {x : Str} (hx : CxG X) (hi : X.N[i]? = some x := by rfl) (hl : Loc X.env.scope x := by first | exact Or.inl rfl | exact Or.inr rfl)
    (hf : X.fn x = true ∨ X.env.scope.names.lookup x = some .local := by first | exact .inl rfl | exact .inr rfl) : SG X (.Name x pos) (.one i) :=
  PG.imp (pg_name hx.nd hi hl hf) fun v σ H Q ⟨G, O, ρ, T, x, hK, hT, R, h⟩ => by
    obtain ⟨O', ρ', R', q⟩ := put_post hT R h
    exact q O' _ H (AgOut.set (by simp [Tg.slots])) R'
/-- several values, the first on top -/
def pushR : List V → List D → List Tmp → List Tmp
  | v :: vs, d :: ds, T => ⟨v, d, .shr⟩ :: pushR vs ds T
  | _, _, T => T
theorem NoNm.pushR {T : List Tmp} (h : NoNm T) : ∀ {vs : List V} {ds : List D}, NoNm (pushR vs ds T)
  | v :: vs, d :: ds => (NoNm.pushR h (vs := vs) (ds := ds)).cons (fun i z => by cases z)
  | [], _ => h
  | _ :: _, [] => h
theorem Rel.pushR {G : Fix} {O : Own} {σ : St} {H : Hp} {ρ : Rho} {T : List Tmp} (R : Rel G O σ H ρ T) : ∀ {vs : List V} {ds : List D}, Reps G.K H (lin O) vs ds → Rel G O σ H ρ (VL.pushR vs ds T)
  | _, _, .nil => R
  | _, _, .cons a b => (R.pushR b).push a
def SGs (X : Cx) (es : List Expr) (is : List Nat) : Prop := PGs X es fun vs σ H Q => ∃ (G : Fix) (O : Own) (ρ : Rho) (T : List Tmp) (ds : List D), G.K = X.K ∧ NoNm T ∧ vs.length = ds.length ∧ Rel G O σ H ρ (pushR vs ds T) ∧
  ((putAll is ds) ρ).post (fun _ ρ' => ∀ O' σ' H', AgOut is σ σ' → Rel G O' σ' H' ρ' T → Q σ' H') (fun _ _ => False)
theorem sgs_nil : SGs X [] [] := PGs.imp pgs_nil fun vs σ H Q ⟨G, O, ρ, T, ds, hK, hT, hl, R, h⟩ => by
  cases ds with
  | nil =>
    cases vs with
    | nil => exact ⟨rfl, h O σ H AgOut.refl R⟩
    | cons v vs => cases hl
  | cons d ds => exact h.elim
theorem sgs_cons (i : Nat) {is : List Nat} {x : Str} (hx : CxG X) (h2 : SGs X es is) (hi : X.N[i]? = some x := by rfl) (hl : Loc X.env.scope x := by first | exact Or.inl rfl | exact Or.inr rfl)
    (hf : X.fn x = true ∨ X.env.scope.names.lookup x = some .local := by first | exact .inl rfl | exact .inr rfl)
    (hs : (assignEach (.Name x pos :: es) X.env).map (·.2) = assign (.Name x pos) X.env :: (assignEach es X.env).map (·.2) := by rfl) : SGs X (.Name x pos :: es) (i :: is) :=
  PGs.imp (pgs_cons (pg_name hx.nd hi hl hf) h2 hs) fun vs σ H Q ⟨G, O, ρ, T, ds, hK, hT, hl, R, h⟩ => by
    cases ds with
    | nil => exact h.elim
    | cons d ds =>
      cases vs with
      | nil => cases hl
      | cons v vs =>
        obtain ⟨O', ρ', R', q⟩ := put_post (NoNm.pushR hT) (R : Rel G O σ H ρ (⟨v, d, .shr⟩ :: pushR vs ds T)) ((post_bind _ _).mp h)
        refine ⟨v, vs, rfl, G, O', ρ', T, ds, hK, hT, Nat.succ.inj hl, R', Res.post_ok q fun _ ρ2 q2 O2 σ2 H2 ag R2 => q2 O2 σ2 H2 ⟨by rw [ag.1]; simp, fun j hj => ?_⟩ R2⟩
        rw [ag.2 j (fun z => hj (List.mem_cons_of_mem _ z)), List.getElem?_set_ne (fun z => hj (by rw [z]; exact List.mem_cons_self))]
theorem putAll_len : ∀ {is : List Nat} {ds : List D} {ρ : Rho} {Q : Unit → Rho → Prop} {E : Exn → Rho → Prop}, (∀ x ρ, ¬ E x ρ) → ((putAll is ds) ρ).post Q E → ds.length = is.length
  | [], [], _, _, _, _, _ => rfl
  | i :: is, d :: ds, ρ, Q, E, hE, h => by
    have h1 := (post_bind _ _).mp h
    cases q : (dPut i (d, .shr)) ρ with
    | stuck => rw [q] at h1; exact h1.elim
    | ex x ρ' => rw [q] at h1; exact (hE _ _ h1).elim
    | ok a ρ' =>
      rw [q] at h1
      exact congrArg (· + 1) (putAll_len hE h1)
  | [], _ :: _, _, _, _, _, h => h.elim
  | _ :: _, [], _, _, _, _, h => h.elim
theorem pg_or {X : Cx} {e : Expr} {t1 t2 : TG} (h1 : PG X e t1) (h2 : PG X e t2) : PG X e fun v σ H Q => t1 v σ H Q ∨ t2 v σ H Q := ⟨fun pins s σ H v u Q I r h => h.elim (h1.run pins s σ H v u Q I r) (h2.run pins s σ H v u Q I r)⟩
theorem sg_tup {is : List Nat} {k : Nat} (hx : CxG X) (h : SGs X es is) (hn : (assignEach es X.env).length = is.length := by rfl) (hst : (assignEach es X.env).findIdx? (·.1) = none := by rfl) : SG X (.Tuple es k pos) (.many is) :=
  PG.imp (pg_or (pg_tup hx.calm h hn hst) (pg_lst hx.calm h hn hst)) fun v σ H Q ⟨G, O, ρ, T, x, hK, hT, R, h⟩ => by
    obtain ⟨ds, e1, q⟩ := (post_opt _).mp ((post_bind _ _).mp h)
    unfold items at e1
    split at e1
    · rename_i xs
      cases e1
      have vw : Vw G.K H O v (.tup ds) := .inl R.tm.1
      obtain ⟨a, vs, rfl, sq, rp⟩ := vw.tup
      rw [hK] at sq
      have hl := putAll_len (fun _ _ z => z) q
      exact .inl ⟨a, vs, rfl, sq, by rw [rp.len, hl], G, O, ρ, T, ds, hK, hT, rp.len, R.pop.pushR rp, q⟩
    · rename_i xs
      cases e1
      have vw : Vw G.K H O v (.lst ds) := .inl R.tm.1
      obtain ⟨a, vs, rfl, sq, rp⟩ := vw.lst
      rw [hK] at sq
      have hl := putAll_len (fun _ _ z => z) q
      exact .inr ⟨a, vs, rfl, sq, by rw [rp.len, hl], G, O, ρ, T, ds, hK, hT, rp.len, R.pop.pushR rp, q⟩
    · cases e1
/-- a, b = e -/
def dUnp (t : Tg) (r : DE) : DS := do
  let x ← r
  let y ← keep false x
  t.put y.1
  pure .nx
theorem keep_false {x : D × Kd} {ρ : Rho} {Q : D × Kd → Rho → Prop} {E : Exn → Rho → Prop} (h : ((keep false x) ρ).post Q E) : ∃ d, cur ρ x = some d ∧ Q (d, .shr) (settleR ρ x.2) := by
  obtain ⟨d, e1, q⟩ := post_cur.mp ((post_bind _ _).mp h)
  exact ⟨d, e1, q⟩
theorem noex {m : M Unit} {ρ : Rho} {Q Q' : Unit → Rho → Prop} {E : Exn → Rho → Prop} (hm : ∀ ρ x ρ', m ρ ≠ .ex x ρ') (h : (m ρ).post Q E) (i : ∀ ρ', Q () ρ' → Q' () ρ') : (m ρ).post Q' (fun _ _ => False) := by
  cases q : m ρ with
  | stuck => rw [q] at h; exact h
  | ok a ρ' => rw [q] at h; exact i _ h
  | ex x ρ' => exact absurd q (hm ρ x ρ')
theorem dPut_noex {i : Nat} {x : D × Kd} (ρ : Rho) (y : Exn) (ρ' : Rho) : (dPut i x) ρ ≠ .ex y ρ' := by
  show M.bind (dcur x) _ ρ ≠ _
  unfold M.bind dcur
  cases cur ρ x with
  | none => exact fun z => by cases z
  | some d =>
    dsimp only
    unfold putEnd
    split <;> (intro z; cases z)
theorem putAll_noex : ∀ {is : List Nat} {ds : List D} (ρ : Rho) (y : Exn) (ρ' : Rho), (putAll is ds) ρ ≠ .ex y ρ'
  | [], [], ρ, y, ρ' => fun z => by cases z
  | i :: is, d :: ds, ρ, y, ρ' => by
    show M.bind (dPut i (d, .shr)) _ ρ ≠ _
    unfold M.bind
    cases q : (dPut i (d, .shr)) ρ with
    | stuck => exact fun z => by cases z
    | ex x ρ2 => exact absurd q (dPut_noex ρ x ρ2)
    | ok a ρ2 => exact putAll_noex ρ2 y ρ'
  | [], _ :: _, ρ, y, ρ' => fun z => by cases z
  | _ :: _, [], ρ, y, ρ' => fun z => by cases z
theorem tg_noex {t : Tg} {d : D} (ρ : Rho) (y : Exn) (ρ' : Rho) : (t.put d) ρ ≠ .ex y ρ' := by
  cases t with
  | one i => exact dPut_noex ρ y ρ'
  | many is =>
    show M.bind (mOpt (items d)) _ ρ ≠ _
    unfold M.bind mOpt
    cases items d with
    | none => exact fun z => by cases z
    | some ds => exact putAll_noex ρ y ρ'
theorem ss_unp {pj : VK → VK} {tg : Expr} {t : Tg} (he : SE X e r) (hg : SG X tg t) (hs : swapsWithSole [tg] e pos.line X.env = pure false := by rfl) (hw : swappedStores [tg] e X.env = pure none := by rfl)
    (h1 : (assignEach [tg] X.env).map (·.2) = [assign tg X.env] := by rfl) : SSf pj X (.Assign [tg] e pos) (dUnp t r) := fun W tk => PS.imp (ps_asg (he W tk) hg hs hw h1) fun D σ H ⟨G, O, ρ, hK, R, h⟩ =>
  ⟨G, O, ρ, hK, R, Res.post_mono ((post_bind _ _).mp h) (fun x ρ1 q O' v H' R' => by
    obtain ⟨d, e1, q2⟩ := keep_false ((post_bind _ _).mp q)
    obtain ⟨O2, R2⟩ := R'.settle (d := d) e1
    exact ⟨G, O2, _, [], d, hK, .nil, R2, noex (fun ρ x ρ' => tg_noex ρ x ρ') ((post_bind _ _).mp q2) fun ρ' q3 O3 σ3 H3 _ R3 => q3 O3 σ3 H3 R3⟩) fun x ρ' q => q σ⟩
end
end L2.VL
end
section
set_option Elab.async false
set_option linter.all false
set_option maxRecDepth 100000
namespace L2.VL
open PySem PySem.Spec PyProof.Rows
def WalkOk (K : PySem.W.Frag) (T : List Tmp) (J : It) (xs : List D) : Prop := ∀ (G : Fix) (O : Own) (σ : St) (H : Hp) (ρ : Rho) (i : Nat) (T' U : List Tmp), G.K = K → Rel G O σ H ρ (T' ++ (T ++ U)) →
  (i < xs.length → J.go i H) ∧ (xs.length ≤ i → J.stop i H) ∧ ∀ x, xs[i]? = some x → ∀ v H', J.yld i H v H' → ∃ O', Rel G O' σ H' ρ (⟨v, x, .shr⟩ :: (T' ++ (T ++ U)))
/-- the same where what stands outside is known -/
def WalkF (G0 : Fix) (T : List Tmp) (J : It) (xs : List D) : Prop := ∀ (G : Fix) (O : Own) (σ : St) (H : Hp) (ρ : Rho) (i : Nat) (T' : List Tmp), G.K = G0.K → (∀ b o, G0.Fr b = some o → G.Fr b = some o) → Rel G O σ H ρ (T' ++ T) →
  (i < xs.length → J.go i H) ∧ (xs.length ≤ i → J.stop i H) ∧ ∀ x, xs[i]? = some x → ∀ v H', J.yld i H v H' → ∃ O', Rel G O' σ H' ρ (⟨v, x, .shr⟩ :: (T' ++ T))
theorem WalkOk.f {K : PySem.W.Frag} {G0 : Fix} {T : List Tmp} {J : It} {xs : List D} (w : WalkOk K T J xs) (hK : G0.K = K) : WalkF G0 T J xs := fun G O σ H ρ i T' e _ R => by
  have z := w G O σ H ρ i T' [] (e.trans hK) (by rw [List.append_nil]; exact R)
  rw [List.append_nil] at z
  exact z
/-- what is walked, what stands outside being G -/
def tIG (G : Fix) (W : WX) (it : M (List D)) : TI := fun σ H R => ∃ O ρ, Rel G O σ H ρ [] ∧
  (it ρ).post (fun xs ρ' => ∀ O' H' J T, NoNm T → Rel G O' σ H' ρ' T → WalkF G T J xs → R J H') (EX G σ W)
def tI (K : PySem.W.Frag) (W : WX) (it : M (List D)) : TI := fun σ H R => ∃ G O ρ, G.K = K ∧ Rel G O σ H ρ [] ∧
  (it ρ).post (fun xs ρ' => ∀ O' H' J T, NoNm T → Rel G O' σ H' ρ' T → WalkF G T J xs → R J H') (EX G σ W)
def SI (X : Cx) (tg iter : Expr) (it : M (List D)) : Prop := ∀ W, Takes X W → PI X tg iter (tI X.K W it)
theorem PI.imp {X : Cx} {tg iter : Expr} {t t' : TI} (h : PI X tg iter t) (i : ∀ σ H Q, t' σ H Q → t σ H Q) : PI X tg iter t' := ⟨fun pins s σ H Q I q => h.run pins s σ H Q I (i σ H Q q)⟩
/-- the same, whatever stands outside -/
def tIU (K : PySem.W.Frag) (W : WX) (it : M (List D)) : TI := fun σ H R => ∃ G O ρ, G.K = K ∧ Rel G O σ H ρ [] ∧
  (it ρ).post (fun xs ρ' => ∀ O' H' J T, NoNm T → Rel G O' σ H' ρ' T → WalkOk K T J xs → R J H') (EX G σ W)
def SIU (X : Cx) (tg iter : Expr) (it : M (List D)) : Prop := ∀ W, Takes X W → PI X tg iter (tIU X.K W it)
theorem SIU.si {X : Cx} {tg iter : Expr} {it : M (List D)} (h : SIU X tg iter it) : SI X tg iter it := fun W tk => PI.imp (h W tk) fun σ H R ⟨G, O, ρ, hK, R', h⟩ =>
  ⟨G, O, ρ, hK, R', Res.post_ok h fun xs ρ' q O' H' J T n r w => q O' H' J T n r (w.f hK)⟩
theorem tmp_in {K : PySem.W.Frag} {H : Hp} {O : Own} {σ : St} {t : Tmp} : ∀ {T T2 : List Tmp}, TmpsOk K H O σ (T2 ++ (t :: T)) → TmpOk K H O σ T.length t
  | T, [], h => h.1
  | T, u :: T2, h => tmp_in (T2 := T2) h.2
section
variable {X : Cx} {tg e : Expr} {es : List Expr} {r : DE} {pos p : Pos}
def lstOf (d : D) : Option (List D) := match d with
  | .lst xs => some xs
  | _ => none
def tupOf (d : D) : Option (List D) := match d with
  | .tup xs => some xs
  | _ => none
def iLst (r : DE) : M (List D) := do
  let x ← r
  let y ← keep false x
  mOpt (lstOf y.1)
def iTuple (r : DE) : M (List D) := do
  let x ← r
  let y ← keep false x
  mOpt (tupOf y.1)
theorem walk_lst {K : PySem.W.Frag} {a : Addr} {xs : List D} : WalkOk K [⟨.ref a, .lst xs, .shr⟩] (Itl K a) xs := fun G O σ H ρ i T' U hK R => by
  have rp : Rep G.K H (lin O) (.ref a) (.lst xs) := tmp_in (T2 := T') (T := U) R.tm
  obtain ⟨b, vs, e, sq, rs⟩ := (show Vw G.K H O (.ref a) (.lst xs) from .inl rp).lst
  cases e
  rw [hK] at sq
  refine ⟨fun hi => ?_, fun hi => ⟨vs, sq, by rw [rs.len]; exact hi⟩, fun x hx v H' y => ?_⟩
  · obtain ⟨u, h1, _⟩ := rs.get (List.getElem?_eq_getElem hi)
    exact ⟨vs, u, sq, h1⟩
  · obtain ⟨rfl, f⟩ := y
    obtain ⟨u, h1, h2⟩ := rs.get hx
    have e := (f vs sq).symm.trans h1
    have ev : v = u := by
      have z := f vs sq
      rw [h1] at z
      exact (Option.some.inj z).symm
    rw [ev]
    exact ⟨O, R.push h2⟩
theorem walk_tup {K : PySem.W.Frag} {a : Addr} {xs : List D} : WalkOk K [⟨.ref a, .tup xs, .shr⟩] (Itt K a) xs := fun G O σ H ρ i T' U hK R => by
  have rp : Rep G.K H (lin O) (.ref a) (.tup xs) := tmp_in (T2 := T') (T := U) R.tm
  obtain ⟨b, vs, e, sq, rs⟩ := (show Vw G.K H O (.ref a) (.tup xs) from .inl rp).tup
  cases e
  rw [hK] at sq
  refine ⟨fun hi => ?_, fun hi => ⟨vs, sq, by rw [rs.len]; exact hi⟩, fun x hx v H' y => ?_⟩
  · obtain ⟨u, h1, _⟩ := rs.get (List.getElem?_eq_getElem hi)
    exact ⟨vs, u, sq, h1⟩
  · obtain ⟨rfl, f⟩ := y
    obtain ⟨u, h1, h2⟩ := rs.get hx
    have ev : v = u := by
      have z := f vs sq
      rw [h1] at z
      exact (Option.some.inj z).symm
    rw [ev]
    exact ⟨O, R.push h2⟩
theorem siu_lst (he : SE X e r) : SIU X tg e (iLst r) := fun W tk => PI.imp (pi_list (he W tk)) fun σ H Q ⟨G, O, ρ, hK, R, h⟩ =>
  ⟨G, O, ρ, hK, R, Res.post_ok ((post_bind _ _).mp h) fun x ρ1 q O1 v H1 R1 => by
    obtain ⟨d, e1, q2⟩ := keep_false ((post_bind _ _).mp q)
    obtain ⟨xs, e2, q3⟩ := (post_opt _).mp q2
    obtain ⟨O2, R2⟩ := R1.settle (d := d) e1
    have ed : d = .lst xs := by
      unfold lstOf at e2
      dsimp only at e2
      split at e2
      · cases e2; rfl
      · cases e2
    subst ed
    obtain ⟨a, vs, rfl, sq, rs⟩ := (show Vw G.K H1 O2 v (.lst xs) from .inl R2.tm.1).lst
    rw [hK] at sq
    exact ⟨a, rfl, ⟨vs, sq⟩, q3 O2 H1 _ _ (NoNm.nil.cons fun i z => by cases z) R2 (walk_lst)⟩⟩
theorem si_lst (he : SE X e r) : SI X tg e (iLst r) := SIU.si (siu_lst he)
theorem siu_tup (he : SE X e r) : SIU X tg e (iTuple r) := fun W tk => PI.imp (pi_tup (he W tk)) fun σ H Q ⟨G, O, ρ, hK, R, h⟩ =>
  ⟨G, O, ρ, hK, R, Res.post_ok ((post_bind _ _).mp h) fun x ρ1 q O1 v H1 R1 => by
    obtain ⟨d, e1, q2⟩ := keep_false ((post_bind _ _).mp q)
    obtain ⟨xs, e2, q3⟩ := (post_opt _).mp q2
    obtain ⟨O2, R2⟩ := R1.settle (d := d) e1
    have ed : d = .tup xs := by
      unfold tupOf at e2
      dsimp only at e2
      split at e2
      · cases e2; rfl
      · cases e2
    subst ed
    obtain ⟨a, vs, rfl, sq, rs⟩ := (show Vw G.K H1 O2 v (.tup xs) from .inl R2.tm.1).tup
    rw [hK] at sq
    exact ⟨a, rfl, ⟨vs, sq⟩, q3 O2 H1 _ _ (NoNm.nil.cons fun i z => by cases z) R2 (walk_tup)⟩⟩
theorem si_tup (he : SE X e r) : SI X tg e (iTuple r) := SIU.si (siu_tup he)
def rngD (lo : Int) (n : Nat) : List D := (List.range n).map fun (k : Nat) => D.int (lo + k)
def small62 (i : Int) : Bool := decide (-4611686018427387904 ≤ i) && decide (i < 4611686018427387904)
theorem small62_of {i : Int} (h : small62 i = true) : -(2 ^ 62) ≤ i ∧ i < 2 ^ 62 := by
  unfold small62 at h
  simp only [Bool.and_eq_true, decide_eq_true_eq] at h
  omega
def rng1 (ds : List D) : Option (List D) := match ds with
  | [.con (.int j)] => if small62 j then some (rngD 0 j.toNat) else none
  | _ => none
def iRng (g : List D → Option (List D)) (l : List (Bool × DE)) : M (List D) := do
  let xs ← dA l
  let ds ← dcurs xs
  mOpt (g ds)
theorem walk_rng {K : PySem.W.Frag} {lo : Int} {n : Nat} {T : List Tmp} : WalkOk K T (Itr lo n) (rngD lo n) := fun G O σ H ρ i T' U hK R => by
  have hl : (rngD lo n).length = n := by unfold rngD; simp
  refine ⟨fun hi => (by rw [hl] at hi; exact hi), fun hi => (by rw [hl] at hi; exact hi), fun x hx v H' y => ?_⟩
  obtain ⟨rfl, rfl⟩ := y
  unfold rngD at hx
  rw [List.getElem?_map] at hx
  cases q : (List.range n)[i]? with
  | none => rw [q] at hx; cases hx
  | some k =>
    rw [q] at hx
    cases hx
    have := List.getElem?_eq_some_iff.mp q
    obtain ⟨h1, h2⟩ := this
    simp at h2
    subst h2
    exact ⟨O, R.con _⟩
theorem Vws.one {K : PySem.W.Frag} {H : Hp} {O : Own} {vs : List V} {d : D} (h : Vws K H O vs [d]) : ∃ v, vs = [v] ∧ Vw K H O v d := by
  cases h with
  | cons a b => cases b; exact ⟨_, rfl, a⟩
theorem Vws.two {K : PySem.W.Frag} {H : Hp} {O : Own} {vs : List V} {d e : D} (h : Vws K H O vs [d, e]) : ∃ v u, vs = [v, u] ∧ Vw K H O v d ∧ Vw K H O u e := by
  cases h with
  | cons a b =>
    obtain ⟨u, rfl, c⟩ := b.one
    exact ⟨_, _, rfl, a, c⟩
theorem siu_rng1 {l : List (Bool × DE)} (hm : X.mg "range" = none) (ha : SA X [e] l) (hg : Gl X "range" := by rfl) (hs : starEach [e] X.env = [(false, eval e X.env)] := by rfl) : SIU X tg (.Call (.Name "range" p) [e] [] pos) (iRng rng1 l) := fun W tk =>
  PI.imp (pi_range1 hg hm (ha W tk) hs) fun σ H Q ⟨G, O, ρ, hK, R, h⟩ => ⟨G, O, ρ, [], hK, R, Res.post_ok ((post_bind _ _).mp h) fun xs ρ1 q O1 vs H1 hl R1 => by
    obtain ⟨ds, e1, q2⟩ := post_curs.mp ((post_bind _ _).mp q)
    obtain ⟨z, e2, q3⟩ := (post_opt _).mp q2
    have v1 := pushC_vws hl R1 e1
    unfold rng1 at e2
    split at e2
    · rename_i j
      obtain ⟨v, rfl, w⟩ := v1.one
      split at e2
      · rename_i hj
        cases e2
        have b := small62_of hj
        exact ⟨j, by rw [w.con], b.1, b.2, q3 O1 H1 _ [] .nil (pushC_pop R1) (walk_rng)⟩
      · cases e2
    · cases e2⟩
theorem si_rng1 {l : List (Bool × DE)} (hm : X.mg "range" = none) (ha : SA X [e] l) (hg : Gl X "range" := by rfl) (hs : starEach [e] X.env = [(false, eval e X.env)] := by rfl) : SI X tg (.Call (.Name "range" p) [e] [] pos) (iRng rng1 l) := SIU.si (siu_rng1 hm ha hg hs)
/-- enumerate of a list -/
def iEnum1 (l : List (Bool × DE)) : M (List D) := do
  let xs ← dA l
  let ds ← mOpt (shrs xs)
  mOpt (match ds with
    | [.lst a] => some (a.zipIdx.map fun p => .tup [.int p.2, p.1])
    | _ => none)
theorem walk_enum {K : PySem.W.Frag} {a : Addr} {xs : List D} : WalkOk K [⟨.ref a, .lst xs, .shr⟩] (Ite K a) (xs.zipIdx.map fun p => .tup [.int p.2, p.1]) := fun G O σ H ρ i T' U hK R => by
  have ra : Rep G.K H (lin O) (.ref a) (.lst xs) := tmp_in (T2 := T') (T := U) R.tm
  obtain ⟨_, vs, e, sq, rs⟩ := (show Vw G.K H O (.ref a) (.lst xs) from .inl ra).lst
  cases e
  rw [hK] at sq
  have hl : (xs.zipIdx.map fun p => D.tup [.int p.2, p.1]).length = xs.length := by simp
  refine ⟨fun hi => ?_, fun hi => ⟨vs, sq, ?_⟩, fun x hx v H' y => ?_⟩
  · rw [hl] at hi
    obtain ⟨u, h1, _⟩ := rs.get (List.getElem?_eq_getElem hi)
    exact ⟨vs, u, sq, h1⟩
  · rw [hl] at hi
    rw [rs.len]; exact hi
  · obtain ⟨P, x1, rfl, nP, rfl, f1⟩ := y
    rw [List.getElem?_map, List.getElem?_zipIdx] at hx
    cases q : xs[i]? with
    | none => rw [q] at hx; cases hx
    | some pr =>
      rw [q] at hx
      cases hx
      obtain ⟨u, h1, k1⟩ := rs.get q
      have e1 : x1 = u := by
        have z := f1 vs sq
        rw [h1] at z
        exact (Option.some.inj z).symm
      rw [e1]
      refine ⟨O, ?_⟩
      have R2 := R.freshT (d := .tup [.int (i : Nat), pr]) nP (.tup (.cons (.con (.int (i : Nat))) (.cons k1 .nil)))
      simpa using R2
theorem si_enum {elts : List Expr} {kk : Nat} {tpos : Pos} {l : List (Bool × DE)} (hm : X.mg "enumerate" = none) (ha : SA X [e] l) (hg : Gl X "enumerate" := by rfl)
    (hs : starEach [e] X.env = [(false, eval e X.env)] := by rfl) : SI X (.Tuple elts kk tpos) (.Call (.Name "enumerate" p) [e] [] pos) (iEnum1 l) := fun W tk =>
  PI.imp (pi_enum hg hm (ha W tk) hs) fun σ H Q ⟨G, O, ρ, hK, R, h⟩ => ⟨G, O, ρ, [], hK, R, Res.post_ok ((post_bind _ _).mp h) fun xs ρ1 q O1 vs H1 hl R1 => by
    obtain ⟨ds, e1, q2⟩ := (post_opt _).mp ((post_bind _ _).mp q)
    obtain ⟨z, e2, q3⟩ := (post_opt _).mp q2
    have rp := pushC_reps hl R1 e1
    split at e2
    · rename_i a
      cases e2
      cases rp with
      | cons r1 rr =>
        cases rr
        obtain ⟨a1, v1, rfl, s1, _⟩ := (show Vw G.K H1 O1 _ _ from .inl r1).lst
        rw [hK] at s1
        exact ⟨a1, v1, rfl, s1, q3 O1 H1 _ _ (NoNm.nil.cons fun i z => by cases z) ((pushC_pop R1).push (t := ⟨.ref a1, .lst a, .shr⟩) r1) (walk_enum.f hK)⟩
    · cases e2⟩
end
def forD (t : Tg) (body : DS) : List D → DS
  | [] => pure .nx
  | x :: xs => do
    t.put x
    let f ← body
    match f with
    | .nx => forD t body xs
    | .cnt => forD t body xs
    | .brk => pure .nx
    | f => pure f
def dFor (it : M (List D)) (t : Tg) (body : DS) : DS := do
  let xs ← it
  forD t body xs
theorem for_impG {pj : VK → VK} {K : PySem.W.Frag} {W : WX} {it : M (List D)} {t : Tg} {sb : DS} {D : Ends} {σ : St} {H : Hp} {G : Fix} {O : Own} {ρ : Rho} (hK : G.K = K) (R : Rel G O σ H ρ []) (h : ((dFor it t sb) ρ).post (FlOk G (D.re pj) []) (EXs G W)) :
    tFor (tIG G W it) (tG K t.slots t.put) (fun D => tS K W sb (D.re pj)) D σ H := by
  refine ⟨O, ρ, R, Res.post_mono ((post_bind _ _).mp h) (fun xs ρ1 q O1 H1 J T hT R1 wk => ?_) fun x ρ' q => q σ⟩
  refine ⟨fun i m σ H => m = xs.length - i ∧ i ≤ xs.length ∧ ∃ O ρ, Rel G O σ H ρ T ∧ ((forD t sb (xs.drop i)) ρ).post (FlOk G (D.re pj) []) (EXs G W), ⟨xs.length, by simp, Nat.zero_le _, O1, ρ1, R1, q⟩, ?_⟩
  rintro i m σ2 H2 ⟨rfl, hi2, O2, ρ2, R2, q2⟩
  obtain ⟨w1, w2, w3⟩ := wk G O2 σ2 H2 ρ2 i [] rfl (fun _ _ e => e) R2
  by_cases hlt : i < xs.length
  · refine .inr ⟨w1 hlt, fun σ' H' => ∃ O ρ, Rel G O σ' H' ρ T ∧ ((forD t sb (xs.drop (i + 1))) ρ).post (FlOk G (D.re pj) []) (EXs G W), fun σ' H' p => ⟨xs.length - (i + 1), by omega, rfl, hlt, p⟩, fun v H' y => ?_⟩
    obtain ⟨O3, R3⟩ := w3 xs[i] (List.getElem?_eq_getElem hlt) v H' y
    rw [List.drop_eq_getElem_cons hlt] at q2
    refine ⟨G, O3, ρ2, T, xs[i], hK, hT, R3, noex (fun ρ x ρ' => tg_noex ρ x ρ') ((post_bind _ _).mp q2) fun ρ3 q3 O4 σ4 H4 _ R4 => ?_⟩
    refine tS.at hT hK R4 (Res.post_ok ((post_bind _ _).mp q3) fun f ρ4 q4 => ?_)
    cases f with
    | nx => exact fun O5 σ5 H5 R5 => ⟨O5, ρ4, R5, q4⟩
    | cnt => exact fun O5 σ5 H5 R5 => ⟨O5, ρ4, R5, q4⟩
    | brk => exact fun O5 σ5 H5 R5 => q4 O5 σ5 H5 R5.nil
    | ret d b => exact fun O5 σ5 v5 H5 R5 => let ⟨O6, R6⟩ := R5.only; q4 O6 σ5 v5 H5 R6
  · have e : i = xs.length := by omega
    subst e
    rw [List.drop_length] at q2
    exact .inl ⟨w2 (Nat.le_refl _), q2 O2 σ2 H2 R2.nil⟩
theorem ss_for {pj : VK → VK} {X : Cx} {tg iter : Expr} {body : List Stmt} {it : M (List D)} {t : Tg} {sb : DS} {pos : Pos} (hx : CxG X) (hi : SI X tg iter it) (hg : SG X tg t) (hb : SSsf pj X body sb)
    (hs : ∀ x, foldedSetIterable iter X.env x = pure x := by intro _; rfl) : SSf pj X (.For tg iter body [] pos) (dFor it t sb) := fun W tk => PS.imp (ps_for hx.pass hx.calm (hi W tk) hg (hb W tk) hs) fun D σ H ⟨G, O, ρ, hK, R, h⟩ =>
  let ⟨O1, ρ1, R1, h1⟩ := for_impG hK R h
  ⟨G, O1, ρ1, hK, R1, h1⟩
end L2.VL
end
section
set_option Elab.async false
set_option linter.all false
set_option maxRecDepth 100000
namespace L2.VL
open PySem PySem.Spec PyProof.Rows
def wipeR (ρ : Rho) : List Nat → Rho
  | [] => ρ
  | v :: vs => (wipeR ρ vs).set v none
def wipeM (own : List Nat) : M Unit := fun ρ => .ok () (wipeR ρ own)
def noX {α : Type} (m : M α) : M α := fun ρ => match m ρ with
  | .ex _ _ => .stuck
  | r => r
theorem post_noX {α : Type} {m : M α} {ρ : Rho} {Q : α → Rho → Prop} {E : Exn → Rho → Prop} (h : ((noX m) ρ).post Q E) (E' : Exn → Rho → Prop) : (m ρ).post Q E' := by
  unfold noX at h
  cases q : m ρ with
  | stuck => rw [q] at h; exact h
  | ok a ρ' => rw [q] at h; exact h
  | ex x ρ' => rw [q] at h; exact h.elim
def lcD (own : List Nat) (t : Tg) (q : M Bool) (r : DE) : List D → M (List D)
  | [] => pure []
  | x :: xs => do
    wipeM own
    t.put x
    let b ← noX q
    if b then do
      let y ← noX r
      let z ← keep false y
      let rest ← lcD own t q r xs
      pure (z.1 :: rest)
    else lcD own t q r xs
def okOwn (own : List Nat) : M Unit := fun ρ => if own.all (fun i => !pinned ρ i) then .ok () ρ else .stuck
def lcEnd (ds : List D) : Option (D × Kd) := if ds.length ≤ cap then some (.lst ds, .fr) else none
def dLc (own : List Nat) (it : M (List D)) (t : Tg) (q : M Bool) (r : DE) : DE := do
  let xs ← it
  okOwn own
  let ds ← lcD own t q r xs
  wipeM own
  mOpt (lcEnd ds)
theorem wipe_at (σ : St) : ∀ (own : List Nat) (i : Nat), (wipe σ own)[i]? = if i ∈ own then σ[i]?.map (fun _ => none) else σ[i]?
  | [], i => by simp [wipe]
  | v :: vs, i => by
    unfold wipe
    have ih := wipe_at σ vs i
    by_cases h : v = i
    · subst h
      rw [if_pos List.mem_cons_self]
      by_cases hl : v < σ.length
      · rw [List.getElem?_set_self (by rw [wipe_length]; exact hl), List.getElem?_eq_getElem hl]; rfl
      · rw [List.getElem?_eq_none (by rw [List.length_set, wipe_length]; omega), List.getElem?_eq_none (by omega)]; rfl
    · rw [List.getElem?_set_ne h, ih]
      by_cases h2 : i ∈ vs
      · rw [if_pos h2, if_pos (List.mem_cons_of_mem _ h2)]
      · rw [if_neg h2, if_neg (fun z => (List.mem_cons.mp z).elim (fun e => h e.symm) h2)]
theorem wipeR_at (ρ : Rho) : ∀ (own : List Nat) (i : Nat), (wipeR ρ own)[i]? = if i ∈ own then ρ[i]?.map (fun _ => none) else ρ[i]?
  | [], i => by simp [wipeR]
  | v :: vs, i => by
    unfold wipeR
    have ih := wipeR_at ρ vs i
    have wl : ∀ vs : List Nat, (wipeR ρ vs).length = ρ.length := fun vs => by
      induction vs with
      | nil => rfl
      | cons v vs ih => unfold wipeR; rw [List.length_set, ih]
    by_cases h : v = i
    · subst h
      rw [if_pos List.mem_cons_self]
      by_cases hl : v < ρ.length
      · rw [List.getElem?_set_self (by rw [wl]; exact hl), List.getElem?_eq_getElem hl]; rfl
      · rw [List.getElem?_eq_none (by rw [List.length_set, wl]; omega), List.getElem?_eq_none (by omega)]; rfl
    · rw [List.getElem?_set_ne h, ih]
      by_cases h2 : i ∈ vs
      · rw [if_pos h2, if_pos (List.mem_cons_of_mem _ h2)]
      · rw [if_neg h2, if_neg (fun z => (List.mem_cons.mp z).elim (fun e => h e.symm) h2)]
theorem wipeR_length (ρ : Rho) : ∀ vs : List Nat, (wipeR ρ vs).length = ρ.length
  | [] => rfl
  | v :: vs => by unfold wipeR; rw [List.length_set, wipeR_length ρ vs]
theorem wipe_ag {own is : List Nat} {σ σ' : St} (h : AgOut is σ σ') (hs : ∀ i ∈ is, i ∈ own) : wipe σ' own = wipe σ own := by
  apply List.ext_getElem?
  intro i
  rw [wipe_at, wipe_at]
  by_cases hi : i ∈ own
  · rw [if_pos hi, if_pos hi]
    by_cases hl : i < σ.length
    · rw [List.getElem?_eq_getElem hl, List.getElem?_eq_getElem (by rw [h.1]; exact hl)]; rfl
    · rw [List.getElem?_eq_none (l := σ') (by rw [h.1]; omega), List.getElem?_eq_none (l := σ) (by omega)]
  · rw [if_neg hi, if_neg hi]
    exact h.2 i fun z => hi (hs i z)
theorem wipe_wipe {own : List Nat} {σ : St} : wipe (wipe σ own) own = wipe σ own := by
  apply List.ext_getElem?
  intro i
  rw [wipe_at, wipe_at]
  by_cases hi : i ∈ own
  · rw [if_pos hi, if_pos hi]
    cases σ[i]? <;> rfl
  · rw [if_neg hi, if_neg hi]
section
variable {G : Fix} {O : Own} {σ σ' : St} {H : Hp} {ρ : Rho} {T : List Tmp} {own : List Nat}
/-- the slots at own are forgotten; the frame's other slots are as they are -/
theorem Rel.wipe (R : Rel G O σ H ρ T) (hT : NoNm T) (hp : ∀ i ∈ own, G.Pin i = none) (hσ : σ'.length = σ.length) (ha : ∀ i, i ∉ own → σ'[i]? = σ[i]?) : Rel G O σ' H (wipeR ρ own) T := by
  have get : ∀ i s, (wipeR ρ own)[i]? = some (some s) → i ∉ own ∧ ρ[i]? = some (some s) := fun i s e => by
    rw [wipeR_at] at e
    by_cases hi : i ∈ own
    · rw [if_pos hi] at e
      cases q : ρ[i]? with
      | none => rw [q] at e; cases e
      | some _ => rw [q] at e; cases e
    · rw [if_neg hi] at e
      exact ⟨hi, e⟩
  refine ⟨by rw [wipeR_length, R.len, hσ], R.fr, R.ot, R.tr, fun i v e => ?_, fun i s e => ?_, tmps_slots (fun u hu j hj => absurd hj (hT u hu j)) R.tm⟩
  · have hi : i ∉ own := fun z => by rw [hp i z] at e; cases e
    obtain ⟨h1, s, h2, h3⟩ := R.pn i v e
    exact ⟨by rw [ha i hi]; exact h1, s, by rw [wipeR_at, if_neg hi]; exact h2, h3⟩
  · obtain ⟨hi, e⟩ := get i s e
    obtain ⟨v, h1, h2⟩ := R.sl i s e
    exact ⟨v, by rw [ha i hi]; exact h1, h2⟩
end
def STs (X : Cx) (ifs : List Expr) (q : M Bool) : Prop := ∀ W, Takes X W → PTs X ifs (tT X.K W q)
theorem PTs.imp {X : Cx} {e : List Expr} {t t' : TT} (h : PTs X e t) (i : ∀ σ H Q, t' σ H Q → t σ H Q) : PTs X e t' := ⟨fun pins s σ H Q I q => h.run pins s σ H Q I (i σ H Q q)⟩
section
variable {X : Cx} {tg iter elt : Expr} {ifs : List Expr} {scope : Scope} {own : List (Str × Nat)} {it : M (List D)} {t : Tg} {q : M Bool} {r : DE} {pos : Pos}
theorem sts_nil : STs X [] (pure true) := fun W tk => PTs.imp pts_nil fun σ H Q ⟨G, O, ρ, hK, R, h⟩ => h O H R
theorem sts_one {c : Expr} (h : ST X c q) : STs X [c] q := fun W tk => pts_one (h W tk)
abbrev WF : WX := fun _ _ _ _ => False
theorem takesF {X : Cx} : Takes X WF := fun u s' ⟨a, B, sI, pins, σ, H, cls, d, e, I, nb, up, sky, na, os, ag, w⟩ => w.elim
theorem lc_impG {K : PySem.W.Frag} {W : WX} {vs : List Nat} (hsub : ∀ i ∈ t.slots, i ∈ vs) {σ : St} {H : Hp} {Q : VK} {G : Fix} {O : Own} {ρ : Rho} (hK : G.K = K) (R : Rel G O σ H ρ []) (h : ((dLc vs it t q r) ρ).post (fun x ρ' => ∀ O' v H', Rel G O' σ H' ρ' [⟨v, x.1, x.2⟩] → Q v H') (EX G σ W)) : tLc (tIG G W it) (tG K t.slots t.put) (tT K WF q) (tE K WF r) vs σ H Q := by
  refine ⟨O, ρ, R, Res.post_ok ((post_bind _ _).mp h) fun xs ρ1 q1 O1 H1 J T hT R1 wk => ?_⟩
  intro Dl hD
  replace q1 := (post_bind _ _).mp q1
  unfold okOwn at q1
  by_cases hok : vs.all (fun i => !pinned ρ1 i) = true
  · rw [if_pos hok] at q1
    have hp : ∀ i ∈ vs, G.Pin i = none := fun i hi => by
      cases e : G.Pin i with
      | none => rfl
      | some v =>
        obtain ⟨_, s, h2, h3⟩ := R1.pn i v e
        have := List.all_eq_true.mp hok i hi
        unfold pinned at this
        rw [h2] at this
        dsimp only at this
        rw [h3] at this
        cases this
    replace q1 : ((lcD vs t q r xs) ρ1).post (fun ds ρ' => ((do wipeM vs; mOpt (lcEnd ds) : DE) ρ').post (fun x ρ' => ∀ O' v H', Rel G O' σ H' ρ' [⟨v, x.1, x.2⟩] → Q v H') (EX G σ W)) (EX G σ W) := (post_bind _ _).mp q1
    obtain ⟨O2, R2⟩ := R1.fresh (d := .lst []) hD (.lst .nil)
    let Fin : List D → Rho → Prop := fun ds ρ' => ((do wipeM vs; mOpt (lcEnd ds) : DE) ρ').post (fun x ρ' => ∀ O' v H', Rel G O' σ H' ρ' [⟨v, x.1, x.2⟩] → Q v H') (EX G σ W)
    refine ⟨fun i m H => m = xs.length - i ∧ i ≤ xs.length ∧ ∃ (O : Own) (ρ : Rho) (acc : List D) (σ2 : St), L2.wipe σ2 vs = L2.wipe σ vs ∧ Rel G O σ2 H ρ (⟨.ref Dl, .lst acc, .fr⟩ :: T) ∧
      ((lcD vs t q r (xs.drop i)) ρ).post (fun ds ρ' => Fin (acc ++ ds) ρ') (EX G σ W), ⟨xs.length, by simp, Nat.zero_le _, O2, ρ1, [], σ, rfl, R2, q1⟩, ?_⟩
    rintro i m H3 ⟨rfl, hi, O3, ρ3, acc, σ2, hw, R3, q3⟩
    have hT2 : NoNm (⟨.ref Dl, .lst acc, .fr⟩ :: T) := hT.cons fun i z => by cases z
    have hlen : σ2.length = σ.length := by
      have := congrArg List.length hw
      rw [wipe_length, wipe_length] at this; exact this
    obtain ⟨w1, w2, w3⟩ := wk G O3 σ2 H3 ρ3 i [_] rfl (fun _ _ e => e) R3
    have off : ∀ j, j ∉ vs → σ2[j]? = σ[j]? := fun j hj => by
      have z1 := wipe_at σ2 vs j
      have z2 := wipe_at σ vs j
      rw [if_neg hj] at z1 z2
      rw [← z1, ← z2, hw]
    by_cases hlt : i < xs.length
    · refine .inr ⟨w1 hlt, fun H' => ∃ (O : Own) (ρ : Rho) (acc : List D) (σ2 : St), L2.wipe σ2 vs = L2.wipe σ vs ∧ Rel G O σ2 H' ρ (⟨.ref Dl, .lst acc, .fr⟩ :: T) ∧
        ((lcD vs t q r (xs.drop (i + 1))) ρ).post (fun ds ρ' => Fin (acc ++ ds) ρ') (EX G σ W), fun H' p => ⟨xs.length - (i + 1), by omega, rfl, hlt, p⟩, fun v H' y => ?_⟩
      obtain ⟨O4, R4⟩ := w3 xs[i] (List.getElem?_eq_getElem hlt) v H' y
      rw [List.drop_eq_getElem_cons hlt] at q3
      have q3a := (post_bind (wipeM vs) _).mp q3
      replace q3 := (post_bind (t.put xs[i]) _).mp (show Res.post ((t.put xs[i] >>= fun _ => _) (wipeR ρ3 vs)) _ _ from q3a)
      have R5 : Rel G O4 (L2.wipe σ vs) H' (wipeR ρ3 vs) (⟨v, xs[i], .shr⟩ :: ⟨.ref Dl, .lst acc, .fr⟩ :: T) := R4.wipe (hT2.cons fun i z => by cases z) hp (by rw [wipe_length, hlen]) fun j hj => by
        rw [wipe_at, if_neg hj]; exact (off j hj).symm
      refine ⟨G, O4, _, _, xs[i], hK, hT2, R5, noex (fun ρ x ρ' => tg_noex ρ x ρ') q3 fun ρ4 q4 O6 σ6 H6 ag R6 => ?_⟩
      have hw6 : L2.wipe σ6 vs = L2.wipe σ vs := (wipe_ag ag hsub).trans wipe_wipe
      refine ⟨hw6, tT.at hK R6 (Res.post_ok (post_noX ((post_bind _ _).mp q4) _) fun b ρ5 q5 O7 H7 R7 => ?_)⟩
      cases b with
      | false =>
        rw [if_neg Bool.false_ne_true] at q5 ⊢
        exact ⟨O7, ρ5, acc, σ6, hw6, R7, q5⟩
      | true =>
        rw [if_pos rfl] at q5 ⊢
        refine tE.at hK R7 (Res.post_ok (post_noX ((post_bind _ _).mp q5) _) fun y ρ6 q6 O8 u H8 R8 => ?_)
        obtain ⟨d, e1, q7⟩ := keep_false ((post_bind _ _).mp q6)
        obtain ⟨O9, R9⟩ := R8.settle (d := d) e1
        obtain ⟨a1, ho1, ev, ea, hh, c1⟩ := (OwnX.flat (show OwnX _ _ _ _ _ _ from R9.tm.2.1))
        cases ev
        cases c1 with
        | lst rs =>
          have q8 := (post_bind _ _).mp q7
          -- the size
          have hz : acc.length < sizeLine := by
            cases qq : (lcD vs t q r (xs.drop (i + 1))) (settleR ρ6 y.2) with
            | stuck => rw [qq] at q8; exact q8.elim
            | ok ds ρ7 =>
              rw [qq] at q8
              replace q8 : Fin (acc ++ (d :: ds)) ρ7 := q8
              replace q8 : ((mOpt (lcEnd (acc ++ (d :: ds))) : DE) (wipeR ρ7 vs)).post (fun x ρ' => ∀ O' v H', Rel G O' σ H' ρ' [⟨v, x.1, x.2⟩] → Q v H') (EX G σ W) := q8
              obtain ⟨z, e3, _⟩ := (post_opt _).mp q8
              unfold lcEnd at e3
              split at e3
              · rename_i hl
                rw [List.length_append, List.length_cons, cap_eq] at hl
                omega
              · cases e3
            | ex x ρ7 =>
              -- no exception leaves the block
              exfalso
              have noexc : ∀ (l : List D) (ρ : Rho) (x : Exn) (ρ' : Rho), (lcD vs t q r l) ρ ≠ .ex x ρ' := by
                intro l
                induction l with
                | nil => intro ρ x ρ' z; cases z
                | cons a l ih =>
                  intro ρ x ρ' z
                  replace z : (M.bind (wipeM vs) fun _ => M.bind (t.put a) fun _ => M.bind (noX q) fun b => if b then M.bind (noX r) fun y => M.bind (keep false y) fun z => M.bind (lcD vs t q r l) fun rest => M.ret (z.1 :: rest) else lcD vs t q r l) ρ = .ex x ρ' := z
                  unfold M.bind at z
                  dsimp only [wipeM] at z
                  cases h1 : (t.put a) (wipeR ρ vs) with
                  | stuck => rw [h1] at z; cases z
                  | ex y ρ2 => exact tg_noex _ _ _ h1
                  | ok u ρ2 =>
                    rw [h1] at z
                    dsimp only at z
                    cases h2 : (noX q) ρ2 with
                    | stuck => rw [h2] at z; cases z
                    | ex y ρ3 =>
                      unfold noX at h2
                      split at h2
                      · cases h2
                      · rename_i hn; exact hn _ _ h2
                    | ok b ρ3 =>
                      rw [h2] at z
                      dsimp only at z
                      cases b with
                      | false => exact ih _ _ _ z
                      | true =>
                        simp only [↓reduceIte] at z
                        cases h3 : (noX r) ρ3 with
                        | stuck => rw [h3] at z; cases z
                        | ex y ρ4 =>
                          unfold noX at h3
                          split at h3
                          · cases h3
                          · rename_i hn; exact hn _ _ h3
                        | ok y ρ4 =>
                          rw [h3] at z
                          dsimp only at z
                          cases h4 : (keep false y) ρ4 with
                          | stuck => rw [h4] at z; cases z
                          | ex w ρ5 =>
                            replace h4 : M.bind (dcur y) (fun d => M.bind (settleM y.2) fun _ => M.ret (d, Kd.shr)) ρ4 = .ex w ρ5 := h4
                            unfold M.bind dcur at h4
                            cases h5 : cur ρ4 y with
                            | none => rw [h5] at h4; cases h4
                            | some d => rw [h5] at h4; cases h4
                          | ok w ρ5 =>
                            rw [h4] at z
                            dsimp only at z
                            cases h5 : (lcD vs t q r l) ρ5 with
                            | stuck => rw [h5] at z; cases z
                            | ex w2 ρ6 => exact ih _ _ _ h5
                            | ok w2 ρ6 => rw [h5] at z; cases z
              exact noexc _ _ _ _ qq
          refine ⟨_, hh, by rw [rs.len]; exact hz, O9, settleR ρ6 y.2, acc ++ [d], σ6, hw6, ?_, ?_⟩
          · exact R9.pop.writeT (d := .lst (acc ++ [d])) hh (.lst (rs.append (.cons (show Rep _ _ _ _ _ from R9.tm.1) .nil)))
          · refine Res.post_ok q8 fun ds ρ7 q9 => ?_
            show Fin (acc ++ [d] ++ ds) ρ7
            rw [List.append_assoc]
            exact q9
    · have e : i = xs.length := by omega
      subst e
      rw [List.drop_length] at q3
      replace q3 : Fin (acc ++ []) ρ3 := q3
      rw [List.append_nil] at q3
      replace q3 : ((mOpt (lcEnd acc) : DE) (wipeR ρ3 vs)).post (fun x ρ' => ∀ O' v H', Rel G O' σ H' ρ' [⟨v, x.1, x.2⟩] → Q v H') (EX G σ W) := q3
      obtain ⟨z, e3, q4⟩ := (post_opt _).mp q3
      unfold lcEnd at e3
      split at e3
      · cases e3
        obtain ⟨O6, R6⟩ := (R3.wipe (σ' := σ) hT2 hp hlen.symm fun j hj => (off j hj).symm).only
        exact .inl ⟨w2 (Nat.le_refl _), q4 O6 _ _ R6⟩
      · cases e3
  · rw [if_neg hok] at q1; exact q1.elim
theorem lc_imp {K : PySem.W.Frag} {W : WX} {vs : List Nat} (hsub : ∀ i ∈ t.slots, i ∈ vs) (σ : St) (H : Hp) (Q : VK) (h : tE K W (dLc vs it t q r) σ H Q) : tLc (tI K W it) (tG K t.slots t.put) (tT K WF q) (tE K WF r) vs σ H Q :=
  let ⟨G, O, ρ, hK, R, h⟩ := h
  let ⟨O1, ρ1, R1, h1⟩ := lc_impG hsub hK R h
  ⟨G, O1, ρ1, hK, R1, h1⟩
theorem cxg_blk (hx : CxG X) (s : Shared) (H : Hp) (scope : Scope) (cenv : Env) (fp : List Addr) : CxG (X.blk s H scope cenv fp) := ⟨hx.calm, hx.nd, PassesOwn.never, hx.gu⟩
theorem se_lc (own : List (Str × Nat)) (hx : CxG X) (hi : SI X tg iter it) (ok : blkC X.N X.env.scope scope own = true)
    (hg : ∀ (s : Shared) (H : Hp) (C : Addr) (cl : List (Str × Addr)) (fp : List Addr), SG (X.blk s H scope (compEnvC scope cl C X.env) fp) tg t) (ht : ∀ (s : Shared) (H : Hp) (C : Addr) (cl : List (Str × Addr)) (fp : List Addr), STs (X.blk s H scope (compEnvC scope cl C X.env) fp) ifs q)
    (he : ∀ (s : Shared) (H : Hp) (C : Addr) (cl : List (Str × Addr)) (fp : List Addr), SE (X.blk s H scope (compEnvC scope cl C X.env) fp) elt r) (hsub : ∀ i ∈ t.slots, i ∈ own.map (·.2) := by decide) (hs : ∀ x, foldedSetIterable iter X.env x = pure x := by intro _; rfl) :
    SE X (.ListComp elt [⟨tg, iter, ifs, 0⟩] scope pos) (dLc (own.map (·.2)) it t q r) := fun W tk =>
  PE.imp (pe_lc (g := tG X.K t.slots t.put) (tt := tT X.K WF q) (te := tE X.K WF r) hx.calm hx.nd (hi W tk) (blkOk_by ok) (fun s H C cl fp => hg s H C cl fp) (fun s H C cl fp => ht s H C cl fp WF takesF) (fun s H C cl fp => he s H C cl fp WF takesF) hs) (lc_imp hsub)
theorem ss_setLc {pj : VK → VK} (own : List (Str × Nat)) (i : Nat) {y : Str} {py spos : Pos} (hx : CxG X) (hi : SI X tg iter it) (ok : blkC X.N X.env.scope scope own = true)
    (hg : ∀ (s : Shared) (H : Hp) (C : Addr) (cl : List (Str × Addr)) (fp : List Addr), SG (X.blk s H scope (compEnvC scope cl C X.env) fp) tg t) (ht : ∀ (s : Shared) (H : Hp) (C : Addr) (cl : List (Str × Addr)) (fp : List Addr), STs (X.blk s H scope (compEnvC scope cl C X.env) fp) ifs q)
    (he : ∀ (s : Shared) (H : Hp) (C : Addr) (cl : List (Str × Addr)) (fp : List Addr), SE (X.blk s H scope (compEnvC scope cl C X.env) fp) elt r) (hsw : swapsWith (.ListComp elt [⟨tg, iter, ifs, 0⟩] scope pos) (some (.Name y py)) spos.line X.env = pure true)
    (hy : X.N[i]? = some y := by rfl) (hyl : X.env.scope.names.lookup y = some .local := by rfl) (hsub : ∀ i ∈ t.slots, i ∈ own.map (·.2) := by decide) (hs : ∀ x, foldedSetIterable iter X.env x = pure x := by intro _; rfl) :
    SSf pj X (.Assign [.Name y py] (.ListComp elt [⟨tg, iter, ifs, 0⟩] scope pos) spos) (dSet i (dLc (own.map (·.2)) it t q r)) := fun W tk =>
  PS.imp (ps_setLc (g := tG X.K t.slots t.put) (tt := tT X.K WF q) (te := tE X.K WF r) hx.calm hx.nd hy hyl hsw (hi W tk) (blkOk_by ok) (fun s H C cl fp => hg s H C cl fp) (fun s H C cl fp => ht s H C cl fp WF takesF) (fun s H C cl fp => he s H C cl fp WF takesF) hs) fun D σ H ⟨G, O, ρ, hK, R, h⟩ =>
    lc_imp (W := W) hsub σ H _ ⟨G, O, ρ, hK, R, Res.post_mono ((post_bind _ _).mp h) (fun y ρ1 q O' v H' R' => by
      obtain ⟨O2, ρ2, R2, q2⟩ := put_post .nil R' ((post_bind _ _).mp q)
      exact q2 O2 _ H' R2) fun x ρ' q => q σ⟩
end
end L2.VL
end
section
set_option Elab.async false
set_option linter.all false
set_option maxRecDepth 100000
namespace L2.VL
open PySem PySem.Spec PyProof.Rows
structure Arg where
  d : D
  own : Bool
inductive FRes where
  | ret (d : D) (fr : Bool) (outs : Rho)
  | exc (x : Exn) (outs : Rho)
abbrev Fn := List Arg → Option FRes
def shA (d : D) : Arg := ⟨d, false⟩
def slotOf (a : Arg) : Option Slot := some ⟨a.d, a.own, a.own⟩
def runFn (n : Nat) (body : DS) : Fn := fun args => match body (args.map slotOf ++ List.replicate (n - args.length) none) with
  | .stuck => none
  | .ex x ρ' => some (.exc x (ρ'.take args.length))
  | .ok .nx ρ' => some (.ret .non false (ρ'.take args.length))
  | .ok (.ret d b) ρ' => some (.ret d b (ρ'.take args.length))
  | .ok _ _ => none
/-- what a def promises -/
def FRes.post (r : Option FRes) (Q : D → Bool → Rho → Prop) (E : Exn → Rho → Prop) : Prop := match r with
  | none => False
  | some (.ret d b outs) => Q d b outs
  | some (.exc x outs) => E x outs
def spF (K : PySem.W.Frag) (F : Fn) (np : Nat) : Sp := fun vs H Q E => vs.length = np ∧ ∃ (G : Fix) (O : Own) (args : List Arg), G.K = K ∧ args.length = np ∧ Rel G O (vs.map some) H (args.map slotOf) [] ∧
  FRes.post (F args) (fun d b outs => ∀ O' σ' v H', Rel G O' σ' H' outs [⟨v, d, frK b⟩] → Q v H') (fun x outs => ∀ O' σ' H' dd, Rel G O' σ' H' outs [] → ExnRep K H' O' x dd → E (clsV K x.c) dd H')
section
variable {G : Fix} {O O1 : Own} {σ : St} {H H' : Hp} {ρ ρ' : Rho} {T T' : List Tmp}
theorem Rel.more (R : Rel G O σ H ρ []) (n : Nat) : Rel G O (σ ++ List.replicate n none) H (ρ ++ List.replicate n none) [] := by
  have get : ∀ i s, (ρ ++ List.replicate n none)[i]? = some (some s) → ρ[i]? = some (some s) := fun i s e => by
    by_cases h : i < ρ.length
    · rwa [List.getElem?_append_left h] at e
    · rw [List.getElem?_append_right (by omega), List.getElem?_replicate] at e
      split at e <;> cases e
  refine ⟨by simp [R.len], R.fr, R.ot, R.tr, fun i v e => ?_, fun i s e => ?_, trivial⟩
  · obtain ⟨h1, s, h2, h3⟩ := R.pn i v e
    have l1 : i < σ.length := (List.getElem?_eq_some_iff.mp h1).1
    have l2 : i < ρ.length := (List.getElem?_eq_some_iff.mp h2).1
    exact ⟨by rw [List.getElem?_append_left l1]; exact h1, s, by rw [List.getElem?_append_left l2]; exact h2, h3⟩
  · obtain ⟨v, h1, h2⟩ := R.sl i s (get i s e)
    have l1 : i < σ.length := (List.getElem?_eq_some_iff.mp h1).1
    exact ⟨v, by rw [List.getElem?_append_left l1]; exact h1, h2⟩
theorem Rel.few {n : Nat} (R : Rel G O σ H ρ T) (hT : NoNm T) (hp : ∀ i v, G.Pin i = some v → i < n) : Rel G O (σ.take n) H (ρ.take n) T := by
  refine ⟨by simp [R.len], R.fr, R.ot, R.tr, fun i v e => ?_, fun i s e => ?_, tmps_slots (fun u hu j hj => absurd hj (hT u hu j)) R.tm⟩
  · obtain ⟨h1, s, h2, h3⟩ := R.pn i v e
    have := hp i v e
    exact ⟨by rw [List.getElem?_take_of_lt this]; exact h1, s, by rw [List.getElem?_take_of_lt this]; exact h2, h3⟩
  · by_cases h : i < n
    · rw [List.getElem?_take_of_lt h] at e ⊢
      exact R.sl i s e
    · rw [List.getElem?_eq_none (by rw [List.length_take]; omega)] at e
      cases e
end
/-- a body's meaning gives the def's promise -/
theorem body_of {K : PySem.W.Frag} {N ps : List Str} {r : DS} {vs : List V} {H : Hp} {Q : VK} {E : XK} (h : spF K (runFn N.length r) ps.length vs H Q E) (hl : ps.length ≤ N.length) :
    tS K (fun cls d _ H => E cls d H) r { nx := fun _ H' => Q .non H', rt := Q } (start N vs) H := by
  obtain ⟨hv, G, O, args, hK, ha, R, h⟩ := h
  have R1 := R.more (N.length - vs.length)
  have pins : ∀ i v, G.Pin i = some v → i < args.length := fun i v e => by
    obtain ⟨_, s, h2, _⟩ := R.pn i v e
    have := (List.getElem?_eq_some_iff.mp h2).1
    simpa using this
  refine ⟨G, O, _, hK, R1, ?_⟩
  have el : args.length = vs.length := by rw [ha, hv]
  unfold runFn at h
  rw [el] at h
  cases q : r (args.map slotOf ++ List.replicate (N.length - vs.length) none) with
  | stuck => rw [q] at h; exact h
  | ex x ρ' =>
    rw [q] at h
    rw [← el] at h
    exact fun σ' O' H' dd R' er => by rw [hK] at er ⊢; exact h O' _ H' dd (R'.few .nil pins) er
  | ok f ρ' =>
    rw [q] at h
    cases f with
    | nx =>
      dsimp only at h
      rw [← el] at h
      exact fun O' σ' H' R' => h O' _ .non H' ((R'.con .non).few (NoNm.nil.cons fun i z => by cases z) pins)
    | ret d b =>
      dsimp only at h
      rw [← el] at h
      exact fun O' σ' v H' R' => h O' _ v H' (R'.few (NoNm.nil.cons fun i z => by cases b <;> cases z) pins)
    | brk => exact h.elim
    | cnt => exact h.elim
/-- the context of a def's body -/
structure FnCx (X : Cx) (k : Nat) : Prop where
  g : CxG X
  room : Room k X.A
section
variable {P : Program} {w : World} {K : PySem.W.Frag} {mg : Str → Option Value} {base : Heap} {x qual : Str} {params : Arguments} {body : List Stmt} {scope : Scope} {dvs : List V} {kws : List (Str × V)} {f : Addr} {fd : FuncData}
/-- a def's promise where no repr is under way around the call -/
structure FnG (P : Program) (w : World) (K : PySem.W.Frag) (mg : Str → Option Value) (base : Heap) (cx : CXT) (k : Nat) (f : Addr) (fd : FuncData) (ps : List Str) (sp : Sp) : Prop where
  len : ∀ vs H Q E, sp vs H Q E → vs.length = ps.length
  run : ∀ (A : Around), A.guards = some [] → Room k A → ∀ (below : List Env) (s : Shared) (H : Hp), Env0 P w K mg base A below s H → ∀ (as : Args) (us : List Value), BindsTo s fd as (ps.zip us) →
    ∀ vs : List V, Vals vs us → ∀ (Q : VK) (E : XK), sp vs H Q E → codeAny (model P w) A (.call (.ref f) as) (CR cx below P w H s Q E) s
/-- from a body's walk -/
theorem fnG_of {cx : CXT} {k : Nat} {sp : Sp} {N ps : List Str} (F : FunD K x qual params body scope dvs kws f fd) (S : FnScope N ps scope) (len : ∀ vs H Q E, sp vs H Q E → vs.length = ps.length)
    (hb : ∀ (cdv : Value) (A : Around) (below : List Env) (s : Shared) (H : Hp) (vs : List V) (Q : VK) (E : XK), A.guards = some [] → Room k (A.deeper (envOfC qual scope s.heap.objs.size f cdv)) → sp vs H Q E →
      ∃ t, PSs (cxOf cx P w K mg base N qual scope f cdv A below s H E) body t ∧ t { rt := Q, nx := fun _ h => Q .non h } (start N vs) H) : FnG P w K mg base cx (k + 1) f fd ps sp := by
  obtain ⟨oc, od, dV, kV, doc, pm, an, cdv, ct, osl, rfl, look, code, _⟩ := F.ex
  refine ⟨len, fun A gu room below s H e0 as us bind vs vals Q E z => ?_⟩
  have stays : ∀ b o, base.get? b = some o → s.heap.get? b = some o := fun b o e => (e0.bs b o e).1
  have inK : K.In s.heap := e0.mod.kin.keeps stays
  have kinds : ∀ y ∈ ps.zip us, scope.names.lookup y.1 = some .local ∨ (scope.names.lookup y.1 = some .cell ∧ ((cellsFrom (s.heap.objs.size + 1) scope.names []).lookup y.1).isSome = true) :=
    fun y m => (S.par y.1 (List.of_mem_zip (b := y.2) m).1).imp_right fun q => ⟨q, PySem.W.cellsFrom_some _ _ _ (.inl q)⟩
  obtain ⟨t, walk, ends⟩ := hb cdv A below s H vs Q E gu (room.deeper _) z
  refine codeAny_call_function room.depth (inK _ _ look) rfl S.co S.gen rfl (PySem.W.codeRec_of inK code) (bind _ _ _ _ (wpAny_newFunctionEnv_cells S.kind kinds fun env e s1 bound => ?_))
  cases e
  have first : Inv (cxOf cx P w K mg base N qual scope f cdv A below s H E) [] (start N vs) H s1 := inv_start S room.hd e0 (len _ _ _ _ z) vals bound
  refine ⟨(e0.mod.nolimit.keeps stays).keeps bound.toInCall.keep, codeAny_func (wpAny_mono (walk.run [] s1 (start N vs) H _ first ends) (fun g s2 q => ?_) fun _ _ q => q)⟩
  match g, q with
  | .ret u, ⟨v, _, h, J, r, q⟩ => exact ⟨v, h, J.os, J.bare, J.base, J.hok, r, q⟩
  | .next, ⟨_, h, J, q⟩ => exact ⟨.non, h, J.os, J.bare, J.base, J.hok, rfl, q⟩
  | .brk, ⟨_, _, _, q⟩ => exact q.elim
  | .cont, ⟨_, _, _, q⟩ => exact q.elim
/-- THE RULE for a def: its body's meaning -/
theorem fn_ok {N ps : List Str} {k : Nat} {r : DS} (F : FunD K x qual params body scope dvs kws f fd) (S : FnScope N ps scope)
    (h : ∀ (cdv : Value) (A : Around) (outer : List Env) (s : Shared) (H : Hp) (E : XK), FnCx (cxOf (L2.CX P w) P w K mg base N qual scope f cdv A outer s H E) k → SSs (cxOf (L2.CX P w) P w K mg base N qual scope f cdv A outer s H E) body r) :
    FnG P w K mg base (L2.CX P w) (k + 1) f fd ps (spF K (runFn N.length r) ps.length) :=
  fnG_of F S (fun vs H Q E h => h.1) fun cdv A outer s H vs Q E gu hr hsp => by
    have hl : ps.length ≤ N.length := by have := congrArg List.length S.pre; rw [List.length_take] at this; omega
    have tk : Takes (cxOf (L2.CX P w) P w K mg base N qual scope f cdv A outer s H E) (fun cls d _ H => E cls d H) := takes_of rfl rfl rfl rfl
    exact ⟨_, h cdv A outer s H E ⟨⟨rfl, S.nd, passes_of rfl, gu⟩, hr⟩ _ tk, body_of hsp hl⟩
end
section
variable {X : Cx} {cx : CXT} {k : Nat} {f : Addr} {fd : FuncData} {ps : List Str} {sp : Sp} {dvs : List V} {ds : List Value} {E : St → XK} {x : Str} {p pos : Pos} {e : Expr} {es : List Expr} {t : TA}
/-- f(e, ..) -/
theorem pe_callG (F : FnG X.prog X.w X.K X.mg X.base cx k f fd ps sp) (gu : X.A.guards = some []) (room : Room k X.A) (gl : Gl X x) (hm : X.mg x = some (.ref f)) (kp : PySem.W.keepIn X.K (.ref f) = true) (bs : Binds X.K fd ps ds) (vd : Vals dvs ds)
    (out : ∀ σ, PassesAt cx X σ (E σ)) (ha : PA X (e :: es) t) (db : (x == ("__debug__" : Str)) = false := by decide) (st : starEach (e :: es) X.env = (false, eval e X.env) :: starEach es X.env := by rfl)
    (pl : (backTo pos (starEach es X.env)).any (·.1) = false := by rfl) : PE X (.Call (.Name x p) (e :: es) [] pos) (tCallSD sp dvs E t) := ⟨fun pins s σ H Q inv z => by
  refine wpAny_Call_Name_kw (ld_glob inv gl hm (PySem.W.callWith_K (h₀ := X.base) inv.ok.mod.kin kp (thn (ha.run pos pins s σ H _ inv z) fun us s1 q => ?_) st pl) db)
  obtain ⟨vs, H1, inv1, vals, q⟩ := q
  have all : Vals (vs ++ dvs) (us ++ ds) := vals.append vd
  refine ⟨inv1.kIn, wpAny_call (codeAny_mono (F.run X.A gu room X.stack s1 H1 inv1.env0 ⟨us, []⟩ (us ++ ds) (bs s1 us inv1.kIn ?_) (vs ++ dvs) all Q (E σ) q) fun g s2 y => ?_)⟩
  · rw [← all.length]; exact F.len _ _ _ _ q
  · match g, y with
    | .ok (.ret u), y => exact inv1.after y
    | .error v, y => exact out σ pins H1 s1 v s2 inv1 y
    | .ok .next, y => exact y.elim
    | .ok .brk, y => exact y.elim
    | .ok .cont, y => exact y.elim⟩
end
def argOf (ρ : Rho) (x : D × Kd) : Option Arg := match x.2 with
  | .fr => some ⟨x.1, true⟩
  | .shr => some ⟨x.1, false⟩
  | .nm i => match ρ[i]? with
    | some (some s) => some ⟨s.d, s.own⟩
    | _ => none
def argsOf (ρ : Rho) : List (D × Kd) → Option (List Arg)
  | [] => some []
  | x :: xs => match argOf ρ x with
    | some a => (argsOf ρ xs).map (a :: ·)
    | none => none
/-- who owns what is passed on -/
def wOf (ρ : Rho) (k : Nat) (x : D × Kd) : Option Ow := match x.2 with
  | .fr => some (.tp k)
  | .shr => none
  | .nm i => match ρ[i]? with
    | some (some s) => if s.own then some (.sl i) else none
    | _ => none
def wsOf (ρ : Rho) : Nat → List (D × Kd) → List (Option Ow)
  | _, [] => []
  | k, x :: xs => wOf ρ k x :: wsOf ρ (k + 1) xs
def uniqW : List (Option Ow) → Bool
  | [] => true
  | w :: ws => (match w with
    | some _ => ws.all (fun u => decide (u ≠ w))
    | none => true) && uniqW ws
def idxW : List (Option Ow) → Ow → Option Nat
  | [], _ => none
  | u :: ws, w => if u = some w then some 0 else (idxW ws w).map (· + 1)
theorem idxW_at : ∀ {ws : List (Option Ow)} {w : Ow} {j : Nat}, idxW ws w = some j → ws[j]? = some (some w)
  | [], _, _, h => by cases h
  | u :: ws, w, j, h => by
    unfold idxW at h
    split at h
    · rename_i e; cases h; simp [e]
    · obtain ⟨k, e, rfl⟩ := Option.map_eq_some_iff.mp h
      simpa using idxW_at e
theorem idxW_of : ∀ {ws : List (Option Ow)} {w : Ow} {j : Nat}, uniqW ws = true → ws[j]? = some (some w) → idxW ws w = some j
  | [], _, _, _, h => by simp at h
  | u :: ws, w, 0, hu, h => by
    simp at h
    unfold idxW
    rw [if_pos h]
  | u :: ws, w, j + 1, hu, h => by
    have h' : ws[j]? = some (some w) := by simpa using h
    unfold uniqW at hu
    rw [Bool.and_eq_true] at hu
    unfold idxW
    rw [if_neg (fun e => ?_), idxW_of hu.2 h']
    · rfl
    · have h1 := hu.1
      rw [e] at h1
      dsimp only at h1
      have := List.all_eq_true.mp h1 _ (List.mem_of_getElem? h')
      simp at this
/-- the place of the slot i among what is passed -/
def lookNm : List (D × Kd) → Nat → Option Nat
  | [], _ => none
  | (_, .nm k) :: xs, i => if k = i then some 0 else (lookNm xs i).map (· + 1)
  | _ :: xs, i => (lookNm xs i).map (· + 1)
def back1 (xs : List (D × Kd)) (outs : Rho) (i : Nat) (o : Option Slot) : Option Slot := match o with
  | none => none
  | some s => match s.own with
    | false => some s
    | true => match lookNm xs i with
      | none => some s
      | some j => match outs[j]? with
        | some (some s') => some ⟨s'.d, s'.own, s.pin⟩
        | _ => none
def backs (xs : List (D × Kd)) (outs : Rho) : Nat → Rho → Rho
  | _, [] => []
  | i, o :: ρ => back1 xs outs i o :: backs xs outs (i + 1) ρ
theorem backs_at (xs : List (D × Kd)) (outs : Rho) : ∀ (ρ : Rho) (k i : Nat), (backs xs outs k ρ)[i]? = ρ[i]?.map (back1 xs outs (k + i))
  | [], _, _ => by simp [backs]
  | o :: ρ, k, 0 => by simp [backs]
  | o :: ρ, k, i + 1 => by
    have := backs_at xs outs ρ (k + 1) i
    simp only [backs, List.getElem?_cons_succ]
    rw [this, show k + 1 + i = k + (i + 1) by omega]
theorem backs_len (xs : List (D × Kd)) (outs : Rho) : ∀ (ρ : Rho) (k : Nat), (backs xs outs k ρ).length = ρ.length
  | [], _ => rfl
  | o :: ρ, k => congrArg (· + 1) (backs_len xs outs ρ (k + 1))
def callEnd (F : Fn) (np : Nat) (dfl : List D) (xs : List (D × Kd)) : DE := fun ρ => if uniqW (wsOf ρ 0 xs) && decide (xs.length + dfl.length = np) then match argsOf ρ xs with
    | none => .stuck
    | some args => match F (args ++ dfl.map shA) with
      | none => .stuck
      | some (.ret d b outs) => .ok (d, frK b) (backs xs outs 0 ρ)
      | some (.exc x outs) => .ex x (backs xs outs 0 ρ)
  else .stuck
def dCall (F : Fn) (np : Nat) (dfl : List D) (l : List (Bool × DE)) : DE := do
  let xs ← dA l
  callEnd F np dfl xs
theorem lookNm_at : ∀ {xs : List (D × Kd)} {i j : Nat}, lookNm xs i = some j → ∃ d, xs[j]? = some (d, .nm i)
  | [], _, _, h => by cases h
  | (d, .nm k) :: xs, i, j, h => by
    unfold lookNm at h
    split at h
    · rename_i e; cases h; exact ⟨d, by simp [e]⟩
    · obtain ⟨m, e, rfl⟩ := Option.map_eq_some_iff.mp h
      simpa using lookNm_at e
  | (d, .fr) :: xs, i, j, h => by
    obtain ⟨m, e, rfl⟩ := Option.map_eq_some_iff.mp (show (lookNm xs i).map (· + 1) = some j from h)
    simpa using lookNm_at e
  | (d, .shr) :: xs, i, j, h => by
    obtain ⟨m, e, rfl⟩ := Option.map_eq_some_iff.mp (show (lookNm xs i).map (· + 1) = some j from h)
    simpa using lookNm_at e
theorem lookNm_none : ∀ {xs : List (D × Kd)} {i j : Nat} {d : D}, lookNm xs i = none → xs[j]? ≠ some (d, .nm i)
  | [], _, _, _, _, h => by simp at h
  | (d, .nm k) :: xs, i, j, d', h, e => by
    unfold lookNm at h
    split at h
    · cases h
    · rename_i ne
      cases j with
      | zero => simp at e; exact ne e.2
      | succ j => exact lookNm_none (Option.map_eq_none_iff.mp h) (by simpa using e)
  | (d, .fr) :: xs, i, j, d', h, e => by
    cases j with
    | zero => simp at e
    | succ j => exact lookNm_none (Option.map_eq_none_iff.mp (show (lookNm xs i).map (· + 1) = none from h)) (by simpa using e)
  | (d, .shr) :: xs, i, j, d', h, e => by
    cases j with
    | zero => simp at e
    | succ j => exact lookNm_none (Option.map_eq_none_iff.mp (show (lookNm xs i).map (· + 1) = none from h)) (by simpa using e)
theorem wsOf_at (ρ : Rho) : ∀ (xs : List (D × Kd)) (k j : Nat), (wsOf ρ k xs)[j]? = xs[j]?.map (wOf ρ (k + j))
  | [], _, _ => by simp [wsOf]
  | x :: xs, k, 0 => by simp [wsOf]
  | x :: xs, k, j + 1 => by
    have := wsOf_at ρ xs (k + 1) j
    simp only [wsOf, List.getElem?_cons_succ]
    rw [this, show k + 1 + j = k + (j + 1) by omega]
theorem argsOf_len {ρ : Rho} : ∀ {xs : List (D × Kd)} {args : List Arg}, argsOf ρ xs = some args → args.length = xs.length
  | [], _, h => by cases h; rfl
  | x :: xs, args, h => by
    unfold argsOf at h
    split at h
    · obtain ⟨r, e, rfl⟩ := Option.map_eq_some_iff.mp h
      exact congrArg (· + 1) (argsOf_len e)
    · cases h
theorem argsOf_at {ρ : Rho} : ∀ {xs : List (D × Kd)} {args : List Arg} {j : Nat} {x : D × Kd}, argsOf ρ xs = some args → xs[j]? = some x → ∃ a, argOf ρ x = some a ∧ args[j]? = some a
  | [], _, _, _, h, e => by simp at e
  | y :: xs, args, j, x, h, e => by
    unfold argsOf at h
    split at h
    · rename_i a ha
      obtain ⟨r, e1, rfl⟩ := Option.map_eq_some_iff.mp h
      cases j with
      | zero => simp at e; subst e; exact ⟨a, ha, rfl⟩
      | succ j =>
        obtain ⟨b, h1, h2⟩ := argsOf_at e1 (show xs[j]? = some x by simpa using e)
        exact ⟨b, h1, by simpa using h2⟩
    · cases h
/-- what is pending, by its place -/
theorem pushC_at {K : PySem.W.Frag} {H : Hp} {O : Own} {σ : St} : ∀ {vs : List V} {xs : List (D × Kd)} {T : List Tmp} {j : Nat} {x : D × Kd}, vs.length = xs.length → TmpsOk K H O σ (pushC vs xs T) → xs[j]? = some x →
    ∃ v, vs[j]? = some v ∧ TmpOk K H O σ (T.length + j) ⟨v, x.1, x.2⟩
  | [], [], _, _, _, _, _, e => by simp at e
  | v :: vs, y :: xs, T, 0, x, hl, h, e => by
    simp at e
    subst e
    have deep : ∀ {vs : List V} {xs : List (D × Kd)} {T : List Tmp}, TmpsOk K H O σ (pushC vs xs T) → TmpsOk K H O σ T := by
      intro vs
      induction vs with
      | nil => intro xs T h; unfold pushC at h; exact h
      | cons v vs ih =>
        intro xs T h
        cases xs with
        | nil => unfold pushC at h; exact h
        | cons x xs => exact (ih (xs := xs) (T := ⟨v, x.1, x.2⟩ :: T) h).2
    exact ⟨v, rfl, (deep (vs := vs) (xs := xs) (T := ⟨v, y.1, y.2⟩ :: T) h).1⟩
  | v :: vs, y :: xs, T, j + 1, x, hl, h, e => by
    obtain ⟨u, h1, h2⟩ := pushC_at (T := ⟨v, y.1, y.2⟩ :: T) (j := j) (Nat.succ.inj hl) h (by simpa using e)
    refine ⟨u, by simpa using h1, ?_⟩
    rw [show T.length + (j + 1) = (⟨v, y.1, y.2⟩ :: T : List Tmp).length + j by simp; omega]
    exact h2
  | [], _ :: _, _, _, _, hl, _, _ => by cases hl
  | _ :: _, [], _, _, _, hl, _, _ => by cases hl
end L2.VL
end
section
set_option Elab.async false
set_option linter.all false
set_option maxRecDepth 100000
namespace L2.VL
open PySem PySem.Spec PyProof.Rows
def cO (ws : List (Option Ow)) (O : Own) : Own := fun b => match O b with
  | none => none
  | some w => match idxW ws w with
    | some j => some (.sl j)
    | none => some .out
def cFr (G : Fix) (ws : List (Option Ow)) (O : Own) (H : Hp) : Hp := fun b => if (G.Tb b).isSome = true then none else match O b with
  | none => H b
  | some w => match idxW ws w with
    | some _ => none
    | none => H b
def cPin (ws : List (Option Ow)) (vs : List V) (j : Nat) : Option V := match ws[j]? with
  | some (some _) => vs[j]?
  | _ => none
def cG (G : Fix) (ws : List (Option Ow)) (O : Own) (H : Hp) (vs : List V) : Fix :=
  { K := G.K, Fr := cFr G ws O H, Out := fun b => (∃ w, O b = some w ∧ idxW ws w = none) ∨ (G.Tb b).isSome = true, Pin := cPin ws vs, tbo := fun P q h => by
        have h : G.Tb P = some q := h
        unfold cFr
        rw [h]
        exact ⟨.inr rfl, if_pos rfl⟩ }
theorem tb_ne {G : Fix} {O : Own} {σ : St} {H : Hp} {ρ : Rho} {T : List Tmp} (R : Rel G O σ H ρ T) {a : Addr} (n : O a ≠ some .out) : G.Tb a = none := by
  cases e : G.Tb a with
  | none => rfl
  | some q => exact absurd (tb_out R e) n
/-- the owners behind the call -/
def wsl (ws : List (Option Ow)) (i : Nat) : Option Ow := match ws[i]? with
  | some (some (.sl m)) => some (.sl m)
  | _ => none
theorem wsl_of {ws : List (Option Ow)} {i m : Nat} (h : ws[i]? = some (some (.sl m))) : wsl ws i = some (.sl m) := by unfold wsl; rw [h]
theorem wsl_sl {ws : List (Option Ow)} {i : Nat} {w : Ow} (h : wsl ws i = some w) : ∃ m, w = .sl m := by
  unfold wsl at h
  split at h
  · exact ⟨_, (Option.some.inj h).symm⟩
  · cases h
def cB (ws : List (Option Ow)) (O O' : Own) : Own := fun b => match O b with
  | none => (match O' b with
    | some (.tp m) => some (.tp m)
    | some (.sl i) => wsl ws i
    | _ => none)
  | some w => match idxW ws w with
    | none => some w
    | some j => match O' b with
      | some (.sl i) => wsl ws i
      | some (.tp m) => some (.tp m)
      | _ => none
section
variable {G : Fix} {O O' : Own} {σ σ' : St} {H H' : Hp} {ρ outs : Rho} {T2 : List Tmp} {vs dvs : List V} {xs : List (D × Kd)} {args : List Arg} {dfl : List D} {ws : List (Option Ow)}
theorem lin_cO {a : Addr} : lin (cO ws O) a ↔ lin O a := by
  unfold lin cO
  cases O a with
  | none => exact Iff.rfl
  | some w => dsimp only; cases idxW ws w <;> simp
theorem ws_out (ρ : Rho) (xs : List (D × Kd)) : idxW (wsOf ρ 0 xs) Ow.out = none := by
  have wsNo : ∀ j : Nat, (wsOf ρ 0 xs)[j]? ≠ some (some Ow.out) := fun j e => by
    rw [wsOf_at] at e
    cases q : xs[j]? with
    | none => rw [q] at e; cases e
    | some x =>
      rw [q] at e
      replace e : wOf ρ (0 + j) x = some Ow.out := Option.some.inj e
      unfold wOf at e
      split at e
      · cases e
      · cases e
      · split at e
        · split at e <;> cases e
        · cases e
  cases q : idxW (wsOf ρ 0 xs) Ow.out with
  | none => rfl
  | some j => exact absurd (idxW_at q) (wsNo j)
theorem call_in (R : Rel G O σ H ρ (pushC vs xs [])) (hl : vs.length = xs.length) (hu : uniqW (wsOf ρ 0 xs) = true) (ha : argsOf ρ xs = some args) (hd : Reps G.K H (lin (cO (wsOf ρ 0 xs) O)) dvs dfl) :
    Rel (cG G (wsOf ρ 0 xs) O H vs) (cO (wsOf ρ 0 xs) O) ((vs ++ dvs).map some) H ((args ++ dfl.map shA).map slotOf) [] := by
  have hal := argsOf_len ha
  have hdl : dvs.length = dfl.length := hd.len
  have hs : Stay H H (lin O) (lin (cO (wsOf ρ 0 xs) O)) := fun a o n e => ⟨e, fun z => n (lin_cO.mp z)⟩
  refine ⟨by simp; omega, fun b o e => ?_, fun b => ?_, fun a w e => ?_, fun i v e => ?_, fun j s e => ?_, trivial⟩
  · replace e : cFr G (wsOf ρ 0 xs) O H b = some o := e
    unfold cFr at e
    split at e
    · cases e
    unfold cO
    cases q : O b with
    | none => rw [q] at e; exact ⟨e, .inl rfl⟩
    | some w =>
      rw [q] at e
      dsimp only at e ⊢
      cases q2 : idxW (wsOf ρ 0 xs) w with
      | some j => rw [q2] at e; cases e
      | none => rw [q2] at e; exact ⟨e, .inr rfl⟩
  · show _ ↔ ((∃ w, O b = some w ∧ idxW (wsOf ρ 0 xs) w = none) ∨ (G.Tb b).isSome = true)
    have tb : (G.Tb b).isSome = true → O b = some .out := tb_is R
    unfold cO
    cases q : O b with
    | none =>
      rw [q] at tb
      constructor
      · intro z; cases z
      · rintro (⟨w, z, _⟩ | z)
        · cases z
        · cases tb z
    | some w =>
      dsimp only
      cases q2 : idxW (wsOf ρ 0 xs) w with
      | some j =>
        dsimp only
        constructor
        · intro z; cases z
        · rintro (⟨w', z, z2⟩ | z)
          · cases z; rw [q2] at z2; cases z2
          · have := tb z
            rw [q] at this; cases this
            rw [ws_out] at q2; cases q2
      | none => exact ⟨fun _ => .inl ⟨w, rfl, q2⟩, fun _ => rfl⟩
  · have : lin O a := lin_cO.mp (by unfold lin; rw [e]; simp)
    unfold lin at this
    cases q : O a with
    | none => exact absurd q this
    | some w' => exact R.tr a w' q
  · replace e : cPin (wsOf ρ 0 xs) vs i = some v := e
    unfold cPin at e
    split at e
    · rename_i w hw
      have hi : i < vs.length := (List.getElem?_eq_some_iff.mp e).1
      refine ⟨by rw [List.getElem?_map, List.getElem?_append_left hi, e]; rfl, ?_⟩
      rw [wsOf_at] at hw
      cases q : xs[i]? with
      | none => rw [q] at hw; cases hw
      | some x =>
        rw [q] at hw
        replace hw : wOf ρ (0 + i) x = some w := Option.some.inj hw
        obtain ⟨a, h1, h2⟩ := argsOf_at ha q
        refine ⟨⟨a.d, a.own, a.own⟩, by rw [List.getElem?_map, List.getElem?_append_left (by omega), h2]; rfl, ?_⟩
        unfold wOf at hw
        unfold argOf at h1
        obtain ⟨d, k⟩ := x
        cases k with
        | shr => cases hw
        | fr => cases h1; rfl
        | nm m =>
          dsimp only at hw h1
          split at hw
          · rename_i s hs'
            rw [hs'] at h1
            cases h1
            split at hw
            · assumption
            · cases hw
          · cases hw
    · cases e
  · rw [List.getElem?_map] at e
    by_cases hj : j < xs.length
    · rw [List.getElem?_append_left (by omega)] at e
      obtain ⟨a, h1, h2⟩ := argsOf_at ha (List.getElem?_eq_getElem hj)
      rw [h2] at e
      cases e
      obtain ⟨v, h3, h4⟩ := pushC_at (T := []) hl R.tm (List.getElem?_eq_getElem hj)
      refine ⟨v, by rw [List.getElem?_map, List.getElem?_append_left (by omega), h3]; rfl, ?_⟩
      have hw := wsOf_at ρ xs 0 j
      rw [List.getElem?_eq_getElem hj] at hw
      replace hw : (wsOf ρ 0 xs)[j]? = some (wOf ρ (0 + j) xs[j]) := hw
      generalize xs[j] = x at h1 h4 hw
      obtain ⟨d, k⟩ := x
      unfold argOf at h1
      unfold wOf at hw
      unfold TmpOk at h4
      cases k with
      | shr =>
        cases h1
        exact h4.mono hs
      | fr =>
        cases h1
        refine OwnX.mono hs h4 fun b o e1 e2 => ⟨?_, e2⟩
        unfold cO
        rw [e1]
        dsimp only
        rw [idxW_of hu (j := j) (by simpa using hw)]
      | nm m =>
        dsimp only at h1 h4 hw
        split at h1
        · rename_i s hs'
          cases h1
          obtain ⟨v', p1, p2⟩ := R.sl m s hs'
          rw [h4] at p1
          cases p1
          rw [hs'] at hw
          unfold SlotOk at p2 ⊢
          dsimp only at hw ⊢
          cases qo : s.own with
          | false => rw [qo] at p2; exact p2.mono hs
          | true =>
            rw [qo] at p2 hw
            refine OwnX.mono hs p2 fun b o e1 e2 => ⟨?_, e2⟩
            unfold cO
            rw [e1]
            dsimp only
            rw [idxW_of hu (j := j) (by simpa using hw)]
        · cases h1
    · rw [List.getElem?_append_right (by omega), List.getElem?_map] at e
      cases q : dfl[j - args.length]? with
      | none => rw [q] at e; cases e
      | some d =>
        rw [q] at e
        cases e
        obtain ⟨u, h1, h2⟩ := hd.get q
        refine ⟨u, by rw [List.getElem?_map, List.getElem?_append_right (by omega), show j - vs.length = j - args.length by omega, h1]; rfl, h2⟩
theorem call_out (R : Rel G O σ H ρ (pushC vs xs [])) (hl : vs.length = xs.length) (hu : uniqW (wsOf ρ 0 xs) = true) (hT : NoNm T2) (R' : Rel (cG G (wsOf ρ 0 xs) O H vs) O' σ' H' outs T2) :
    Rel G (cB (wsOf ρ 0 xs) O O') σ H' (backs xs outs 0 ρ) T2 ∧ ∀ a, O' a = none → cB (wsOf ρ 0 xs) O O' a = none := by
  have outIdx := ws_out ρ xs
  have isout : ∀ {a w}, O a = some w → idxW (wsOf ρ 0 xs) w = none → O' a = some .out := fun {a w} e1 e2 => (R'.ot a).mpr (.inl ⟨w, e1, e2⟩)
  have keepU : ∀ {a w o}, O a = some w → idxW (wsOf ρ 0 xs) w = none → G.Tb a = none → H a = some o → H' a = some o := fun {a w o} e1 e2 et e3 => (R'.fr a o (by show cFr G (wsOf ρ 0 xs) O H a = some o; unfold cFr; rw [if_neg (by rw [et]; simp), e1]; dsimp only; rw [e2]; exact e3)).1
  have noT : ∀ {a}, O a ≠ some .out → ∀ q, G.Tb a = some q → LamX.TabS H' a q := fun {a} n q hq => absurd (tb_out R hq) n
  have keepN : ∀ {a o}, O a = none → H a = some o → H' a = some o ∧ O' a = none := fun {a o} e1 e3 => by
    obtain ⟨p, q⟩ := R'.fr a o (by show cFr G (wsOf ρ 0 xs) O H a = some o; unfold cFr; rw [if_neg (by rw [tb_sl R (by rw [e1]; simp)]; simp), e1]; exact e3)
    refine ⟨p, q.resolve_right fun z => ?_⟩
    rcases (R'.ot a).mp z with ⟨w, e, _⟩ | z
    · rw [e1] at e; cases e
    · have := tb_is R z
      rw [e1] at this; cases this
  have none' : ∀ a, O' a = none → cB (wsOf ρ 0 xs) O O' a = none := fun a e => by
    unfold cB
    cases q : O a with
    | none => dsimp only; rw [e]
    | some w =>
      dsimp only
      cases q2 : idxW (wsOf ρ 0 xs) w with
      | none => rw [isout q q2] at e; cases e
      | some j => dsimp only; rw [e]
  have hs1 : Stay H' H' (lin O') (lin (cB (wsOf ρ 0 xs) O O')) := fun a o n e => ⟨e, fun z => z (none' a (by
    cases q : O' a with
    | none => rfl
    | some _ => exact absurd (show lin O' a by unfold lin; rw [q]; simp) n))⟩
  have hs2 : Stay H H' (lin O) (lin (cB (wsOf ρ 0 xs) O O')) := fun a o n e => by
    have n' : O a = none := by
      cases q : O a with
      | none => rfl
      | some _ => exact absurd (show lin O a by unfold lin; rw [q]; simp) n
    obtain ⟨p, q⟩ := keepN n' e
    exact ⟨p, fun z => z (none' a q)⟩
  refine ⟨⟨by rw [backs_len, R.len], fun b o e => ?_, fun b => ?_, fun a w e => ?_, fun i v e => ?_, fun i s'' e => ?_, ?_⟩, none'⟩
  · obtain ⟨h1, h2⟩ := R.fr b o e
    rcases h2 with h2 | h2
    · obtain ⟨p, q⟩ := keepN h2 h1
      exact ⟨p, .inl (none' b q)⟩
    · refine ⟨keepU h2 outIdx (tb_none e) h1, .inr ?_⟩
      unfold cB
      rw [h2]
      dsimp only
      rw [outIdx]
  · constructor
    · intro z
      refine (R.ot b).mp ?_
      unfold cB at z
      cases q : O b with
      | none =>
        rw [q] at z
        dsimp only at z
        split at z
        · cases z
        · obtain ⟨m, hm⟩ := wsl_sl z
          cases hm
        · cases z
      | some w =>
        rw [q] at z
        dsimp only at z
        cases q2 : idxW (wsOf ρ 0 xs) w with
        | none => rw [q2] at z; exact z
        | some j =>
          rw [q2] at z
          dsimp only at z
          split at z
          · obtain ⟨m, hm⟩ := wsl_sl z
            cases hm
          · cases z
          · cases z
    · intro z
      unfold cB
      rw [(R.ot b).mpr z]
      dsimp only
      rw [outIdx]
  · cases q : O a with
    | none =>
      unfold cB at e
      rw [q] at e
      dsimp only at e
      split at e
      · rename_i m q2; exact ⟨(R'.tr a _ q2).1, noT (by rw [q]; simp)⟩
      · rename_i m q2; exact ⟨(R'.tr a _ q2).1, noT (by rw [q]; simp)⟩
      · cases e
    | some w' =>
      cases q2 : idxW (wsOf ρ 0 xs) w' with
      | none =>
        refine ⟨(R'.tr a _ (isout q q2)).1, fun z hz => ?_⟩
        have eo := tb_out R hz
        rw [q] at eo
        cases eo
        exact (R'.tr a _ (isout q q2)).2 z hz
      | some j =>
        have nO : O a ≠ some .out := fun z => by
          rw [q] at z
          cases z
          rw [outIdx] at q2
          cases q2
        unfold cB at e
        rw [q] at e
        dsimp only at e
        rw [q2] at e
        dsimp only at e
        split at e
        · rename_i m q3; exact ⟨(R'.tr a _ q3).1, noT nO⟩
        · rename_i m q3; exact ⟨(R'.tr a _ q3).1, noT nO⟩
        · cases e
  · obtain ⟨h1, s, h2, h3⟩ := R.pn i v e
    refine ⟨h1, ?_⟩
    rw [backs_at, h2]
    show ∃ s', some (back1 xs outs (0 + i) (some s)) = some (some s') ∧ s'.pin = true
    unfold back1
    dsimp only
    cases qo : s.own with
    | false => exact ⟨s, rfl, h3⟩
    | true =>
      dsimp only
      rw [Nat.zero_add]
      cases ql : lookNm xs i with
      | none => exact ⟨s, rfl, h3⟩
      | some j =>
        dsimp only
        obtain ⟨d, hx⟩ := lookNm_at ql
        obtain ⟨vj, hv, ht⟩ := pushC_at (T := []) hl R.tm hx
        have hw : (wsOf ρ 0 xs)[j]? = some (some (.sl i)) := by
          rw [wsOf_at, hx]
          show some (wOf ρ (0 + j) (d, .nm i)) = _
          unfold wOf
          dsimp only
          rw [h2]
          dsimp only
          rw [qo]; rfl
        obtain ⟨_, s', e1, e2⟩ := R'.pn j vj (by show cPin _ vs j = _; unfold cPin; rw [hw]; exact hv)
        rw [e1]
        exact ⟨_, rfl, h3⟩
  · rw [backs_at] at e
    cases q : ρ[i]? with
    | none => rw [q] at e; cases e
    | some o =>
      rw [q] at e
      replace e : back1 xs outs (0 + i) o = some s'' := Option.some.inj e
      rw [Nat.zero_add] at e
      cases o with
      | none => cases e
      | some s =>
        obtain ⟨v, h1, h2⟩ := R.sl i s q
        refine ⟨v, h1, ?_⟩
        unfold back1 at e
        dsimp only at e
        unfold SlotOk at h2
        cases qo : s.own with
        | false =>
          rw [qo] at e h2
          cases e
          unfold SlotOk
          rw [qo]
          exact h2.mono hs2
        | true =>
          rw [qo] at e h2
          dsimp only at e
          cases ql : lookNm xs i with
          | none =>
            rw [ql] at e
            cases e
            have hidx : idxW (wsOf ρ 0 xs) (.sl i) = none := by
              cases qi : idxW (wsOf ρ 0 xs) (.sl i) with
              | none => rfl
              | some j =>
                have hw := idxW_at qi
                rw [wsOf_at] at hw
                cases qx : xs[j]? with
                | none => rw [qx] at hw; cases hw
                | some x =>
                  rw [qx] at hw
                  replace hw : wOf ρ (0 + j) x = some (.sl i) := Option.some.inj hw
                  obtain ⟨d, k⟩ := x
                  unfold wOf at hw
                  cases k with
                  | fr => cases hw
                  | shr => cases hw
                  | nm m =>
                    dsimp only at hw
                    split at hw
                    · split at hw
                      · cases hw
                        exact absurd qx (lookNm_none ql)
                      · cases hw
                    · cases hw
            unfold SlotOk
            rw [qo]
            refine OwnX.mono hs2 h2 fun a o e1 e2 => ⟨?_, keepU e1 hidx (tb_ne R (by rw [e1]; exact fun z => nomatch z)) e2⟩
            unfold cB
            rw [e1]
            dsimp only
            rw [hidx]
          | some j =>
            rw [ql] at e
            dsimp only at e
            split at e
            · rename_i s' hs'
              cases e
              obtain ⟨d, hx⟩ := lookNm_at ql
              obtain ⟨vj, hv, ht⟩ := pushC_at (T := []) hl R.tm hx
              have hw : (wsOf ρ 0 xs)[j]? = some (some (.sl i)) := by
                rw [wsOf_at, hx]
                show some (wOf ρ (0 + j) (d, .nm i)) = _
                unfold wOf
                dsimp only
                rw [q]
                dsimp only
                rw [qo]; rfl
              obtain ⟨e1, s2, e2, e3⟩ := R'.pn j vj (by show cPin _ vs j = _; unfold cPin; rw [hw]; exact hv)
              have evj : v = vj := by
                have ht' : σ[i]? = some (some vj) := ht
                rw [h1] at ht'
                cases ht'; rfl
              obtain ⟨v', f1, f2⟩ := R'.sl j s' hs'
              rw [e1] at f1
              cases f1
              subst evj
              unfold SlotOk at f2 ⊢
              dsimp only
              cases qo' : s'.own with
              | false => rw [qo'] at f2; exact f2.mono hs1
              | true =>
                rw [qo'] at f2
                refine OwnX.mono hs1 f2 fun a o e1 e2 => ⟨?_, e2⟩
                unfold cB
                rw [e1]
                cases q : O a with
                | none => exact wsl_of hw
                | some w =>
                  dsimp only
                  cases q2 : idxW (wsOf ρ 0 xs) w with
                  | none => rw [isout q q2] at e1; cases e1
                  | some j' => exact wsl_of hw
            · cases e
  · refine tmps_mono hs1 (fun a o n hn e1 e2 => ⟨?_, e2⟩) (tmps_slots (fun u hu j hj => absurd hj (hT u hu j)) R'.tm)
    unfold cB
    rw [e1]
    cases q : O a with
    | none => rfl
    | some w =>
      dsimp only
      cases q2 : idxW (wsOf ρ 0 xs) w with
      | none => rw [isout q q2] at e1; cases e1
      | some j => rfl
end
section
variable {X : Cx} {k : Nat} {f : Addr} {fd : FuncData} {ps : List Str} {F : Fn} {dvs : List V} {ds : List Value} {dfl : List D} {x : Str} {p pos : Pos} {e : Expr} {es : List Expr} {l : List (Bool × DE)}
/-- a def as it stands: its promise, its name, how it is called with the last parameters left to their defaults dvs -/
structure Def (P : Program) (w : World) (K : PySem.W.Frag) (mg : Str → Option Value) (base : Heap) (x : Str) (k : Nat) (F : Fn) (np : Nat) (dvs : List V) : Prop where
  ex : ∃ (f : Addr) (fd : FuncData) (ps : List Str) (ds : List Value), mg x = some (.ref f) ∧ PySem.W.keepIn K (.ref f) = true ∧ ps.length = np ∧ FnG P w K mg base (L2.CX P w) k f fd ps (spF K F np) ∧ Binds K fd ps ds ∧ Vals dvs ds
theorem callee_of {W : WX} (hd : ∀ H L, Reps X.K H L dvs dfl) (hps : ps.length = np) (σ : St) (H : Hp) (Q : VK) (h : tE X.K W (dCall F np dfl l) σ H Q) : tCallSD (spF X.K F np) dvs (fun σ cls d H => W cls d σ H) (tA X.K W (dA l)) σ H Q := by
  obtain ⟨G, O, ρ, hK, R, h⟩ := h
  refine ⟨G, O, ρ, [], hK, R, Res.post_ok ((post_bind _ _).mp h) fun xs ρ1 q O1 vs H1 hl R1 => ?_⟩
  unfold callEnd at q
  by_cases hu : (uniqW (wsOf ρ1 0 xs) && decide (xs.length + dfl.length = np)) = true
  · rw [if_pos hu] at q
    rw [Bool.and_eq_true, decide_eq_true_eq] at hu
    cases ha : argsOf ρ1 xs with
    | none => rw [ha] at q; exact q.elim
    | some args =>
      rw [ha] at q
      dsimp only at q
      have hd1 : ∀ L, Reps G.K H1 L dvs dfl := fun L => by rw [hK]; exact hd H1 L
      have hdl : dvs.length = dfl.length := (hd1 fun _ => True).len
      have hal := argsOf_len ha
      refine ⟨by rw [List.length_append, hl, hdl]; exact hu.2, cG G (wsOf ρ1 0 xs) O1 H1 vs, cO (wsOf ρ1 0 xs) O1, args ++ dfl.map shA, hK, by rw [List.length_append, List.length_map, hal]; exact hu.2, call_in R1 hl hu.1 ha (hd1 _), ?_⟩
      cases hF : F (args ++ dfl.map shA) with
      | none => rw [hF] at q; exact q.elim
      | some fr =>
        rw [hF] at q
        cases fr with
        | ret d b outs =>
          exact fun O' σ' v H' R' => q _ v H' (call_out R1 hl hu.1 (NoNm.nil.cons fun i z => by cases b <;> cases z) R').1
        | exc x outs =>
          intro O' σ' H' dd R' er
          rw [← hK]
          refine q _ H' dd (call_out R1 hl hu.1 .nil R').1 ?_
          have nn := (call_out R1 hl hu.1 .nil R').2
          unfold ExnRep at er ⊢
          cases qf : x.fs with
          | none => rw [qf] at er; exact er
          | some fs =>
            rw [qf] at er
            obtain ⟨d, us, e1, e2, e3, e4, e5⟩ := er
            refine ⟨d, us, e1, e2, e3, ?_, fun z => e5 fun z2 => z (nn d z2)⟩
            rw [hK]
            refine e4.mono fun a o n e => ⟨e, fun z => n ?_⟩
            unfold lin at z ⊢
            exact fun z2 => z (nn a z2)
  · rw [if_neg hu] at q; exact q.elim
theorem se_call {np : Nat} (D : Def X.prog X.w X.K X.mg X.base x k F np dvs) (gu : X.A.guards = some []) (hr : Room k X.A) (ha : SA X (e :: es) l) (hg : Gl X x := by rfl) (hdb : (x == ("__debug__" : Str)) = false := by decide)
    (he : starEach (e :: es) X.env = (false, eval e X.env) :: starEach es X.env := by rfl) (hpl : (backTo pos (starEach es X.env)).any (·.1) = false := by rfl) : SE X (.Call (.Name x p) (e :: es) [] pos) (dCall F np (dvs.map .con) l) := fun W tk => by
  obtain ⟨f, fd, ps, ds, hm, hk, hps, Fk, hb, hv⟩ := D.ex
  refine PE.imp (pe_callG (E := fun σ cls d H => W cls d σ H) Fk gu hr hg hm hk hb hv (fun σ => passAt tk σ) (ha W tk) hdb he hpl) (callee_of (ps := ps) (fun H L => ?_) hps)
  have := Reps.cons_map (K := X.K) (H := H) (L := L) (fun v : V => v) dvs
  simpa using this
end
/-- a def of the module -/
structure FnAt (K : PySem.W.Frag) (mg : Str → Option Value) (x : Str) (st : Stmt) (dvs : List V) (kws : List (Str × V)) : Prop where
  ex : ∃ (f : Addr) (fd : FuncData), mg x = some (.ref f) ∧ FunD K x x (defArgs st) (defBody st) (defScope st) dvs kws f fd
section
variable {P : Program} {w : World} {K : PySem.W.Frag} {mg : Str → Option Value} {base : Heap} {x : Str} {st : Stmt}
/-- from the def's text to its promise -/
theorem def_ok {N ps : List Str} {k np : Nat} {r : DS} (F : FnAt K mg x st [] []) (S : FnScope N ps (defScope st)) (hn : ps.length = np)
    (hb : ∀ (kV doc pm : Value) (an : Option Addr) (cdv ct : Value) (us : List Value), us.length = ps.length → bindArgs (PySem.W.fnOf x x (defArgs st) (defBody st) (defScope st) .none kV doc pm an cdv ct) ⟨us, []⟩ = pure (ps.zip us))
    (h : ∀ (f : Addr) (cdv : Value) (A : Around) (outer : List Env) (s : Shared) (H : Hp) (E : XK), FnCx (cxOf (L2.CX P w) P w K mg base N x (defScope st) f cdv A outer s H E) k → SSs (cxOf (L2.CX P w) P w K mg base N x (defScope st) f cdv A outer s H E) (defBody st) r) :
    Def P w K mg base x (k + 1) (runFn N.length r) np [] := by
  obtain ⟨f, fd, hm, F⟩ := F.ex
  subst hn
  refine ⟨f, fd, ps, [], hm, F.kp, rfl, fn_ok F S (fun cdv A outer s H E c => h f cdv A outer s H E c), ?_, .nil⟩
  exact F.bindsN hb
/-- .. of a def with defaults: the first n are given -/
theorem def_okD {N ps : List Str} {k np : Nat} {r : DS} {dvs : List V} (n j : Nat) (F : FnAt K mg x st dvs []) (S : FnScope N ps (defScope st)) (hn : ps.length = np) (hd : dvs ≠ []) (hnj : n + (dvs.length - j) = ps.length)
    (hb : ∀ (T : Addr) (kV doc pm : Value) (an : Option Addr) (cdv ct : Value) (us its : List Value), us.length = n → its.length = dvs.length →
      ∃ k, bindArgs (PySem.W.fnOf x x (defArgs st) (defBody st) (defScope st) (.ref T) kV doc pm an cdv ct) ⟨us, []⟩ = seqItems? (.ref T) >>= k ∧ k (some its.toArray) = pure (ps.zip (us ++ its.drop j)))
    (h : ∀ (f : Addr) (cdv : Value) (A : Around) (outer : List Env) (s : Shared) (H : Hp) (E : XK), FnCx (cxOf (L2.CX P w) P w K mg base N x (defScope st) f cdv A outer s H E) k → SSs (cxOf (L2.CX P w) P w K mg base N x (defScope st) f cdv A outer s H E) (defBody st) r) :
    Def P w K mg base x (k + 1) (runFn N.length r) np (dvs.drop j) := by
  obtain ⟨f, fd, hm, F⟩ := F.ex
  subst hn
  obtain ⟨ds, hv, hbd⟩ := F.binds1 n j hd hnj hb
  exact ⟨f, fd, ps, ds, hm, F.kp, rfl, fn_ok F S (fun cdv A outer s H E c => h f cdv A outer s H E c), hbd, hv⟩
end
end L2.VL
end
section
set_option Elab.async false
set_option linter.all false
set_option maxRecDepth 100000
namespace L2.VL
open PySem PySem.Spec PyProof.Rows
def addD (x y : D) : Option (D × Kd) := match x, y with
  | .con (.int i), .con (.int j) => some (.int (i + j), .shr)
  | .con (.str a), .con (.str b) => if a.length + b.length ≤ cap then some (.str (a ++ b), .shr) else none
  | .lst a, .lst b => if a.length + b.length ≤ cap then some (.lst (a ++ b), .fr) else none
  | .tup a, .tup b => if a.length + b.length ≤ cap ∧ a.isEmpty = false ∧ b.isEmpty = false then some (.tup (a ++ b), .shr) else none
  | _, _ => none
def rCatL (K : PySem.W.Frag) : R2 := fun x y H Q => ∃ l b xs zs, x = .ref l ∧ y = .ref b ∧ SqL K H l xs ∧ SqL K H b zs ∧ xs.length + zs.length ≤ sizeLine ∧ ∀ p, H p = none → Q (.ref p) (upd H p (.lst (xs ++ zs)))
section
variable {X : Cx} {pos : Pos}
theorem op_catL : OpR X (binaryOp .Add) (rCatL X.K) := by
  intro pins s σ H x y v u Q I rx ry h
  obtain ⟨l, b, xs, zs, rfl, rfl, hH, hB, hz, q⟩ := h
  cases rx
  cases ry
  obtain ⟨its, r, ⟨o1, n1, e1, c1, d1, k1⟩, _⟩ := I.list hH
  obtain ⟨its2, r2, ⟨o2, n2, e2, c2, d2, k2⟩, _⟩ := I.list hB
  obtain ⟨cls1, dd1, dt1, sl1⟩ := o1
  obtain ⟨cls2, dd2, dt2, sl2⟩ := o2
  dsimp only at c1 d1 k1 c2 d2 k2
  subst c1 d1 k1 c2 d2 k2
  have hl := r.length
  have hl2 := r2.length
  refine concat_meets ⟨_, e1, rfl⟩ ⟨_, e2, rfl⟩ noFill_list_add seq_list_add PySem.F.slot_list_add PySem.F.entry_list_add (PySem.F.args_list_add_2 _ _) (list_addW l b its.toArray its2.toArray n1 n2 none none sl1 sl2 (by simp; omega)) ⟨e1, e2, ?_⟩
  have ea : its.toArray ++ its2.toArray = (its ++ its2).toArray := by simp
  rw [ea]
  exact ⟨.ref _, _, I.lnew (t' := s.toks) (r.append r2) (by rw [List.length_append]; omega), rfl, q _ I.fresh⟩
def rAddStr : R2 := fun x y H Q => ∃ i j, x = .str i ∧ y = .str j ∧ i.length + j.length ≤ sizeLine ∧ Q (.str (i ++ j)) H
def rAddI : R2 := fun x y H Q => ∃ i j, x = .int i ∧ y = .int j ∧ Q (.int (i + j)) H
abbrev rAdd (K : PySem.W.Frag) : R2 := fun x y H Q => rAddI x y H Q ∨ (rAddStr x y H Q ∨ (rCatL K x y H Q ∨ rCatT K x y H Q))
theorem op_addA : OpR X (binaryOp .Add) (rAdd X.K) := OpR.or (r := rAddI) op_add (OpR.or (r := rAddStr) op_add_str (OpR.or (r := rCatL X.K) op_catL op_catT))
theorem os_add {K : PySem.W.Frag} : OpS2 K (rAdd K) addD := by
  intro G O σ H ρ a b x y z Q hK R v1 v2 e q
  unfold addD at e
  split at e
  · cases e
    exact .inl ⟨_, _, v1.con, v2.con, q O _ H (R.con _)⟩
  · split at e
    · rename_i hl
      cases e
      exact .inr (.inl ⟨_, _, v1.con, v2.con, by rw [← cap_eq]; exact hl, q O _ H (R.con _)⟩)
    · cases e
  · split at e
    · rename_i hl
      cases e
      obtain ⟨a1, vs, rfl, s1, r1⟩ := v1.lst
      obtain ⟨a2, us, rfl, s2, r2⟩ := v2.lst
      refine .inr (.inr (.inl ⟨a1, a2, vs, us, rfl, rfl, s1, s2, by rw [r1.len, r2.len, ← cap_eq]; exact hl, fun p hp => ?_⟩))
      rw [← hK] at r1 r2
      obtain ⟨O', R'⟩ := R.fresh (d := .lst (_ ++ _)) hp (.lst (r1.append r2))
      exact q O' _ _ R'
    · cases e
  · split at e
    · rename_i xs ys hl
      cases e
      obtain ⟨a1, vs, rfl, s1, r1⟩ := v1.tup
      obtain ⟨a2, us, rfl, s2, r2⟩ := v2.tup
      have ne : vs ≠ [] := fun z => by
        subst z
        cases r1
        cases hl.2.1
      refine .inr (.inr (.inr ⟨a1, a2, vs, us, rfl, rfl, s1, s2, ne, by rw [r1.len, r2.len, ← cap_eq]; exact hl.1, fun z => ?_, fun z p hp => ?_⟩))
      · subst z
        cases r2
        cases hl.2.2
      · rw [← hK] at r1 r2
        exact q O _ _ (R.freshT (d := .tup (_ ++ _)) hp (.tup (r1.append r2)))
    · cases e
  · cases e
def CMulB (i j : Int) : Bool := (decide (-18446744073709551616 < i) && decide (i < 18446744073709551616)) || (decide (-18446744073709551616 < j) && decide (j < 18446744073709551616))
theorem CMulB_of {i j : Int} (h : CMulB i j = true) : CMul i j := by
  unfold CMulB at h
  rw [Bool.or_eq_true, Bool.and_eq_true, Bool.and_eq_true, decide_eq_true_eq, decide_eq_true_eq, decide_eq_true_eq, decide_eq_true_eq] at h
  rcases h with h | h
  · exact .inl ⟨by omega, by omega⟩
  · exact .inr ⟨by omega, by omega⟩
/-- a guarded operation on ints -/
def gIb (C : Int → Int → Bool) (f : Int → Int → V) (x y : D) : Option (D × Kd) := match x, y with
  | .con (.int i), .con (.int j) => if C i j then some (.con (f i j), .shr) else none
  | _, _ => none
theorem os_Ib {K : PySem.W.Frag} {P : Int → Int → Prop} {C : Int → Int → Bool} {f : Int → Int → V} (h : ∀ i j, C i j = true → P i j) : OpS2 K (rI P f) (gIb C f) := by
  intro G O σ H ρ a b x y z Q hK R v1 v2 e q
  unfold gIb at e
  split at e
  · split at e
    · rename_i hc
      cases e
      exact ⟨_, _, v1.con, v2.con, h _ _ hc, q O _ H (R.con _)⟩
    · cases e
  · cases e
def gIp (f : Int → Int → V) (x y : D) : Option (D × Kd) := match x, y with
  | .con (.int i), .con (.int j) => some (.con (f i j), .shr)
  | _, _ => none
theorem os_Ip {K : PySem.W.Frag} {f : Int → Int → V} : OpS2 K (rI0 f) (gIp f) := by
  intro G O σ H ρ a b x y z Q hK R v1 v2 e q
  unfold gIp at e
  split at e
  · cases e
    exact ⟨_, _, v1.con, v2.con, q O _ H (R.con _)⟩
  · cases e
def subD := gIp fun i j => .int (i - j)
def mulD := gIb CMulB fun i j => .int (i * j)
def CDivB (_ j : Int) : Bool := decide (0 < j) && decide (j < 2 ^ 200)
def divD := gIb CDivB fun i j => .int (i / j)
def modD := gIb (fun _ j => decide (0 < j)) fun i j => .int (i % j)
def CPowB (i j : Int) : Bool := decide (0 ≤ j) && (decide (j ≤ 1000) && decide (i.natAbs < 18446744073709551616))
def powD := gIb CPowB fun i j => .int (i ^ j.toNat)
def shlD := gIb CPowB fun i j => .int (i * 2 ^ j.toNat)
def shrD := gIb (fun _ j => decide (0 ≤ j)) fun i j => .int (i / 2 ^ j.toNat)
def andD := gIp fun i j => .int (Builtin.bitAnd i j)
theorem CPowB_of {i j : Int} (h : CPowB i j = true) : CPow i j := by
  unfold CPowB at h
  simp only [Bool.and_eq_true, decide_eq_true_eq] at h
  exact ⟨h.1, by omega, by omega⟩
theorem CDivB_of {i j : Int} (h : CDivB i j = true) : CDivW i j := by
  unfold CDivB at h
  simp only [Bool.and_eq_true, decide_eq_true_eq] at h
  refine wide_div h.1 (b := 200) ?_ (by decide) (by decide)
  have : (2 : Int) ^ 200 = ((2 ^ 200 : Nat) : Int) := by norm_cast
  omega
theorem os_sub {K : PySem.W.Frag} : OpS2 K (rI0 fun i j => .int (i - j)) subD := os_Ip
theorem os_mul {K : PySem.W.Frag} : OpS2 K (rI CMul fun i j => .int (i * j)) mulD := os_Ib fun _ _ => CMulB_of
theorem os_div {K : PySem.W.Frag} : OpS2 K (rI CDivW fun i j => .int (i / j)) divD := os_Ib fun _ _ => CDivB_of
theorem os_mod {K : PySem.W.Frag} : OpS2 K (rI (fun _ j => 0 < j) fun i j => .int (i % j)) modD := os_Ib fun _ _ h => of_decide_eq_true h
theorem os_pow {K : PySem.W.Frag} : OpS2 K (rI CPow fun i j => .int (i ^ j.toNat)) powD := os_Ib fun _ _ => CPowB_of
theorem os_shl {K : PySem.W.Frag} : OpS2 K (rI CPow fun i j => .int (i * 2 ^ j.toNat)) shlD := os_Ib fun _ _ => CPowB_of
theorem os_shr {K : PySem.W.Frag} : OpS2 K (rI (fun _ j => 0 ≤ j) fun i j => .int (i / 2 ^ j.toNat)) shrD := os_Ib fun _ _ h => of_decide_eq_true h
theorem os_and {K : PySem.W.Frag} : OpS2 K (rI0 fun i j => .int (Builtin.bitAnd i j)) andD := os_Ip
/-- one operand -/
def dOp1 (g : D → Option V) (ra : DE) : DE := do
  let x ← ra
  let d ← dcur x
  let v ← mOpt (g d)
  pure (.con v, .shr)
def negV (d : D) : Option V := match d with
  | .con (.int i) => some (.int (-i))
  | _ => none
theorem se_neg {a : Expr} {ra : DE} (ha : SE X a ra) : SE X (.UnaryOp .USub a pos) (dOp1 negV ra) := fun W tk => PE.imp (pe_un un_neg (ha W tk)) fun σ H Q ⟨G, O, ρ, hK, R, h⟩ => by
  refine tE.at hK R (Res.post_ok ((post_bind _ _).mp h) fun x ρ1 q O1 v H1 R1 => ?_)
  obtain ⟨d, e1, q2⟩ := post_cur.mp ((post_bind _ _).mp q)
  obtain ⟨w, e2, q3⟩ := (post_opt _).mp ((post_bind _ _).mp q2)
  have v1 := R1.view R1.tm.1 e1
  unfold negV at e2
  split at e2
  · cases e2
    exact ⟨_, v1.con, q3 O1 _ H1 (R1.pop.con _)⟩
  · cases e2
def ltC := gC fun i j => decide (i < j)
def leC := gC fun i j => decide (i ≤ j)
/-- data that == reads -/
def okD : Nat → D → Bool
  | _, .con .non => true
  | _, .con (.bl _) => true
  | _, .con (.int _) => true
  | _, .con (.str s) => PyData.strOk s
  | n + 1, .lst xs => xs.all (okD n)
  | n + 1, .tup xs => xs.all (okD n)
  | _, _ => false
def sameV (a b : V) : Bool := match a, b with
  | .int i, .int j => decide (i = j)
  | .bl i, .bl j => i == j
  | .bl i, .int j => (if i then 1 else 0) == j
  | .int i, .bl j => i == (if j then 1 else 0)
  | .str i, .str j => decide (i = j)
  | .non, .non => true
  | _, _ => false
mutual
def same : D → D → Bool
  | .con a, .con b => sameV a b
  | .lst xs, .lst ys => sameL xs ys
  | .tup xs, .tup ys => sameL xs ys
  | _, _ => false
def sameL : List D → List D → Bool
  | [], [] => true
  | x :: xs, y :: ys => same x y && sameL xs ys
  | _, _ => false
end
def eqD (x y : D) : Option Bool := match x, y with
  | .con a, .con b => if scal a b then some (decide (a = b)) else if okD 60 x && okD 60 y then some (same x y) else none
  | _, _ => if okD 60 x && okD 60 y then some (same x y) else none
mutual
def toPy : D → PyData
  | .con (.bl b) => .bool b
  | .con (.int i) => .int i
  | .con (.str s) => .str s
  | .con _ => .none
  | .lst xs => .list (toPys xs)
  | .tup xs => .tuple (toPys xs)
  | _ => .none
def toPys : List D → List PyData
  | [] => []
  | x :: xs => toPy x :: toPys xs
end
theorem toPy_depth : ∀ (n : Nat) (d : D), okD n d = true → (toPy d).depth ≤ n ∧ (toPy d).canLay0 = true
  | n, .con v, h => by
    cases v with
    | non => simp [toPy, PyData.depth, PyData.canLay0]
    | bl b => simp [toPy, PyData.depth, PyData.canLay0]
    | int i => simp [toPy, PyData.depth, PyData.canLay0]
    | str s => unfold okD at h; simp [toPy, PyData.depth, PyData.canLay0, h]
    | _ => simp [okD] at h
  | n + 1, .lst xs, h => by
    have ih : ∀ xs : List D, xs.all (okD n) = true → PyData.depthAll (toPys xs) ≤ n ∧ PyData.canLayAll0 (toPys xs) = true := by
      intro xs
      induction xs with
      | nil => intro _; simp [toPys, PyData.depthAll, PyData.canLayAll0]
      | cons x xs ih2 =>
        intro h
        rw [List.all_cons, Bool.and_eq_true] at h
        obtain ⟨a, b⟩ := toPy_depth n x h.1
        obtain ⟨c, d⟩ := ih2 h.2
        simp only [toPys, PyData.depthAll, PyData.canLayAll0, b, d]
        exact ⟨by omega, rfl⟩
    obtain ⟨a, b⟩ := ih xs (by unfold okD at h; exact h)
    simp only [toPy, PyData.depth, PyData.canLay0]
    exact ⟨by omega, b⟩
  | n + 1, .tup xs, h => by
    have ih : ∀ xs : List D, xs.all (okD n) = true → PyData.depthAll (toPys xs) ≤ n ∧ PyData.canLayAll0 (toPys xs) = true := by
      intro xs
      induction xs with
      | nil => intro _; simp [toPys, PyData.depthAll, PyData.canLayAll0]
      | cons x xs ih2 =>
        intro h
        rw [List.all_cons, Bool.and_eq_true] at h
        obtain ⟨a, b⟩ := toPy_depth n x h.1
        obtain ⟨c, d⟩ := ih2 h.2
        simp only [toPys, PyData.depthAll, PyData.canLayAll0, b, d]
        exact ⟨by omega, rfl⟩
    obtain ⟨a, b⟩ := ih xs (by unfold okD at h; exact h)
    simp only [toPy, PyData.depth, PyData.canLay0]
    exact ⟨by omega, b⟩
  | 0, .lst xs, h => by simp [okD] at h
  | 0, .tup xs, h => by simp [okD] at h
  | 0, .dic xs, h => by simp [okD] at h
  | 0, .dit xs, h => by simp [okD] at h
  | 0, .own xs, h => by simp [okD] at h
  | 0, .exv _, h => by simp [okD] at h
  | 0, .dix _, h => by simp [okD] at h
  | 0, .fnv _ _ _, h => by simp [okD] at h
  | _ + 1, .dic xs, h => by simp [okD] at h
  | _ + 1, .dit xs, h => by simp [okD] at h
  | _ + 1, .own xs, h => by simp [okD] at h
  | _ + 1, .exv _, h => by simp [okD] at h
  | _ + 1, .dix _, h => by simp [okD] at h
  | _ + 1, .fnv _ _ _, h => by simp [okD] at h
theorem ok_shaped {d : D} (h : okD 60 d = true) : SeqAt.shaped (toPy d) = true := by
  obtain ⟨a, b⟩ := toPy_depth 60 d h
  unfold SeqAt.shaped
  rw [b, decide_eq_true (by omega)]; rfl
mutual
theorem Rep.dp {K : PySem.W.Frag} {H : Hp} {O : Own} : ∀ (n : Nat) {v : V} {d : D}, okD n d = true → Vw K H O v d → Dp K H v (toPy d)
  | n, v, .con c, h, r => by
    rw [r.con]
    cases c with
    | non => exact .non
    | bl b => exact .bl b
    | int i => exact .int i
    | str s => exact .str s
    | _ => simp [okD] at h
  | n + 1, v, .lst xs, h, r => by
    obtain ⟨a, vs, rfl, s, q⟩ := r.lst
    exact .lst s (Reps.dp n (by unfold okD at h; exact h) q)
  | n + 1, v, .tup xs, h, r => by
    obtain ⟨a, vs, rfl, s, q⟩ := r.tup
    exact .tup s (Reps.dp n (by unfold okD at h; exact h) q)
  | 0, v, .lst xs, h, r => by simp [okD] at h
  | 0, v, .tup xs, h, r => by simp [okD] at h
  | 0, v, .dic xs, h, r => by simp [okD] at h
  | 0, v, .dit xs, h, r => by simp [okD] at h
  | 0, v, .own xs, h, r => by simp [okD] at h
  | 0, v, .exv _, h, r => by simp [okD] at h
  | 0, v, .dix _, h, r => by simp [okD] at h
  | 0, v, .fnv _ _ _, h, r => by simp [okD] at h
  | _ + 1, v, .dic xs, h, r => by simp [okD] at h
  | _ + 1, v, .dit xs, h, r => by simp [okD] at h
  | _ + 1, v, .own xs, h, r => by simp [okD] at h
  | _ + 1, v, .exv _, h, r => by simp [okD] at h
  | _ + 1, v, .dix _, h, r => by simp [okD] at h
  | _ + 1, v, .fnv _ _ _, h, r => by simp [okD] at h
theorem Reps.dp {K : PySem.W.Frag} {H : Hp} {O : Own} : ∀ (n : Nat) {vs : List V} {ds : List D}, ds.all (okD n) = true → Reps K H (lin O) vs ds → DpAll K H vs (toPys ds)
  | n, _, [], h, r => by cases r; exact .nil
  | n, _, d :: ds, h, r => by
    rw [List.all_cons, Bool.and_eq_true] at h
    cases r with
    | cons a b => exact .cons (Rep.dp n h.1 (.inl a)) (Reps.dp n h.2 b)
end
theorem same_con {n : Nat} {a b : V} (h1 : okD n (.con a) = true) (h2 : okD n (.con b) = true) : PyData.eqv (toPy (.con a)) (toPy (.con b)) = sameV a b := by
  cases a <;> first
    | (simp [okD] at h1; done)
    | (cases b <;> first
        | (simp [okD] at h2; done)
        | (simp [toPy, PyData.eqv, sameV]; done)
        | (simp only [toPy, PyData.eqv, sameV]; rfl)
        | (simp only [toPy, PyData.eqv, sameV, Bool.beq_eq_decide_eq]))
mutual
theorem same_eqv : ∀ (n m : Nat) (x y : D), okD n x = true → okD m y = true → PyData.eqv (toPy x) (toPy y) = same x y
  | n, m, .con a, .con b, h1, h2 => by
    have e1 : okD 0 (.con a) = true := by cases a <;> first | (simp only [okD] at h1 ⊢; done) | (simp only [okD] at h1 ⊢; exact h1) | (simp [okD] at h1)
    have e2 : okD 0 (.con b) = true := by cases b <;> first | (simp only [okD] at h2 ⊢; done) | (simp only [okD] at h2 ⊢; exact h2) | (simp [okD] at h2)
    rw [same_con e1 e2]
    simp only [same]
  | n + 1, m + 1, .lst xs, .lst ys, h1, h2 => by
    simp only [toPy, PyData.eqv, same]
    exact same_eqvs n m xs ys (by unfold okD at h1; exact h1) (by unfold okD at h2; exact h2)
  | n + 1, m + 1, .tup xs, .tup ys, h1, h2 => by
    simp only [toPy, PyData.eqv, same]
    exact same_eqvs n m xs ys (by unfold okD at h1; exact h1) (by unfold okD at h2; exact h2)
  | n, m, .con a, .lst ys, h1, h2 => by cases a <;> simp [toPy, PyData.eqv, same]
  | n, m, .con a, .tup ys, h1, h2 => by cases a <;> simp [toPy, PyData.eqv, same]
  | n, m, .lst xs, .con b, h1, h2 => by cases b <;> simp [toPy, PyData.eqv, same]
  | n, m, .tup xs, .con b, h1, h2 => by cases b <;> simp [toPy, PyData.eqv, same]
  | n, m, .lst xs, .tup ys, h1, h2 => by simp [toPy, PyData.eqv, same]
  | n, m, .tup xs, .lst ys, h1, h2 => by simp [toPy, PyData.eqv, same]
  | 0, m, .lst xs, .lst ys, h1, h2 => by simp [okD] at h1
  | 0, m, .tup xs, .tup ys, h1, h2 => by simp [okD] at h1
  | n, 0, .lst xs, .lst ys, h1, h2 => by simp [okD] at h2
  | n, 0, .tup xs, .tup ys, h1, h2 => by simp [okD] at h2
  | n, m, .dic xs, y, h1, h2 => by cases n <;> simp [okD] at h1
  | n, m, .dit xs, y, h1, h2 => by cases n <;> simp [okD] at h1
  | n, m, .own xs, y, h1, h2 => by cases n <;> simp [okD] at h1
  | n, m, .exv _, y, h1, h2 => by cases n <;> simp [okD] at h1
  | n, m, .dix _, y, h1, h2 => by cases n <;> simp [okD] at h1
  | n, m, .fnv _ _ _, y, h1, h2 => by cases n <;> simp [okD] at h1
  | n, m, .con a, .dic ys, h1, h2 => by cases m <;> simp [okD] at h2
  | n, m, .con a, .dit ys, h1, h2 => by cases m <;> simp [okD] at h2
  | n, m, .con a, .own ys, h1, h2 => by cases m <;> simp [okD] at h2
  | n, m, .con a, .exv _, h1, h2 => by cases m <;> simp [okD] at h2
  | n, m, .con a, .dix _, h1, h2 => by cases m <;> simp [okD] at h2
  | n, m, .con a, .fnv _ _ _, h1, h2 => by cases m <;> simp [okD] at h2
  | n, m, .lst xs, .dic ys, h1, h2 => by cases m <;> simp [okD] at h2
  | n, m, .lst xs, .dit ys, h1, h2 => by cases m <;> simp [okD] at h2
  | n, m, .lst xs, .own ys, h1, h2 => by cases m <;> simp [okD] at h2
  | n, m, .lst xs, .exv _, h1, h2 => by cases m <;> simp [okD] at h2
  | n, m, .lst xs, .dix _, h1, h2 => by cases m <;> simp [okD] at h2
  | n, m, .lst xs, .fnv _ _ _, h1, h2 => by cases m <;> simp [okD] at h2
  | n, m, .tup xs, .dic ys, h1, h2 => by cases m <;> simp [okD] at h2
  | n, m, .tup xs, .dit ys, h1, h2 => by cases m <;> simp [okD] at h2
  | n, m, .tup xs, .own ys, h1, h2 => by cases m <;> simp [okD] at h2
  | n, m, .tup xs, .exv _, h1, h2 => by cases m <;> simp [okD] at h2
  | n, m, .tup xs, .dix _, h1, h2 => by cases m <;> simp [okD] at h2
  | n, m, .tup xs, .fnv _ _ _, h1, h2 => by cases m <;> simp [okD] at h2
theorem same_eqvs : ∀ (n m : Nat) (xs ys : List D), xs.all (okD n) = true → ys.all (okD m) = true → PyData.eqvAll (toPys xs) (toPys ys) = sameL xs ys
  | n, m, [], [], h1, h2 => by simp [toPys, PyData.eqvAll, sameL]
  | n, m, [], _ :: _, h1, h2 => by simp [toPys, PyData.eqvAll, sameL]
  | n, m, _ :: _, [], h1, h2 => by simp [toPys, PyData.eqvAll, sameL]
  | n, m, x :: xs, y :: ys, h1, h2 => by
    rw [List.all_cons, Bool.and_eq_true] at h1 h2
    simp only [toPys, PyData.eqvAll, sameL]
    rw [same_eqv n m x y h1.1 h2.1, same_eqvs n m xs ys h1.2 h2.2]
end
abbrev rEqA (K : PySem.W.Frag) : R2 := fun x y H Q => rEq x y H Q ∨ rEqD K x y H Q
abbrev rNeA (K : PySem.W.Frag) : R2 := fun x y H Q => rNe x y H Q ∨ rNeD K x y H Q
theorem op_eqA {k : Nat} (hr : Room k X.A) : OpR X (compareOp .Eq) (rEqA X.K) := OpR.or op_eq (op_eqD hr.units)
theorem op_neA {k : Nat} (hr : Room k X.A) : OpR X (compareOp .NotEq) (rNeA X.K) := OpR.or op_ne (op_neD hr.units)
theorem eqD_of {K : PySem.W.Frag} {a b : V} {H : Hp} {x y : D} {k : Bool} {O : Own} (v1 : Vw K H O a x) (v2 : Vw K H O b y) (e : eqD x y = some k) : (scal a b = true ∧ decide (a = b) = k) ∨ ∃ d e, Dp K H a d ∧ Dp K H b e ∧ SeqAt.shaped d = true ∧ SeqAt.shaped e = true ∧ PyData.eqv d e = k := by
  have py : ∀ k, (if (okD 60 x && okD 60 y) = true then some (same x y) else none) = some k → ∃ d e, Dp K H a d ∧ Dp K H b e ∧ SeqAt.shaped d = true ∧ SeqAt.shaped e = true ∧ PyData.eqv d e = k := fun k e => by
    split at e
    · rename_i h
      rw [Bool.and_eq_true] at h
      cases e
      exact ⟨toPy x, toPy y, Rep.dp 60 h.1 v1, Rep.dp 60 h.2 v2, ok_shaped h.1, ok_shaped h.2, same_eqv 60 60 x y h.1 h.2⟩
    · cases e
  unfold eqD at e
  split at e
  · rename_i a' b'
    split at e
    · rename_i hs
      cases e
      rw [v1.con, v2.con]
      exact .inl ⟨hs, rfl⟩
    · exact .inr (py k e)
  · exact .inr (py k e)
theorem cs_eq {K : PySem.W.Frag} : CmpS K (rEqA K) eqD := fun a b H x y k O Q v1 v2 e q => by
  rcases eqD_of v1 v2 e with ⟨h1, h2⟩ | ⟨d, e', h1, h2, h3, h4, h5⟩
  · exact .inl ⟨h1, by rw [h2]; exact q⟩
  · exact .inr ⟨d, e', h1, h2, h3, h4, by rw [h5]; exact q⟩
def neD (x y : D) : Option Bool := (eqD x y).map not
theorem cs_ne {K : PySem.W.Frag} : CmpS K (rNeA K) neD := fun a b H x y k O Q v1 v2 e q => by
  obtain ⟨k', e1, e2⟩ := Option.map_eq_some_iff.mp e
  rcases eqD_of v1 v2 e1 with ⟨h1, h2⟩ | ⟨d, e', h1, h2, h3, h4, h5⟩
  · exact .inl ⟨h1, by rw [h2, e2]; exact q⟩
  · exact .inr ⟨d, e', h1, h2, h3, h4, by rw [h5, e2]; exact q⟩
end
end L2.VL
end
section
set_option Elab.async false
set_option linter.all false
set_option maxRecDepth 100000
namespace L2.VL
open PySem PySem.Spec PyProof.Rows
section
variable {X : Cx} {a b c e o : Expr} {es : List Expr} {ra rb rc r : DE} {l : List (Bool × DE)} {pos p : Pos}
def isNonD (d : D) : Option Bool := match d with
  | .con .non => some true
  | .con _ => some false
  | .lst _ => some false
  | .tup _ => some false
  | .dic _ => some false
  | .dit _ => some false
  | .own _ => none
  | .exv _ => some false
  | .dix _ => some false
  | .fnv _ _ _ => none
theorem isNon_of {K : PySem.W.Frag} {H : Hp} {O : Own} {v : V} {d : D} {k : Bool} (h : Vw K H O v d) (e : isNonD d = some k) : decide (v = .non) = k := by
  have ref : ∀ {ho : HO} {d : D}, Cont K H (lin O) ho d → True := fun _ => trivial
  unfold isNonD at e
  split at e
  · cases e; rw [h.con]; rfl
  · rename_i c hc
    cases e
    rw [h.con]
    exact decide_eq_false hc
  · cases e
    obtain ⟨a, vs, rfl, _⟩ := h.lst
    rfl
  · cases e
    obtain ⟨a, vs, rfl, _⟩ := h.tup
    rfl
  · cases e
    rcases h with h | ⟨a, ho, rfl, _⟩ | ⟨_, _, _, z⟩
    · cases h; rfl
    · rfl
    · cases z
  · cases e
    rcases h with h | ⟨a, ho, rfl, _⟩ | ⟨_, _, _, z⟩
    · cases h; rfl
    · rfl
    · cases z
  · cases e
  · cases e
    obtain ⟨a, d, rfl, _⟩ := h.exv
    rfl
  · cases e
    rcases h with h | ⟨a, ho, rfl, _⟩ | ⟨_, _, _, z⟩
    · cases h; rfl
    · rfl
    · cases z
  · cases e
def isNC (x y : D) : Option Bool := match y with
  | .con .non => isNonD x
  | _ => none
theorem cs_isN {K : PySem.W.Frag} : CmpS K (fun x y H Q => y = .non ∧ Q (.bl (decide (x = .non))) H) isNC := fun a b H x y k O Q v1 v2 e q => by
  unfold isNC at e
  split at e
  · exact ⟨v2.con, by rw [isNon_of v1 e]; exact q⟩
  · cases e
def flatD (d : D) : Option V := match d with
  | .con v => if flatV v then some v else none
  | _ => none
def flatDs : List D → Option (List V)
  | [] => some []
  | d :: ds => match flatD d with
    | some v => (flatDs ds).map (v :: ·)
    | none => none
theorem flatD_of {d : D} {v : V} (e : flatD d = some v) : d = .con v ∧ flatV v = true := by
  unfold flatD at e
  split at e
  · split at e
    · rename_i h; cases e; exact ⟨rfl, h⟩
    · cases e
  · cases e
theorem flatDs_of {K : PySem.W.Frag} {H : Hp} {L : Addr → Prop} : ∀ {ds : List D} {vs us : List V}, flatDs ds = some vs → Reps K H L us ds → us = vs ∧ vs.all flatV = true
  | [], _, _, e, r => by cases e; cases r; exact ⟨rfl, rfl⟩
  | d :: ds, vs, us, e, r => by
    unfold flatDs at e
    split at e
    · rename_i v hv
      obtain ⟨ws, e1, rfl⟩ := Option.map_eq_some_iff.mp e
      obtain ⟨rfl, hf⟩ := flatD_of hv
      cases r with
      | cons a b =>
        obtain ⟨h1, h2⟩ := flatDs_of e1 b
        rw [a.con_inv, h1]
        exact ⟨rfl, by rw [List.all_cons, hf, h2]; rfl⟩
    · cases e
def inD (x y : D) : Option Bool := match y with
  | .lst ds => match flatD x, flatDs ds with
    | some v, some vs => some (inV v vs)
    | _, _ => none
  | .tup ds => match flatD x, flatDs ds with
    | some v, some vs => some (inV v vs)
    | _, _ => none
  | _ => none
theorem inD_of {K : PySem.W.Frag} {H : Hp} {O : Own} {u w : V} {x y : D} {k : Bool} (v1 : Vw K H O u x) (v2 : Vw K H O w y) (e : inD x y = some k) :
    ∃ p xs, w = .ref p ∧ (SqL K H p xs ∨ SqT K H p xs) ∧ flatV u = true ∧ xs.all flatV = true ∧ inV u xs = k := by
  unfold inD at e
  split at e
  · split at e
    · rename_i v vs h1 h2
      cases e
      obtain ⟨rfl, hf⟩ := flatD_of h1
      obtain ⟨a, us, rfl, s, r⟩ := v2.lst
      obtain ⟨rfl, hf2⟩ := flatDs_of h2 r
      rw [v1.con]
      exact ⟨a, _, rfl, .inl s, hf, hf2, rfl⟩
    · cases e
  · split at e
    · rename_i v vs h1 h2
      cases e
      obtain ⟨rfl, hf⟩ := flatD_of h1
      obtain ⟨a, us, rfl, s, r⟩ := v2.tup
      obtain ⟨rfl, hf2⟩ := flatDs_of h2 r
      rw [v1.con]
      exact ⟨a, _, rfl, .inr s, hf, hf2, rfl⟩
    · cases e
  · cases e
theorem cs_in {K : PySem.W.Frag} : CmpS K (rIn K false) inD := fun a b H x y k O Q v1 v2 e q => by
  obtain ⟨p, xs, rfl, s, h1, h2, h3⟩ := inD_of v1 v2 e
  exact ⟨p, xs, rfl, s, h1, h2, by simpa [h3] using q⟩
def notInD (x y : D) : Option Bool := (inD x y).map not
theorem cs_notin {K : PySem.W.Frag} : CmpS K (rIn K true) notInD := fun a b H x y k O Q v1 v2 e q => by
  obtain ⟨k', e1, e2⟩ := Option.map_eq_some_iff.mp e
  obtain ⟨p, xs, rfl, s, h1, h2, h3⟩ := inD_of v1 v2 e1
  exact ⟨p, xs, rfl, s, h1, h2, by simpa [h3, e2] using q⟩
def ixD (x y : D) : Option (D × Kd) := match x, y with
  | .lst ds, .con (.int i) => (atI ds i).map fun d => (d, .shr)
  | .tup ds, .con (.int i) => (atI ds i).map fun d => (d, .shr)
  | .con (.str z), .con (.int i) => if z.length ≤ cap then (atI z.cps.toList i).map fun c => (.str ⟨#[c]⟩, .shr) else none
  | _, _ => none
theorem atI_reps {K : PySem.W.Frag} {H : Hp} {L : Addr → Prop} {vs : List V} {ds : List D} {i : Int} {d : D} (r : Reps K H L vs ds) (e : atI ds i = some d) : ∃ v, atI vs i = some v ∧ Rep K H L v d := by
  unfold atI at e ⊢
  obtain ⟨j, e1, e2⟩ := Option.bind_eq_some_iff.mp e
  obtain ⟨v, h1, h2⟩ := r.get e2
  rw [r.len, e1]
  exact ⟨v, h1, h2⟩
theorem os_ix {K : PySem.W.Frag} : OpS2 K (rIx K) ixD := by
  intro G O σ H ρ a b x y z Q hK R v1 v2 e q
  unfold ixD at e
  split at e
  · obtain ⟨d, e1, rfl⟩ := Option.map_eq_some_iff.mp e
    obtain ⟨a1, vs, rfl, s1, r1⟩ := v1.lst
    obtain ⟨v, h1, h2⟩ := atI_reps r1 e1
    rw [← hK] at h2
    exact .inl ⟨a1, vs, _, v, rfl, v2.con, s1, h1, q O v H (R.push h2)⟩
  · obtain ⟨d, e1, rfl⟩ := Option.map_eq_some_iff.mp e
    obtain ⟨a1, vs, rfl, s1, r1⟩ := v1.tup
    obtain ⟨v, h1, h2⟩ := atI_reps r1 e1
    rw [← hK] at h2
    exact .inr (.inl ⟨a1, vs, _, v, rfl, v2.con, s1, h1, q O v H (R.push h2)⟩)
  · split at e
    · rename_i hz
      obtain ⟨d, e1, rfl⟩ := Option.map_eq_some_iff.mp e
      exact .inr (.inr ⟨_, _, d, v1.con, v2.con, by rw [← cap_eq]; exact hz, e1, q O _ H (R.con _)⟩)
    · cases e
  · cases e
/-- a part of a slice -/
def dPart (o : Option DE) : M (Option Int) := match o with
  | none => pure none
  | some r => do
    let x ← r
    let d ← dcur x
    mOpt (match d with
      | .con (.int i) => some (some i)
      | _ => none)
def tP (K : PySem.W.Frag) (W : WX) (r : M (Option Int)) : TO := fun σ H Q => ∃ G O ρ T, G.K = K ∧ Rel G O σ H ρ T ∧ (r ρ).post (fun i ρ' => ∀ O' H', Rel G O' σ H' ρ' T → Q i H') (EX G σ W)
theorem PO.imp {X : Cx} {e : Option Expr} {t t' : TO} (h : PO X e t) (i : ∀ σ H Q, t' σ H Q → t σ H Q) : PO X e t' := ⟨fun pins s σ H Q I q => h.run pins s σ H Q I (i σ H Q q)⟩
def SP_ (X : Cx) (e : Option Expr) (r : M (Option Int)) : Prop := ∀ W, Takes X W → PO X e (tP X.K W r)
theorem sp_none : SP_ X none (dPart none) := fun W tk => PO.imp po_none fun σ H Q ⟨G, O, ρ, T, hK, R, h⟩ => h O H R
theorem sp_some (ha : SE X a ra) : SP_ X (some a) (dPart (some ra)) := fun W tk => PO.imp (po_some (ha W tk)) fun σ H Q ⟨G, O, ρ, T, hK, R, h⟩ => by
  refine tE.at hK R (Res.post_ok ((post_bind _ _).mp h) fun x ρ1 q O1 v H1 R1 => ?_)
  obtain ⟨d, e1, q2⟩ := post_cur.mp ((post_bind _ _).mp q)
  obtain ⟨i, e2, q3⟩ := (post_opt _).mp q2
  have v1 := R1.view R1.tm.1 e1
  split at e2
  · cases e2
    exact ⟨_, v1.con, q3 O1 H1 R1.pop⟩
  · cases e2
def cutD (ds : List D) (lo hi : Option Int) : List D := (ds.drop (HT.sIx ds.length 0 lo)).take (HT.sIx ds.length ds.length hi - HT.sIx ds.length 0 lo)
theorem Reps.cut {K : PySem.W.Frag} {H : Hp} {L : Addr → Prop} {vs : List V} {ds : List D} (r : Reps K H L vs ds) (lo hi : Option Int) : Reps K H L (cutV vs lo hi) (cutD ds lo hi) := by
  unfold cutV cutD
  rw [r.len]
  exact (r.drop _).take _
/-- a slice of a list -/
def dSlL (ra : DE) (lo hi : Option DE) : DE := do
  let x ← ra
  let i ← dPart lo
  let j ← dPart hi
  let d ← dcur x
  mOpt (match d with
    | .lst ds => some (.lst (cutD ds i j), .fr)
    | _ => none)
theorem se_slL {lo hi : Option Expr} {rl rh : Option DE} {p2 : Pos} (ha : SE X a ra) (hl : SP_ X lo (dPart rl)) (hh : SP_ X hi (dPart rh)) : SE X (.Subscript a (.Slice lo hi none p2) pos) (dSlL ra rl rh) := fun W tk =>
  PE.imp (pe_slice sl_list (ha W tk) (hl W tk) (hh W tk)) fun σ H Q ⟨G, O, ρ, hK, R, h⟩ => by
    refine tE.at hK R (Res.post_ok ((post_bind _ _).mp h) fun x ρ1 q O1 v H1 R1 => ?_)
    refine ⟨G, O1, ρ1, _, hK, R1, Res.post_ok ((post_bind _ _).mp q) fun i ρ2 q2 O2 H2 R2 => ?_⟩
    refine ⟨G, O2, ρ2, _, hK, R2, Res.post_ok ((post_bind _ _).mp q2) fun j ρ3 q3 O3 H3 R3 => ?_⟩
    obtain ⟨d, e1, q4⟩ := post_cur.mp ((post_bind _ _).mp q3)
    obtain ⟨z, e2, q5⟩ := (post_opt _).mp q4
    have v1 := R3.view R3.tm.1 e1
    split at e2
    · rename_i ds
      cases e2
      obtain ⟨a1, vs, rfl, s1, r1⟩ := v1.lst
      rw [hK] at s1
      refine ⟨a1, vs, rfl, s1, fun p hp => ?_⟩
      obtain ⟨O4, R4⟩ := R3.pop.fresh (d := .lst (cutD ds i j)) hp (.lst (r1.cut i j))
      exact q5 O4 _ _ R4
    · cases e2
def lenD (ds : List D) : Option (D × Kd) := match ds with
  | [.lst xs] => some (.int xs.length, .shr)
  | [.tup xs] => some (.int xs.length, .shr)
  | [.con (.str z)] => if z.length ≤ cap then some (.int z.length, .shr) else none
  | _ => none
theorem os_len {K : PySem.W.Frag} : OpS K (fun xs H Q => ∃ x n, xs = [x] ∧ LenV K x H n ∧ Q (.int n) H) lenD := by
  intro G O σ H ρ vs ds z Q hK R w e q
  unfold lenD at e
  split at e
  · cases e
    obtain ⟨v, rfl, v1⟩ := w.one
    obtain ⟨a1, us, rfl, s1, r1⟩ := v1.lst
    exact ⟨_, _, rfl, .inl ⟨us, s1, r1.len.symm⟩, q O _ H (R.con _)⟩
  · cases e
    obtain ⟨v, rfl, v1⟩ := w.one
    obtain ⟨a1, us, rfl, s1, r1⟩ := v1.tup
    exact ⟨_, _, rfl, .inr ⟨us, s1, r1.len.symm⟩, q O _ H (R.con _)⟩
  · split at e
    · rename_i hz
      cases e
      obtain ⟨v, rfl, v1⟩ := w.one
      rw [v1.con]
      exact ⟨_, _, rfl, ⟨by rw [← cap_eq]; exact hz, rfl⟩, q O _ H (R.con _)⟩
    · cases e
  · cases e
/-- a built-in of scalars -/
theorem OpS.sc {K : PySem.W.Frag} {rr : List V → Hp → VK → Prop} {g : List D → Option V} (h : ∀ (H : Hp) (vs : List V) (ds : List D) (v : V) (O : Own) (Q : VK), Vws K H O vs ds → g ds = some v → Q v H → rr vs H Q) : OpS K rr (fun ds => (g ds).map fun v => (.con v, .shr)) := by
  intro G O σ H ρ vs ds z Q hK R w e q
  obtain ⟨v, e1, rfl⟩ := Option.map_eq_some_iff.mp e
  exact h H vs ds v O Q w e1 (q O v H (R.con v))
def scB (g : List D → Option V) (ds : List D) : Option (D × Kd) := (g ds).map fun v => (.con v, .shr)
def absV (ds : List D) : Option V := match ds with
  | [.con (.int i)] => some (.int (if i < 0 then -i else i))
  | _ => none
theorem os_abs {K : PySem.W.Frag} : OpS K (fun xs H Q => ∃ i, xs = [.int i] ∧ Q (.int (if i < 0 then -i else i)) H) (scB absV) := OpS.sc fun H vs ds v O Q w e q => by
  unfold absV at e
  split at e
  · cases e
    obtain ⟨v, rfl, v1⟩ := w.one
    exact ⟨_, by rw [v1.con], q⟩
  · cases e
def maxV (ds : List D) : Option V := match ds with
  | [.con (.int i), .con (.int j)] => some (.int (if j > i then j else i))
  | _ => none
theorem os_max {K : PySem.W.Frag} : OpS K (fun xs H Q => ∃ i j, xs = [.int i, .int j] ∧ Q (.int (if j > i then j else i)) H) (scB maxV) := OpS.sc fun H vs ds v O Q w e q => by
  unfold maxV at e
  split at e
  · cases e
    obtain ⟨v, u, rfl, v1, v2⟩ := w.two
    exact ⟨_, _, by rw [v1.con, v2.con], q⟩
  · cases e
def minV (ds : List D) : Option V := match ds with
  | [.con (.int i), .con (.int j)] => some (.int (if j < i then j else i))
  | _ => none
theorem os_min {K : PySem.W.Frag} : OpS K (fun xs H Q => ∃ i j, xs = [.int i, .int j] ∧ Q (.int (if j < i then j else i)) H) (scB minV) := OpS.sc fun H vs ds v O Q w e q => by
  unfold minV at e
  split at e
  · cases e
    obtain ⟨v, u, rfl, v1, v2⟩ := w.two
    exact ⟨_, _, by rw [v1.con, v2.con], q⟩
  · cases e
def intV (ds : List D) : Option V := match ds with
  | [.con (.int i)] => some (.int i)
  | [.con (.bl k)] => some (.int (if k then 1 else 0))
  | _ => none
theorem os_int {K : PySem.W.Frag} : OpS K (fun xs H Q => (∃ i, xs = [.int i] ∧ Q (.int i) H) ∨ ∃ k, xs = [.bl k] ∧ Q (.int (if k then 1 else 0)) H) (scB intV) := OpS.sc fun H vs ds v O Q w e q => by
  unfold intV at e
  split at e
  · cases e
    obtain ⟨v, rfl, v1⟩ := w.one
    exact .inl ⟨_, by rw [v1.con], q⟩
  · cases e
    obtain ⟨v, rfl, v1⟩ := w.one
    exact .inr ⟨_, by rw [v1.con], q⟩
  · cases e
def blsD : List D → Option (List Bool)
  | [] => some []
  | .con (.bl b) :: ds => (blsD ds).map (b :: ·)
  | _ => none
theorem blsD_of : ∀ {ds : List D} {bs : List Bool}, blsD ds = some bs → ds = bs.map fun b => .con (.bl b)
  | [], _, e => by cases e; rfl
  | .con (.bl b) :: ds, bs, e => by
    obtain ⟨r, e1, rfl⟩ := Option.map_eq_some_iff.mp (show (blsD ds).map (b :: ·) = some bs from e)
    rw [blsD_of e1]; rfl
def intsD : List D → Option (List Int)
  | [] => some []
  | .con (.int b) :: ds => (intsD ds).map (b :: ·)
  | _ => none
theorem intsD_of : ∀ {ds : List D} {bs : List Int}, intsD ds = some bs → ds = bs.map fun b => .con (.int b)
  | [], _, e => by cases e; rfl
  | .con (.int b) :: ds, bs, e => by
    obtain ⟨r, e1, rfl⟩ := Option.map_eq_some_iff.mp (show (intsD ds).map (b :: ·) = some bs from e)
    rw [intsD_of e1]; rfl
def strsD : List D → Option (List Str)
  | [] => some []
  | .con (.str b) :: ds => (strsD ds).map (b :: ·)
  | _ => none
theorem strsD_of : ∀ {ds : List D} {bs : List Str}, strsD ds = some bs → ds = bs.map fun b => .con (.str b)
  | [], _, e => by cases e; rfl
  | .con (.str b) :: ds, bs, e => by
    obtain ⟨r, e1, rfl⟩ := Option.map_eq_some_iff.mp (show (strsD ds).map (b :: ·) = some bs from e)
    rw [strsD_of e1]; rfl
@[simp] theorem blsD_map {α : Type} (f : α → Bool) : ∀ xs : List α, blsD (xs.map fun x => .con (.bl (f x))) = some (xs.map f)
  | [] => rfl
  | x :: xs => by simp [blsD, blsD_map f xs]
@[simp] theorem intsD_map {α : Type} (f : α → Int) : ∀ xs : List α, intsD (xs.map fun x => .con (.int (f x))) = some (xs.map f)
  | [] => rfl
  | x :: xs => by simp [intsD, intsD_map f xs]
@[simp] theorem strsD_map {α : Type} (f : α → Str) : ∀ xs : List α, strsD (xs.map fun x => .con (.str (f x))) = some (xs.map f)
  | [] => rfl
  | x :: xs => by simp [strsD, strsD_map f xs]
def allV (ds : List D) : Option V := match ds with
  | [.lst xs] => (blsD xs).map fun bs => .bl (bs.all id)
  | _ => none
theorem os_all {K : PySem.W.Frag} : OpS K (rAll K) (scB allV) := OpS.sc fun H vs ds v O Q w e q => by
  unfold allV at e
  split at e
  · obtain ⟨bs, e1, rfl⟩ := Option.map_eq_some_iff.mp e
    obtain ⟨v, rfl, v1⟩ := w.one
    obtain ⟨a1, us, rfl, s1, r1⟩ := v1.lst
    rw [blsD_of e1] at r1
    rw [r1.con_inv] at s1
    exact ⟨a1, bs, rfl, s1, q⟩
  · cases e
/-- isinstance of a built-in class -/
inductive Ty where
  | none | bool | int | str | list | tuple | dict
  deriving DecidableEq
def Ty.name : Ty → String
  | .none => "NoneType" | .bool => "bool" | .int => "int" | .str => "str" | .list => "list" | .tuple => "tuple" | .dict => "dict"
def tyOf (d : D) : Option Ty := match d with
  | .con .non => some .none
  | .con (.bl _) => some .bool
  | .con (.int _) => some .int
  | .con (.str _) => some .str
  | .lst _ => some .list
  | .tup _ => some .tuple
  | .dic _ => some .dict
  | _ => Option.none
def isiT : Ty → Ty → Bool
  | .none, .none => true
  | .bool, .bool => true
  | .bool, .int => true
  | .int, .int => true
  | .str, .str => true
  | .list, .list => true
  | .tuple, .tuple => true
  | .dict, .dict => true
  | _, _ => false
theorem isi_kit : ∀ t u : Ty, u ≠ .none → kitB t.name u.name = some (isiT t u) := by
  intro t u hu
  cases u <;> first
    | exact absurd rfl hu
    | (cases t <;> decide +kernel)
theorem tyx_of {K : PySem.W.Frag} {H : Hp} {O : Own} {v : V} {d : D} {t : Ty} (h : Vw K H O v d) (e : tyOf d = some t) : TyX K H v (.type t.name) := by
  unfold tyOf at e
  split at e
  · cases e; rw [h.con]; exact .base .non
  · cases e; rw [h.con]; exact .base (.bl _)
  · cases e; rw [h.con]; exact .base (.int _)
  · cases e; rw [h.con]; exact .base (.str _)
  · cases e
    obtain ⟨a1, us, rfl, s1, r1⟩ := h.lst
    rcases s1 with (s1 | ⟨ob, s1⟩) | ⟨ob, its, n, h1, h2, _⟩
    · exact .base (.lst s1)
    · exact .base (.frz s1)
    · exact .kList h1 h2
  · cases e
    obtain ⟨a1, us, rfl, s1, r1⟩ := h.tup
    rcases s1 with (s1 | ⟨ob, s1⟩) | ⟨ob, its, n, h1, h2, _⟩
    · exact .base (.tup s1)
    · exact .fTuple s1
    · exact .kTuple h1 h2
  · cases e
    have : ∃ a vs, v = .ref a ∧ Rd H a (.dK vs) := by
      rcases h with r | ⟨a, ho, ev, g, c⟩ | ⟨_, _, _, z⟩
      · cases r with
        | obj n r c => cases c with | dic c => exact ⟨_, _, rfl, r⟩
      · cases c with | dic c => exact ⟨a, _, ev, .inl g⟩
      · cases z
    obtain ⟨a, vs, rfl, r⟩ := this
    rcases r with r | ⟨o, r⟩
    · exact .base (.dK r)
    · exact .fDict r
  · cases e
/-- isinstance(e, T), T a built-in class -/
def dIsi (u : Ty) (r : DE) : DE := do
  let x ← r
  let d ← dcur x
  let t ← mOpt (tyOf d)
  pure (.bl (isiT t u), .shr)
theorem se_isi (u : Ty) {p1 p2 : Pos} {x : Str} (ha : SE X a ra) (h1 : X.mg "isinstance" = none) (h2 : X.mg x = none) (hu : u ≠ .none := by decide) (hx : bootBuiltins x = some (.type u.name) := by decide +kernel) (hg1 : Gl X "isinstance" := by rfl) (hg2 : Gl X x := by rfl)
    (hn : x ≠ "__name__" := by decide) (hdb : (x == ("__debug__" : Str)) = false := by decide)
    (he : starEach [a, .Name x p2] X.env = (false, eval a X.env) :: starEach [.Name x p2] X.env := by rfl) (he2 : starEach [.Name x p2] X.env = (false, eval (.Name x p2) X.env) :: starEach [] X.env := by rfl) (hpl : (backTo pos (starEach [.Name x p2] X.env)).any (·.1) = false := by rfl) :
    SE X (.Call (.Name "isinstance" p1) [a, .Name x p2] [] pos) (dIsi u ra) := fun W tk =>
  PE.imp (pe_callB call_isi hg1 h1 (by decide +kernel) (pa_cons (ha W tk) (pa_cons (pe_bltn (v := .ty u.name) hg2 h2 hx rfl hn hdb) pa_nil he2) he) (by decide) (by decide) he hpl) fun σ H Q ⟨G, O, ρ, hK, R, h⟩ => by
    refine tE.at hK R (Res.post_ok ((post_bind _ _).mp h) fun y ρ1 q O1 v H1 R1 => ?_)
    obtain ⟨d, e1, q2⟩ := post_cur.mp ((post_bind _ _).mp q)
    obtain ⟨t, e2, q3⟩ := (post_opt _).mp ((post_bind _ _).mp q2)
    have v1 := R1.view R1.tm.1 e1
    rw [hK] at v1
    exact ⟨v, .ty u.name, _, _, _, rfl, .ty _, tyx_of v1 e2, kit_ty (isi_kit t u hu), q3 O1 _ H1 (R1.pop.con _)⟩
/-- a method that changes nothing -/
def OpM (K : PySem.W.Frag) (T : String) (rr : V → List V → Hp → VK → Prop) (ty : D → Bool) (g : D → List D → Option (D × Kd)) : Prop :=
  (∀ H O v d, Vw K H O v d → ty d = true → tyV K T v H) ∧ ∀ (G : Fix) (O : Own) (σ : St) (H : Hp) (ρ : Rho) (v : V) (vs : List V) (d : D) (ds : List D) (z : D × Kd) (Q : VK), G.K = K → Rel G O σ H ρ [] → Vw K H O v d → Vws K H O vs ds →
    g d ds = some z → (∀ O' v H', Rel G O' σ H' ρ [⟨v, z.1, z.2⟩] → Q v H') → rr v vs H Q
def dMt (ty : D → Bool) (g : D → List D → Option (D × Kd)) (ro : DE) (l : List (Bool × DE)) : DE := do
  let x ← ro
  let d0 ← dcur x
  mOpt (if ty d0 then some () else none)
  let xs ← dA l
  let d ← dcur x
  let ds ← dcurs xs
  mOpt (g d ds)
theorem se_mt {T id : String} {name : Str} {rr : V → List V → Hp → VK → Prop} {ty : D → Bool} {g : D → List D → Option (D × Kd)} {ro : DE} {apos : Pos} (pa : PlainAttrs T) (slot : PySem.Slot T name id) (hty : typeOf (.builtin id) = pure (.type "method_descriptor")) (hm : MtR X id rr)
    (hs : OpM X.K T rr ty g) (ho : SE X o ro) (ha : SA X (e :: es) l)
    (hbase : attributeBase o name X.env (eval o X.env) = eval o X.env := by rfl)
    (hfew : ((backTo pos (starEach (e :: es) X.env)).all (fun x => !x.1) && (backToKw pos (keywordEach [] X.env)).all (fun x => x.1.isSome)
      && decide ((e :: es).length + ([] : List Keyword).length + (if ([] : List Keyword).isEmpty then 0 else 1) < 30)) = true := by rfl)
    (hline : (apos.endLine == pos.line) = true := by rfl) (hst : starEach (e :: es) X.env = (false, eval e X.env) :: starEach es X.env := by rfl) (hplain : (backTo pos (starEach es X.env)).any (·.1) = false := by rfl) :
    SE X (.Call (.Attribute o name apos) (e :: es) [] pos) (dMt ty g ro l) := fun W tk =>
  PE.imp (pe_bm pa slot hty hm (ho W tk) (ha W tk) hbase hfew hline hst hplain) fun σ H Q ⟨G, O, ρ, hK, R, h⟩ => by
    refine tE.at hK R (Res.post_ok ((post_bind _ _).mp h) fun y ρ1 q O1 v H1 R1 => ?_)
    obtain ⟨d0, e1, q2⟩ := post_cur.mp ((post_bind _ _).mp q)
    obtain ⟨_, e2, q3⟩ := (post_opt _).mp ((post_bind _ _).mp q2)
    have v1 := R1.view R1.tm.1 e1
    rw [hK] at v1
    have ht : ty d0 = true := by
      split at e2
      · assumption
      · cases e2
    refine ⟨hs.1 _ _ _ _ v1 ht, G, O1, ρ1, _, hK, R1, Res.post_ok ((post_bind _ _).mp q3) fun xs ρ2 q4 O2 vs H2 hl R2 => ?_⟩
    obtain ⟨d, e3, q5⟩ := post_cur.mp ((post_bind _ _).mp q4)
    obtain ⟨ds, e4, q6⟩ := post_curs.mp ((post_bind _ _).mp q5)
    obtain ⟨z, e5, q7⟩ := (post_opt _).mp q6
    have R3 := pushC_pop R2
    have v2 := R3.view R3.tm.1 e3
    have w2 := pushC_vws hl R2 e4
    rw [hK] at v2 w2
    exact hs.2 G O2 σ H2 ρ2 v vs d ds z Q hK R3.nil v2 w2 e5 q7
def isStr (d : D) : Bool := match d with
  | .con (.str _) => true
  | _ => false
theorem ty_str {K : PySem.W.Frag} (H : Hp) (O : Own) (v : V) (d : D) (h : Vw K H O v d) (e : isStr d = true) : tyV K "str" v H := by
  unfold isStr at e
  split at e
  · rw [h.con]; rfl
  · cases e
def joinD (d : D) (ds : List D) : Option (D × Kd) := match d, ds with
  | .con (.str a), [.lst xs] => match strsD xs with
    | some ys => if (ys.map (·.length)).sum + ys.length * a.length ≤ 16777216 then some (.str (Txt.join a ys), .shr) else none
    | none => none
  | _, _ => none
theorem om_join {K : PySem.W.Frag} : OpM K "str" (fun x xs H Q => ∃ a p, ∃ ys : List Str, x = .str a ∧ xs = [.ref p] ∧ (SqL K H p (ys.map V.str) ∨ SqT K H p (ys.map V.str)) ∧ (ys.map (·.length)).sum + ys.length * a.length ≤ 16777216 ∧ Q (.str (Txt.join a ys)) H) isStr joinD := ⟨ty_str, by
  intro G O σ H ρ v vs d ds z Q hK R v1 w e q
  unfold joinD at e
  split at e
  · split at e
    · rename_i ys hys
      split at e
      · rename_i hz
        cases e
        obtain ⟨u, rfl, v2⟩ := w.one
        obtain ⟨a1, us, rfl, s1, r1⟩ := v2.lst
        rw [strsD_of hys] at r1
        rw [r1.con_inv] at s1
        exact ⟨_, a1, ys, v1.con, rfl, .inl s1, hz, q O _ H (R.con _)⟩
      · cases e
    · cases e
  · cases e⟩
def MutS (K : PySem.W.Frag) (rr : V → List V → Hp → VK → Prop) (g : List D → List D → Option (List D × D)) : Prop := ∀ (H : Hp) (L : Addr → Prop) (a : Addr) (vs as : List V) (ys ds : List D) (ys' : List D) (rt : D) (Q : VK),
  H a = some (.lst vs) → Reps K H L vs ys → Reps K H L as ds → g ys ds = some (ys', rt) → ∃ vs' rv, Reps K H L vs' ys' ∧ Rep K H L rv rt ∧ (Q rv (upd H a (.lst vs')) → rr (.ref a) as H Q)
def getOwn (ρ : Rho) (i : Nat) : Option (List D × Bool) := match ρ[i]? with
  | some (some ⟨.lst ys, true, p⟩) => some (ys, p)
  | _ => none
def chkOwn (i : Nat) : M Unit := fun ρ => match getOwn ρ i with
  | some _ => .ok () ρ
  | none => .stuck
theorem post_chk {i : Nat} {ρ : Rho} {Q : Unit → Rho → Prop} {E : Exn → Rho → Prop} : ((chkOwn i) ρ).post Q E ↔ ∃ z, getOwn ρ i = some z ∧ Q () ρ := by
  unfold chkOwn
  cases getOwn ρ i with
  | none => exact ⟨fun h => h.elim, fun ⟨_, e, _⟩ => by cases e⟩
  | some z => exact ⟨fun h => ⟨z, rfl, h⟩, fun ⟨_, _, h⟩ => h⟩
def mutEnd (i : Nat) (g : List D → Option (List D × D)) : DE := fun ρ => match getOwn ρ i with
  | none => .stuck
  | some z => match g z.1 with
    | some w => .ok (w.2, .shr) (ρ.set i (some ⟨.lst w.1, true, z.2⟩))
    | none => .stuck
theorem post_mutEnd {i : Nat} {g : List D → Option (List D × D)} {ρ : Rho} {Q : D × Kd → Rho → Prop} {E : Exn → Rho → Prop} : ((mutEnd i g) ρ).post Q E ↔ ∃ z w, getOwn ρ i = some z ∧ g z.1 = some w ∧ Q (w.2, .shr) (ρ.set i (some ⟨.lst w.1, true, z.2⟩)) := by
  unfold mutEnd
  cases getOwn ρ i with
  | none => exact ⟨fun h => h.elim, fun ⟨_, _, e, _⟩ => by cases e⟩
  | some z =>
    dsimp only
    cases q : g z.1 with
    | none => exact ⟨fun h => h.elim, fun ⟨_, _, e, e2, _⟩ => by cases e; rw [q] at e2; cases e2⟩
    | some w => exact ⟨fun h => ⟨z, w, rfl, q, h⟩, fun ⟨_, _, e, e2, h⟩ => by cases e; rw [q] at e2; cases e2; exact h⟩
def dMut (i : Nat) (g : List D → List D → Option (List D × D)) (l : List (Bool × DE)) : DE := do
  chkOwn i
  let xs ← dA l
  let ds ← mOpt (shrs xs)
  mutEnd i fun ys => g ys ds
theorem getOwn_of {ρ : Rho} {i : Nat} {z : List D × Bool} (e : getOwn ρ i = some z) : ρ[i]? = some (some ⟨.lst z.1, true, z.2⟩) := by
  unfold getOwn at e
  split at e
  · rename_i h; cases e; exact h
  · cases e
theorem own_at {G : Fix} {O : Own} {σ : St} {H : Hp} {ρ : Rho} {T : List Tmp} {i : Nat} {ys : List D} {p : Bool} (R : Rel G O σ H ρ T) (e : ρ[i]? = some (some ⟨.lst ys, true, p⟩)) : ∃ a vs, σ[i]? = some (some (.ref a)) ∧ H a = some (.lst vs) ∧ Reps G.K H (lin O) vs ys := by
  obtain ⟨v, h1, h2⟩ := R.sl i _ e
  obtain ⟨a, ho, rfl, h3, h4, c⟩ := (OwnX.flat (show OwnX _ _ _ _ _ _ from h2))
  cases c with
  | lst r => exact ⟨a, _, h1, h4, r⟩
theorem dMut_of {W : WX} {rr : V → List V → Hp → VK → Prop} {i : Nat} {g : List D → List D → Option (List D × D)} (hs : MutS X.K rr g) (σ : St) (H : Hp) (Q : VK) (h : tE X.K W (dMut i g l) σ H Q) : tBM X.K "list" rr (tVar i) (tA X.K W (dA l)) σ H Q := by
  obtain ⟨G, O, ρ, hK, R, h⟩ := h
  obtain ⟨z0, q0, h⟩ := post_chk.mp ((post_bind _ _).mp h)
  obtain ⟨a, vs0, h1, h2, _⟩ := own_at R (getOwn_of q0)
  refine ⟨.ref a, h1, .inl ⟨rfl, vs0, .inl (.inl h2)⟩, G, O, ρ, [], hK, R, Res.post_ok ((post_bind _ _).mp h) fun xs ρ1 q O1 as H1 hl R1 => ?_⟩
  obtain ⟨ds, e1, q2⟩ := (post_opt _).mp ((post_bind _ _).mp q)
  obtain ⟨z, w, q1, qg, q3⟩ := post_mutEnd.mp q2
  have R2 := pushC_pop R1
  have eo := getOwn_of q1
  obtain ⟨a2, vs1, h3, h4, r4⟩ := own_at R2 eo
  rw [h1] at h3
  cases h3
  have ra := pushC_reps hl R1 e1
  rw [hK] at ra r4
  obtain ⟨vs', rv, k1, k2, k3⟩ := hs H1 (lin O1) a vs1 as z.1 ds w.1 w.2 Q h4 r4 ra qg
  rw [← hK] at k1 k2
  obtain ⟨R3, oa⟩ := R2.write (d := .lst w.1) eo rfl h1 h4 (.lst k1)
  refine k3 (q3 O1 rv _ (R3.push ?_))
  refine Rep.mono (fun b ob n eb => ⟨?_, n⟩) k2
  rw [upd_ne]
  · exact eb
  · exact fun z => n (by rw [z]; unfold lin; rw [oa]; simp)
theorem se_mut (i : Nat) {id : String} {name x : Str} {rr : V → List V → Hp → VK → Prop} {g : List D → List D → Option (List D × D)} {apos xpos : Pos} (slot : PySem.Slot "list" name id) (hty : typeOf (.builtin id) = pure (.type "method_descriptor")) (hm : MtR X id rr)
    (hs : MutS X.K rr g) (ha : SA X (e :: es) l) (hN : X.N[i]? = some x := by rfl) (hv : Vis X.env.scope x := by first | exact Or.inl rfl | exact Or.inr (Or.inl rfl) | exact Or.inr (Or.inr rfl)) (hd : (x == ("__debug__" : Str)) = false := by decide)
    (hcd : (x == ("__classdict__" : Str)) = false := by decide)
    (hbase : attributeBase (.Name x xpos) name X.env (eval (.Name x xpos) X.env) = eval (.Name x xpos) X.env := by rfl)
    (hfew : ((backTo pos (starEach (e :: es) X.env)).all (fun x => !x.1) && (backToKw pos (keywordEach [] X.env)).all (fun x => x.1.isSome)
      && decide ((e :: es).length + ([] : List Keyword).length + (if ([] : List Keyword).isEmpty then 0 else 1) < 30)) = true := by rfl)
    (hline : (apos.endLine == pos.line) = true := by rfl) (hst : starEach (e :: es) X.env = (false, eval e X.env) :: starEach es X.env := by rfl) (hplain : (backTo pos (starEach es X.env)).any (·.1) = false := by rfl) :
    SE X (.Call (.Attribute (.Name x xpos) name apos) (e :: es) [] pos) (dMut i g l) := fun W tk =>
  PE.imp (pe_bm PySem.F.plainAttrs_list slot hty hm (pe_var hN hv hd hcd) (ha W tk) hbase hfew hline hst hplain) (dMut_of hs)
def appG (ys ds : List D) : Option (List D × D) := match ds with
  | [d] => if ys.length < cap then some (ys ++ [d], .non) else none
  | _ => none
theorem ms_append {K : PySem.W.Frag} : MutS K rAppend appG := fun H L a vs as ys ds ys' rt Q h1 r1 r2 e => by
  unfold appG at e
  split at e
  · split at e
    · rename_i hz
      cases e
      cases r2 with
      | cons c1 c2 =>
        cases c2
        exact ⟨_, .non, r1.append (.cons c1 .nil), .con _, fun q => ⟨a, vs, _, rfl, rfl, h1, by rw [r1.len, ← cap_eq]; exact hz, q⟩⟩
    · cases e
  · cases e
/-- x[k] = e -/
def setG (kd : D) (d : D) (ys : List D) : Option (List D × D) := match kd with
  | .con (.int n) => (ixN ys.length n).map fun j => (ys.set j d, .non)
  | _ => none
def dSetIx (i : Nat) (rk rv : DE) : DS := do
  let x ← rv
  let y ← keep false x
  chkOwn i
  let k ← rk
  let kd ← dcur k
  let _ ← mutEnd i (setG kd y.1)
  pure .nx
theorem ss_setIx {pj : VK → VK} (i : Nat) {x : Str} {xpos tpos : Pos} {ke ve : Expr} {rk rv : DE} (hv : SE X ve rv) (hk : SE X ke rk) (hN : X.N[i]? = some x := by rfl) (hvis : Vis X.env.scope x := by first | exact Or.inl rfl | exact Or.inr (Or.inl rfl) | exact Or.inr (Or.inr rfl)) (hd : (x == ("__debug__" : Str)) = false := by decide)
    (hcd : (x == ("__classdict__" : Str)) = false := by decide)
    (ha : ∀ v, assign (.Subscript (.Name x xpos) ke tpos) X.env v = (do
      let ov ← holding [v] (eval (.Name x xpos) X.env)
      let iv ← holding [v, ov] (eval ke X.env)
      standAt tpos
      holding [v, ov, iv] (setItem ov iv v)
      release [v, ov, iv] []) := by intro _; rfl)
    (hs : swapsWithSole [.Subscript (.Name x xpos) ke tpos] ve pos.line X.env = pure false := by rfl) (hw : swappedStores [.Subscript (.Name x xpos) ke tpos] ve X.env = pure none := by rfl)
    (h1 : (assignEach [.Subscript (.Name x xpos) ke tpos] X.env).map (·.2) = [assign (.Subscript (.Name x xpos) ke tpos) X.env] := by rfl) : SSf pj X (.Assign [.Subscript (.Name x xpos) ke tpos] ve pos) (dSetIx i rk rv) := fun W tk =>
  PS.imp (ps_asg (hv W tk) (pg_sub (pe_var hN hvis hd hcd) (hk W tk) set_list ha) hs hw h1) fun D σ H ⟨G, O, ρ, hK, R, h⟩ => by
    refine tE.at hK R (Res.post_mono ((post_bind _ _).mp h) (fun y ρ1 q O1 v H1 R1 => ?_) fun x ρ' q => q σ)
    obtain ⟨d, e1, q2⟩ := keep_false ((post_bind _ _).mp q)
    obtain ⟨O2, R2⟩ := R1.settle (d := d) e1
    obtain ⟨z0, q0, q3⟩ := post_chk.mp ((post_bind _ _).mp q2)
    obtain ⟨a, vs0, h1, h2, _⟩ := own_at R2 (getOwn_of q0)
    refine ⟨.ref a, h1, tE.at hK R2 (Res.post_mono ((post_bind _ _).mp q3) (fun k ρ2 q4 O3 u H3 R3 => ?_) fun x ρ' q => q σ)⟩
    obtain ⟨kd, e2, q5⟩ := post_cur.mp ((post_bind _ _).mp q4)
    obtain ⟨z, w, q6, qg, q7⟩ := post_mutEnd.mp ((post_bind _ _).mp q5)
    have vk := R3.view R3.tm.1 e2
    have R4 := R3.pop
    have eo := getOwn_of q6
    obtain ⟨a2, vs1, h3, h4, r4⟩ := own_at R4 eo
    rw [h1] at h3
    cases h3
    unfold setG at qg
    split at qg
    · rename_i n
      obtain ⟨j, e3, rfl⟩ := Option.map_eq_some_iff.mp qg
      have rd : Rep G.K H3 (lin O3) v d := R4.tm.1
      refine ⟨a, vs1, n, j, rfl, vk.con, h4, by rw [r4.len]; exact e3, ?_⟩
      exact q7 O3 σ _ (R4.nil.write (d := .lst (z.1.set j d)) eo rfl h1 h4 (.lst (Reps.set rd j r4))).1
    · cases qg
end
end L2.VL
end
section
set_option Elab.async false
set_option linter.all false
set_option maxRecDepth 100000
namespace L2.VL
open PySem PySem.Spec PyProof.Rows
section
variable {X : Cx} {a b c e o : Expr} {es : List Expr} {st : Stmt} {sts : List Stmt} {ra rb rc r : DE} {sa sb : DS} {l : List (Bool × DE)} {pos p : Pos}
theorem se_gint {x : Str} {i : Int} (h : ∃ t, X.mg x = some (.int i t)) (hg : Gl X x := by rfl) (hd : (x == ("__debug__" : Str)) = false := by decide) : SE X (.Name x pos) (dCon (.int i)) := by
  obtain ⟨t, h⟩ := h
  exact se_glob h ⟨t, rfl⟩ hg hd
theorem se_gstr {x : Str} {i : Str} (h : ∃ t, X.mg x = some (.str i t)) (hg : Gl X x := by rfl) (hd : (x == ("__debug__" : Str)) = false := by decide) : SE X (.Name x pos) (dCon (.str i)) := by
  obtain ⟨t, h⟩ := h
  exact se_glob h ⟨t, rfl⟩ hg hd
/-- a statement that is not served: it may not be reached -/
theorem ss_never {pj : VK → VK} : SSf pj X st mStuck := fun W tk => PS.imp ps_never fun D σ H ⟨G, O, ρ, hK, R, h⟩ => h
/-- dead slots are forgotten -/
def forgetR (ρ : Rho) : List Nat → Rho
  | [] => ρ
  | i :: is => if pinned (forgetR ρ is) i then forgetR ρ is else (forgetR ρ is).set i none
theorem Rel.unset {G : Fix} {O : Own} {σ : St} {H : Hp} {ρ : Rho} {T : List Tmp} {i : Nat} (R : Rel G O σ H ρ T) (hp : pinned ρ i = false) : Rel G O σ H (ρ.set i none) T := by
  refine ⟨by simpa using R.len, R.fr, R.ot, R.tr, fun j v e => ?_, fun j s e => ?_, R.tm⟩
  · obtain ⟨h1, s, h2, h3⟩ := R.pn j v e
    refine ⟨h1, s, ?_, h3⟩
    rw [List.getElem?_set_ne (fun z => ?_)]
    · exact h2
    · subst z
      unfold pinned at hp
      rw [h2] at hp
      dsimp only at hp
      rw [h3] at hp
      cases hp
  · by_cases z : j = i
    · subst z
      by_cases hl : j < ρ.length
      · rw [List.getElem?_set_self hl] at e; cases e
      · rw [List.getElem?_eq_none (by simpa using hl)] at e; cases e
    · rw [List.getElem?_set_ne (Ne.symm z)] at e
      exact R.sl j s e
theorem Rel.forget {G : Fix} {O : Own} {σ : St} {H : Hp} {ρ : Rho} {T : List Tmp} (R : Rel G O σ H ρ T) : ∀ is : List Nat, Rel G O σ H (forgetR ρ is) T
  | [] => R
  | i :: is => by
    have ih := R.forget is
    unfold forgetR
    split
    · exact ih
    · rename_i h; exact ih.unset (by simpa using h)
def forgetM (is : List Nat) : M Unit := fun ρ => .ok () (forgetR ρ is)
def dFgE (is : List Nat) (sa : DS) : DS := do
  let f ← sa
  forgetM is
  pure f
def dFgB (is : List Nat) (sa : DS) : DS := do
  forgetM is
  sa
theorem sss_fgE {pj : VK → VK} (is : List Nat) (h : SSsf pj X sts sa) : SSsf pj X sts (dFgE is sa) := fun W tk => PSs.imp (h W tk) fun D σ H ⟨G, O, ρ, hK, R, h⟩ => ⟨G, O, ρ, hK, R, Res.post_ok ((post_bind _ _).mp h) fun f ρ1 q => by
  replace q : FlOk G (D.re pj) [] f (forgetR ρ1 is) := q
  cases f with
  | nx => exact fun O' σ' H' R' => q O' σ' H' (R'.forget is)
  | brk => exact fun O' σ' H' R' => q O' σ' H' (R'.forget is)
  | cnt => exact fun O' σ' H' R' => q O' σ' H' (R'.forget is)
  | ret d b => exact fun O' σ' v H' R' => q O' σ' v H' (R'.forget is)⟩
theorem ss_fgB {pj : VK → VK} (is : List Nat) (h : SSf pj X st sa) : SSf pj X st (dFgB is sa) := fun W tk => PS.imp (h W tk) fun D σ H ⟨G, O, ρ, hK, R, h⟩ => ⟨G, O, forgetR ρ is, hK, R.forget is, h⟩
/-- a, b = e1, e2 -/
def nonm (x : D × Kd) : Option Unit := match x.2 with
  | .nm _ => none
  | _ => some ()
def dPar (i j : Nat) (bi bj : Bool) (ra rb : DE) : DS := do
  let xs ← dA [(bi, ra), (bj, rb)]
  match xs with
  | [x, y] => do
    let _ ← mOpt (nonm x)
    dPut j y
    dPut i x
    pure .nx
  | _ => mStuck
theorem ss_par {pj : VK → VK} (i j : Nat) (bi bj : Bool) {x y : Str} {px py pt : Pos} {kt k2 : Nat} {pt2 : Pos} (hx : CxG X) (ha : SE X a ra) (hb : SE X b rb) (hi : X.N[i]? = some x := by rfl) (hj : X.N[j]? = some y := by rfl) (hij : i ≠ j := by decide)
    (hlx : X.env.scope.names.lookup x = some .local := by rfl) (hly : X.env.scope.names.lookup y = some .local := by rfl)
    (he1 : starEach [a, b] X.env = (false, eval a X.env) :: starEach [b] X.env := by rfl) (he2 : starEach [b] X.env = (false, eval b X.env) :: starEach [] X.env := by rfl)
    (hw : swappedStores [.Tuple [.Name x px, .Name y py] kt pt] (.Tuple [a, b] k2 pt2) X.env = pure (some [x, y]) := by rfl)
    (hs : swapsWithSole [.Tuple [.Name x px, .Name y py] kt pt] (.Tuple [a, b] k2 pt2) pos.line X.env = pure false := by rfl) :
    SSf pj X (.Assign [.Tuple [.Name x px, .Name y py] kt pt] (.Tuple [a, b] k2 pt2) pos) (dPar i j bi bj ra rb) := fun W tk =>
  PS.imp (ps_par hx.calm hx.nd hi hj hij hlx hly (sa_cons (b := bi) ha (sa_cons (b := bj) hb sa_nil he2) he1 W tk) hw hs) fun D σ H ⟨G, O, ρ, hK, R, h⟩ => by
    refine ⟨G, O, ρ, [], hK, R, Res.post_mono ((post_bind _ _).mp h) (fun xs ρ1 q O1 vs H1 hl R1 => ?_) fun x ρ' q => q σ⟩
    split at q
    · rename_i z w
      match vs, hl with
      | [v, u], _ =>
        refine ⟨_, _, rfl, ?_⟩
        obtain ⟨_, e1, q2⟩ := (post_opt _).mp ((post_bind _ _).mp q)
        have R2 : Rel G O1 σ H1 ρ1 [⟨u, w.1, w.2⟩, ⟨v, z.1, z.2⟩] := R1
        have hn : NoNm [⟨v, z.1, z.2⟩] := NoNm.nil.cons fun i e => by
          unfold nonm at e1
          have e' : z.2 = .nm i := e
          rw [e'] at e1
          cases e1
        obtain ⟨O3, ρ3, R3, q3⟩ := put_post hn R2 ((post_bind _ _).mp q2)
        obtain ⟨O4, ρ4, R4, q4⟩ := put_post .nil R3 ((post_bind _ _).mp q3)
        refine q4 O4 _ _ ?_
        rw [List.set_comm _ _ hij]
        exact R4
    · exact q.elim
end
theorem tbk_none {K : PySem.W.Frag} {P : Addr} {q : Str} (h : lamN = []) : tbk K P ≠ some q := by
  unfold tbk
  rw [h]
  exact fun z => nomatch z
theorem law_sp {K : PySem.W.Frag} {F : Fn} {H : Hp} {a : Addr} {ns : List Int} (hS : SqL K H a (ns.map V.int)) (h : FRes.post (F [shA (.lst (ns.map fun n => .con (.int n)))]) (fun d _ _ => d = .bl true) fun _ _ => False)
    (hT : ∀ P q, tbk K P = some q → LamX.TabS H P q) : spF K F 1 [.ref a] H (fun v _ => v = .bl true) E0 := by
  have out : ∀ b, ownT K b = some .out ↔ (tbk K b).isSome = true := fun b => by
    unfold ownT
    split
    · rename_i c; exact ⟨fun _ => c, fun _ => rfl⟩
    · rename_i c; exact ⟨fun z => (by cases z), fun z => absurd z c⟩
  refine ⟨rfl, frzT K H (fun _ => none), ownT K, [shA (.lst (ns.map fun n => .con (.int n)))], rfl, rfl, ⟨rfl, fun b o e => ?_, out, fun a w e => ?_, fun i v e => (by cases e), fun i s e => ?_, trivial⟩, ?_⟩
  · replace e : (if (tbk K b).isSome = true then none else H b) = some o := e
    split at e
    · cases e
    · rename_i c
      exact ⟨e, .inl (if_neg c)⟩
  · unfold ownT at e
    split at e
    · rename_i c
      obtain ⟨q, hq⟩ := Option.isSome_iff_exists.mp c
      obtain ⟨ps, h1, h2⟩ := hT a q hq
      exact ⟨⟨_, h1⟩, fun q' hq' => by
        have hq' : tbk K a = some q' := hq'
        rw [hq] at hq'
        cases hq'
        exact ⟨ps, h1, h2⟩⟩
    · cases e
  · cases i with
    | zero =>
      cases e
      refine ⟨_, rfl, ?_⟩
      show Rep K H (lin (ownT K)) (.ref a) (.lst _)
      rcases hS with hS | hS
      · refine .obj (fun z => z ?_) hS (.lst (Reps.cons_map V.int ns))
        unfold ownT
        refine if_neg fun c => ?_
        obtain ⟨q, hq⟩ := Option.isSome_iff_exists.mp c
        obtain ⟨ps, h1, _⟩ := hT a q hq
        rcases hS with hS | ⟨o, hS⟩
        · rw [h1] at hS; cases hS
        · rw [h1] at hS; cases hS
      · exact .kl hS (Reps.cons_map V.int ns)
    | succ i => simp at e
  · unfold FRes.post at h ⊢
    cases hF : F [shA (.lst (ns.map fun n => .con (.int n)))] with
    | none => rw [hF] at h; exact h
    | some r =>
      rw [hF] at h
      cases r with
      | exc x outs => exact h.elim
      | ret d b outs =>
        dsimp only at h ⊢
        subst h
        intro O' σ' v H' R'
        have : Vw K H' O' v (.bl true) := R'.view R'.tm.1 (by unfold cur; cases b <;> rfl)
        exact this.con
/-- THE HEAD: the law is called on its script, no repr under way -/
theorem headG {P : Program} {w : World} {K : PySem.W.Frag} {mg mb : Str → Option Value} {k : Nat} {fa a : Addr} {fd : FuncData} {x : Str} {F : Fn} {s1 : Shared} {vs : List Value} {ns : List Int}
    (X : K.In s1.heap) (gl : s1.heap.Ns mainGlobals mg) (bl : s1.heap.Ns builtinsNs mb) (bb : ∀ y : Str, y ≠ "__name__" → mb y = bootBuiltins y) (lim : s1.heap.NoLimit) (gens : s1.gens = #[])
    (script : s1.heap.get? a = some { cls := .type "list", data := .seq vs.toArray }) (iar : IntsAre vs ns) (short : ns.length ≤ sizeLine) (room : Room k callerA)
    (fn : ∀ base : Heap, FnG P w K mg base (L2.CX P w) k fa fd [x] (spF K F 1)) (bind : ∀ (s : Shared) (u : Value), BindsTo s fd ⟨[u], []⟩ [(x, u)])
    (sp : ∀ H : Hp, SqL K H a (ns.map V.int) → spF K F 1 [.ref a] H (fun v _ => v = .bl true) E0) :
    codeAny (model P w) callerA (.call (.ref fa) ⟨[.ref a], []⟩) (fun r s' => r = .ok (.ret (.bool true)) ∧ OldK s1.heap s'.heap ∧ s'.os = s1.os ∧ AllBare s'.gens) s1 := by
  have vals := vals_ints iar
  -- H tracks the script at most
  have main : ∀ H : Hp, (∀ b u, H b = some u → b = a ∧ u = .frz { cls := .type "list", data := .seq vs.toArray } (.lst (ns.map V.int)) ∧ K.lookup a = none) → SqL K H a (ns.map V.int) →
      codeAny (model P w) callerA (.call (.ref fa) ⟨[.ref a], []⟩) (fun r s' => r = .ok (.ret (.bool true)) ∧ OldK s1.heap s'.heap ∧ s'.os = s1.os ∧ AllBare s'.gens) s1 := by
    intro H only sq
    have free : ∀ b, b ≠ a ∨ K.lookup b ≠ none → H b = none := fun b z => by
      cases q : H b with
      | none => rfl
      | some u =>
        obtain ⟨e, _, n⟩ := only b u q
        subst e
        exact (z.elim (fun z => z rfl) (fun z => z n)).elim
    have names : ∀ {b : Addr} {m : Str → Option Value}, s1.heap.Ns b m → (hidT s1.heap H).Ns b m := fun {b m} ⟨o, es, n, g, d, r⟩ => ⟨o, es, n, hidT_get g (free b (.inl fun e => by
      subst e
      rw [script] at g
      cases g
      cases d)), d, r⟩
    have inK : K.In (hidT s1.heap H) := fun b o l => hidT_get (X b o l) (free b (.inr (by rw [l]; exact fun z => by cases z)))
    have ok : HOk P w H s1.heap := fun b u z => by
      obtain ⟨rfl, rfl, _⟩ := only b u z
      exact ⟨script, by rw [List.length_map]; exact short, vs, _, vals, script⟩
    have env : Env0 P w K mg (hidT s1.heap H) callerA [] s1 H :=
      ⟨rfl, ⟨inK, names gl, ⟨mb, names bl, bb⟩, lim.elim fun mc q => ⟨mc, names q.1, q.2⟩⟩, fun _ _ z => of_hidT z, Nat.le_of_eq (hidT_size _ _), trivial, fun _ z => (nomatch (show _ ∈ ([] : List Addr) from z)), ok, .of_eq gens⟩
    refine codeAny_mono ((fn _).run callerA rfl room [] s1 H env ⟨[.ref a], []⟩ [.ref a] (bind s1 (.ref a)) [.ref a] (.cons rfl .nil) _ _ (sp H sq)) fun r s' q => ?_
    match r, q with
    | .error e, q => obtain ⟨_, _, _, _, _, _, _, _, _, _, _, _, z⟩ := q; exact z.elim
    | .ok .next, q => exact q.elim
    | .ok .brk, q => exact q.elim
    | .ok .cont, q => exact q.elim
    | .ok (.ret u), ⟨v, H', os, bare, un, ok', rv, q⟩ =>
      subst q
      cases (show u = Value.bool true from rv)
      refine ⟨rfl, OldK.of_keep fun b o g => ?_, os, bare⟩
      cases hb : H b with
      | none => exact un.keep b o g hb (fun z => nomatch (show b ∈ ([] : List Addr) from z)) (fun z => nomatch z)
      | some u =>
        obtain ⟨rfl, rfl, _⟩ := only b u hb
        rw [script] at g
        cases g
        exact (ok' b _ (un.frzs b _ _ hb)).1
  cases hk : K.lookup a with
  | some o =>
    have g := X a o hk
    rw [script] at g
    cases g
    exact main (fun _ => none) (fun _ _ z => nomatch z) (.inr ⟨_, vs.toArray, _, hk, rfl, rfl, rfl, by rw [List.size_toArray, iar.length]; exact short, by simpa using vals⟩)
  | none =>
    refine main (fun b => if b = a then some (.frz { cls := .type "list", data := .seq vs.toArray } (.lst (ns.map V.int))) else none) (fun b u z => ?_) (.inl (.inr ⟨_, if_pos rfl⟩))
    split at z
    · rename_i e
      cases z
      exact ⟨e, rfl, hk⟩
    · cases z
theorem walkG {l : PySem.W.OpenLaw} {n k : Nat} {q : Program} {loose : List Str} {XP : (Str → Option Value) → Heap → Prop} {YP : World → Heap → Prop} {d : DefRec} {x : Str} (most : l.most = some n) (small : n ≤ sizeLine) (df : d.params.defaults = []) (room : Room k callerA)
    (G : ∀ (w : World) (mg : Str → Option Value) (fa : Addr) (h : Heap), YP w h → h.Ns mainGlobals mg → mg d.name = some (.ref fa) → ∃ (K : PySem.W.Frag) (fd : FuncData) (F : Fn), K.In h ∧ (∀ (s : Shared) (u : Value), BindsTo s fd ⟨[u], []⟩ [(x, u)]) ∧
      (∀ (H : Hp) (a : Addr) (ns : List Int), ns.length ≤ n → SqL K H a (ns.map V.int) → spF K F 1 [.ref a] H (fun v _ => v = .bl true) E0) ∧ ∀ base : Heap, FnG l.prog w K mg base (L2.CX l.prog w) k fa fd [x] (spF K F 1)) :
    PySem.W.WalkO q loose XP YP l.row.toRowW d [] (fun f vs => PySem.call f vs) :=
  Att.attach_call most df fun w s0 s1 mg mb fa o pm cd doc a vs ns Gr Y _ _ _ hmg script iar len gens => by
    obtain ⟨K, fd, F, X, bind, sp, fn⟩ := G w mg fa _ Y Gr.T.g hmg
    exact headG X Gr.T.g Gr.T.b Gr.T.builtins Gr.T.nolimit gens script iar (Nat.le_trans len small) room fn bind fun H sq => sp H a ns len sq
end L2.VL
end
section
set_option Elab.async false
set_option linter.all false
set_option maxRecDepth 100000
namespace L2.VL
open PySem PySem.Spec PyProof.Rows
theorem FRes.mono {r : Option FRes} {Q Q' : D → Bool → Rho → Prop} {E E' : Exn → Rho → Prop} (h : FRes.post r Q E) (h1 : ∀ d b o, Q d b o → Q' d b o) (h2 : ∀ x o, E x o → E' x o) : FRes.post r Q' E' := by
  unfold FRes.post at h ⊢
  cases r with
  | none => exact h
  | some r => cases r with
    | ret d b o => exact h1 d b o h
    | exc x o => exact h2 x o h
/-- .. where nothing is raised -/
theorem FRes.go {r : Option FRes} {Q Q' : D → Bool → Rho → Prop} {E' : Exn → Rho → Prop} (h : FRes.post r Q fun _ _ => False) (h1 : ∀ d b o, Q d b o → Q' d b o) : FRes.post r Q' E' := FRes.mono h h1 fun _ _ z => z.elim
end L2.VL
end
section
set_option Elab.async false
set_option linter.all false
set_option maxRecDepth 100000
namespace L2.VL
open PySem PySem.Spec PyProof.Rows
section
variable {P : D × Kd → Prop} {B : Bool → Prop} {W : V → Prop} {i j : Int} {xs ys : List D} {s t : Str}
theorem eqD_int : eqD (.con (.int i)) (.con (.int j)) = some (decide (i = j)) := by
  have e : eqD (.con (.int i)) (.con (.int j)) = some (decide (V.int i = V.int j)) := by
    unfold eqD
    dsimp only
    rw [if_pos (by rfl)]
  rw [e]
  simp
theorem eqD_str : eqD (.con (.str s)) (.con (.str t)) = some (decide (s = t)) := by
  have e : eqD (.con (.str s)) (.con (.str t)) = some (decide (V.str s = V.str t)) := by
    unfold eqD
    dsimp only
    rw [if_pos (by rfl)]
  rw [e]
  simp
end
end L2.VL
end
section
set_option Elab.async false
set_option linter.all false
set_option maxRecDepth 100000
namespace L2.VL
open PySem PySem.Spec PyProof.Rows
def lent (o : Option Slot) : Option Slot := o.map fun s => ⟨s.d, false, s.pin⟩
theorem Rel.lend {G : Fix} {O : Own} {σ : St} {H : Hp} {ρ : Rho} (R : Rel G O σ H ρ []) : Rel (frzT G.K H G.Pin) (ownT G.K) σ H (ρ.map lent) [] := by
  have off : ∀ a, O a ≠ some .out → ownT G.K a = none := fun a n => if_neg (by rw [tb_sl R n]; simp)
  have st : Stay H H (lin O) (lin (ownT G.K)) := fun a o n e => ⟨e, fun z => z (off a (fun y => n (by unfold lin; rw [y]; simp)))⟩
  refine ⟨by rw [List.length_map]; exact R.len, fun b o e => ?_, fun b => ?_, fun a w e => ?_, fun i v e => ?_, fun i s e => ?_, trivial⟩
  · replace e : (if (tbk G.K b).isSome = true then none else H b) = some o := e
    split at e
    · cases e
    · rename_i c
      exact ⟨e, .inl (if_neg c)⟩
  · show ownT G.K b = some .out ↔ (tbk G.K b).isSome = true
    unfold ownT
    split
    · rename_i c; exact ⟨fun _ => c, fun _ => rfl⟩
    · rename_i c; exact ⟨fun z => (by cases z), fun z => absurd z c⟩
  · unfold ownT at e
    split at e
    · rename_i c
      exact R.tr a _ (tb_is R c)
    · cases e
  · obtain ⟨h1, s, h2, h3⟩ := R.pn i v e
    exact ⟨h1, ⟨s.d, false, s.pin⟩, by rw [List.getElem?_map, h2]; rfl, h3⟩
  · rw [List.getElem?_map] at e
    obtain ⟨o, e1, e2⟩ := Option.map_eq_some_iff.mp e
    obtain ⟨s', rfl, rfl⟩ := Option.map_eq_some_iff.mp e2
    obtain ⟨v, h1, h2⟩ := R.sl i s' e1
    refine ⟨v, h1, ?_⟩
    show Rep G.K H _ v s'.d
    unfold SlotOk at h2
    cases q : s'.own with
    | false => rw [q] at h2; exact h2.mono st
    | true =>
      rw [q] at h2
      exact OwnX.rep st h2 fun a o e1 e2 => ⟨off a (by rw [e1]; simp), e2⟩
/-- what a frozen frame keeps -/
theorem Rel.frzUpT {G : Fix} {O O' : Own} {σ σ' : St} {H H' : Hp} {ρ ρ' : Rho} {T T' : List Tmp} {Pn : Nat → Option V} (_R : Rel G O σ H ρ T') (R' : Rel (frzT G.K H Pn) O' σ' H' ρ' T) {a : Addr} {o : HO} (n : G.Tb a = none) (e : H a = some o) : H' a = some o ∧ O' a = none := by
  obtain ⟨p, q⟩ := R'.fr a o (show (if (tbk G.K a).isSome = true then none else H a) = some o by rw [if_neg (by rw [show tbk G.K a = none from n]; simp)]; exact e)
  refine ⟨p, q.resolve_right fun z => ?_⟩
  have y : (tbk G.K a).isSome = true := (R'.ot a).mp z
  rw [show tbk G.K a = none from n] at y
  cases y
theorem Rel.frzUp {G : Fix} {O O' : Own} {σ σ' : St} {H H' : Hp} {ρ ρ' : Rho} {T T' : List Tmp} {Pn : Nat → Option V} (R : Rel G O σ H ρ T') (R' : Rel (frzT G.K H Pn) O' σ' H' ρ' T) : (∀ a o, O a ≠ some .out → H a = some o → H' a = some o) ∧ ∀ a w, O a = some w → TrOk G H' a := by
  refine ⟨fun a o n e => (R.frzUpT R' (tb_ne R n) e).1, fun a w e => ?_⟩
  cases q : G.Tb a with
  | none =>
    obtain ⟨o, ho⟩ := (R.tr a w e).1
    exact ⟨⟨o, (R.frzUpT R' q ho).1⟩, fun z hz => by rw [q] at hz; cases hz⟩
  | some z => exact R'.tr a .out ((R'.ot a).mpr (by show (tbk G.K a).isSome = true; rw [show tbk G.K a = some z from q]; rfl))
end L2.VL
end
section
set_option Elab.async false
set_option linter.all false
set_option maxRecDepth 100000
namespace L2.VL
open PySem PySem.Spec PyProof.Rows
end L2.VL
end
section
set_option Elab.async false
set_option linter.all false
set_option maxRecDepth 100000
namespace L2.VL
open PySem PySem.Spec PyProof.Rows
section
variable {X : Cx} {pos : Pos} {a b e : Expr} {ra rb r : DE}
def isBD (x y : D) : Option Bool := match x, y with
  | .con (.bl i), .con (.bl j) => some (decide (i = j))
  | _, _ => none
def notBD (x y : D) : Option Bool := (isBD x y).map not
theorem cs_isB {K : PySem.W.Frag} : CmpS K rIsB isBD := fun a b H x y k O Q v1 v2 e q => by
  unfold isBD at e
  split at e
  · rename_i i j
    cases e
    exact ⟨i, j, v1.con, v2.con, q⟩
  · cases e
theorem cs_notB {K : PySem.W.Frag} : CmpS K rNotB notBD := fun a b H x y k O Q v1 v2 e q => by
  obtain ⟨k', e1, e2⟩ := Option.map_eq_some_iff.mp e
  unfold isBD at e1
  split at e1
  · rename_i i j
    cases e1
    exact ⟨i, j, v1.con, v2.con, by rw [e2]; exact q⟩
  · cases e1
theorem rmulW (i : Int) (t : Tok) (l : Addr) (its : Array Value) (n : Nat) (sl : Array (Option Value)) :
    Meets (Builtin.«int.__rmul__» ⟨[.int i t, .ref l], []⟩) (fun _ R s => s.heap.get? l = some { cls := .type "list", dict := none, data := .seq its n, slots := sl } ∧
      R (.ok (.ret Value.notImplemented)) s) :=
  .of_wp fun prog w A R s h => by
    obtain ⟨hp, g, d, tk, os⟩ := s
    obtain ⟨hl, h⟩ := h
    wp_walk
    exact ⟨_, rfl, h⟩
theorem lmulW (l : Addr) (its : Array Value) (n : Nat) (sl : Array (Option Value)) (k : Int) (u : Tok) (h0 : ¬(!Builtin.List.listFitsIndex k) = true) (h1 : ¬its.size * k.toNat > (2 ^ 63 - 1) / 8) (h2 : ¬Builtin.List.listTooLong (its.size * k.toNat) = true) :
    Meets (Builtin.«list.__mul__» ⟨[.ref l, .int k u], []⟩) (fun _ R s => s.heap.get? l = some { cls := .type "list", dict := none, data := .seq its n, slots := sl } ∧
      R (.ok (.ret (Value.ref s.heap.objs.size))) { s with heap := s.heap.push { cls := Value.type "list", data := Data.seq (List.foldl (fun x1 x2 => x1 ++ x2) #[] (List.replicate (if its.isEmpty = true then 0 else k.toNat) its)) }, toks := s.toks }) :=
  .of_wp fun prog w A R s h => by
    obtain ⟨hp, g, d, tk, os⟩ := s
    obtain ⟨hl, h⟩ := h
    have hsz := AutoListH.joined_fits h2
    wp_walk
    refine wpAny_ite_false (decide_eq_false (Nat.not_lt.mpr hsz)) ?_
    wp_walk
    exact ⟨_, rfl, h⟩
def rRepL (K : PySem.W.Frag) : R2 := fun x y H Q => ∃ l k xs, x = .ref l ∧ y = .int k ∧ SqL K H l xs ∧ -(2 ^ 63) ≤ k ∧ k < 2 ^ 63 ∧ xs.length * k.toNat ≤ sizeLine ∧
  ∀ p, H p = none → Q (.ref p) (upd H p (.lst (List.replicate k.toNat xs).flatten))
theorem op_repL : OpR X (binaryOp .Mult) (rRepL X.K) := by
  intro pins s σ H x y v u Q I rx ry h
  obtain ⟨p, c, xs, rfl, rfl, hH, h1, h2, hz, q⟩ := h
  cases rx
  obtain ⟨t, rfl⟩ := ry
  obtain ⟨us, r, ⟨o1, n, e, c1, d1, k1⟩, _⟩ := I.list hH
  obtain ⟨cls1, dd1, dt1, sl1⟩ := o1
  dsimp only at c1 d1 k1
  subst c1 d1 k1
  have hl := r.length
  have lenO : us.toArray.size * c.toNat ≤ sizeLine := by rw [List.size_toArray, ← hl]; exact hz
  have capO : ¬ us.toArray.size * c.toNat > (2 ^ 63 - 1) / 8 := by
    have : (sizeLine : Nat) ≤ (2 ^ 63 - 1) / 8 := by decide
    omega
  have fitO : ¬ (!Builtin.List.listFitsIndex c) = true := by
    rw [fitsIndex_both h1 h2]
    exact Bool.false_ne_true
  have tooL : ¬ Builtin.List.listTooLong (us.toArray.size * c.toNat) = true := by
    rw [notLongL lenO]
    exact Bool.false_ne_true
  have newO : List.foldl (fun x1 x2 => x1 ++ x2) #[] (List.replicate (if us.toArray.isEmpty = true then 0 else c.toNat) us.toArray) = (List.replicate c.toNat us).flatten.toArray := by
    have f0 : ∀ m : Nat, List.foldl (fun x1 x2 => x1 ++ x2) #[] (List.replicate m us.toArray) = (List.replicate m us).flatten.toArray := fun m => by
      have w := foldl_rep us m []
      rwa [List.nil_append] at w
    rw [f0]
    cases us with
    | nil => simp
    | cons a r' => rw [if_neg (by simp)]
  refine wpAny_binaryOp_repeat_ref (T := "list") (U := "int") (by decide) ⟨_, e, rfl⟩ (fun s' => typeIs_int s' c t) noFill_list_mul F.fills_int_mul F.slot_int_rmul repeat_list F.slot_int_index.lookup
    (call_meets F.slot_int_rmul (typeIs_int s c t) F.entry_int_rmul (F.args_int_rmul_2 _ _) (rmulW c t p us.toArray n sl1)
      ⟨e, rfl, ⟨_, e, rfl⟩, call_meets F.slot_list_mul ⟨_, e, rfl⟩ F.entry_list_mul (F.args_list_mul_2 _ _) (lmulW p us.toArray n sl1 c t fitO capO tooL) ⟨e, ?_⟩⟩)
  rw [newO]
  exact ⟨.ref _, _, I.lnew (t' := s.toks) (r.rep c.toNat) (by rw [PyProof.Rows.lm_len_rep_flat, Nat.mul_comm]; exact hz), rfl, q _ I.fresh⟩
def mulA (x y : D) : Option (D × Kd) := match x, y with
  | .con (.int i), .con (.int j) => if CMulB i j then some (.con (.int (i * j)), .shr) else none
  | .lst xs, .con (.int k) => if small62 k && decide (xs.length * k.toNat ≤ cap) then some (.lst (List.replicate k.toNat xs).flatten, .fr) else none
  | _, _ => none
theorem Reps.rep {K : PySem.W.Frag} {H : Hp} {L : Addr → Prop} {vs : List V} {ds : List D} (h : Reps K H L vs ds) : ∀ n : Nat, Reps K H L (List.replicate n vs).flatten (List.replicate n ds).flatten
  | 0 => .nil
  | n + 1 => by
    rw [List.replicate_succ, List.replicate_succ, List.flatten_cons, List.flatten_cons]
    exact h.append (h.rep n)
abbrev rMulA (K : PySem.W.Frag) : R2 := fun x y H Q => rI CMul (fun i j => .int (i * j)) x y H Q ∨ rRepL K x y H Q
theorem op_mulA : OpR X (binaryOp .Mult) (rMulA X.K) := OpR.or op_mul op_repL
theorem os_mulA {K : PySem.W.Frag} : OpS2 K (rMulA K) mulA := by
  intro G O σ H ρ a b x y z Q hK R v1 v2 e q
  unfold mulA at e
  split at e
  · rename_i i j
    exact .inl (os_mul G O σ H ρ a b _ _ z Q hK R v1 v2 e q)
  · rename_i xs k
    split at e
    · rename_i hs
      cases e
      rw [Bool.and_eq_true, decide_eq_true_eq] at hs
      obtain ⟨hs1, hs2⟩ := hs
      unfold small62 at hs1
      simp only [Bool.and_eq_true, decide_eq_true_eq] at hs1
      obtain ⟨a1, vs, rfl, s1, r1⟩ := v1.lst
      refine .inr ⟨a1, k, vs, rfl, v2.con, s1, by omega, by omega, by rw [r1.len, ← cap_eq]; exact hs2, fun p hp => ?_⟩
      rw [← hK] at r1
      obtain ⟨O4, R4⟩ := R.fresh (d := .lst (List.replicate k.toNat xs).flatten) hp (.lst (r1.rep _))
      exact q O4 _ _ R4
    · cases e
  · cases e
def revLD (d : D) : Option (D × Kd) := match d with
  | .lst xs => some (.lst xs.reverse, .fr)
  | _ => none
def dRevL (ra : DE) : DE := do
  let x ← ra
  let d ← dcur x
  mOpt (revLD d)
theorem Reps.rev {K : PySem.W.Frag} {H : Hp} {L : Addr → Prop} : ∀ {vs : List V} {ds : List D}, Reps K H L vs ds → Reps K H L vs.reverse ds.reverse
  | _, _, .nil => .nil
  | _, _, .cons a b => by
    rw [List.reverse_cons, List.reverse_cons]
    exact b.rev.append (.cons a .nil)
theorem se_revL {k : Nat} {p1 p2 p3 : Pos} (ha : SE X e ra) : SE X (.Subscript e (.Slice none none (some (.UnaryOp .USub (.Constant (.int 1) k p1) p2)) p3) pos) (dRevL ra) := fun W tk =>
  PE.imp (pe_revL (ha W tk)) fun σ H Q ⟨G, O, ρ, hK, R, h⟩ => by
    refine tE.at hK R (Res.post_ok ((post_bind _ _).mp h) fun x ρ1 q O1 v H1 R1 => ?_)
    obtain ⟨d, e1, q3⟩ := post_cur.mp ((post_bind _ _).mp q)
    obtain ⟨z, e2, q4⟩ := (post_opt _).mp q3
    have v1 := R1.view R1.tm.1 e1
    unfold revLD at e2
    split at e2
    · rename_i xs
      cases e2
      obtain ⟨a1, vs, rfl, s1, r1⟩ := v1.lst
      rw [hK] at s1
      refine ⟨a1, vs, rfl, s1, fun p hp => ?_⟩
      obtain ⟨O4, R4⟩ := R1.pop.fresh (d := .lst xs.reverse) hp (.lst r1.rev)
      exact q4 O4 _ _ R4
    · cases e2
def chrs (z : Str) : List D := z.cps.toList.map fun c => .con (.str ⟨#[c]⟩)
def strOf (d : D) : Option (List D) := match d with
  | .con (.str z) => some (chrs z)
  | _ => none
def iStrD (r : DE) : M (List D) := do
  let x ← r
  let y ← keep false x
  mOpt (strOf y.1)
theorem walk_str {K : PySem.W.Frag} {T : List Tmp} {z : Str} : WalkOk K T (Its z) (chrs z) := by
  intro G O σ H ρ i T' U hK R
  have hl : (chrs z).length = z.cps.size := by simp [chrs]
  refine ⟨fun hi => by rw [hl] at hi; exact hi, fun hi => by rw [hl] at hi; exact hi, fun x hx v H' y => ?_⟩
  obtain ⟨rfl, c, hc, rfl⟩ := y
  unfold chrs at hx
  rw [List.getElem?_map] at hx
  obtain ⟨c', h1, rfl⟩ := Option.map_eq_some_iff.mp hx
  rw [Array.getElem?_toList] at h1
  rw [h1] at hc
  cases hc
  exact ⟨O, R.con _⟩
theorem si_str {tg : Expr} (he : SE X e r) : SI X tg e (iStrD r) := fun W tk => PI.imp (pi_str (he W tk)) fun σ H Q ⟨G, O, ρ, hK, R, h⟩ =>
  ⟨G, O, ρ, hK, R, Res.post_ok ((post_bind _ _).mp h) fun x ρ1 q O1 v H1 R1 => by
    obtain ⟨d, e1, q2⟩ := keep_false ((post_bind _ _).mp q)
    obtain ⟨xs, e2, q3⟩ := (post_opt _).mp q2
    obtain ⟨O2, R2⟩ := R1.settle (d := d) e1
    unfold strOf at e2
    dsimp only at e2
    split at e2
    · rename_i z
      cases e2
      have v1 : v = .str z := (show Vw G.K H1 O2 v (.con (.str z)) from .inl R2.tm.1).con
      exact ⟨z, v1, q3 O2 H1 _ _ (NoNm.nil.cons fun i z => by cases z) R2 (walk_str.f hK)⟩
    · cases e2⟩
theorem PI.or {tg : Expr} {t t' : TI} (h : PI X tg e t) (h' : PI X tg e t') : PI X tg e fun σ H R => t σ H R ∨ t' σ H R := ⟨fun pins s σ H R I q => by
  rcases q with q | q
  · exact h.run pins s σ H R I q
  · exact h'.run pins s σ H R I q⟩
def anyOf (d : D) : Option (List D) := match d with
  | .lst xs => some xs
  | .tup xs => some xs
  | .con (.str z) => some (chrs z)
  | _ => none
def iAny (r : DE) : M (List D) := do
  let x ← r
  let y ← keep false x
  mOpt (anyOf y.1)
theorem iAny_split {ρ : Rho} {Q : List D → Rho → Prop} {E : Exn → Rho → Prop} (h : ((iAny r) ρ).post Q E) : ((iLst r) ρ).post Q E ∨ ((iTuple r) ρ).post Q E ∨ ((iStrD r) ρ).post Q E := by
  have h1 := (post_bind _ _).mp h
  unfold iLst iTuple iStrD
  simp only [post_bind]
  cases e1 : r ρ with
  | stuck => rw [e1] at h1; exact h1.elim
  | ex x ρ1 => exact .inl (by rw [e1] at h1; exact h1)
  | ok x ρ1 =>
    rw [e1] at h1
    have h2 := (post_bind _ _).mp h1
    simp only [Res.post]
    cases e2 : keep false x ρ1 with
    | stuck => rw [e2] at h2; exact h2.elim
    | ex x ρ1 => exact .inl (by rw [e2] at h2; exact h2)
    | ok y ρ2 =>
      rw [e2] at h2
      obtain ⟨xs, e3, h3⟩ := (post_opt _).mp h2
      unfold anyOf at e3
      split at e3
      · rename_i ys e4
        cases e3
        exact .inl ((post_opt (lstOf y.1)).mpr ⟨_, by rw [e4]; rfl, h3⟩)
      · rename_i ys e4
        cases e3
        exact .inr (.inl ((post_opt (tupOf y.1)).mpr ⟨_, by rw [e4]; rfl, h3⟩))
      · rename_i z e4
        cases e3
        exact .inr (.inr ((post_opt (strOf y.1)).mpr ⟨_, by rw [e4]; rfl, h3⟩))
      · cases e3
theorem si_any {tg : Expr} (he : SE X e r) : SI X tg e (iAny r) := fun W tk => PI.imp (PI.or (si_lst he W tk) (PI.or (si_tup he W tk) (si_str he W tk))) fun σ H Q ⟨G, O, ρ, hK, R, h⟩ => by
  rcases iAny_split h with h | h | h
  · exact .inl ⟨G, O, ρ, hK, R, h⟩
  · exact .inr (.inl ⟨G, O, ρ, hK, R, h⟩)
  · exact .inr (.inr ⟨G, O, ρ, hK, R, h⟩)
theorem eqAt_dec {A : Around} {s : Shared} (i j : Int) (t u : Tok) : SeqAt.EqAt A s (.int i t) (.int j u) (decide (i = j)) := by
  have z : (i == j) = decide (i = j) := by
    by_cases q : i = j
    · rw [decide_eq_true q, q]; simp
    · rw [decide_eq_false q]; simp [q]
  rw [← z]
  exact SeqAt.EqAt.int_int _ _ _ _
def strIn (a b : Str) : Bool := !(Builtin.Str.occurrences b a 0 b.length 1).isEmpty
def inS (x y : D) : Option Bool := match x, y with
  | .con (.str a), .con (.str b) => some (strIn a b)
  | _, _ => none
def inA (x y : D) : Option Bool := (inD x y).or (inS x y)
def notInA (x y : D) : Option Bool := (inA x y).map not
abbrev rInS : R2 := fun x y H Q => ∃ i j, x = .str i ∧ y = .str j ∧ Q (.bl (!(Builtin.Str.occurrences j i 0 j.length 1).isEmpty)) H
abbrev rNotInS : R2 := fun x y H Q => ∃ i j, x = .str i ∧ y = .str j ∧ Q (.bl (!(!(Builtin.Str.occurrences j i 0 j.length 1).isEmpty))) H
theorem op_inA : OpR X (compareOp .In) (fun x y H Q => rIn X.K false x y H Q ∨ rInS x y H Q) := OpR.or op_in_seq op_in_str
theorem op_notInA : OpR X (compareOp .NotIn) (fun x y H Q => rIn X.K true x y H Q ∨ rNotInS x y H Q) := OpR.or op_notIn_seq op_notin_str
theorem inS_of {K : PySem.W.Frag} {H : Hp} {O : Own} {u w : V} {x y : D} {k : Bool} (v1 : Vw K H O u x) (v2 : Vw K H O w y) (e : inS x y = some k) : ∃ i j, u = .str i ∧ w = .str j ∧ strIn i j = k := by
  unfold inS at e
  split at e
  · cases e
    exact ⟨_, _, v1.con, v2.con, rfl⟩
  · cases e
theorem cs_inA {K : PySem.W.Frag} : CmpS K (fun x y H Q => rIn K false x y H Q ∨ rInS x y H Q) inA := fun a b H x y k O Q v1 v2 e q => by
  unfold inA at e
  cases h : inD x y with
  | some j =>
    rw [h] at e
    cases e
    exact .inl (cs_in a b H x y k O Q v1 v2 h q)
  | none =>
    rw [h] at e
    obtain ⟨i, j, e1, e2, e3⟩ := inS_of v1 v2 (show inS x y = some k from e)
    exact .inr ⟨i, j, e1, e2, by subst e3; exact q⟩
theorem cs_notInA {K : PySem.W.Frag} : CmpS K (fun x y H Q => rIn K true x y H Q ∨ rNotInS x y H Q) notInA := fun a b H x y k O Q v1 v2 e q => by
  obtain ⟨k', e1, e0⟩ := Option.map_eq_some_iff.mp e
  unfold inA at e1
  cases h : inD x y with
  | some j =>
    rw [h] at e1
    cases e1
    exact .inl (cs_notin a b H x y k O Q v1 v2 (by unfold notInD; rw [h]; exact congrArg some e0) q)
  | none =>
    rw [h] at e1
    obtain ⟨i, j, e4, e2, e3⟩ := inS_of v1 v2 (show inS x y = some k' from e1)
    refine .inr ⟨i, j, e4, e2, ?_⟩
    subst e3
    rw [← e0] at q
    exact q
theorem dMut0_of {W : WX} {rr : V → List V → Hp → VK → Prop} {i : Nat} {g : List D → List D → Option (List D × D)} (hs : MutS X.K rr g) (σ : St) (H : Hp) (Q : VK) (h : tE X.K W (dMut i g []) σ H Q) : tBM0 X.K "list" rr (tVar i) σ H Q := by
  obtain ⟨G, O, ρ, hK, R, h⟩ := h
  obtain ⟨z0, q0, h⟩ := post_chk.mp ((post_bind _ _).mp h)
  obtain ⟨a, vs0, h1, h2, r0⟩ := own_at R (getOwn_of q0)
  refine ⟨.ref a, h1, .inl ⟨rfl, vs0, .inl (.inl h2)⟩, ?_⟩
  have q := (post_bind _ _).mp h
  obtain ⟨ds, e1, q2⟩ := (post_opt _).mp ((post_bind _ _).mp (show ((pure [] : M (List (D × Kd))) ρ).post _ _ from q))
  obtain ⟨z, w, q1, qg, q3⟩ := post_mutEnd.mp q2
  have eo := getOwn_of q1
  obtain ⟨a2, vs1, h3, h4, r4⟩ := own_at R eo
  rw [h1] at h3
  cases h3
  cases e1
  rw [hK] at r4
  obtain ⟨vs', rv, k1, k2, k3⟩ := hs H (lin O) a vs1 [] z.1 [] w.1 w.2 Q h4 r4 .nil qg
  rw [← hK] at k1 k2
  obtain ⟨R3, oa⟩ := R.write (d := .lst w.1) eo rfl h1 h4 (.lst k1)
  refine k3 (q3 O rv _ (R3.push ?_))
  refine Rep.mono (fun b ob n eb => ⟨?_, n⟩) k2
  rw [upd_ne]
  · exact eb
  · exact fun z => n (by rw [z]; unfold lin; rw [oa]; simp)
theorem se_mut0 (i : Nat) {id : String} {name x : Str} {rr : V → List V → Hp → VK → Prop} {g : List D → List D → Option (List D × D)} {apos xpos : Pos} (slot : PySem.Slot "list" name id) (hty : typeOf (.builtin id) = pure (.type "method_descriptor")) (hm : MtR X id rr)
    (hs : MutS X.K rr g) (hN : X.N[i]? = some x := by rfl) (hv : Vis X.env.scope x := by first | exact Or.inl rfl | exact Or.inr (Or.inl rfl) | exact Or.inr (Or.inr rfl)) (hd : (x == ("__debug__" : Str)) = false := by decide)
    (hcd : (x == ("__classdict__" : Str)) = false := by decide)
    (hbase : attributeBase (.Name x xpos) name X.env (eval (.Name x xpos) X.env) = eval (.Name x xpos) X.env := by rfl) (hline : (apos.endLine == pos.line) = true := by rfl) :
    SE X (.Call (.Attribute (.Name x xpos) name apos) [] [] pos) (dMut i g []) := fun W tk =>
  PE.imp (pe_bm0 PySem.F.plainAttrs_list slot hty hm (pe_var hN hv hd hcd) hbase hline) (dMut0_of hs)
end
end L2.VL
end
section
set_option Elab.async false
set_option linter.all false
set_option maxRecDepth 100000
namespace L2.VL
open PySem PySem.Spec PyProof.Rows
inductive PairsAt (K : PySem.W.Frag) (H : Hp) : List V → List (Int × Int) → Prop
  | nil : PairsAt K H [] []
  | cons {t : Addr} {a b : Int} {xs : List V} {ps : List (Int × Int)} : SqT K H t [.int a, .int b] → PairsAt K H xs ps → PairsAt K H (.ref t :: xs) ((a, b) :: ps)
theorem PairsAt.len {K : PySem.W.Frag} {H : Hp} : ∀ {xs : List V} {ps : List (Int × Int)}, PairsAt K H xs ps → xs.length = ps.length
  | _, _, .nil => rfl
  | _, _, .cons _ h => congrArg Nat.succ h.len
theorem OpS.or {K : PySem.W.Frag} {r1 r2 : List V → Hp → VK → Prop} {g1 g2 : List D → Option (D × Kd)} (h1 : OpS K r1 g1) (h2 : OpS K r2 g2) : OpS K (fun vs H Q => r1 vs H Q ∨ r2 vs H Q) fun ds => (g1 ds).or (g2 ds) := by
  intro G O σ H ρ vs ds z Q hK R w e q
  dsimp only at e
  cases h : g1 ds with
  | some y =>
    rw [h] at e
    cases e
    exact .inl (h1 G O σ H ρ vs ds _ Q hK R w h q)
  | none =>
    rw [h] at e
    exact .inr (h2 G O σ H ρ vs ds z Q hK R w e q)
end L2.VL
end
section
set_option Elab.async false
set_option linter.all false
set_option maxRecDepth 100000
namespace L2.VL
open PySem PySem.Spec PyProof.Rows
end L2.VL
end
section
set_option Elab.async false
set_option linter.all false
set_option maxRecDepth 100000
namespace L2.VL
open PySem PySem.Spec PyProof.Rows
def ItsE (x : Str) : It := ⟨fun i _ => i < x.cps.size, fun i H v H' => ∃ T c, v = .ref T ∧ H T = none ∧ H' = upd H T (.tup [.int (i : Nat), .str ⟨#[c]⟩]) ∧ x.cps[i]? = some c, fun i _ => x.cps.size ≤ i⟩
theorem draws_str {prog : Program} {w : World} {A : Around} (hh : A.handled = none) (it : Addr) (x : Str) (t : Tok) :
    Draws prog w A it [it] x.cps.size (fun i v => ∃ c u, x.cps[i]? = some c ∧ v = .str ⟨#[c]⟩ u) (fun i h => h.IsStrIter it (strIterType x) x t i) := by
  unfold strIterType
  split
  · exact Draws.strAscii hh it x t
  · exact Draws.strWide hh it x t
theorem turn_enumS {P : Program} {w : World} {K : PySem.W.Frag} {elts : List Expr} {kk : Nat} {tpos : Pos} (e it : Addr) (x : Str) (t : Tok) :
    Turn P w K (.Tuple elts kk tpos) (ItsE x) [e, it] e (fun i h => (∃ old, IsEnum h e it ((i : Nat) : Int) old) ∧ h.IsStrIter it (strIterType x) x t i ∧ e ≠ it ∧ i ≤ x.cps.size) where
  mem := by simp
  obj := fun i h st b hb => by
    obtain ⟨⟨old, he⟩, ⟨o, ho, hc, hd⟩, _⟩ := st
    have e' : b = e ∨ b = it := by simpa using hb
    rcases e' with z | z
    · rw [z]
      exact ⟨_, he, fun v q => nomatch q⟩
    · rw [z]
      exact ⟨o, ho, fun v q => by rw [hd] at q; cases q⟩
  keep := fun i h h' st k => by
    obtain ⟨⟨old, he⟩, ⟨o, ho, r⟩, hne, hi⟩ := st
    exact ⟨⟨old, k e (by simp) _ he⟩, ⟨o, k it (by simp) o ho, r⟩, hne, hi⟩
  item := by
    intro X hP hw hK hc i pins s σ H E I hf st hg
    subst hP hw hK
    obtain ⟨⟨old, he⟩, hit, hne, hi⟩ := st
    have hel : e < s.heap.objs.size := Heap.lt_size he
    have hil : it < s.heap.objs.size := by
      obtain ⟨_, q, _⟩ := hit
      exact Heap.lt_size q
    refine wpAny_pyNext_enum_itemD (draws_str (A := X.A.in1) (I.ok.hd hc) it x t) he hit hg hne (by simpa using hne) fun v h' tk hv ho hit' hT hsz hk => ?_
    obtain ⟨c, u, hcx, rfl⟩ := hv
    refine ⟨_, rfl, wpAny_letOwnedTupleGo_enum (s := { s with heap := h', toks := tk + 1 }) ho fun h2 he' sb => ?_⟩
    have hT2 : h2.get? s.heap.objs.size = some { cls := .type "tuple", data := .seq #[.int i tk, .str ⟨#[c]⟩ u] } := (sb.2 _ (Nat.ne_of_gt hel)).trans hT
    have new : ObjOk X.prog X.w (upd H s.heap.objs.size (.tup [.int (i : Nat), .str ⟨#[c]⟩])) h2 s.heap.objs.size (.tup [.int (i : Nat), .str ⟨#[c]⟩]) :=
      ⟨by show 2 ≤ sizeLine; decide, [.int i tk, .str ⟨#[c]⟩ u], .cons ⟨_, rfl⟩ (.cons ⟨_, rfl⟩ .nil), ⟨_, hT2, rfl, _, rfl⟩⟩
    have I1 : Inv X pins σ (upd H s.heap.objs.size (.tup [.int (i : Nat), .str ⟨#[c]⟩])) { s with heap := h2, toks := tk + 1 } :=
      I.turnedNew (ch := [e, it]) (fun b ob hb q => (sb.2 b (fun z => hb (by simp [z]))).trans (hk b ob (fun z => hb (by simp [z])) (fun z => hb (by simp [z])) q)) hf (Nat.le_refl _) new
    have hlt : i < x.cps.size := hg
    refine ⟨.ref s.heap.objs.size, _, I1, rfl, ⟨_, c, rfl, I.hok.fresh (Nat.le_refl _), rfl, hcx⟩, ⟨⟨.str ⟨#[c]⟩ u, ?_⟩, ?_, hne, hlt⟩, fun b hb => ?_⟩
    · have e1 : ((i + 1 : Nat) : Int) = (i : Int) + 1 := by omega
      rw [e1]
      exact he'
    · obtain ⟨o, ho2, r⟩ := hit'
      exact ⟨o, (sb.2 it (Ne.symm hne)).trans ho2, r⟩
    · have hb' : b < s.heap.objs.size := by
        have e' : b = e ∨ b = it := by simpa using hb
        rcases e' with z | z
        · rw [z]; exact hel
        · rw [z]; exact hil
      rw [upd_ne (Nat.ne_of_lt hb')]
      exact (hf b hb).1
  done := by
    intro X hP hw hK hc i pins s σ H E I hf st hg
    subst hP hw hK
    obtain ⟨⟨old, he⟩, hit, hne, hi⟩ := st
    have ei : i = x.cps.size := Nat.le_antisymm hi hg
    subst ei
    obtain ⟨f0, f1, f2, f3, f4, f5⟩ := hf it (by simp)
    exact wpAny_pyNext_enum_endD (draws_str (A := X.A.in1) (I.ok.hd hc) it x t) he hit fun h' eb => ⟨rfl, I.turned (t' := s.toks) (fun b o hb q => eb b o hb q) f0 f1 f3 f4 f5⟩
  self := fun A i s Q E st h => by
    obtain ⟨⟨_, he⟩, _⟩ := st
    exact wpAny_pyIter_enum he h
def iEnumS (ta : TA) : TI := fun σ H R => ta σ H fun vs H1 => ∃ x, vs = [.str x] ∧ R (ItsE x) H1
theorem pi_enumS {X : Cx} {e : Expr} {ta : TA} {p pos tpos : Pos} {elts : List Expr} {kk : Nat} (hg : Gl X "enumerate") (hm : X.mg "enumerate" = none) (ha : PA X [e] ta) (hs : starEach [e] X.env = [(false, eval e X.env)] := by rfl) :
    PI X (.Tuple elts kk tpos) (.Call (.Name "enumerate" p) [e] [] pos) (iEnumS ta) := by
  refine ⟨fun pins s σ H R I h => ?_⟩
  refine Call_ (ld_blt I hg hm boot_enumerate (PyProof.Rows.callWith_type1 (thn (ha.run pos pins s σ H _ I h) fun us s1 ⟨vs, H1, I1, r1, q1⟩ => ?_) hs rfl))
  obtain ⟨x, ex, q⟩ := q1
  subst ex
  cases r1 with
  | cons r rr =>
    cases rr
    obtain ⟨t, rfl⟩ := r
    refine call_enumerate_str fun h' he hit hsz hk => wpAny_pyIter_enum he ?_
    have I2 : Inv X pins σ H1 { s1 with heap := h' } := I1.kept (t' := s1.toks) hk
    refine ⟨s1.heap.objs.size + 1, [s1.heap.objs.size + 1, s1.heap.objs.size], _, _, H1, rfl, I2, turn_enumS (s1.heap.objs.size + 1) s1.heap.objs.size x t, ⟨⟨.none, he⟩, hit, Nat.succ_ne_self _, Nat.zero_le _⟩, fun b hb => ?_, q⟩
    have e' : b = s1.heap.objs.size + 1 ∨ b = s1.heap.objs.size := by simpa using hb
    have hle : s1.heap.objs.size ≤ b := by
      rcases e' with z | z
      · rw [z]; exact Nat.le_add_right _ _
      · rw [z]; exact Nat.le_refl _
    exact I1.fpOk hle (I1.hok.fresh hle)
def enumS (ds : List D) : Option (List D) := match ds with
  | [.con (.str z)] => some ((chrs z).zipIdx.map fun p => .tup [.int p.2, p.1])
  | _ => none
def enumA (ds : List D) : Option (List D) := match ds with
  | [.lst a] => some (a.zipIdx.map fun p => .tup [.int p.2, p.1])
  | [.con (.str z)] => some ((chrs z).zipIdx.map fun p => .tup [.int p.2, p.1])
  | _ => none
def iEnumSD (l : List (Bool × DE)) : M (List D) := do
  let xs ← dA l
  let ds ← mOpt (shrs xs)
  mOpt (enumS ds)
def iEnumA (l : List (Bool × DE)) : M (List D) := do
  let xs ← dA l
  let ds ← mOpt (shrs xs)
  mOpt (enumA ds)
theorem walk_enumS {K : PySem.W.Frag} {T : List Tmp} {z : Str} : WalkOk K T (ItsE z) ((chrs z).zipIdx.map fun p => .tup [.int p.2, p.1]) := by
  intro G O σ H ρ i T' U hK R
  have hl : ((chrs z).zipIdx.map fun p => D.tup [.int p.2, p.1]).length = z.cps.size := by simp [chrs]
  refine ⟨fun hi => by rw [hl] at hi; exact hi, fun hi => by rw [hl] at hi; exact hi, fun x hx v H' y => ?_⟩
  obtain ⟨P, c, rfl, nP, rfl, hc⟩ := y
  rw [List.getElem?_map, List.getElem?_zipIdx] at hx
  unfold chrs at hx
  rw [List.getElem?_map, Array.getElem?_toList, hc] at hx
  cases hx
  refine ⟨O, ?_⟩
  have R2 := R.freshT (d := .tup [.int (i : Nat), .con (.str ⟨#[c]⟩)]) nP (.tup (.cons (.con (.int (i : Nat))) (.cons (.con (.str ⟨#[c]⟩)) .nil)))
  simpa using R2
section
variable {X : Cx} {e : Expr} {p pos : Pos}
theorem si_enumS {elts : List Expr} {kk : Nat} {tpos : Pos} {l : List (Bool × DE)} (hm : X.mg "enumerate" = none) (ha : SA X [e] l) (hg : Gl X "enumerate" := by rfl)
    (hs : starEach [e] X.env = [(false, eval e X.env)] := by rfl) : SI X (.Tuple elts kk tpos) (.Call (.Name "enumerate" p) [e] [] pos) (iEnumSD l) := fun W tk =>
  PI.imp (pi_enumS hg hm (ha W tk) hs) fun σ H Q ⟨G, O, ρ, hK, R, h⟩ => ⟨G, O, ρ, [], hK, R, Res.post_ok ((post_bind _ _).mp h) fun xs ρ1 q O1 vs H1 hl R1 => by
    obtain ⟨ds, e1, q2⟩ := (post_opt _).mp ((post_bind _ _).mp q)
    obtain ⟨z, e2, q3⟩ := (post_opt _).mp q2
    have rp := pushC_reps hl R1 e1
    unfold enumS at e2
    split at e2
    · cases e2
      cases rp with
      | cons r1 rr =>
        cases rr
        exact ⟨_, by rw [r1.con_inv], q3 O1 H1 _ _ NoNm.nil (pushC_pop R1) (walk_enumS.f hK)⟩
    · cases e2⟩
theorem iEnumA_split {l : List (Bool × DE)} {ρ : Rho} {Q : List D → Rho → Prop} {E : Exn → Rho → Prop} (h : ((iEnumA l) ρ).post Q E) : ((iEnum1 l) ρ).post Q E ∨ ((iEnumSD l) ρ).post Q E := by
  have h1 := (post_bind _ _).mp h
  unfold iEnum1 iEnumSD
  simp only [post_bind]
  cases e1 : dA l ρ with
  | stuck => rw [e1] at h1; exact h1.elim
  | ex x ρ1 => exact .inl (by rw [e1] at h1; exact h1)
  | ok x ρ1 =>
    rw [e1] at h1
    simp only [Res.post]
    obtain ⟨ds, e2, h2⟩ := (post_opt _).mp ((post_bind _ _).mp h1)
    obtain ⟨z, e3, h3⟩ := (post_opt _).mp h2
    unfold enumA at e3
    split at e3
    · cases e3
      exact .inl ((post_opt (shrs x)).mpr ⟨_, e2, h3⟩)
    · cases e3
      exact .inr ((post_opt (shrs x)).mpr ⟨_, e2, h3⟩)
    · cases e3
theorem si_enumA {elts : List Expr} {kk : Nat} {tpos : Pos} {l : List (Bool × DE)} (hm : X.mg "enumerate" = none) (ha : SA X [e] l) (hg : Gl X "enumerate" := by rfl)
    (hs : starEach [e] X.env = [(false, eval e X.env)] := by rfl) : SI X (.Tuple elts kk tpos) (.Call (.Name "enumerate" p) [e] [] pos) (iEnumA l) := fun W tk =>
  PI.imp (PI.or (si_enum hm ha hg hs W tk) (si_enumS hm ha hg hs W tk)) fun σ H Q ⟨G, O, ρ, hK, R, h⟩ => by
    rcases iEnumA_split h with h | h
    · exact .inl ⟨G, O, ρ, hK, R, h⟩
    · exact .inr ⟨G, O, ρ, hK, R, h⟩
end
end L2.VL
end
section
set_option Elab.async false
set_option linter.all false
set_option maxRecDepth 100000
namespace L2.VL
open PySem PySem.Spec PyProof.Rows
section
variable {α : Type} {own : List Nat} {t : Tg} {q : M Bool} {r : DE} {xs : List D} {ρ : Rho} {V1 : D × Kd → Rho → Prop} {E : Exn → Rho → Prop}
theorem zip_map {α β : Type} (f : α → D) (g : β → D) (as : List α) (bs : List β) : (((as.map f).zip (bs.map g)).map fun p => D.tup [p.1, p.2]) = (as.zip bs).map fun p => D.tup [f p.1, g p.2] := by
  rw [List.zip_map, List.map_map]
  rfl
def cutL {α : Type} (as : List α) (lo hi : Option Int) : List α := (as.drop (HT.sIx as.length 0 lo)).take (HT.sIx as.length as.length hi - HT.sIx as.length 0 lo)
theorem cutD_map (f : α → D) (as : List α) (lo hi : Option Int) : cutD (as.map f) lo hi = (cutL as lo hi).map f := by
  unfold cutD cutL
  rw [List.length_map, ← List.map_drop, ← List.map_take]
theorem cutL_mem {as : List α} {lo hi : Option Int} {a : α} (h : a ∈ cutL as lo hi) : a ∈ as := List.mem_of_mem_drop (List.mem_of_mem_take h)
theorem okL_map {α : Type} {f : α → D} (as : List α) (n : Nat) (h : ∀ a ∈ as, okD n (f a) = true) : okD (n + 1) (.lst (as.map f)) = true := by
  unfold okD
  rw [List.all_eq_true]
  intro d hd
  obtain ⟨a, ha, rfl⟩ := List.mem_map.mp hd
  exact h a ha
end
end L2.VL
end
section
set_option Elab.async false
set_option linter.all false
set_option maxRecDepth 100000
namespace L2.VL
open PySem PySem.Spec PyProof.Rows
def dDis (kvs : List (Key × V)) : DE := pure (.dic (kvs.map fun p => (p.1, .con p.2)), .fr)
section
variable {X : Cx} {pos : Pos}
theorem se_dict0 : SE X (.Dict [] [] pos) (dDis []) := fun W tk => PE.imp pe_dnewK fun σ H Q ⟨G, O, ρ, hK, R, h⟩ p hp => by
  obtain ⟨O', R'⟩ := R.fresh (d := .dic []) hp (.dic .nil)
  exact h O' _ _ R'
def keyD (d : D) : Option Key := match d with
  | .con (.int i) => some (.inl i)
  | .con (.str s) => some (.inr s)
  | _ => none
def findK (kvs : List (Key × D)) (k : Key) : Option D := (kvs.find? fun kv => decide (kv.1 = k)).map (·.2)
theorem Vw.dic {K : PySem.W.Frag} {H : Hp} {O : Own} {v : V} {ds : List (Key × D)} (h : Vw K H O v (.dic ds)) : ∃ a vs, v = .ref a ∧ Rd H a (.dK vs) ∧ RepK K H (lin O) vs ds := by
  rcases h with h | ⟨a, ho, e, h1, c⟩ | ⟨_, _, _, z⟩
  · cases h with
    | obj n r c =>
      cases c with
      | dic q => exact ⟨_, _, rfl, r, q⟩
  · cases c with
    | dic q => exact ⟨a, _, e, .inl h1, q⟩
  · cases z
end
end L2.VL
end
section
set_option Elab.async false
set_option linter.all false
set_option maxRecDepth 100000
namespace L2.VL
open PySem PySem.Spec PyProof.Rows
section
variable {ρ : Rho} {E : Exn → Rho → Prop} {Q : Fl → Rho → Prop} {r : DE} {V1 : D × Kd → Rho → Prop} {i : Nat} {p : Bool}
theorem bitAnd_nat (a b : Nat) : Builtin.bitAnd (a : Int) b = ((a &&& b : Nat) : Int) := by
  unfold Builtin.bitAnd
  rw [decide_eq_true (Int.natCast_nonneg a), decide_eq_true (Int.natCast_nonneg b)]
  simp
end
end L2.VL
end
section
set_option Elab.async false
set_option linter.all false
set_option maxRecDepth 100000
namespace L2.VL
open PySem PySem.Spec PyProof.Rows
def repS (s : Str) (n : Nat) : Str := ⟨(List.replicate n s.cps.toList).flatten.toArray⟩
def rMulS : R2 := fun x y H Q => ∃ s k, x = .str s ∧ y = .int k ∧ 0 ≤ k ∧ k ≤ 1000 ∧ s.length ≤ 1000 ∧ Q (.str (repS s k.toNat)) H
theorem foldl_app (n : Nat) (a : Array Nat) (acc : Array Nat) : (List.replicate n a).foldl (· ++ ·) acc = acc ++ (List.replicate n a.toList).flatten.toArray := by
  induction n generalizing acc with
  | zero => simp
  | succ n ih =>
    rw [List.replicate_succ, List.foldl_cons, ih, List.replicate_succ, List.flatten_cons]
    apply Array.toList_inj.mp
    simp
theorem op_mulS {X : Cx} : OpR X (binaryOp .Mult) rMulS := by
  intro pins s σ H x y v u Q I rx ry h
  obtain ⟨z, k, rfl, rfl, h0, h1, hl, q⟩ := h
  obtain ⟨t1, rfl⟩ := rx
  obtain ⟨t2, rfl⟩ := ry
  refine P.mul_str (by simp; omega) (fun a b => ?_) (fun a b => ?_) ?_
  · have hk : 0 < k := by omega
    have : (9223372036854775807 : Int) / k ≥ 9223372036854775 := by
      refine Int.le_ediv_of_mul_le hk ?_
      have : (9223372036854775 : Int) * k ≤ 9223372036854775 * 1000 := by omega
      omega
    have e : ((2 : Int) ^ 63 - 1) = 9223372036854775807 := by decide
    rw [e]
    omega
  · have : z.length * k.toNat ≤ 1000 * 1000 := Nat.mul_le_mul hl (by omega)
    unfold Builtin.Str.tooLong
    rw [decide_eq_false_iff_not]
    have e := sizeLine_eq
    omega
  · by_cases a : k < 1
    · rw [if_pos a]
      have : k = 0 := by omega
      subst this
      exact ⟨by decide, .str Str.empty, _, I.tok _, ⟨_, rfl⟩, q⟩
    · rw [if_neg a]
      by_cases b : (k == 1 || z.length == 0) = true
      · rw [if_pos b]
        refine ⟨.str z, H, I, ⟨_, rfl⟩, ?_⟩
        have e : repS z k.toNat = z := by
          rw [Bool.or_eq_true] at b
          unfold repS
          rcases b with b | b
          · have : k = 1 := by simpa using b
            subst this
            simp
          · have b : z.cps.size = 0 := by have b : (z.length == 0) = true := b; exact eq_of_beq b
            have : z.cps = #[] := Array.eq_empty_of_size_eq_zero b
            have e2 : (List.replicate k.toNat ([] : List Nat)).flatten = [] := by simp
            cases z
            simp at this
            subst this
            simp
        rw [e] at q
        exact q
      · rw [if_neg b]
        refine ⟨?_, .str _, _, I.tok _, ⟨_, rfl⟩, ?_⟩
        · show (_ : Array Nat).size ≤ _
          rw [foldl_app]
          rw [Array.empty_append, List.size_toArray, List.length_flatten, List.map_replicate, List.sum_replicate_nat]
          have : k.toNat * z.cps.toList.length ≤ 1000 * 1000 := Nat.mul_le_mul (by omega) hl
          have e := sizeLine_eq
          omega
        · rw [foldl_app]
          simpa [repS] using q
def mulSD (x y : D) : Option (D × Kd) := match x, y with
  | .con (.str s), .con (.int k) => if 0 ≤ k ∧ k ≤ 1000 ∧ s.length ≤ 1000 then some (.con (.str (repS s k.toNat)), .shr) else none
  | _, _ => none
theorem os_mulS {K : PySem.W.Frag} : OpS2 K rMulS mulSD := by
  intro G O σ H ρ a b x y z Q hK R v1 v2 e q
  unfold mulSD at e
  split at e
  · rename_i s k
    split at e
    · rename_i h
      cases e
      rw [v1.con, v2.con]
      exact ⟨s, k, rfl, rfl, h.1, h.2.1, h.2.2, q O _ H (R.con _)⟩
    · cases e
  · cases e
def mulT (x y : D) : Option (D × Kd) := (mulA x y).or (mulSD x y)
theorem op_mulT {X : Cx} : OpR X (binaryOp .Mult) fun x y H Q => rMulA X.K x y H Q ∨ rMulS x y H Q := OpR.or op_mulA op_mulS
theorem os_mulT {K : PySem.W.Frag} : OpS2 K (fun x y H Q => rMulA K x y H Q ∨ rMulS x y H Q) mulT := OpS2.or os_mulA os_mulS
end L2.VL
end
section
set_option Elab.async false
set_option linter.all false
set_option maxRecDepth 100000
namespace L2.VL
open PySem PySem.Spec PyProof.Rows
end L2.VL
end
section
set_option Elab.async false
set_option linter.all false
set_option maxRecDepth 100000
namespace L2.VL
open PySem PySem.Spec PyProof.Rows
end L2.VL
end
section
set_option Elab.async false
set_option linter.all false
set_option maxRecDepth 100000
namespace L2.VL
open PySem PySem.Spec PyProof.Rows
end L2.VL
end
section
set_option Elab.async false
set_option linter.all false
set_option maxRecDepth 100000
set_option maxHeartbeats 2000000
namespace L2.VL
open PySem PySem.Spec PyProof.Rows L2 PpSet
end L2.VL
end
section
set_option Elab.async false
set_option linter.all false
set_option maxRecDepth 100000
namespace L2.VL
open PySem PySem.Spec PyProof.Rows L2
/-- each number once, as first met -/
def nubI (ns : List Int) : List Int := ns.foldl (fun l k => if k ∈ l then l else l ++ [k]) []
theorem snoc_ind {α : Type} {P : List α → Prop} (h0 : P []) (h1 : ∀ l a, P l → P (l ++ [a])) (l : List α) : P l := by
  rw [← List.reverse_reverse l]
  generalize l.reverse = r
  induction r with
  | nil => exact h0
  | cons a r ih => rw [List.reverse_cons]; exact h1 _ a ih
def sortU (ns : List Int) : List Int := (nubI ns).mergeSort fun a b => decide (a ≤ b)
end L2.VL
end
section
set_option Elab.async false
set_option linter.all false
set_option maxRecDepth 100000
namespace L2.VL
open PySem PySem.Spec PyProof.Rows L2
end L2.VL
end
section
set_option Elab.async false
set_option linter.all false
set_option maxRecDepth 100000
namespace L2.VL
open PySem PySem.Spec PyProof.Rows L2
end L2.VL
end
section
set_option Elab.async false
set_option linter.all false
set_option maxRecDepth 100000
namespace L2.VL
open PySem PySem.Spec PyProof.Rows L2
/-- greater by the first place that differs; of two of which one begins the other, the longer one -/
def lexG : List Int → List Int → Bool
  | [], _ => false
  | _ :: _, [] => true
  | a :: r, b :: s => if a = b then lexG r s else decide (b < a)
theorem first_lexG (f : Nat → Nat) (e r : Nat → Bool) (hf : True) : ∀ (ns ms : List Int) (k : Nat), (∀ j, j < ns.length → j < ms.length → e (k + j) = decide (ns.getD j 0 = ms.getD j 0)) → (∀ j, j < ns.length → j < ms.length → r (k + j) = decide (ms.getD j 0 < ns.getD j 0)) →
    SeqAt.firstLt e r (decide (ns.length > ms.length)) (List.range' k (min ns.length ms.length)) = lexG ns ms
  | [], ms, k, _, _ => by simp [SeqAt.firstLt, lexG]
  | a :: ns, [], k, _, _ => by simp [SeqAt.firstLt, lexG]
  | a :: ns, b :: ms, k, he, hr => by
    have e0 := he 0 (by simp) (by simp)
    have r0 := hr 0 (by simp) (by simp)
    have ih := first_lexG f e r hf ns ms (k + 1) (fun j h1 h2 => by
      have := he (j + 1) (by simp; omega) (by simp; omega)
      rw [show k + 1 + j = k + (j + 1) by omega, this]
      simp) (fun j h1 h2 => by
      have := hr (j + 1) (by simp; omega) (by simp; omega)
      rw [show k + 1 + j = k + (j + 1) by omega, this]
      simp)
    simp only [List.getD_cons_zero, Nat.add_zero] at e0 r0
    rw [show min (a :: ns).length (b :: ms).length = min ns.length ms.length + 1 by simp only [List.length_cons]; omega, List.range'_succ]
    unfold SeqAt.firstLt lexG
    rw [e0, r0]
    by_cases h : a = b
    · rw [if_pos (decide_eq_true h), if_pos h, ← ih]
      congr 1
      rw [decide_eq_decide]
      simp only [List.length_cons]
      omega
    · rw [if_neg (fun z => h (of_decide_eq_true z)), if_neg h]
def rGtL (K : PySem.W.Frag) : R2 := fun x y H Q => ∃ (p p2 : Addr) (ns ms : List Int), x = .ref p ∧ y = .ref p2 ∧ SqL K H p (ns.map V.int) ∧ SqL K H p2 (ms.map V.int) ∧ Q (.bl (lexG ns ms)) H
theorem ints_get : ∀ {vs : List Value} {ns : List Int}, IntsAre vs ns → ∀ (j : Nat) (h : j < vs.length), ∃ t, vs[j] = Value.int (ns.getD j 0) t
  | _, _, .cons n t r, 0, _ => ⟨t, rfl⟩
  | _, _, .cons n t r, j + 1, h => by
    obtain ⟨u, e⟩ := ints_get r j (by simpa using h)
    exact ⟨u, by simpa using e⟩
theorem op_gtL {X : Cx} (hu : X.A.units < cLine) : OpR X (compareOp .Gt) (rGtL X.K) := by
  intro pins s σ H x y v u Q I rx ry h
  obtain ⟨p, p2, ns, ms, rfl, rfl, h1, h2, q⟩ := h
  cases rx
  cases ry
  obtain ⟨us, r1, t1, _⟩ := I.list h1
  obtain ⟨ws, r2, t2, _⟩ := I.list h2
  have i1 := r1.ints
  have i2 := r2.ints
  have l1 : us.length = ns.length := by rw [← r1.length, List.length_map]
  have l2 : ws.length = ms.length := by rw [← r2.length, List.length_map]
  have R := SeqAt.RcOp.lists_gt (A := X.A) (s := s) (e := fun j => decide (ns.getD j 0 = ms.getD j 0)) (r := fun j => decide (ms.getD j 0 < ns.getD j 0)) t1.isList t2.isList hu
    (fun j g1 g2 => by
      obtain ⟨k1, e1⟩ := ints_get i1 j (by simpa using g1)
      obtain ⟨k2, e2⟩ := ints_get i2 j (by simpa using g2)
      simp only [List.getElem_toArray, e1, e2]
      exact eqAt_dec _ _ _ _)
    (fun j g1 g2 _ => by
      obtain ⟨k1, e1⟩ := ints_get i1 j (by simpa using g1)
      obtain ⟨k2, e2⟩ := ints_get i2 j (by simpa using g2)
      simp only [List.getElem_toArray, e1, e2]
      exact fun _ _ _ _ h => PyProof.Rows.gt_int h)
  refine R X.prog X.w X.xe (EP X pins σ Q) ⟨.bl _, H, I, rfl, ?_⟩
  have e := first_lexG id (fun j => decide (ns.getD j 0 = ms.getD j 0)) (fun j => decide (ms.getD j 0 < ns.getD j 0)) trivial ns ms 0 (fun j _ _ => by rw [Nat.zero_add]) (fun j _ _ => by rw [Nat.zero_add])
  rw [← List.range_eq_range'] at e
  rw [show us.toArray.size = ns.length by rw [List.size_toArray]; exact l1, show ws.toArray.size = ms.length by rw [List.size_toArray]; exact l2, e]
  exact q
def gtA (x y : D) : Option Bool := match x, y with
  | .con (.int i), .con (.int j) => some (decide (j < i))
  | .lst xs, .lst ys => (intsD xs).bind fun ns => (intsD ys).map fun ms => lexG ns ms
  | _, _ => none
abbrev rGtA (K : PySem.W.Frag) : R2 := fun x y H Q => rI0 (fun i j => .bl (decide (j < i))) x y H Q ∨ rGtL K x y H Q
theorem op_gtA {X : Cx} {k : Nat} (hr : Room k X.A) : OpR X (compareOp .Gt) (rGtA X.K) := OpR.or op_gt (op_gtL (by have := hr.units; omega))
theorem cs_gtA {K : PySem.W.Frag} : CmpS K (rGtA K) gtA := fun x y H d1 d2 k O Q v1 v2 e q => by
  unfold gtA at e
  split at e
  · cases e
    exact .inl ⟨_, _, v1.con, v2.con, q⟩
  · rename_i xs ys
    obtain ⟨ns, e1, e2⟩ := Option.bind_eq_some_iff.mp e
    obtain ⟨ms, e3, rfl⟩ := Option.map_eq_some_iff.mp e2
    obtain ⟨a1, vs, rfl, s1, r1⟩ := v1.lst
    obtain ⟨a2, us, rfl, s2, r2⟩ := v2.lst
    rw [intsD_of e1] at r1
    rw [intsD_of e3] at r2
    rw [r1.con_inv] at s1
    rw [r2.con_inv] at s2
    exact .inr ⟨a1, a2, _, _, rfl, rfl, s1, s2, q⟩
  · cases e
end L2.VL
end
section
set_option Elab.async false
set_option linter.all false
set_option maxRecDepth 100000
namespace L2.VL
open PySem PySem.Spec PyProof.Rows L2
end L2.VL
end
section
set_option Elab.async false
set_option linter.all false
set_option maxRecDepth 100000
namespace L2.VL
open PySem PySem.Spec PyProof.Rows L2
theorem readsAll_zip {h : Heap} : ∀ {us : List Value} {ds : List PyData} {as : List Addr}, ReadsAll h us ds as → us.length = ds.length ∧ ∀ q ∈ us.zip ds, ∃ bs, Reads h q.1 q.2 bs
  | [], [], _, _ => ⟨rfl, fun q hq => by cases hq⟩
  | u :: us, d :: ds, _, r => by
    cases r with
    | cons r1 r2 =>
      obtain ⟨h1, h2⟩ := readsAll_zip r2
      refine ⟨by simp [h1], fun q hq => ?_⟩
      rcases List.mem_cons.mp hq with rfl | hq
      · exact ⟨_, r1⟩
      · exact h2 q hq
  | [], _ :: _, _, r => by cases r
  | _ :: _, [], _, r => by cases r
def rInN (K : PySem.W.Frag) (neg : Bool) : R2 := fun x y H Q => ∃ d p xs ds, Dp K H x d ∧ y = .ref p ∧ SqL K H p xs ∧ DpAll K H xs ds ∧ SeqAt.shaped d = true ∧ ds.all SeqAt.shaped = true ∧ Q (.bl (if neg then !(ds.any fun e => PyData.eqv e d) else ds.any fun e => PyData.eqv e d)) H
open Classical in
theorem in_pick {A : Around} {s : Shared} {u : Value} {d : PyData} {as bs : List Addr} {us : List Value} {ds : List PyData} (hu : A.units + 64 < cLine) (ra : Reads s.heap u d as) (rb : ReadsAll s.heap us ds bs) (hd : SeqAt.shaped d = true) (hs : ds.all SeqAt.shaped = true) :
    ∃ e : Value → Bool, (∀ y ∈ us, SeqAt.EqAt A s y u (e y)) ∧ us.any e = ds.any fun e => PyData.eqv e d := by
  obtain ⟨hl, hz⟩ := readsAll_zip rb
  have at_ : ∀ q ∈ us.zip ds, SeqAt.EqAt A s q.1 u (PyData.eqv q.2 d) := fun q hq => by
    obtain ⟨cs, rq⟩ := hz q hq
    have sq : SeqAt.shaped q.2 = true := List.all_eq_true.mp hs q.2 (List.of_mem_zip hq).2
    exact SeqAt.eqAt_reads q.2 d A s q.1 u cs as rq ra (SeqAt.canLay_of_shaped sq) (SeqAt.canLay_of_shaped hd) (SeqAt.room_of_shaped sq hu)
  have left : ∀ y ∈ us, ∃ q ∈ us.zip ds, q.1 = y := fun y hy => by
    obtain ⟨i, hi, e⟩ := List.mem_iff_getElem.mp hy
    exact ⟨(us[i], ds[i]'(by omega)), List.mem_iff_getElem.mpr ⟨i, by rw [List.length_zip]; omega, by rw [List.getElem_zip]⟩, e⟩
  have right : ∀ z ∈ ds, ∃ q ∈ us.zip ds, q.2 = z := fun y hy => by
    obtain ⟨i, hi, e⟩ := List.mem_iff_getElem.mp hy
    exact ⟨(us[i]'(by omega), ds[i]), List.mem_iff_getElem.mpr ⟨i, by rw [List.length_zip]; omega, by rw [List.getElem_zip]⟩, e⟩
  refine ⟨fun y => decide (∃ q ∈ us.zip ds, q.1 = y ∧ PyData.eqv q.2 d = true), fun y hy => ?_, ?_⟩
  · by_cases h : ∃ q ∈ us.zip ds, q.1 = y ∧ PyData.eqv q.2 d = true
    · obtain ⟨q, h1, h2, h3⟩ := id h
      dsimp only
      rw [decide_eq_true h, ← h3, ← h2]
      exact at_ q h1
    · obtain ⟨q, h1, h2⟩ := left y hy
      have h3 : PyData.eqv q.2 d = false := by
        cases e : PyData.eqv q.2 d with
        | false => rfl
        | true => exact absurd ⟨q, h1, h2, e⟩ h
      dsimp only
      rw [decide_eq_false h, ← h3, ← h2]
      exact at_ q h1
  · rw [Bool.eq_iff_iff, List.any_eq_true, List.any_eq_true]
    constructor
    · rintro ⟨y, _, h⟩
      obtain ⟨q, h1, _, h3⟩ := of_decide_eq_true h
      exact ⟨q.2, (List.of_mem_zip h1).2, h3⟩
    · rintro ⟨z, hz, h⟩
      obtain ⟨q, h1, rfl⟩ := right z hz
      exact ⟨q.1, (List.of_mem_zip h1).1, decide_eq_true ⟨q, h1, rfl, h⟩⟩
section
variable {X : Cx}
theorem op_inN (hu : X.A.units + 65 < cLine) : OpR X (compareOp .In) (rInN X.K false) := by
  intro pins s σ H x y v u Q I rx ry h
  obtain ⟨d, p, xs, ds, hd, rfl, hq, hds, sd, sds, q⟩ := h
  cases ry
  obtain ⟨its, r, pl, hz⟩ := I.list hq
  obtain ⟨as, ra⟩ := Dp.reads I d x v hd rx
  obtain ⟨bs, rb⟩ := Dp.readsAll I ds xs its hds r
  obtain ⟨e, h1, h2⟩ := in_pick (A := X.A.in1) (by show X.A.units + 1 + 64 < _; omega) ra rb sd sds
  refine SeqAt.in_listAt e pl.isList (fun w hw => h1 w (by simpa using hw)) ⟨.bl _, H, I, rfl, ?_⟩
  rw [show its.toArray.any e = its.any e by simp, h2]
  exact q
theorem op_notInN (hu : X.A.units + 65 < cLine) : OpR X (compareOp .NotIn) (rInN X.K true) := by
  intro pins s σ H x y v u Q I rx ry h
  obtain ⟨d, p, xs, ds, hd, rfl, hq, hds, sd, sds, q⟩ := h
  cases ry
  obtain ⟨its, r, pl, hz⟩ := I.list hq
  obtain ⟨as, ra⟩ := Dp.reads I d x v hd rx
  obtain ⟨bs, rb⟩ := Dp.readsAll I ds xs its hds r
  obtain ⟨e, h1, h2⟩ := in_pick (A := X.A.in1) (by show X.A.units + 1 + 64 < _; omega) ra rb sd sds
  refine SeqAt.notIn_listAt e pl.isList (fun w hw => h1 w (by simpa using hw)) ⟨.bl _, H, I, rfl, ?_⟩
  rw [show its.toArray.any e = its.any e by simp, h2]
  exact q
end
def inN (x y : D) : Option Bool := match y with
  | .lst ds => if (okD 60 x && ds.all (okD 60)) = true then some (ds.any fun d => same d x) else none
  | _ => none
theorem reps_dp {K : PySem.W.Frag} {H : Hp} {O : Own} : ∀ {vs : List V} {ds : List D}, Reps K H (lin O) vs ds → ds.all (okD 60) = true → DpAll K H vs (ds.map toPy)
  | [], [], .nil, _ => .nil
  | v :: vs, d :: ds, .cons a b, h => by
    rw [List.all_cons, Bool.and_eq_true] at h
    exact .cons (Rep.dp 60 h.1 (.inl a)) (reps_dp b h.2)
theorem inN_of {K : PySem.W.Frag} {H : Hp} {O : Own} {u w : V} {x y : D} {k : Bool} (v1 : Vw K H O u x) (v2 : Vw K H O w y) (e : inN x y = some k) :
    ∃ d p xs ds, Dp K H u d ∧ w = .ref p ∧ SqL K H p xs ∧ DpAll K H xs ds ∧ SeqAt.shaped d = true ∧ ds.all SeqAt.shaped = true ∧ (ds.any fun e => PyData.eqv e d) = k := by
  unfold inN at e
  split at e
  · rename_i ds
    split at e
    · rename_i h
      rw [Bool.and_eq_true] at h
      cases e
      obtain ⟨a, vs, rfl, s, r⟩ := v2.lst
      have up : ∀ d, okD 60 d = true → okD 60 d = true := fun d h => h
      refine ⟨toPy x, a, vs, ds.map toPy, Rep.dp 60 h.1 v1, rfl, s, reps_dp r h.2, ok_shaped (up _ h.1), ?_, ?_⟩
      · rw [List.all_map, List.all_eq_true]
        intro d hd
        exact ok_shaped (up _ (List.all_eq_true.mp h.2 d hd))
      · rw [List.any_map]
        have : ∀ l : List D, l.all (okD 60) = true → (l.any ((fun e => PyData.eqv e (toPy x)) ∘ toPy)) = l.any fun d => same d x := by
          intro l
          induction l with
          | nil => intro _; rfl
          | cons d l ih =>
            intro hl
            rw [List.all_cons, Bool.and_eq_true] at hl
            rw [List.any_cons, List.any_cons, ih hl.2]
            show (PyData.eqv (toPy d) (toPy x) || _) = _
            rw [same_eqv 60 60 d x hl.1 h.1]
        exact this ds h.2
    · cases e
  · cases e
def inB (x y : D) : Option Bool := (inA x y).or (inN x y)
def notInB (x y : D) : Option Bool := (inB x y).map not
abbrev rInB (K : PySem.W.Frag) : R2 := fun x y H Q => (rIn K false x y H Q ∨ rInS x y H Q) ∨ rInN K false x y H Q
abbrev rNotInB (K : PySem.W.Frag) : R2 := fun x y H Q => (rIn K true x y H Q ∨ rNotInS x y H Q) ∨ rInN K true x y H Q
theorem op_inB {X : Cx} {k : Nat} (hr : Room k X.A) : OpR X (compareOp .In) (rInB X.K) := OpR.or op_inA (op_inN (by have := hr.un; omega))
theorem op_notInB {X : Cx} {k : Nat} (hr : Room k X.A) : OpR X (compareOp .NotIn) (rNotInB X.K) := OpR.or op_notInA (op_notInN (by have := hr.un; omega))
theorem cs_inB {K : PySem.W.Frag} : CmpS K (rInB K) inB := fun a b H x y k O Q v1 v2 e q => by
  unfold inB at e
  cases h : inA x y with
  | some j =>
    rw [h] at e
    cases e
    exact .inl (cs_inA a b H x y k O Q v1 v2 h q)
  | none =>
    rw [h] at e
    obtain ⟨d, p, xs, ds, e1, e2, e3, e4, e5, e6, e7⟩ := inN_of v1 v2 (show inN x y = some k from e)
    exact .inr ⟨d, p, xs, ds, e1, e2, e3, e4, e5, e6, by rw [e7]; exact q⟩
theorem cs_notInB {K : PySem.W.Frag} : CmpS K (rNotInB K) notInB := fun a b H x y k O Q v1 v2 e q => by
  obtain ⟨k', e1, e0⟩ := Option.map_eq_some_iff.mp e
  unfold inB at e1
  cases h : inA x y with
  | some j =>
    rw [h] at e1
    cases e1
    exact .inl (cs_notInA a b H x y k O Q v1 v2 (by unfold notInA; rw [h]; exact congrArg some e0) q)
  | none =>
    rw [h] at e1
    obtain ⟨d, p, xs, ds, e2, e3, e4, e5, e6, e7, e8⟩ := inN_of v1 v2 (show inN x y = some k' from e1)
    refine .inr ⟨d, p, xs, ds, e2, e3, e4, e5, e6, e7, ?_⟩
    rw [e8, if_pos rfl, e0]
    exact q
end L2.VL
end
section
set_option Elab.async false
set_option linter.all false
set_option maxRecDepth 100000
set_option maxHeartbeats 2000000
namespace L2.VL
open PySem PySem.Spec PyProof.Rows L2
theorem CxG.tr {X : Cx} (c : CxG X) {pn : List (Addr × Obj)} {xe : Value → Shared → Prop} (h : PassesOwn (model X.prog X.w) X.A X.env xe) : CxG (X.tr pn xe) := ⟨c.calm, c.nd, h, c.gu⟩
theorem FnCx.tr {X : Cx} {k : Nat} (c : FnCx X k) {pn : List (Addr × Obj)} {xe : Value → Shared → Prop} (h : PassesOwn (model X.prog X.w) X.A X.env xe) : FnCx (X.tr pn xe) k := ⟨c.g.tr h, c.room⟩
end L2.VL
end
section
set_option Elab.async false
set_option linter.all false
set_option maxRecDepth 100000
namespace L2.VL
open PySem PySem.Spec PyProof.Rows L2
def oexB (K : PySem.W.Frag) (C : Addr) : Bool := match K.lookup C with
  | some ⟨.type "type", _, .cls cd, sl⟩ => (match cd.mro, sl.toList with
    | .ref C' :: bm, [_, _, _, _, some (.builtin n), _] => C' == C && n == "ValueError.__new__" && !cd.hasDel && cd.hasDict && PySem.HandSPX.refsVE bm
    | _, _ => false)
  | _ => false
inductive Fc where
  | rk (x : Str)
  | ini (x f : Str)
  /-- isinstance may ask its instances; the answer for an own class, for a built-in one -/
  | kx (x : Str)
  | ko (x t : Str) (b : Bool)
  | kb (x : Str) (t : String) (b : Bool)
def valB (r : Option PySem.W.CFound) (v : Value) : Bool := match r with
  | some (.val u) => u == v
  | _ => false
def Fc.ok (K : PySem.W.Frag) : Fc → Bool
  | .rk x => He.eqO (PySem.W.specialIn K (.ref (He.ga K x)) "__getattribute__") (some (some (.builtin "type.__getattribute__"))) && (PySem.W.readsIn K (He.ga K x) (.type "type") && valB (PySem.W.findCls K (.ref (He.ga K x)) (.type "type") "__init__") (.builtin "ValueError.__init__"))
  | .ini x f => oexB K (He.ga K x) && (He.eqO (PySem.W.findIn K (.ref (He.ga K x)) "__setattr__") (some (some (.builtin "object.__setattr__"))) && (decide (PySem.W.subIn K (.ref (He.ga K x)) (.type "BaseException") = some true) && (decide (PySem.W.typeIn K (.ref (He.ga K x)) = some (.type "type")) && (PySem.W.keepIn K (.ref (He.ga K x)) &&
      (He.eqO (PySem.W.findIn K (.ref (He.ga K x)) "__init__") (some (some (.ref (He.ma K (He.ga K x) "__init__")))) && (decide (PySem.W.typeIn K (.ref (He.ma K (He.ga K x) "__init__")) = some (.type "function")) && (He.eqO (PySem.W.findIn K (.ref (He.ga K x)) f) (some none) && xfB K (He.ga K x))))))))
  | .kx x => (PySem.W.clsIn K (He.ga K x)).isSome && (He.eqO (PySem.W.findIn K (.ref (He.ga K x)) "__getattribute__") (some (some (.builtin "BaseException.__getattribute__"))) && (He.eqO (PySem.W.findIn K (.ref (He.ga K x)) "__getattr__") (some none) && (decide (PySem.W.subIn K (.ref (He.ga K x)) (.type "BaseException") = some true) &&
      (He.eqO (PySem.W.findIn K (.ref (He.ga K x)) "__class__") (some (some (.builtin "object.__class__"))) && (He.eqO (PySem.W.specialIn K (.builtin "object.__class__") "__get__") (some (some (.builtin "getset_descriptor.__get__"))) && (decide (PySem.W.takesIn K (.builtin "object.__class__") = some true) && decide (PySem.W.mroIn K (He.ga K x) (.type "object") = some true)))))))
  | .ko x t b => decide (PySem.W.kitOne K (.ref (He.ga K x)) (.ref (He.ga K t)) = some b)
  | .kb x t b => decide (PySem.W.kitOne K (.ref (He.ga K x)) (.type t) = some b)
end L2.VL
end
section
set_option Elab.async false
set_option linter.all false
set_option maxRecDepth 100000
namespace L2.VL
open PySem PySem.Spec PyProof.Rows L2
def isCon : D → Bool
  | .con _ => true
  | _ => false
theorem conL_map {α : Type} (f : α → V) : ∀ as : List α, (as.map fun a => D.con (f a)).all isCon = true
  | [] => rfl
  | _ :: as => by rw [List.map_cons, List.all_cons, conL_map f as]; rfl
theorem reps_con {K : PySem.W.Frag} {H H' : Hp} {L L' : Addr → Prop} : ∀ {vs : List V} {ds : List D}, ds.all isCon = true → Reps K H L vs ds → Reps K H' L' vs ds
  | [], [], _, .nil => .nil
  | v :: vs, d :: ds, h, .cons a b => by
    rw [List.all_cons, Bool.and_eq_true] at h
    cases d with
    | con c => rw [a.con_inv]; exact .cons (.con c) (reps_con h.2 b)
    | lst _ => cases h.1
    | tup _ => cases h.1
    | dic _ => cases h.1
    | dit _ => cases h.1
    | own _ => cases h.1
    | exv _ => cases h.1
    | dix _ => cases h.1
    | fnv _ _ _ => cases h.1
def dLnd (r : DE) : DE := fun ρ => match r (ρ.map lent) with
  | .ok (.lst ds, .fr) _ => if ds.all isCon = true then .ok (.lst ds, .fr) ρ else .stuck
  | _ => .stuck
theorem Rel.unlendL {G : Fix} {O O' : Own} {σ : St} {H H' : Hp} {ρ ρ' : Rho} {v : V} {ds : List D} (R : Rel G O σ H ρ []) (R' : Rel (frzT G.K H G.Pin) O' σ H' ρ' [⟨v, .lst ds, .fr⟩]) (hc : ds.all isCon = true) : ∃ O2, Rel G O2 σ H' ρ [⟨v, .lst ds, .fr⟩] := by
  obtain ⟨up, tt⟩ := R.frzUp R'
  have ow : Owned G.K H' O' (.tp 0) v (.lst ds) := OwnX.flat (show OwnX _ _ _ _ _ _ from R'.tm.1)
  obtain ⟨a, ho, rfl, h1, h2, c⟩ := ow
  have ha : H a = none := by
    cases e : H a with
    | none => rfl
    | some o =>
      have nt : G.Tb a = none := by
        cases et : G.Tb a with
        | none => rfl
        | some q =>
          have y := (R'.ot a).mpr (show (tbk G.K a).isSome = true by rw [show tbk G.K a = some q from et]; rfl)
          rw [h1] at y; cases y
      rw [(R.frzUpT R' nt e).2] at h1
      cases h1
  have oa : O a = none := R.lout a ha
  have ne : ∀ {b : Addr} {o : HO}, H b = some o → b ≠ a := fun e z => by rw [z, ha] at e; cases e
  have st : Stay H H' (lin O) (lin (oset O a (some (.tp 0)))) := fun b o n e => ⟨up b o (fun z => n (by unfold lin; rw [z]; simp)) e, by
    unfold lin at n ⊢
    rw [oset_ne (ne e)]; exact n⟩
  refine ⟨oset O a (some (.tp 0)), R.len, fun b o e => ?_, fun b => ?_, fun b w e => ?_, R.pn, fun i s e => ?_, .inl ⟨a, ho, rfl, oset_eq rfl, h2, ?_⟩, trivial⟩
  · obtain ⟨p, q⟩ := R.fr b o e
    rw [oset_ne (ne p)]
    exact ⟨(R.frzUpT R' (tb_none e) p).1, q⟩
  · by_cases z : b = a
    · rw [oset_eq z]
      constructor
      · intro y; cases y
      · intro y
        have := (R.ot b).mpr y
        rw [z, oa] at this; cases this
    · rw [oset_ne z]; exact R.ot b
  · by_cases z : b = a
    · refine ⟨⟨ho, by rw [z]; exact h2⟩, fun q hq => ?_⟩
      have := tb_out R hq
      rw [z, oa] at this; cases this
    · rw [oset_ne z] at e
      exact tt b w e
  · obtain ⟨u, p, q⟩ := R.sl i s e
    refine ⟨u, p, slot_mono st (fun b o e1 e2 => ⟨?_, up b o (by rw [e1]; simp) e2⟩) q⟩
    rw [oset_ne (ne e2)]; exact e1
  · cases c with
    | lst r => exact .lst (reps_con hc r)
theorem se_lnd {X : Cx} {e : Expr} {r : DE} (h : SE X e r) : SE X e (dLnd r) := fun W tk => PE.imp (h W tk) fun σ H Q ⟨G, O, ρ, hK, R, h⟩ => by
  refine ⟨(frzT G.K H G.Pin), _, _, hK, R.lend, ?_⟩
  unfold dLnd at h
  cases q : r (ρ.map lent) with
  | stuck => rw [q] at h; exact h.elim
  | ex x ρ' => rw [q] at h; exact h.elim
  | ok x ρ' =>
    rw [q] at h
    obtain ⟨d, k⟩ := x
    cases d with
    | lst ds =>
      cases k with
      | fr =>
        dsimp only at h
        by_cases hc : ds.all isCon = true
        · rw [if_pos hc] at h
          intro O1 v H1 R1
          obtain ⟨O2, R2⟩ := R.unlendL R1 hc
          exact h O2 v H1 R2
        · rw [if_neg hc] at h
          exact h.elim
      | shr => exact h.elim
      | nm i => exact h.elim
    | con _ => exact h.elim
    | tup _ => exact h.elim
    | dic _ => exact h.elim
    | dit _ => exact h.elim
    | own _ => exact h.elim
    | exv _ => exact h.elim
    | dix _ => exact h.elim
    | fnv _ _ _ => exact h.elim
end L2.VL
end
section
set_option Elab.async false
set_option linter.all false
set_option maxRecDepth 100000
set_option maxHeartbeats 2000000
namespace L2.VL
open PySem PySem.Spec PyProof.Rows L2 PySem.W
end L2.VL
end
section
set_option Elab.async false
set_option linter.all false
set_option maxRecDepth 100000
set_option maxHeartbeats 2000000
namespace L2.VL
open PySem PySem.Spec PyProof.Rows L2
def putD (kvs : List (Key × D)) (k : Key) (d : D) : List (Key × D) :=
  if (kvs.any fun kv => decide (kv.1 = k)) = true then kvs.map (fun kv => if kv.1 = k then (kv.1, d) else kv) else kvs ++ [(k, d)]
theorem RepK.any {K : PySem.W.Frag} {H : Hp} {L : Addr → Prop} {k : Key} : ∀ {vs : List (Key × V)} {ds : List (Key × D)}, RepK K H L vs ds → (vs.any fun kv => decide (kv.1 = k)) = ds.any fun kv => decide (kv.1 = k)
  | _, _, .nil => rfl
  | _, _, .cons _ rs => by rw [List.any_cons, List.any_cons, RepK.any rs]
theorem RepK.mapK {K : PySem.W.Frag} {H : Hp} {L : Addr → Prop} {k : Key} {v : V} {d : D} (r : Rep K H L v d) : ∀ {vs : List (Key × V)} {ds : List (Key × D)}, RepK K H L vs ds → RepK K H L (vs.map fun kv => if kv.1 = k then (kv.1, v) else kv) (ds.map fun kv => if kv.1 = k then (kv.1, d) else kv)
  | _, _, .nil => .nil
  | (a, _) :: _, _, .cons r0 rs => by
    rw [List.map_cons, List.map_cons]
    by_cases q : a = k
    · rw [if_pos q, if_pos q]
      exact .cons r (RepK.mapK r rs)
    · rw [if_neg q, if_neg q]
      exact .cons r0 (RepK.mapK r rs)
theorem RepK.snoc {K : PySem.W.Frag} {H : Hp} {L : Addr → Prop} {k : Key} {v : V} {d : D} (r : Rep K H L v d) : ∀ {vs : List (Key × V)} {ds : List (Key × D)}, RepK K H L vs ds → RepK K H L (vs ++ [(k, v)]) (ds ++ [(k, d)])
  | _, _, .nil => .cons r .nil
  | _, _, .cons r0 rs => .cons r0 (RepK.snoc r rs)
theorem RepK.put {K : PySem.W.Frag} {H : Hp} {L : Addr → Prop} {k : Key} {v : V} {d : D} (r : Rep K H L v d) {vs : List (Key × V)} {ds : List (Key × D)} (rs : RepK K H L vs ds) : RepK K H L (putK vs k v) (putD ds k d) := by
  unfold putK putD
  rw [RepK.any rs]
  split
  · exact RepK.mapK r rs
  · exact RepK.snoc r rs
theorem RepK.len {K : PySem.W.Frag} {H : Hp} {L : Addr → Prop} : ∀ {vs : List (Key × V)} {ds : List (Key × D)}, RepK K H L vs ds → vs.length = ds.length
  | _, _, .nil => rfl
  | _, _, .cons _ rs => congrArg Nat.succ (RepK.len rs)
end L2.VL
end
section
set_option Elab.async false
set_option linter.all false
set_option maxRecDepth 100000
namespace L2.VL
open PySem PySem.Spec PyProof.Rows L2
end L2.VL
end
section
set_option Elab.async false
set_option linter.all false
set_option maxRecDepth 100000
namespace L2.VL
open PySem PySem.Spec PyProof.Rows L2
end L2.VL
end
section
set_option Elab.async false
set_option linter.all false
set_option maxRecDepth 100000
namespace L2.VL
open PySem PySem.Spec PyProof.Rows L2
end L2.VL
end
section
set_option Elab.async false
set_option linter.all false
set_option maxRecDepth 100000
namespace L2.VL
open PySem PySem.Spec PyProof.Rows L2
def optAll {α β : Type} (f : α → Option β) : List α → Option (List β)
  | [] => some []
  | x :: xs => match f x with
    | some y => (optAll f xs).map (y :: ·)
    | none => none
theorem optAll_cons {α β : Type} {f : α → Option β} {x : α} {xs : List α} {zs : List β} (h : optAll f (x :: xs) = some zs) : ∃ y ys, f x = some y ∧ optAll f xs = some ys ∧ zs = y :: ys := by
  unfold optAll at h
  split at h
  · rename_i y e
    obtain ⟨ys, e2, rfl⟩ := Option.map_eq_some_iff.mp h
    exact ⟨y, ys, e, e2, rfl⟩
  · cases h
def keyPy : Key → PyData
  | .inl i => .int i
  | .inr x => .str x
def entPy (f : D → Option PyData) (e : Key × D) : Option (PyData × PyData) := (f e.2).map fun y => (keyPy e.1, y)
/-- data as plain Python data, at most n deep -/
def toPyN : Nat → D → Option PyData
  | _, .con .non => some .none
  | _, .con (.bl b) => some (.bool b)
  | _, .con (.int i) => some (.int i)
  | _, .con (.str x) => some (.str x)
  | n + 1, .lst ds => (optAll (toPyN n) ds).map .list
  | n + 1, .tup ds => (optAll (toPyN n) ds).map .tuple
  | n + 1, .dic kvs => (optAll (entPy (toPyN n)) kvs).map .dict
  | _, _ => none
def Shw (P : Program) (w : World) (h : Heap) (u : Value) (p : PyData) : Prop := (∃ as, Reads h u p as) ∧ ∃ bs, ReadAtMost h p.depth bs ∧ ReprK P w bs h p.depth u p.shown
def ShwA (P : Program) (w : World) (h : Heap) (us : List Value) (ps : List PyData) : Prop := (∃ as, ReadsAll h us ps as) ∧ ∃ bs, ReadAtMost h (PyData.depthAll ps) bs ∧ ReprAllK P w bs h (PyData.depthAll ps) us (PyData.shownAll ps)
section
variable {P : Program} {w : World} {h : Heap} {u : Value} {us : List Value} {p : PyData} {ps : List PyData}
theorem ShwA.nil : ShwA P w h [] [] := ⟨⟨[], .nil⟩, [], (fun _ z => nomatch z), by simp only [PyData.shownAll]; exact .nil⟩
theorem ShwA.cons (h1 : Shw P w h u p) (h2 : ShwA P w h us ps) : ShwA P w h (u :: us) (p :: ps) := by
  obtain ⟨⟨as, r⟩, bs, m, k⟩ := h1
  obtain ⟨⟨as2, r2⟩, bs2, m2, k2⟩ := h2
  refine ⟨⟨_, .cons r r2⟩, bs ++ bs2, ?_, ?_⟩
  · simp only [PyData.depthAll]
    exact (m.mono (Nat.le_max_left _ _)).append (m2.mono (Nat.le_max_right _ _))
  · simp only [PyData.depthAll, PyData.shownAll]
    exact .cons ((k.more fun b z => List.mem_append_left _ z).level_le (Nat.le_max_left _ _)) (k2.more_le (fun b z => List.mem_append_right _ z) (Nat.le_max_right _ _))
theorem shw_list {a : Addr} {o : Obj} {its : List Value} {n : Nat} (g : h.get? a = some o) (c : o.cls = .type "list") (d : o.data = .seq its.toArray n) (A : ShwA P w h its ps) : Shw P w h (.ref a) (.list ps) := by
  obtain ⟨⟨as, r⟩, bs, m, k⟩ := A
  have rd : Reads h (.ref a) (.list ps) (a :: as) := .list g c d (by simpa using r)
  have far : a ∉ bs := not_mem_of_deeper rd (by simp only [PyData.depth]; omega) m
  refine ⟨⟨_, rd⟩, a :: bs, ReadAtMost.cons rd (by simp only [PyData.depth]; omega) m, ?_⟩
  simp only [PyData.depth, PyData.shown]
  cases its with
  | nil =>
    cases r
    simp only [PyData.shownAll, listText_nil]
    exact ReprK.listEmpty g c d
  | cons x l => exact ReprK.list g c d far (by simpa using k.length_eq) fun i y e => k.item i y (by simpa using e)
theorem shw_tuple {a : Addr} {o : Obj} {its : List Value} {n : Nat} (g : h.get? a = some o) (c : o.cls = .type "tuple") (d : o.data = .seq its.toArray n) (A : ShwA P w h its ps) : Shw P w h (.ref a) (.tuple ps) := by
  obtain ⟨⟨as, r⟩, bs, m, k⟩ := A
  have rd : Reads h (.ref a) (.tuple ps) as := .tuple g c d (by simpa using r)
  have far : a ∉ bs := not_mem_of_deeper rd (by simp only [PyData.depth]; omega) m
  refine ⟨⟨_, rd⟩, a :: bs, ReadAtMost.cons rd (by simp only [PyData.depth]; omega) m, ?_⟩
  simp only [PyData.depth, PyData.shown]
  exact ReprK.tuple g c d far (by simpa using k)
theorem shw_key {k : Key} (e : keyIs k u = true) (hs : (keyPy k).showable = true) (hz : (keyPy k).shown.length ≤ sizeLine) : Shw P w h u (keyPy k) := by
  rcases keyIs_shape e with ⟨i, t, rfl, rfl⟩ | ⟨x, t, rfl, rfl⟩
  · refine ⟨⟨[], .int i t⟩, [], (fun _ z => nomatch z), ?_⟩
    show ReprK P w [] h _ _ (PyData.shown (.int i))
    simp only [PyData.shown]
    exact .of_is (ReprIs.int t (by simpa [PyData.showable, keyPy] using hs)) _ _ _
  · refine ⟨⟨[], .str x t⟩, [], (fun _ z => nomatch z), ?_⟩
    show ReprK P w [] h _ _ (PyData.shown (.str x))
    simp only [PyData.shown]
    exact .of_is (ReprIs.str x t (by simpa only [PyData.shown, keyPy] using hz)) _ _ _
theorem shw_dict {a : Addr} {o : Obj} {es : Array DictEntry} {n : Nat} {kvs : List (PyData × PyData)} (g : h.get? a = some o) (c : o.cls = .type "dict") (d : o.data = .dict es n) (low : (a == sysModules) = false) (K : ShwA P w h (es.toList.map (·.key)) (kvs.map (·.1))) (V : ShwA P w h (es.toList.map (·.val)) (kvs.map (·.2))) :
    Shw P w h (.ref a) (.dict kvs) := by
  obtain ⟨⟨as, r⟩, bs, m, k⟩ := K
  obtain ⟨⟨as2, r2⟩, bs2, m2, k2⟩ := V
  have rd : Reads h (.ref a) (.dict kvs) _ := .dict g c d r r2
  have mm : ReadAtMost h (PyData.depthKv kvs) (bs ++ bs2) := (m.mono (PyData.depthAll_keys_le kvs)).append (m2.mono (PyData.depthAll_vals_le kvs))
  have far : a ∉ bs ++ bs2 := not_mem_of_deeper rd (by simp only [PyData.depth]; omega) mm
  refine ⟨⟨_, rd⟩, a :: (bs ++ bs2), ReadAtMost.cons rd (by simp only [PyData.depth]; omega) mm, ?_⟩
  simp only [PyData.depth, PyData.shown, PyData.shownKv_eq]
  exact ReprK.dict g c d low far (ReprEntriesK.of_two es.toList _ _ (k.more_le (fun b z => List.mem_append_left _ z) (PyData.depthAll_keys_le kvs)) (k2.more_le (fun b z => List.mem_append_right _ z) (PyData.depthAll_vals_le kvs)))
end
section
variable {X : Cx} {pins : List (Addr × Obj)} {σ : St} {H : Hp} {s : Shared} {O : Own}
theorem shw_all (f : D → Option PyData) (ih : ∀ v d u p, Vw X.K H O v d → RelV v u → f d = some p → p.showable = true → p.shown.length ≤ sizeLine → Shw X.prog X.w s.heap u p) :
    ∀ {vs : List V} {ds : List D} {us : List Value} {ps : List PyData}, Reps X.K H (lin O) vs ds → Vals vs us → optAll f ds = some ps → PyData.showableAll ps = true → (∀ t ∈ PyData.shownAll ps, t.length ≤ sizeLine) → ShwA X.prog X.w s.heap us ps
  | _, _, _, _, .nil, .nil, e, _, _ => by cases e; exact .nil
  | _, _, _, _, .cons r rs, .cons v vs, e, hs, hz => by
    obtain ⟨p, ps, e1, e2, rfl⟩ := optAll_cons e
    simp only [PyData.showableAll, Bool.and_eq_true] at hs
    simp only [PyData.shownAll, List.mem_cons, forall_eq_or_imp] at hz
    exact .cons (ih _ _ _ _ (.inl r) v e1 hs.1 hz.1) (shw_all f ih rs vs e2 hs.2 hz.2)
theorem shw_ents (f : D → Option PyData) (ih : ∀ v d u p, Vw X.K H O v d → RelV v u → f d = some p → p.showable = true → p.shown.length ≤ sizeLine → Shw X.prog X.w s.heap u p) :
    ∀ {vs : List (Key × V)} {ds : List (Key × D)} {us : List (Key × Value)} {es : List DictEntry} {ps : List (PyData × PyData)}, RepK X.K H (lin O) vs ds → KV vs us → Pairs (mixKind X.prog X.w) es us → optAll (entPy f) ds = some ps → PyData.showableKv ps = true →
      (∀ t ∈ PyData.shownKv ps, t.length ≤ sizeLine) → ShwA X.prog X.w s.heap (es.map (·.key)) (ps.map (·.1)) ∧ ShwA X.prog X.w s.heap (es.map (·.val)) (ps.map (·.2))
  | _, _, _, _, _, .nil, .nil, .nil, e, _, _ => by cases e; exact ⟨.nil, .nil⟩
  | _, _, _, _, _, .cons r rs, .cons v vs, .cons k q es, e, hs, hz => by
    obtain ⟨p, ps, e1, e2, rfl⟩ := optAll_cons e
    obtain ⟨y, e3, rfl⟩ := Option.map_eq_some_iff.mp e1
    simp only [PyData.showableKv, Bool.and_eq_true] at hs
    simp only [PyData.shownKv, List.mem_cons, forall_eq_or_imp, strLen_append] at hz
    obtain ⟨A, B⟩ := shw_ents f ih rs vs es e2 hs.2 hz.2
    have hz1 := hz.1
    obtain ⟨v1, v2⟩ := v
    rw [← v1] at k
    dsimp only at k q v2 e3 hs hz ⊢
    rw [← q] at v2
    exact ⟨.cons (shw_key k hs.1.1 (by omega)) A, .cons (ih _ _ _ _ (.inl r) v2 e3 hs.1.2 (by show y.shown.length ≤ _; omega)) B⟩
theorem shw_of (I : Inv X pins σ H s) : ∀ (n : Nat) (v : V) (d : D) (u : Value) (p : PyData), Vw X.K H O v d → RelV v u → toPyN n d = some p → p.showable = true → p.shown.length ≤ sizeLine → Shw X.prog X.w s.heap u p := by
  have plain : ∀ (c : V) (v : V) (u : Value) (p : PyData), Vw X.K H O v (.con c) → RelV v u → toPyN 0 (.con c) = some p → p.showable = true → p.shown.length ≤ sizeLine → Shw X.prog X.w s.heap u p := by
    intro c v u p vw rv e hs hz
    have ev := vw.con
    subst ev
    cases v <;> try (cases e; done)
    case non => cases e; cases (show u = Value.none from rv); exact ⟨⟨[], .none⟩, [], (fun _ z => nomatch z), by simp only [PyData.shown]; exact .of_is ReprIs.none _ _ _⟩
    case bl b => cases e; cases (show u = Value.bool b from rv); exact ⟨⟨[], .bool b⟩, [], (fun _ z => nomatch z), by simp only [PyData.shown]; exact .of_is (ReprIs.bool b) _ _ _⟩
    case int i => cases e; obtain ⟨t, rfl⟩ := rv; exact ⟨⟨[], .int i t⟩, [], (fun _ z => nomatch z), by simp only [PyData.shown]; exact .of_is (ReprIs.int t (by simpa [PyData.showable] using hs)) _ _ _⟩
    case str x => cases e; obtain ⟨t, rfl⟩ := rv; exact ⟨⟨[], .str x t⟩, [], (fun _ z => nomatch z), by simp only [PyData.shown]; exact .of_is (ReprIs.str x t (by simpa only [PyData.shown] using hz)) _ _ _⟩
  intro n
  induction n with
  | zero =>
    intro v d u p vw rv e hs hz
    cases d with
    | con c => exact plain c v u p vw rv e hs hz
    | _ => cases e
  | succ n ih =>
    intro v d u p vw rv e hs hz
    cases d with
    | con c => exact plain c v u p vw rv (by cases c <;> exact e) hs hz
    | dit _ => cases e
    | own _ => cases e
    | exv _ => cases e
    | dix _ => cases e
    | fnv _ _ _ => cases e
    | lst ds =>
      obtain ⟨ps, e1, rfl⟩ := Option.map_eq_some_iff.mp e
      obtain ⟨a, vs, rfl, sq, rp⟩ := vw.lst
      cases (show u = Value.ref a from rv)
      obtain ⟨its, vals, ⟨o, k, g, c, _, dt⟩, _⟩ := I.list sq
      exact shw_list g c dt (shw_all (toPyN n) ih rp vals e1 (by simpa [PyData.showable] using hs) fun t m => Nat.le_trans (listText_mem_le m) (by simpa only [PyData.shown] using hz))
    | tup ds =>
      obtain ⟨ps, e1, rfl⟩ := Option.map_eq_some_iff.mp e
      obtain ⟨a, vs, rfl, sq, rp⟩ := vw.tup
      cases (show u = Value.ref a from rv)
      obtain ⟨its, vals, tupO, _⟩ := I.tuple sq
      obtain ⟨o, g, c, k, dt⟩ := tupO
      exact shw_tuple g c dt (shw_all (toPyN n) ih rp vals e1 (by simpa [PyData.showable] using hs) fun t m => Nat.le_trans (tupleText_mem_le m) (by simpa only [PyData.shown] using hz))
    | dic ds =>
      obtain ⟨ps, e1, rfl⟩ := Option.map_eq_some_iff.mp e
      have : ∃ a vs, v = .ref a ∧ Rd H a (.dK vs) ∧ RepK X.K H (lin O) vs ds := by
        rcases vw with r | ⟨a, ho, ev, g, c⟩ | ⟨_, _, _, z⟩
        · cases r with
          | obj n r c => cases c with | dic c => exact ⟨_, _, rfl, r, c⟩
        · cases c with | dic c => exact ⟨a, _, ev, .inl g, c⟩
        · cases z
      obtain ⟨a, vs, rfl, rd, rp⟩ := this
      cases (show u = Value.ref a from rv)
      obtain ⟨_, low, us, kv, o, es, k, g, c, dt, _, prs, _⟩ := dk_rd I.hok rd
      obtain ⟨A, B⟩ := shw_ents (toPyN n) ih rp kv prs e1 (by simpa [PyData.showable] using hs) fun t m => Nat.le_trans (dictText_mem_le m) (by simpa only [PyData.shown] using hz)
      exact shw_dict g c.1 dt low A B
/-- repr(e) -/
def rRepr (K : PySem.W.Frag) : List V → Hp → VK → Prop := fun xs H Q => ∃ v O d p, xs = [v] ∧ Vw K H O v d ∧ toPyN 60 d = some p ∧ p.showable = true ∧ p.shown.length ≤ sizeLine ∧ p.depth ≤ 100 ∧ (∀ kvs, p ≠ .dict kvs) ∧ Q (.str p.shown) H
theorem cr_repG {X : Cx} (gu : X.A.guards = some []) (room : Room 0 X.A) : CallR X (.builtin "repr") (rRepr X.K) := by
  intro pins s σ H xs us Q I r h
  obtain ⟨v, O, d, p, rfl, vw, e, hs, hz, dp, nd, q⟩ := h
  cases r with
  | cons r0 rr =>
    cases rr
    rename_i u
    have fin : ∀ (h' : Heap) (t tk : Nat), (∀ b o, s.heap.get? b = some o → h'.get? b = some o) → EP X pins σ Q (.str p.shown t) { s with heap := h', toks := tk } := fun h' t tk kp => ⟨.str p.shown, H, I.kept kp, ⟨t, rfl⟩, q⟩
    have un := room.un
    cases d with
    | dit _ => cases e
    | own _ => cases e
    | exv _ => cases e
    | dix _ => cases e
    | fnv _ _ _ => cases e
    | dic ds =>
      obtain ⟨ps, _, rfl⟩ := Option.map_eq_some_iff.mp e
      exact absurd rfl (nd _)
    | con c =>
      have ev := vw.con
      subst ev
      cases v <;> try (cases e; done)
      case non => cases e; cases (show u = Value.none from r0); simp only [PyData.shown] at fin; exact PySem.P.repr_of_none (fin _ _ _ fun _ _ z => z)
      case bl b => cases e; cases (show u = Value.bool b from r0); simp only [PyData.shown] at fin; exact PySem.P.repr_of_bool (fin _ _ _ fun _ _ z => z)
      case int i => cases e; obtain ⟨t, rfl⟩ := r0; simp only [PyData.shown] at fin; exact PySem.P.repr_of_int (by simpa [PyData.showable] using hs) (fin _ _ _ fun _ _ z => z)
      case str x => cases e; obtain ⟨t, rfl⟩ := r0; simp only [PyData.shown] at fin hz; exact PySem.P.repr_of_str (fin _ _ _ fun _ _ z => z) hz
    | lst ds =>
      obtain ⟨ps, e1, rfl⟩ := Option.map_eq_some_iff.mp e
      obtain ⟨a, vs, rfl, sq, rp⟩ := vw.lst
      cases (show u = Value.ref a from r0)
      obtain ⟨its, vals, ⟨o, k, g, c, _, dt⟩, _⟩ := I.list sq
      obtain ⟨⟨as, rd⟩, bs, m, al⟩ := shw_all (toPyN 59) (shw_of I 59) rp vals e1 (by simpa [PyData.showable] using hs) fun t m => Nat.le_trans (listText_mem_le m) (by simpa only [PyData.shown] using hz)
      have far : a ∉ bs := not_mem_of_deeper (Reads.list g c dt (by simpa using rd)) (by simp only [PyData.depth]; omega) m
      simp only [PyData.depth] at dp
      simp only [PyData.shown] at fin hz
      refine call_repr_slot (by omega) ⟨o, g, c⟩ F.slot_list_repr.toG ?_
      cases its with
      | nil =>
        cases rd
        simp only [PyData.shownAll, listText_nil] at fin
        exact call_list_repr_empty ⟨o, g, c⟩ g dt ⟨_, _, rfl, fin _ _ _ fun _ _ z => z⟩
      | cons x l => exact call_list_reprK g c dt far (by simpa using al.length_eq) (fun i y e => al.item i y (by simpa using e)) gu (fun b _ => Clear.nil b) (by show X.A.units + 1 + _ < _; omega) (fun _ _ z => z) (fun h' t tk kp => ⟨_, _, rfl, fin h' t tk kp⟩) hz
    | tup ds =>
      obtain ⟨ps, e1, rfl⟩ := Option.map_eq_some_iff.mp e
      obtain ⟨a, vs, rfl, sq, rp⟩ := vw.tup
      cases (show u = Value.ref a from r0)
      obtain ⟨its, vals, tupO, _⟩ := I.tuple sq
      obtain ⟨o, g, c, k, dt⟩ := tupO
      obtain ⟨⟨as, rd⟩, bs, m, al⟩ := shw_all (toPyN 59) (shw_of I 59) rp vals e1 (by simpa [PyData.showable] using hs) fun t m => Nat.le_trans (tupleText_mem_le m) (by simpa only [PyData.shown] using hz)
      have far : a ∉ bs := not_mem_of_deeper (Reads.tuple g c dt (by simpa using rd)) (by simp only [PyData.depth]; omega) m
      simp only [PyData.depth] at dp
      simp only [PyData.shown] at fin hz
      exact call_repr_slot (by omega) ⟨o, g, c⟩ F.slot_tuple_repr (call_tuple_reprK g c dt far (by simpa using al) gu (fun b _ => Clear.nil b) (by show X.A.units + 1 + _ < _; omega) (fun _ _ z => z) (fun h' t tk kp => ⟨_, _, rfl, fin h' t tk kp⟩) hz)
def isDic : PyData → Bool
  | .dict _ => true
  | _ => false
/-- the text of data, where there is one -/
def reprOf (d : D) : Option Str := match toPyN 60 d with
  | some p => if p.showable = true ∧ p.shown.length ≤ sizeLine ∧ p.depth ≤ 100 ∧ isDic p = false then some p.shown else none
  | none => none
def reprGD (ds : List D) : Option (D × Kd) := match ds with
  | [d] => (reprOf d).map fun t => (.con (.str t), .shr)
  | _ => none
theorem os_repG {K : PySem.W.Frag} : OpS K (rRepr K) reprGD := fun G O σ H ρ vs ds z Q hK R w e q => by
  unfold reprGD at e
  split at e
  · obtain ⟨t, e1, e2⟩ := Option.map_eq_some_iff.mp e
    subst e2
    obtain ⟨u, rfl, v1⟩ := w.one
    unfold reprOf at e1
    split at e1
    · rename_i p ep
      split at e1
      · rename_i hl
        cases e1
        exact ⟨_, O, _, p, rfl, hK ▸ v1, ep, hl.1, hl.2.1, hl.2.2.1, fun kvs z => by (have := hl.2.2.2; rw [z] at this; cases this), q O _ H (R.con _)⟩
      · cases e1
    · cases e1
  · cases e
end
end L2.VL
end
section
set_option Elab.async false
set_option linter.all false
set_option maxRecDepth 100000
namespace L2.VL
open PySem PySem.Spec PyProof.Rows L2
def tupGD (ds : List D) : Option (D × Kd) := match ds with
  | [.lst xs] => some (.tup xs, .shr)
  | _ => none
theorem os_tupG {K : PySem.W.Frag} : OpS K (fun xs H Q => ∃ p ys, xs = [.ref p] ∧ ((SqL K H p ys ∧ ∀ l, H l = none → Q (.ref l) (upd H l (.tup ys))) ∨ (SqT K H p ys ∧ Q (.ref p) H))) tupGD := fun G O σ H ρ vs ds z Q hK R w e q => by
  unfold tupGD at e
  split at e
  · rename_i xs
    cases e
    obtain ⟨v, rfl, v1⟩ := w.one
    obtain ⟨a1, us, rfl, s1, r1⟩ := v1.lst
    rw [← hK] at r1
    exact ⟨a1, us, rfl, .inl ⟨s1, fun l hl => q O _ _ (R.freshT (d := .tup xs) hl (.tup r1))⟩⟩
  · cases e
end L2.VL
end
section
set_option Elab.async false
set_option linter.all false
set_option maxRecDepth 100000
namespace L2.VL
open PySem PySem.Spec PyProof.Rows L2
end L2.VL
end
section
set_option Elab.async false
set_option linter.all false
set_option maxRecDepth 100000
namespace L2.VL
open PySem PySem.Spec PyProof.Rows L2
section
variable {X : Cx} {e o : Expr} {st : Stmt} {sts : List Stmt} {r ro : DE} {sa sb : DS} {pos : Pos}
theorem PET.imp {t t' : TE} (h : PET X e t) (i : ∀ σ H Q, t' σ H Q → t σ H Q) : PET X e t' := fun pins s σ H Q h0 I q => h pins s σ H Q h0 I (i σ H Q q)
theorem PST.imp {t t' : TS} (h : PST X st t) (i : ∀ D σ H, t' D σ H → t D σ H) : PST X st t' := fun pins s σ H D h0 I q => h pins s σ H D h0 I (i D σ H q)
theorem PSsT.imp {t t' : TS} (h : PSsT X sts t) (i : ∀ D σ H, t' D σ H → t D σ H) : PSsT X sts t' := fun pins s σ H D h0 I q => h pins s σ H D h0 I (i D σ H q)
end
end L2.VL
end
section
set_option Elab.async false
set_option linter.all false
set_option maxRecDepth 100000
set_option maxHeartbeats 3200000
namespace L2.VL
open PySem PySem.Spec PyProof.Rows L2 PpSet
end L2.VL
end
section
set_option Elab.async false
set_option linter.all false
set_option maxRecDepth 100000
namespace L2.VL
open PySem PySem.Spec PyProof.Rows L2 PpSet
end L2.VL
end
section
set_option Elab.async false
set_option linter.all false
set_option maxRecDepth 100000
namespace L2.VL
open PySem PySem.Spec PyProof.Rows L2
def CPw (i j : Int) : Prop := 0 ≤ j ∧ (Builtin.Int.intBits i : Int) * j ≤ 2 ^ 27
theorem op_powW {X : Cx} : OpR X (binaryOp .Pow) (rI CPw fun i j => .int (i ^ j.toNat)) := opI fun _ _ _ _ _ _ _ hc q => pow_int hc.1 hc.2 q
def CPwB (i j : Int) : Bool := decide (0 ≤ j) && (decide (j ≤ 1000) && decide (i.natAbs < 2 ^ 200))
theorem CPwB_of {i j : Int} (h : CPwB i j = true) : CPw i j := by
  unfold CPwB at h
  simp only [Bool.and_eq_true, decide_eq_true_eq] at h
  refine ⟨h.1, ?_⟩
  have hb : Builtin.Int.intBits i ≤ 200 := intBits_le h.2.2
  have h1 : (Builtin.Int.intBits i : Int) * j ≤ 200 * j := Int.mul_le_mul_of_nonneg_right (by omega) h.1
  omega
def powW := gIb CPwB fun i j => .int (i ^ j.toNat)
theorem os_powW {K : PySem.W.Frag} : OpS2 K (rI CPw fun i j => .int (i ^ j.toNat)) powW := os_Ib fun _ _ => CPwB_of
end L2.VL
end
section
set_option Elab.async false
set_option linter.all false
set_option maxRecDepth 100000
namespace L2.VL
open PySem PySem.Spec PyProof.Rows L2
/-- behind e a token is out -/
def PE1 (X : Cx) (e : Expr) (t : TE) : Prop := ∀ (pins : List (Addr × Obj)) (s : Shared) (σ : St) (H : Hp) (Q : VK), Inv X pins σ H s → t σ H Q → wpAny (model X.prog X.w) X.A (eval e X.env) (fun v s' => 1 ≤ s'.toks ∧ EP X pins σ Q v s') X.xe s
section
variable {X : Cx} {o e : Expr} {es : List Expr} {to te : TE} {ta : TA} {ro : DE} {cpos apos pos : Pos}
theorem PE1.imp {t t' : TE} (h : PE1 X e t) (i : ∀ σ H Q, t' σ H Q → t σ H Q) : PE1 X e t' := fun pins s σ H Q I q => h pins s σ H Q I (i σ H Q q)
end
end L2.VL
end
section
set_option Elab.async false
set_option linter.all false
set_option maxRecDepth 100000
namespace L2.VL
open PySem PySem.Spec PyProof.Rows L2
open PySem.W (keyToks keyToksAll dataLt minD alike alikeAll AlikeAll min_list_data reads_keeps)
/-- place by place, the shorter first -/
def lexI : List Int → List Int → Bool
  | [], [] => false
  | [], _ :: _ => true
  | _ :: _, [] => false
  | a :: r, b :: s => if a = b then lexI r s else decide (a < b)
end L2.VL
end
section
set_option Elab.async false
set_option linter.all false
set_option maxRecDepth 100000
set_option maxHeartbeats 1000000
namespace L2.VL
open PySem PySem.Spec PyProof.Rows L2
end L2.VL
end
section
set_option Elab.async false
set_option linter.all false
set_option maxRecDepth 100000
namespace L2.VL
open PySem PySem.Spec PyProof.Rows L2
section
variable {X : Cx} {e o : Expr} {st : Stmt} {sts : List Stmt} {r ro : DE} {sa sb : DS} {pos : Pos}
def augAdd := gIp fun i j => .int (i + j)
theorem ss_aug {pj : VK → VK} (i : Nat) {x : Str} {pos' : Pos} {op : Operator} {rr : R2} {g : D → D → Option (D × Kd)} (hx : CxG X) (ho : OpR X (inplaceOp op) rr) (hs : OpS2 X.K rr g) (he : SE X e r) (hi : X.N[i]? = some x := by rfl) (hl : Loc X.env.scope x := by first | exact Or.inl rfl | exact Or.inr rfl)
    (hf : X.fn x = true ∨ X.env.scope.names.lookup x = some .local := by first | exact .inl rfl | exact .inr rfl) : SSf pj X (.AugAssign (.Name x pos') op e pos) (dSet i (dOp2 g (dVar i) r)) := fun W tk => PS.imp (ps_aug hx.nd hi hl (he W tk) (fun pins s σ H x y v u Q I rx ry q => ho pins s σ H x y v u Q I rx ry q) hf) fun D σ H ⟨G, O, ρ, hK, R, h⟩ => by
  replace h := (post_bind _ _).mp ((post_bind _ _).mp h)
  cases hs0 : ρ[i]? with
  | none =>
    unfold dVar at h; rw [hs0] at h
    exact h.elim
  | some s0 =>
    cases s0 with
    | none =>
      unfold dVar at h; rw [hs0] at h
      exact h.elim
    | some s1 =>
      unfold dVar at h; rw [hs0] at h
      obtain ⟨v, h1, h2⟩ := R.sl i s1 hs0
      refine ⟨v, h1, ?_⟩
      have R0 : Rel G O σ H ρ [⟨v, s1.d, .nm i⟩] := R.push h1
      refine tE.at hK R0 (Res.post_mono ((post_bind _ _).mp h) (fun y ρ2 q2 O2 w H2 R2 => ?_) fun x ρ' q => q σ)
      obtain ⟨d, e1, q3⟩ := post_cur.mp ((post_bind _ _).mp q2)
      obtain ⟨e, e2, q4⟩ := post_cur.mp ((post_bind _ _).mp q3)
      obtain ⟨z, e3, q5⟩ := (post_opt _).mp q4
      have v1 := R2.view R2.tm.2.1 e1
      have v2 := R2.view R2.tm.1 e2
      rw [hK] at v1 v2
      refine hs G O2 σ H2 ρ2 v w d e z _ hK R2.nil v1 v2 e3 fun O3 u H3 R3 => ?_
      obtain ⟨O4, ρ4, R4, q6⟩ := put_post .nil R3 ((post_bind _ _).mp q5)
      exact q6 O4 _ H3 R4
end
end L2.VL
end
section
set_option Elab.async false
set_option linter.all false
set_option maxRecDepth 100000
namespace L2.VL
open PySem PySem.Spec PyProof.Rows
section
variable {K : PySem.W.Frag} {H H' : Hp} {O O' : Own} {w w' : Ow}
theorem Itm.at {u : V} {d : D} {b : Addr} (hs : Stay H H' (lin O) (lin O')) (h : Itm K H O w u d b) (hw : ∀ o, H b = some o → O' b = some w' ∧ H' b = some o) : Itm K H' O' w' u d b := by
  obtain ⟨h0, h⟩ := h
  have nl : ∀ c, O c = none → ¬ lin O c := fun c e z => z e
  rcases h with ⟨ho, es, he, h1, h2, h3⟩ | ⟨c, x, ho, d1, d2, h1, h2, h3, h4, h5, h6, h7⟩
  · exact ⟨(hw ho h2).1, .inl ⟨ho, es, he, h1, (hw ho h2).2, h3.mono hs⟩⟩
  · exact ⟨(hw ho h6).1, .inr ⟨c, x, ho, d1, d2, h1, h2, stay_none hs c _ h3 h4, (hs c _ (nl c h3) h4).1, h5.mono hs, (hw ho h6).2, h7.mono hs⟩⟩
theorem Itms.at (hs : Stay H H' (lin O) (lin O')) : ∀ {vs : List V} {ds : List D} {bs : List Addr}, Itms K H O w vs ds bs → (∀ b ∈ bs, ∀ o, H b = some o → O' b = some w' ∧ H' b = some o) → Itms K H' O' w' vs ds bs
  | _, _, _, .nil, _ => .nil
  | _, _, _, .cons a b, h => .cons (a.at hs (h _ List.mem_cons_self)) (Itms.at hs b fun c hc => h c (List.mem_cons_of_mem _ hc))
theorem Itms.snoc {u : V} {d : D} {b : Addr} (hi : Itm K H O w u d b) : ∀ {vs : List V} {ds : List D} {bs : List Addr}, Itms K H O w vs ds bs → Itms K H O w (vs ++ [u]) (ds ++ [d]) (bs ++ [b])
  | _, _, _, .nil => .cons hi .nil
  | _, _, _, .cons a b => .cons a (Itms.snoc hi b)
theorem Itms.len : ∀ {vs : List V} {ds : List D} {bs : List Addr}, Itms K H O w vs ds bs → vs.length = ds.length
  | _, _, _, .nil => rfl
  | _, _, _, .cons _ b => congrArg (· + 1) b.len
theorem Itms.owner : ∀ {vs : List V} {ds : List D} {bs : List Addr}, Itms K H O w vs ds bs → ∀ b ∈ bs, O b = some w
  | _, _, _, .nil, _, h => by cases h
  | _, _, _, .cons a b, c, h => by
    rcases List.mem_cons.mp h with e | e
    · rw [e]; exact a.1
    · exact b.owner c e
theorem Itms.get : ∀ {vs : List V} {ds : List D} {bs : List Addr} {j : Nat} {d : D}, Itms K H O w vs ds bs → ds[j]? = some d → ∃ u b, vs[j]? = some u ∧ bs[j]? = some b ∧ Itm K H O w u d b
  | _, _, _, _, _, .nil, e => by simp at e
  | _, _, _, 0, _, .cons a b, e => by simp at e; subst e; exact ⟨_, _, rfl, rfl, a⟩
  | _, _, _, j + 1, d, .cons a b, e => by
    obtain ⟨u, c, h1, h2, h3⟩ := Itms.get (j := j) (d := d) b (by simpa using e)
    exact ⟨u, c, by simpa using h1, by simpa using h2, h3⟩
/-- one item is written -/
theorem Itms.upd (hs : Stay H H' (lin O) (lin O)) {b : Addr} (hk : ∀ c o, c ≠ b → H c = some o → H' c = some o) : ∀ {vs : List V} {ds : List D} {bs : List Addr} {j : Nat} {u : V} {d' : D}, Itms K H O w vs ds bs → bs.Nodup → bs[j]? = some b → vs[j]? = some u → Itm K H' O w u d' b → Itms K H' O w vs (ds.set j d') bs
  | _, _, _, _, _, _, .nil, _, e, _, _ => by simp at e
  | _, _, _, 0, _, _, .cons a t, nd, e1, e2, hi => by
    simp at e1 e2
    subst e1 e2
    have nd := List.nodup_cons.mp nd
    exact .cons hi (t.at hs fun c hc o e => ⟨t.owner c hc, hk c o (fun z => nd.1 (z ▸ hc)) e⟩)
  | _, _, _, j + 1, _, _, .cons (b := b0) (bs := bs0) a t, nd, e1, e2, hi => by
    have nd := List.nodup_cons.mp nd
    have e1 : bs0[j]? = some b := by simpa using e1
    refine .cons (a.at hs fun o e => ⟨a.1, hk b0 o (fun z => nd.1 (z ▸ List.mem_of_getElem? e1)) e⟩) (Itms.upd hs hk t nd.2 e1 (by simpa using e2) hi)
end
end L2.VL
end
section
set_option Elab.async false
set_option linter.all false
set_option maxRecDepth 100000
namespace L2.VL
open PySem PySem.Spec PyProof.Rows
end L2.VL
end
section
set_option Elab.async false
set_option linter.all false
set_option maxRecDepth 100000
namespace L2.VL
open PySem PySem.Spec PyProof.Rows
end L2.VL
end
section
set_option Elab.async false
set_option linter.all false
set_option maxRecDepth 100000
namespace L2.VL
open PySem PySem.Spec PyProof.Rows L2
def clearG (ys ds : List D) : Option (List D × D) := match ds with
  | [] => some ([], .non)
  | _ => none
theorem ms_clear {K : PySem.W.Frag} : MutS K rClear clearG := fun H L a vs as ys ds ys' rt Q h1 r1 r2 e => by
  unfold clearG at e
  split at e
  · cases e
    cases r2
    exact ⟨[], .non, .nil, .con _, fun q => ⟨a, vs, rfl, rfl, h1, q⟩⟩
  · cases e
end L2.VL
end
section
set_option Elab.async false
set_option linter.all false
set_option maxRecDepth 100000
set_option maxHeartbeats 2000000
namespace L2.VL
open PySem PySem.Spec PyProof.Rows L2
end L2.VL
end
section
set_option Elab.async false
set_option linter.all false
set_option maxRecDepth 100000
set_option maxHeartbeats 2000000
namespace L2.VL
open PySem PySem.Spec PyProof.Rows L2
end L2.VL
end
section
set_option Elab.async false
set_option linter.all false
set_option maxRecDepth 100000
set_option maxHeartbeats 2000000
namespace L2.VL
open PySem PySem.Spec PyProof.Rows L2
def shareL (ρ : Rho) : List Nat → Rho
  | [] => ρ
  | i :: is => shareL (shareR ρ i) is
section
variable {G : Fix} {O : Own} {σ : St} {H : Hp} {ρ : Rho} {T : List Tmp}
theorem Rel.shareAll : ∀ (is : List Nat) {O : Own} {ρ : Rho}, Rel G O σ H ρ T → ∃ O', Rel G O' σ H (shareL ρ is) T
  | [], O, ρ, R => ⟨O, R⟩
  | i :: is, O, ρ, R => by
    have one : ∃ O', Rel G O' σ H (shareR ρ i) T := by
      cases e : ρ[i]? with
      | none => exact ⟨O, by unfold shareR; rw [e]; exact R⟩
      | some o =>
        cases o with
        | none => exact ⟨O, by unfold shareR; rw [e]; exact R⟩
        | some s =>
          obtain ⟨O', v, R', _⟩ := R.share e
          exact ⟨O', R'⟩
    obtain ⟨O1, R1⟩ := one
    exact Rel.shareAll is R1
end
end L2.VL
end
section
set_option Elab.async false
set_option linter.all false
set_option maxRecDepth 100000
set_option maxHeartbeats 2000000
namespace L2.VL
open PySem PySem.Spec PyProof.Rows L2
/-- the arguments, a lambda behind them -/
structure PAl (X : Cx) (es : List Expr) (lam : Expr) (t : TA) : Prop where
  run : ∀ (pos : Pos) (pins : List (Addr × Obj)) (s : Shared) (σ : St) (H : Hp) (Q : List V → Hp → Prop) (Z : List Value → Shared → Prop), Inv X pins σ H s → t σ H Q →
    (∀ (vs : List V) (us : List Value) (H1 : Hp) (s1 : Shared), Inv X pins σ H1 s1 → Vals vs us → Q vs H1 → wpAny (model X.prog X.w) X.A (eval lam X.env) (fun v s2 => Z (us ++ [v]) s2) X.xe s1) →
    wpAny (model X.prog X.w) X.A (spliced (backTo pos (starEach (es ++ [lam]) X.env))) Z X.xe s
section
variable {X : Cx} {lam e : Expr} {es : List Expr} {t : TA} {te : TE} {r : DE} {l : List (Bool × DE)} {b : Bool}
theorem PAl.imp {t t' : TA} (h : PAl X es lam t) (i : ∀ σ H Q, t' σ H Q → t σ H Q) : PAl X es lam t' := ⟨fun pos pins s σ H Q Z I q go => h.run pos pins s σ H Q Z I (i σ H Q q) go⟩
end
end L2.VL
end
section
set_option Elab.async false
set_option linter.all false
set_option maxRecDepth 100000
namespace L2.VL
open PySem PySem.Spec PyProof.Rows L2
end L2.VL
end
section
set_option Elab.async false
set_option linter.all false
set_option maxRecDepth 100000
set_option maxHeartbeats 1000000
namespace L2.VL
open PySem PySem.Spec PyProof.Rows L2
section
variable {X : Cx}
def PTT (X : Cx) (e : Expr) (t : TT) : Prop := ∀ (pins : List (Addr × Obj)) (s : Shared) (σ : St) (H : Hp) (Q : Bool → Hp → Prop), 1 ≤ s.toks → Inv X pins σ H s → t σ H Q → wpAny (model X.prog X.w) X.A (isTrue e X.env (eval e X.env)) (TP X pins σ Q) X.xe s
theorem PTT.imp {e : Expr} {t t' : TT} (h : PTT X e t) (i : ∀ σ H Q, t' σ H Q → t σ H Q) : PTT X e t' := fun pins s σ H Q h0 I q => h pins s σ H Q h0 I (i σ H Q q)
end
end L2.VL
end
section
set_option Elab.async false
set_option linter.all false
set_option maxRecDepth 100000
set_option maxHeartbeats 2000000
namespace L2.VL
open PySem PySem.Spec PyProof.Rows L2
end L2.VL
end
section
set_option Elab.async false
set_option linter.all false
set_option maxRecDepth 100000
set_option maxHeartbeats 2000000
namespace L2.VL
open PySem PySem.Spec PyProof.Rows L2
open PySem.W (keyToks keyToksAll dataLt minD alike alikeAll AlikeAll reads_keeps cmpIn_lt iter_tupleW moved_old readsAll_atA)
end L2.VL
end
section
set_option Elab.async false
set_option linter.all false
set_option maxRecDepth 100000
set_option maxHeartbeats 2000000
namespace L2.VL
open PySem PySem.Spec PyProof.Rows L2
section
variable {X : Cx}
theorem RepK.some {K : PySem.W.Frag} {H : Hp} {L : Addr → Prop} {k : Key} {vs : List (Key × V)} {ds : List (Key × D)} (r : RepK K H L vs ds) : (valV vs k).isSome = (findK ds k).isSome := by
  have e1 := valV_any k vs
  have e2 : (ds.any fun kv => decide (kv.1 = k)) = (findK ds k).isSome := by
    unfold findK
    induction ds with
    | nil => rfl
    | cons p ds ih =>
      clear r e1 ih
      rw [Option.isSome_map]
      induction (p :: ds) with
      | nil => rfl
      | cons q l ih2 =>
        rw [List.any_cons, List.find?_cons]
        by_cases z : q.1 = k
        · simp [z]
        · rw [decide_eq_false z]; simpa using ih2
  rw [← e1, ← e2, r.any]
end
end L2.VL
end
section
set_option Elab.async false
set_option linter.all false
set_option maxRecDepth 100000
set_option maxHeartbeats 4000000
namespace L2.Dc2
open PySem PySem.Spec PyProof.Rows L2
end L2.Dc2
end
section
set_option Elab.async false
set_option linter.all false
set_option maxRecDepth 100000
set_option maxHeartbeats 4000000
namespace L2.VL
open PySem PySem.Spec PyProof.Rows L2
theorem tIU.at {K : PySem.W.Frag} {W : WX} {it : M (List D)} {R' : It → Hp → Prop} {G : Fix} {O : Own} {σ : St} {H : Hp} {ρ : Rho} {T : List Tmp} (hK : G.K = K) (R : Rel G O σ H ρ T)
    (h : (it ρ).post (fun xs ρ' => ∀ O' H' J T1, NoNm T1 → Rel G O' σ H' ρ' (T1 ++ T) → WalkOk K T1 J xs → R' J H') (EX G σ W)) : tIU K W it σ H R' :=
  ⟨frG G O H, frO O, ρ, hK, R.frame, Res.post_mono h (fun xs ρ' q O' H' J T1 n R1 w => q _ H' J T1 n (R.unframe (fun _ _ _ _ => rfl) R1) w) fun x ρ' q => EX.unframe R q⟩
def pairOf (d : D) : Option (Key × D) := match d with
  | .tup [k, v] => (keyD k).map fun k => (k, v)
  | _ => none
end L2.VL
end
section
set_option Elab.async false
set_option linter.all false
set_option maxRecDepth 100000
set_option maxHeartbeats 4000000
namespace L2.VL
open PySem PySem.Spec PyProof.Rows L2
section
variable {vs vs1 : List Nat} {t t1 : Tg} {q q1 : M Bool} {it it1 : M (List D)} {r rk rv : DE}
def prs (acc : List D) : List (Key × D) := (optAll pairOf acc).getD []
end
end L2.VL
end
section
set_option Elab.async false
set_option linter.all false
set_option maxRecDepth 100000
set_option maxHeartbeats 2000000
namespace L2.VL
open PySem PySem.Spec PyProof.Rows L2
abbrev XRow := NestedKey × Addr × V
def stX (xs : List XRow) (k : NestedKey) (b : Addr) (v : V) : List XRow := if (xs.any fun x => decide (x.1 = k)) = true then xs.map (fun x => if x.1 = k then (x.1, x.2.1, v) else x) else xs ++ [(k, b, v)]
abbrev PX : List XRow → List (NestedKey × Addr × Value) → Prop := Paired fun x y => x.1 = y.1 ∧ x.2.1 = y.2.1 ∧ RelV x.2.2 y.2.2
theorem PX.any {xs : List XRow} {ys : List (NestedKey × Addr × Value)} (r : PX xs ys) (k : NestedKey) : (xs.any fun x => decide (x.1 = k)) = (atKey ys k).isSome := by
  unfold atKey
  rw [Option.isSome_map]
  induction r with
  | nil => rfl
  | @cons x y xs ys h t ih =>
    rw [List.any_cons, List.find?_cons, ih, h.1]
    by_cases e : y.1 = k
    · simp [e]
    · rw [decide_eq_false e]; rfl
theorem PX.putOld {xs : List XRow} {ys : List (NestedKey × Addr × Value)} (r : PX xs ys) (k : NestedKey) {v : V} {u : Value} (rv : RelV v u) : PX (xs.map (fun x => if x.1 = k then (x.1, x.2.1, v) else x)) (ys.map (putAt k u)) := by
  induction r with
  | nil => exact .nil
  | @cons x y xs ys h t ih =>
    rw [List.map_cons, List.map_cons]
    refine .cons ?_ ih
    unfold putAt
    obtain ⟨h1, h2, h3⟩ := h
    by_cases e : x.1 = k
    · rw [if_pos e, if_pos (h1.symm.trans e)]
      exact ⟨h1, h2, rv⟩
    · rw [if_neg e, if_neg (fun z => e (h1.trans z))]
      exact ⟨h1, h2, h3⟩
theorem PX.putNew {xs : List XRow} {ys : List (NestedKey × Addr × Value)} (r : PX xs ys) (k : NestedKey) (b : Addr) {v : V} {u : Value} (rv : RelV v u) : PX (xs ++ [(k, b, v)]) (ys ++ [(k, b, u)]) := by
  induction r with
  | nil => exact .cons ⟨rfl, rfl, rv⟩ .nil
  | cons h t ih => exact .cons h ih
theorem PX.put {xs : List XRow} {ys : List (NestedKey × Addr × Value)} (r : PX xs ys) (k : NestedKey) (b : Addr) {v : V} {u : Value} (rv : RelV v u) : PX (stX xs k b v) (storedH ys k b u) := by
  unfold stX storedH
  rw [PX.any r k]
  split
  · exact PX.putOld r k rv
  · exact PX.putNew r k b rv
theorem PX.len {xs : List XRow} {ys : List (NestedKey × Addr × Value)} (r : PX xs ys) : xs.length = ys.length := Paired.length r
theorem PX.mem {xs : List XRow} {ys : List (NestedKey × Addr × Value)} (r : PX xs ys) : ∀ y ∈ ys, ∃ x ∈ xs, x.1 = y.1 ∧ x.2.1 = y.2.1 := by
  induction r with
  | nil => intro y hy; cases hy
  | @cons x y xs ys h t ih =>
    intro z hz
    rcases List.mem_cons.mp hz with e | e
    · subst e; exact ⟨x, List.mem_cons_self, h.1, h.2.1⟩
    · obtain ⟨x', h1, h2⟩ := ih z e
      exact ⟨x', List.mem_cons_of_mem _ h1, h2⟩
end L2.VL
end
section
set_option Elab.async false
set_option linter.all false
set_option maxRecDepth 100000
set_option maxHeartbeats 2000000
namespace L2.VL
open PySem PySem.Spec PyProof.Rows L2 PySem.SeqAt PySem.W
end L2.VL
end
section
set_option Elab.async false
set_option linter.all false
set_option maxRecDepth 100000
namespace L2.VL
open PySem PySem.Spec PyProof.Rows L2
end L2.VL
end
section
set_option Elab.async false
set_option linter.all false
set_option maxRecDepth 100000
namespace L2.VL
open PySem PySem.Spec PyProof.Rows L2
end L2.VL
end
section
set_option Elab.async false
set_option linter.all false
set_option maxRecDepth 100000
namespace L2.VL
open PySem PySem.Spec PyProof.Rows L2
section
variable {X : Cx} {kws : List Keyword} {t t' : TA} {e : Expr} {r : DE} {nm : Option Str} {kpos : Pos}
theorem PK.imp (h : PK X kws t) (i : ∀ σ H Q, t' σ H Q → t σ H Q) : PK X kws t' := ⟨fun pos pins s σ H Q I z => h.run pos pins s σ H Q I (i σ H Q z)⟩
end
end L2.VL
end
section
set_option Elab.async false
set_option linter.all false
set_option maxRecDepth 100000
namespace L2.VL
open PySem PySem.Spec PyProof.Rows L2
end L2.VL
end
section
set_option Elab.async false
set_option linter.all false
set_option maxRecDepth 100000
namespace L2.VL
open PySem PySem.Spec PyProof.Rows L2
end L2.VL
end
section
set_option Elab.async false
set_option linter.all false
set_option maxRecDepth 100000
set_option maxHeartbeats 2000000
namespace L2.VL
open PySem PySem.Spec PyProof.Rows L2
open PySem.W (keyToks dataLt alike alikeAll AllAlike EachIs dataLe Sortable sorted_data)
end L2.VL
end
section
set_option Elab.async false
set_option linter.all false
set_option maxRecDepth 100000
set_option maxHeartbeats 2000000
namespace L2.VL
open PySem PySem.Spec PyProof.Rows L2
/-- every other item -/
def ev2 {α : Type} (xs : List α) : List α := (sliceRange 0 (xs.length : Int) 2).filterMap fun k => xs[k]?
theorem ev2_len {α : Type} (xs : List α) : (ev2 xs).length ≤ xs.length := Nat.le_trans (List.length_filterMap_le _ _) (sliceRange_length_le 0 xs.length 2 xs.length (fun _ => ⟨Int.le_refl _, Int.le_refl _⟩) fun z => absurd z (by decide))
theorem ev2_map {α β : Type} (f : α → β) (xs : List α) : ev2 (xs.map f) = (ev2 xs).map f := by
  unfold ev2
  rw [List.length_map, List.map_filterMap]
  congr 1
  funext k
  rw [List.getElem?_map]
theorem slice_ev2 (items : Array Value) : slicePick items none none (some 2) = (ev2 items.toList).toArray := by
  unfold slicePick ev2
  have hb : sliceBounds none none (some 2) items.size = (0, (items.size : Int), 2) := rfl
  rw [hb]
  show ((sliceRange 0 (items.size : Int) 2).filterMap fun x => items[x]?).toArray = ((sliceRange 0 (items.toList.length : Int) 2).filterMap fun k => items.toList[k]?).toArray
  rw [Array.length_toList]
  simp only [Array.getElem?_toList]
theorem Vals.at_ : ∀ {xs : List V} {us : List Value} (k : Nat), Vals xs us → (xs[k]? = none ∧ us[k]? = none) ∨ ∃ x u, xs[k]? = some x ∧ us[k]? = some u ∧ RelV x u
  | _, _, _, .nil => .inl ⟨rfl, rfl⟩
  | _, _, 0, .cons h _ => .inr ⟨_, _, rfl, rfl, h⟩
  | _, _, k + 1, .cons _ t => by
    rw [List.getElem?_cons_succ, List.getElem?_cons_succ]
    exact Vals.at_ k t
theorem Vals.pick {xs : List V} {us : List Value} (h : Vals xs us) : ∀ ks : List Nat, Vals (ks.filterMap fun k => xs[k]?) (ks.filterMap fun k => us[k]?)
  | [] => .nil
  | k :: ks => by
    rw [List.filterMap_cons, List.filterMap_cons]
    rcases Vals.at_ k h with ⟨e1, e2⟩ | ⟨x, u, e1, e2, r⟩
    · rw [e1, e2]; exact Vals.pick h ks
    · rw [e1, e2]; exact .cons r (Vals.pick h ks)
theorem Vals.ev2 {xs : List V} {us : List Value} (h : Vals xs us) : Vals (ev2 xs) (ev2 us) := by
  unfold L2.VL.ev2
  rw [h.length]
  exact Vals.pick h _
theorem Reps.at_ {K : PySem.W.Frag} {H : Hp} {L : Addr → Prop} : ∀ {xs : List V} {ds : List D} (k : Nat), Reps K H L xs ds → (xs[k]? = none ∧ ds[k]? = none) ∨ ∃ x d, xs[k]? = some x ∧ ds[k]? = some d ∧ Rep K H L x d
  | _, _, _, .nil => .inl ⟨rfl, rfl⟩
  | _, _, 0, .cons h _ => .inr ⟨_, _, rfl, rfl, h⟩
  | _, _, k + 1, .cons _ t => by
    rw [List.getElem?_cons_succ, List.getElem?_cons_succ]
    exact Reps.at_ k t
theorem Reps.pick {K : PySem.W.Frag} {H : Hp} {L : Addr → Prop} {xs : List V} {ds : List D} (h : Reps K H L xs ds) : ∀ ks : List Nat, Reps K H L (ks.filterMap fun k => xs[k]?) (ks.filterMap fun k => ds[k]?)
  | [] => .nil
  | k :: ks => by
    rw [List.filterMap_cons, List.filterMap_cons]
    rcases h.at_ k with ⟨e1, e2⟩ | ⟨x, u, e1, e2, r⟩
    · rw [e1, e2]; exact h.pick ks
    · rw [e1, e2]; exact .cons r (h.pick ks)
theorem Reps.len_ {K : PySem.W.Frag} {H : Hp} {L : Addr → Prop} : ∀ {xs : List V} {ds : List D}, Reps K H L xs ds → xs.length = ds.length
  | _, _, .nil => rfl
  | _, _, .cons _ t => congrArg Nat.succ t.len_
theorem Reps.ev2 {K : PySem.W.Frag} {H : Hp} {L : Addr → Prop} {xs : List V} {ds : List D} (h : Reps K H L xs ds) : Reps K H L (ev2 xs) (ev2 ds) := by
  unfold L2.VL.ev2
  rw [h.len_]
  exact h.pick _
def tEv2 (K : PySem.W.Frag) (te : TE) : TE := fun σ H Q => te σ H fun x H1 => ∃ a xs, x = .ref a ∧ SqL K H1 a xs ∧ ∀ p, H1 p = none → Q (.ref p) (upd H1 p (.lst (ev2 xs)))
section
variable {X : Cx} {e : Expr} {r : DE} {pos : Pos}
theorem pe_ev2 {te : TE} {k : Nat} {p1 p3 : Pos} (he : PE X e te) : PE X (.Subscript e (.Slice none none (some (.Constant (.int 2) k p1)) p3) pos) (tEv2 X.K te) := by
  refine ⟨fun pins s σ H Q I h => ?_⟩
  refine Subscript_ (thn (he.run pins s σ H _ I h) fun v s1 ⟨x, H1, I1, r1, q1⟩ => ?_)
  obtain ⟨a, xs, ex, hx, q⟩ := q1
  subst ex
  cases r1
  have hst : PO X (some (.Constant (.int 2) k p1)) (tPart (tC (.int 2))) := po_some pe_int
  refine wpAny_Slice (thn (po_none.run pins s1 σ H1 (fun o H2 => o = none ∧ H2 = H1) I1 ⟨rfl, rfl⟩) fun vl s2 ⟨l, H2, I2, pl, el, e2⟩ => ?_)
  subst el e2
  refine thn (po_none.run pins s2 σ H2 (fun o H3 => o = none ∧ H3 = H2) I2 ⟨rfl, rfl⟩) fun vu s3 ⟨u, H3, I3, pu, eu, e3⟩ => ?_
  subst eu e3
  refine thn (hst.run pins s3 σ H3 (fun o H4 => o = some 2 ∧ H4 = H3) I3 ⟨2, rfl, rfl, rfl⟩) fun vs s4 ⟨o, H4, I4, ps, eo, e4⟩ => ?_
  subst eo e4
  have I5 : Inv X pins σ H4 { s4 with heap := s4.heap.push { cls := .type "slice", data := .fields #[vl, vu, vs] } } := I4.kept (t' := s4.toks) fun b ob q => Heap.get?_push_of_some _ q
  obtain ⟨its, r, ht, hz⟩ := I5.list hx
  have hlen := r.length
  show wpAny (model X.prog X.w) X.A (subscriptTail e (.Slice none none (some (.Constant (.int 2) k p1)) p3) (.ref a) (.ref s4.heap.objs.size)) (EP X pins σ Q) X.xe { s4 with heap := s4.heap.push { cls := .type "slice", data := .fields #[vl, vu, vs] } }
  refine tail_any (ops := [.ref a, .ref s4.heap.objs.size]) ht.isList.typeIs (PySem.slot_list_getitem.lookup) ?_ (by with_unfolding_all rfl)
  refine wpAny_getItem_list_slice ht.isList (Heap.IsSliceOf.new _ vl vu vs) pl pu ps (by decide) ?_ (by rw [List.size_toArray]; omega)
  rw [slice_ev2]
  refine ⟨.ref _, _, I5.laid (t' := s4.toks) (o := .lst (ev2 xs)) (fun b ob q => Heap.get?_push_of_some _ q) (Nat.le_refl _) ?_, rfl, q _ (I5.hok.fresh (Nat.le_refl _))⟩
  exact ⟨by have := ev2_len xs; omega, _, 0, Vals.ev2 r, Heap.get?_push_size _ rfl⟩
def ev2D (d : D) : Option (D × Kd) := match d with
  | .lst xs => some (.lst (ev2 xs), .fr)
  | _ => none
def dEv2 (ra : DE) : DE := do
  let x ← ra
  let d ← dcur x
  mOpt (ev2D d)
theorem se_ev2 {k : Nat} {p1 p3 : Pos} (ha : SE X e r) : SE X (.Subscript e (.Slice none none (some (.Constant (.int 2) k p1)) p3) pos) (dEv2 r) := fun W tk =>
  PE.imp (pe_ev2 (ha W tk)) fun σ H Q ⟨G, O, ρ, hK, R, h⟩ => by
    refine tE.at hK R (Res.post_ok ((post_bind _ _).mp h) fun x ρ1 q O1 v H1 R1 => ?_)
    obtain ⟨d, e1, q3⟩ := post_cur.mp ((post_bind _ _).mp q)
    obtain ⟨z, e2, q4⟩ := (post_opt _).mp q3
    have v1 := R1.view R1.tm.1 e1
    unfold ev2D at e2
    split at e2
    · rename_i xs
      cases e2
      obtain ⟨a1, vs, rfl, s1, r1⟩ := v1.lst
      rw [hK] at s1
      refine ⟨a1, vs, rfl, s1, fun p hp => ?_⟩
      obtain ⟨O4, R4⟩ := R1.pop.fresh (d := .lst (ev2 xs)) hp (.lst r1.ev2)
      exact q4 O4 _ _ R4
    · cases e2
end
end L2.VL
end
section
set_option Elab.async false
set_option linter.all false
set_option maxRecDepth 100000
set_option maxHeartbeats 2000000
namespace L2.VL
open PySem PySem.Spec PyProof.Rows L2
end L2.VL
end
section
set_option Elab.async false
set_option linter.all false
set_option maxRecDepth 100000
set_option maxHeartbeats 2000000
namespace L2.VL
open PySem PySem.Spec PyProof.Rows L2 PySem.SeqAt PySem.W
end L2.VL
end
section
set_option Elab.async false
set_option linter.all false
set_option maxRecDepth 100000
set_option maxHeartbeats 2000000
namespace L2.VL
open PySem PySem.Spec PyProof.Rows L2
end L2.VL
end
section
set_option Elab.async false
set_option linter.all false
set_option maxRecDepth 100000
set_option maxHeartbeats 2000000
namespace L2.VL
open PySem PySem.Spec PyProof.Rows L2
theorem PX.val {xs : List XRow} {ys : List (NestedKey × Addr × Value)} (r : PX xs ys) (k : NestedKey) : RelO (valV (xs.map fun x => (x.1, x.2.2)) k) ((atKey ys k).map (·.2)) := by
  induction r with
  | nil => exact True.intro
  | @cons p q ps qs h t ih =>
    obtain ⟨h1, _, h2⟩ := h
    rw [List.map_cons]
    by_cases e : p.1 = k
    · have e' : q.1 = k := h1.symm.trans e
      have b : atKey (q :: qs) k = some q.2 := by simp [atKey, List.find?_cons, e']
      rw [valV_pos e, b]; exact h2
    · have e' : ¬ q.1 = k := fun z => e (h1.trans z)
      have b : atKey (q :: qs) k = atKey qs k := by simp [atKey, List.find?_cons, e']
      rw [valV_neg e, b]; exact ih
section
variable {K : PySem.W.Frag} {H : Hp} {O : Own} {v : V}
theorem Vw.dix {kvs : List (NestedKey × V)} (h : Vw K H O v (.dix kvs)) : ∃ a ho, v = .ref a ∧ Rd H a ho ∧ Cont K H (lin O) ho (.dix kvs) := by
  rcases h with h | ⟨a, ho, e, h1, c⟩ | ⟨_, _, _, z⟩
  · cases h with
    | obj n r c => exact ⟨_, _, rfl, r, c⟩
  · exact ⟨a, ho, e, .inl h1, c⟩
  · cases z
end
end L2.VL
end
section
set_option Elab.async false
set_option linter.all false
set_option maxRecDepth 100000
set_option maxHeartbeats 2000000
namespace L2.VL
open PySem PySem.Spec PyProof.Rows L2
end L2.VL
end
section
set_option Elab.async false
set_option linter.all false
set_option maxRecDepth 100000
set_option maxHeartbeats 2000000
namespace L2.VL
open PySem PySem.Spec PyProof.Rows L2
end L2.VL
end
section
set_option Elab.async false
set_option linter.all false
set_option maxRecDepth 100000
set_option maxHeartbeats 2000000
namespace L2.VL
open PySem PySem.Spec PyProof.Rows L2
/-- a target: its slots, and what it stores -/
def SGf (X : Cx) (tg : Expr) (is : List Nat) (f : D → M Unit) : Prop := PG X tg (tG X.K is f)
theorem SG.f {X : Cx} {tg : Expr} {t : Tg} (h : SG X tg t) : SGf X tg t.slots t.put := h
end L2.VL
end
section
set_option Elab.async false
set_option linter.all false
set_option maxRecDepth 100000
set_option maxHeartbeats 4000000
namespace L2.VL
open PySem PySem.Spec PyProof.Rows L2
end L2.VL
end
section
set_option Elab.async false
set_option linter.all false
set_option maxRecDepth 100000
set_option maxHeartbeats 4000000
namespace L2.VL
open PySem PySem.Spec PyProof.Rows L2
end L2.VL
end
section
set_option Elab.async false
set_option linter.all false
set_option maxRecDepth 100000
set_option maxHeartbeats 4000000
namespace L2.VL
open PySem PySem.Spec PyProof.Rows L2
/-- what is walked in step -/
inductive Src where
  | lst (a : Addr) | tup (a : Addr) | txt (x : Str)
def Src.v : Src → V
  | .lst a => .ref a
  | .tup a => .ref a
  | .txt x => .str x
def Src.ad : Src → List Addr
  | .lst a => [a]
  | .tup a => [a]
  | .txt _ => []
def chV (x : Str) : List V := x.cps.toList.map fun c => .str ⟨#[c]⟩
def Src.is (K : PySem.W.Frag) (H : Hp) : Src → List V → Prop
  | .lst a, xs => SqL K H a xs
  | .tup a, xs => SqT K H a xs
  | .txt x, xs => xs = chV x
def Src.st : Src → Addr → Nat → Heap → Prop
  | .lst a, it, i, h => h.IsListIter it a i
  | .tup a, it, i, h => h.IsTupleIter it a i
  | .txt x, it, i, h => ∃ t, h.IsStrIter it (strIterType x) x t i
section
variable {X : Cx} {pins : List (Addr × Obj)} {σ : St} {H : Hp} {s : Shared} {A : Around} {sr : Src} {it : Addr} {i : Nat} {xs ys : List V}
theorem src_inj (I : Inv X pins σ H s) (h : sr.is X.K H xs) (h' : sr.is X.K H ys) : xs = ys := by
  cases sr with
  | lst a => exact I.list_inj h h'
  | tup a => exact I.tuple_inj h h'
  | txt x => exact (show xs = chV x from h).trans (show ys = chV x from h').symm
theorem src_keep {h h' : Heap} (st : sr.st it i h) (k : ∀ o, h.get? it = some o → h'.get? it = some o) : sr.st it i h' := by
  cases sr with
  | lst a => exact Heap.IsListIter.at st fun o e => k o e
  | tup a => exact Heap.IsTupleIter.at st fun o e => k o e
  | txt x =>
    obtain ⟨t, o, e, r⟩ := st
    exact ⟨t, o, k o e, r⟩
theorem src_obj {h : Heap} (st : sr.st it i h) : ∃ o, h.get? it = some o ∧ ∀ v, o.data ≠ .cell v := by
  cases sr with
  | lst a => obtain ⟨o, e, _, d⟩ := st; exact ⟨o, e, fun v q => by rw [d] at q; cases q⟩
  | tup a => obtain ⟨o, e, _, d⟩ := st; exact ⟨o, e, fun v q => by rw [d] at q; cases q⟩
  | txt x => obtain ⟨t, o, e, _, d⟩ := st; exact ⟨o, e, fun v q => by rw [d] at q; cases q⟩
theorem src_lt (I : Inv X pins σ H s) (h : sr.is X.K H xs) : ∀ b ∈ sr.ad, b < s.heap.objs.size := by
  cases sr with
  | lst a =>
    intro b hb
    obtain rfl := List.mem_singleton.mp hb
    obtain ⟨its, rv, p, _⟩ := I.list h
    exact p.lt
  | tup a =>
    intro b hb
    obtain rfl := List.mem_singleton.mp hb
    obtain ⟨its, rv, p, _⟩ := I.tuple h
    obtain ⟨o1, ho1, _⟩ := id p
    exact Heap.lt_size ho1
  | txt x => intro b hb; cases hb
theorem src_draws (hh : A.handled = none) (I : Inv X pins σ H s) (h : sr.is X.K H xs) (st : sr.st it i s.heap) (ne : it ∉ sr.ad) : ∃ (P : Nat → Value → Prop) (St : Nat → Heap → Prop), Draws X.prog X.w A it (it :: sr.ad) xs.length P St ∧ St i s.heap ∧
    (∀ j x, P j x → ∃ v, xs[j]? = some v ∧ RelV v x) ∧ ∀ j h', St j h' → sr.st it j h' := by
  cases sr with
  | lst a =>
    obtain ⟨its, rv, p, _⟩ := I.list h
    have e : its.toArray.size = xs.length := by rw [List.size_toArray, rv.length]
    refine ⟨_, _, e ▸ Draws.list hh it a (fun z => ne (by rw [← z]; exact List.mem_cons_self)) its.toArray, ⟨st, p.isList⟩, fun j x hx => ?_, fun j h' q => q.1⟩
    have hx' : its[j]? = some x := by simpa using hx
    have hj : j < xs.length := by rw [rv.length]; exact (List.getElem?_eq_some_iff.mp hx').1
    obtain ⟨u, hu, ru⟩ := rv.get (List.getElem?_eq_getElem hj)
    rw [hx'] at hu
    cases hu
    exact ⟨_, List.getElem?_eq_getElem hj, ru⟩
  | tup a =>
    obtain ⟨its, rv, p, _⟩ := I.tuple h
    have e : its.toArray.size = xs.length := by rw [List.size_toArray, rv.length]
    refine ⟨_, _, e ▸ Draws.tuple hh it a (fun z => ne (by rw [← z]; exact List.mem_cons_self)) its.toArray, ⟨st, p⟩, fun j x hx => ?_, fun j h' q => q.1⟩
    have hx' : its[j]? = some x := by simpa using hx
    have hj : j < xs.length := by rw [rv.length]; exact (List.getElem?_eq_some_iff.mp hx').1
    obtain ⟨u, hu, ru⟩ := rv.get (List.getElem?_eq_getElem hj)
    rw [hx'] at hu
    cases hu
    exact ⟨_, List.getElem?_eq_getElem hj, ru⟩
  | txt x =>
    have hx : xs = chV x := h
    subst hx
    obtain ⟨t, st⟩ := st
    have e : x.cps.size = (chV x).length := by unfold chV; simp
    refine ⟨_, _, e ▸ Draws.text hh it x t, st, fun j v hv => ?_, fun j h' q => ⟨t, q⟩⟩
    obtain ⟨c, u, hc, rfl⟩ := hv
    refine ⟨.str ⟨#[c]⟩, ?_, u, rfl⟩
    unfold chV
    rw [List.getElem?_map, Array.getElem?_toList, hc]
    rfl
theorem src_begins {u : Value} (I : Inv X pins σ H s) (h : sr.is X.K H xs) (ru : RelV sr.v u) : ∃ (o : Obj) (Hq : Heap → Prop), Begins u o Hq ∧ Hq s.heap ∧ ∀ (h' : Heap) (it : Addr), h'.get? it = some o → sr.st it 0 h' := by
  cases sr with
  | lst a =>
    obtain rfl : u = Value.ref a := ru
    obtain ⟨its, rv, p, _⟩ := I.list h
    exact ⟨_, _, begins_list a its.toArray, p.isList, fun h' it e => ⟨_, e, rfl, rfl⟩⟩
  | tup a =>
    obtain rfl : u = Value.ref a := ru
    obtain ⟨its, rv, p, _⟩ := I.tuple h
    exact ⟨_, _, begins_tuple a its.toArray, p, fun h' it e => ⟨_, e, rfl, rfl⟩⟩
  | txt x =>
    obtain ⟨t, rfl⟩ := ru
    exact ⟨_, _, begins_text x t, trivial, fun h' it e => ⟨t, _, e, rfl, rfl⟩⟩
end
/-- the pairs, each a new tuple -/
def ItzS (K : PySem.W.Frag) (s1 s2 : Src) (n1 n2 : Nat) : It :=
  ⟨fun i H => ∃ (xs ys : List V), s1.is K H xs ∧ s2.is K H ys ∧ xs.length = n1 ∧ ys.length = n2 ∧ i < n1 ∧ i < n2,
    fun i H v H' => ∃ T x y, v = .ref T ∧ H T = none ∧ H' = upd H T (.tup [x, y]) ∧ (∀ xs, s1.is K H xs → xs[i]? = some x) ∧ ∀ ys, s2.is K H ys → ys[i]? = some y,
    fun i H => ∃ (xs ys : List V), s1.is K H xs ∧ s2.is K H ys ∧ xs.length = n1 ∧ ys.length = n2 ∧ (n1 ≤ i ∨ n2 ≤ i)⟩
theorem turn_zipS {P : Program} {w : World} {K : PySem.W.Frag} {elts : List Expr} {kk : Nat} {tpos : Pos} {s1 s2 : Src} {n1 n2 : Nat} {z TI TO i1 i2 : Addr} (D : ZipSep2 z TI TO i1 i2 (i1 :: s1.ad) (i2 :: s2.ad)) (a1 : i1 ∉ s1.ad) (a2 : i2 ∉ s2.ad) :
    Turn P w K (.Tuple elts kk tpos) (ItzS K s1 s2 n1 n2) [z, TI, TO, i1, i2] z (fun i h => IsZip h z TI TO .none ∧ IsPair h TI (.ref i1) (.ref i2) ∧ (∃ x y, IsPair h TO x y) ∧ s1.st i1 i h ∧ s2.st i2 i h ∧ i ≤ n1 ∧ i ≤ n2) where
  mem := by simp
  obj := fun i h st c hc => by
    obtain ⟨hz, hTI, ⟨x, y, hTO⟩, h1, h2, _⟩ := st
    have e' : c = z ∨ c = TI ∨ c = TO ∨ c = i1 ∨ c = i2 := by simpa using hc
    rcases e' with q | q | q | q | q
    · rw [q]; exact ⟨_, hz, fun v q => nomatch q⟩
    · rw [q]; exact ⟨_, hTI, fun v q => nomatch q⟩
    · rw [q]; exact ⟨_, hTO, fun v q => nomatch q⟩
    · rw [q]; exact src_obj h1
    · rw [q]; exact src_obj h2
  keep := fun i h h' st k => by
    obtain ⟨hz, hTI, ⟨x, y, hTO⟩, h1, h2, l⟩ := st
    exact ⟨k z (by simp) _ hz, k TI (by simp) _ hTI, ⟨x, y, k TO (by simp) _ hTO⟩, src_keep h1 fun o q => k i1 (by simp) o q, src_keep h2 fun o q => k i2 (by simp) o q, l⟩
  item := by
    intro X hP hw hK hc i pins s σ H E I hf st hg
    subst hP hw hK
    obtain ⟨hz, hTI, ⟨x0, y0, hTO⟩, h1, h2, _⟩ := st
    obtain ⟨xs, ys, hqx, hqy, rfl, rfl, hlx, hly⟩ := hg
    obtain ⟨P1, St1, D1, t1, r1, k1⟩ := src_draws (A := X.A.in1) (show X.A.in1.handled = none from I.ok.hd hc) I hqx h1 a1
    obtain ⟨P2, St2, D2, t2, r2, k2⟩ := src_draws (A := X.A.in1) (show X.A.in1.handled = none from I.ok.hd hc) I hqy h2 a2
    have hzl : z < s.heap.objs.size := Heap.lt_size hz
    refine wpAny_pyNext_zipD2_item D D1 D2 hz hTI hTO t1 t2 hlx hly fun u u2 h' tk p1 p2 z' TO' h1' h2' hT hsz hk => ?_
    obtain ⟨x, hx, ru⟩ := r1 i u p1
    obtain ⟨y, hy, ru2⟩ := r2 i u2 p2
    refine ⟨_, rfl, wpAny_letOwnedTupleGo_zip (s := { s with heap := h', toks := tk }) z' fun h'' z'' sb => ?_⟩
    have hT2 : h''.get? s.heap.objs.size = some { cls := .type "tuple", data := .seq #[u, u2] } := (sb.2 _ (Nat.ne_of_gt hzl)).trans hT
    have new : ObjOk X.prog X.w (upd H s.heap.objs.size (.tup [x, y])) h'' s.heap.objs.size (.tup [x, y]) :=
      ⟨by show 2 ≤ sizeLine; decide, [u, u2], .cons ru (.cons ru2 .nil), ⟨_, hT2, rfl, _, rfl⟩⟩
    have I1 : Inv X pins σ (upd H s.heap.objs.size (.tup [x, y])) { s with heap := h'', toks := tk } :=
      I.turnedNew (t' := tk) (ch := [z, TI, TO, i1, i2]) (fun c o hb q => (sb.2 c (fun q' => hb (by simp [q']))).trans (hk c o (fun q' => hb (by simp [q'])) (fun q' => hb (by simp [q'])) (fun q' => hb (by simp [q'])) (fun q' => hb (by simp [q'])) q)) hf (Nat.le_refl _) new
    refine ⟨.ref s.heap.objs.size, _, I1, rfl, ⟨_, x, y, rfl, I.hok.fresh (Nat.le_refl _), rfl, fun l hl => by rw [src_inj I hl hqx]; exact hx, fun l hl => by rw [src_inj I hl hqy]; exact hy⟩, ⟨z'', ?_, ⟨u, u2, ?_⟩, ?_, ?_, hlx, hly⟩, fun c hcm => ?_⟩
    · exact (sb.2 _ D.TIz).trans (hk _ _ D.TIz D.TITO D.TIi1 D.TIi2 hTI)
    · exact (sb.2 _ D.TOz).trans TO'
    · exact src_keep (k1 _ _ h1') fun o q => (sb.2 _ D.zi1.symm).trans q
    · exact src_keep (k2 _ _ h2') fun o q => (sb.2 _ D.zi2.symm).trans q
    · have hlt : c < s.heap.objs.size := by
        have e' : c = z ∨ c = TI ∨ c = TO ∨ c = i1 ∨ c = i2 := by simpa using hcm
        rcases e' with q | q | q | q | q
        · rw [q]; exact hzl
        · rw [q]; exact Heap.lt_size hTI
        · rw [q]; exact Heap.lt_size hTO
        · rw [q]; obtain ⟨_, e1, _⟩ := src_obj h1; exact Heap.lt_size e1
        · rw [q]; obtain ⟨_, e2, _⟩ := src_obj h2; exact Heap.lt_size e2
      rw [upd_ne (Nat.ne_of_lt hlt)]
      exact (hf c hcm).1
  done := by
    intro X hP hw hK hc i pins s σ H E I hf st hg
    subst hP hw hK
    obtain ⟨hz, hTI, ⟨x0, y0, hTO⟩, h1, h2, g1, g2⟩ := st
    obtain ⟨xs, ys, hqx, hqy, rfl, rfl, hend⟩ := hg
    obtain ⟨P1, St1, D1, t1, r1, k1⟩ := src_draws (A := X.A.in1) (show X.A.in1.handled = none from I.ok.hd hc) I hqx h1 a1
    obtain ⟨P2, St2, D2, t2, r2, k2⟩ := src_draws (A := X.A.in1) (show X.A.in1.handled = none from I.ok.hd hc) I hqy h2 a2
    exact wpAny_pyNext_zipD2_end D D1 D2 hz hTI hTO t1 t2 g1 g2 (by omega) fun h' tk hk => ⟨rfl, I.turnedL (t' := tk) (ch := [z, TI, TO, i1, i2]) (fun c o hb q =>
      hk c o (fun q' => hb (by simp [q'])) (fun q' => hb (by simp [q'])) (fun q' => hb (by simp [q'])) (fun q' => hb (by simp [q'])) q) hf⟩
  self := fun A i s Q E st h => wpAny_pyIter_zip st.1 h
def iZipS (K : PySem.W.Frag) (ta : TA) : TI := fun σ H R => ta σ H fun vs H1 => ∃ (s1 s2 : Src) (xs ys : List V), vs = [s1.v, s2.v] ∧ s1.is K H1 xs ∧ s2.is K H1 ys ∧ R (ItzS K s1 s2 xs.length ys.length) H1
theorem pi_zipS {X : Cx} {e e2 : Expr} {ta : TA} {p pos tpos : Pos} {elts : List Expr} {kk : Nat} (hg : Gl X "zip") (hm : X.mg "zip" = none) (ha : PA X [e, e2] ta)
    (hs : starEach [e, e2] X.env = (false, eval e X.env) :: starEach [e2] X.env := by rfl) (hpl : (backTo pos (starEach [e2] X.env)).any (·.1) = false := by rfl) :
    PI X (.Tuple elts kk tpos) (.Call (.Name "zip" p) [e, e2] [] pos) (iZipS X.K ta) := by
  refine ⟨fun pins s σ H R I h => ?_⟩
  refine Call_ (ld_blt I hg hm PyProof.Rows.boot_zip (PyProof.Rows.callWith_type1 (thn (ha.run pos pins s σ H _ I h) fun us s1 ⟨vs, H1, I1, r1, q1⟩ => ?_) hs hpl))
  obtain ⟨sa, sb, xs, ys, ex, hqx, hqy, q⟩ := q1
  subst ex
  cases r1 with
  | cons r rr =>
    cases rr with
    | cons r' rr =>
      cases rr
      obtain ⟨o1, Hq1, B1, b1, st1⟩ := src_begins I1 hqx r
      obtain ⟨o2, Hq2, B2, b2, st2⟩ := src_begins I1 hqy r'
      have l1 := src_lt I1 hqx
      have l2 := src_lt I1 hqy
      refine zip_begins2 B1 B2 b1 b2 fun h' hz hTI hTO g1 g2 hsz hk => wpAny_pyIter_zip hz ?_
      have I2 : Inv X pins σ H1 { s1 with heap := h' } := I1.kept (t' := s1.toks) hk
      refine ⟨s1.heap.objs.size + 4, [s1.heap.objs.size + 4, s1.heap.objs.size + 2, s1.heap.objs.size + 3, s1.heap.objs.size, s1.heap.objs.size + 1], _, _, H1, rfl, I2,
        turn_zipS (zip_sep2 l1 l2) (fun z => Nat.lt_irrefl _ (l1 _ z)) (fun z => Nat.lt_irrefl _ (Nat.lt_of_succ_lt (l2 _ z))), ⟨hz, hTI, ⟨_, _, hTO⟩, st1 _ _ g1, st2 _ _ g2, Nat.zero_le _, Nat.zero_le _⟩, fun c hcm => ?_, q⟩
      have e' : c = s1.heap.objs.size + 4 ∨ c = s1.heap.objs.size + 2 ∨ c = s1.heap.objs.size + 3 ∨ c = s1.heap.objs.size ∨ c = s1.heap.objs.size + 1 := by simpa using hcm
      have hle : s1.heap.objs.size ≤ c := by
        rcases e' with z | z | z | z | z
        · rw [z]; exact Nat.le_add_right _ _
        · rw [z]; exact Nat.le_add_right _ _
        · rw [z]; exact Nat.le_add_right _ _
        · rw [z]; exact Nat.le_refl _
        · rw [z]; exact Nat.le_add_right _ _
      exact I1.fpOk hle (I1.hok.fresh hle)
end L2.VL
end
section
set_option Elab.async false
set_option linter.all false
set_option maxRecDepth 100000
set_option maxHeartbeats 4000000
namespace L2.VL
open PySem PySem.Spec PyProof.Rows L2
def chD (x : Str) : List D := x.cps.toList.map fun c => .con (.str ⟨#[c]⟩)
def seqOf (d : D) : Option (List D) := match d with
  | .lst xs => some xs
  | .tup xs => some xs
  | .con (.str x) => some (chD x)
  | _ => none
def Src.fits : Src → D → Prop
  | .lst _, d => ∃ xs, d = .lst xs
  | .tup _, d => ∃ xs, d = .tup xs
  | .txt x, d => d = .con (.str x)
section
variable {K : PySem.W.Frag} {H : Hp} {O : Own} {v : V} {d : D} {xs : List D}
theorem src_of (r : Rep K H (lin O) v d) (e : seqOf d = some xs) : ∃ s : Src, s.fits d ∧ v = s.v := by
  unfold seqOf at e
  split at e
  · obtain ⟨a, vs, rfl, _, _⟩ := (show Vw K H O v _ from .inl r).lst
    exact ⟨.lst a, ⟨_, rfl⟩, rfl⟩
  · obtain ⟨a, vs, rfl, _, _⟩ := (show Vw K H O v _ from .inl r).tup
    exact ⟨.tup a, ⟨_, rfl⟩, rfl⟩
  · rename_i x
    exact ⟨.txt x, rfl, r.con_inv⟩
  · cases e
theorem reps_ch {L : Addr → Prop} : ∀ cs : List Nat, Reps K H L (cs.map fun c => V.str ⟨#[c]⟩) (cs.map fun c => D.con (.str ⟨#[c]⟩))
  | [] => .nil
  | _ :: cs => .cons (.con _) (reps_ch cs)
theorem src_at {s : Src} (f : s.fits d) (r : Rep K H (lin O) s.v d) (e : seqOf d = some xs) : ∃ vs, s.is K H vs ∧ Reps K H (lin O) vs xs := by
  cases s with
  | lst a =>
    obtain ⟨ys, rfl⟩ := f
    cases e
    obtain ⟨a', vs, e1, sq, rs⟩ := (show Vw K H O (.ref a) (.lst xs) from .inl r).lst
    cases e1
    exact ⟨vs, sq, rs⟩
  | tup a =>
    obtain ⟨ys, rfl⟩ := f
    cases e
    obtain ⟨a', vs, e1, sq, rs⟩ := (show Vw K H O (.ref a) (.tup xs) from .inl r).tup
    cases e1
    exact ⟨vs, sq, rs⟩
  | txt x =>
    have f : d = .con (.str x) := f
    subst f
    cases e
    exact ⟨chV x, rfl, reps_ch _⟩
end
theorem walk_zipS {K : PySem.W.Frag} {s1 s2 : Src} {a b : D} {xs ys : List D} (f1 : s1.fits a) (f2 : s2.fits b) (e1 : seqOf a = some xs) (e2 : seqOf b = some ys) :
    WalkOk K [⟨s2.v, b, .shr⟩, ⟨s1.v, a, .shr⟩] (ItzS K s1 s2 xs.length ys.length) ((xs.zip ys).map fun p => .tup [p.1, p.2]) := fun G O σ H ρ i T' U hK R => by
  have rb : Rep G.K H (lin O) s2.v b := tmp_in (T2 := T') (T := _ :: U) R.tm
  have ra : Rep G.K H (lin O) s1.v a := tmp_in (t := ⟨s1.v, a, .shr⟩) (T2 := T' ++ [⟨s2.v, b, .shr⟩]) (T := U) (by simpa using R.tm)
  obtain ⟨vs, sq, rs⟩ := src_at f1 ra e1
  obtain ⟨us, sq2, rs2⟩ := src_at f2 rb e2
  rw [hK] at sq sq2
  have hl : ((xs.zip ys).map fun p => D.tup [p.1, p.2]).length = min xs.length ys.length := by simp
  refine ⟨fun hi => ?_, fun hi => ⟨vs, us, sq, sq2, rs.len, rs2.len, ?_⟩, fun x hx v H' y => ?_⟩
  · rw [hl] at hi
    exact ⟨vs, us, sq, sq2, rs.len, rs2.len, by omega, by omega⟩
  · rw [hl] at hi
    omega
  · obtain ⟨P, x1, x2, rfl, nP, rfl, g1, g2⟩ := y
    rw [List.getElem?_map] at hx
    cases q : (xs.zip ys)[i]? with
    | none => rw [q] at hx; cases hx
    | some pr =>
      rw [q] at hx
      cases hx
      obtain ⟨z1, z2⟩ := List.getElem?_zip_eq_some.mp q
      obtain ⟨u, h1, k1⟩ := rs.get z1
      obtain ⟨u2, h2, k2⟩ := rs2.get z2
      have e1 : x1 = u := by
        have z := g1 vs sq
        rw [h1] at z
        exact (Option.some.inj z).symm
      have e2 : x2 = u2 := by
        have z := g2 us sq2
        rw [h2] at z
        exact (Option.some.inj z).symm
      rw [e1, e2]
      exact ⟨O, R.freshT nP (.tup (.cons k1 (.cons k2 .nil)))⟩
def zipS (ds : List D) : Option (List D) := match ds with
  | [a, b] => (seqOf a).bind fun xs => (seqOf b).map fun ys => (xs.zip ys).map fun p => .tup [p.1, p.2]
  | _ => none
def iZipSD (l : List (Bool × DE)) : M (List D) := do
  let xs ← dA l
  let ds ← mOpt (shrs xs)
  mOpt (zipS ds)
theorem si_zipS {X : Cx} {e e2 : Expr} {p pos : Pos} {elts : List Expr} {kk : Nat} {tpos : Pos} {l : List (Bool × DE)} (hm : X.mg "zip" = none) (ha : SA X [e, e2] l) (hg : Gl X "zip" := by rfl)
    (hs : starEach [e, e2] X.env = (false, eval e X.env) :: starEach [e2] X.env := by rfl) (hpl : (backTo pos (starEach [e2] X.env)).any (·.1) = false := by rfl) : SI X (.Tuple elts kk tpos) (.Call (.Name "zip" p) [e, e2] [] pos) (iZipSD l) := fun W tk =>
  PI.imp (pi_zipS hg hm (ha W tk) hs hpl) fun σ H Q ⟨G, O, ρ, hK, R, h⟩ => ⟨G, O, ρ, [], hK, R, Res.post_ok ((post_bind _ _).mp h) fun xs ρ1 q O1 vs H1 hl R1 => by
    obtain ⟨ds, e1, q2⟩ := (post_opt _).mp ((post_bind _ _).mp q)
    obtain ⟨z, e2, q3⟩ := (post_opt _).mp q2
    have rp := pushC_reps hl R1 e1
    unfold zipS at e2
    split at e2
    · rename_i a b
      obtain ⟨as, ea, e3⟩ := Option.bind_eq_some_iff.mp e2
      obtain ⟨bs, eb, rfl⟩ := Option.map_eq_some_iff.mp e3
      cases rp with
      | cons r1 rr =>
        cases rr with
        | cons r2 rr =>
          cases rr
          obtain ⟨s1, f1, rfl⟩ := src_of r1 ea
          obtain ⟨s2, f2, rfl⟩ := src_of r2 eb
          obtain ⟨v1, q1, w1⟩ := src_at f1 r1 ea
          obtain ⟨v2, q2', w2⟩ := src_at f2 r2 eb
          rw [hK] at q1 q2'
          refine ⟨s1, s2, v1, v2, rfl, q1, q2', ?_⟩
          rw [w1.len, w2.len]
          refine q3 O1 H1 _ _ ?_ (((pushC_pop R1).push (t := ⟨s1.v, a, .shr⟩) r1).push (t := ⟨s2.v, b, .shr⟩) r2) ((walk_zipS f1 f2 ea eb).f hK)
          exact (NoNm.nil.cons fun i z => by cases z).cons fun i z => by cases z
    · cases e2⟩
end L2.VL
end
section
set_option Elab.async false
set_option linter.all false
set_option maxRecDepth 100000
set_option maxHeartbeats 4000000
namespace L2.VL
open PySem PySem.Spec PyProof.Rows L2
end L2.VL
end
section
set_option Elab.async false
set_option linter.all false
set_option maxRecDepth 100000
set_option maxHeartbeats 4000000
namespace L2.VL
open PySem PySem.Spec PyProof.Rows L2
end L2.VL
end
section
set_option Elab.async false
set_option linter.all false
set_option maxRecDepth 100000
set_option maxHeartbeats 2000000
namespace L2.VL
open PySem PySem.Spec PyProof.Rows L2
open PySem.W (keyToks dataLt alike alikeAll AllAlike EachIs dataLe Sortable sorted_data)
end L2.VL
end
section
set_option Elab.async false
set_option linter.all false
set_option maxRecDepth 100000
set_option maxHeartbeats 4000000
namespace L2.VL
open PySem PySem.Spec PyProof.Rows L2
end L2.VL
end
section
set_option Elab.async false
set_option linter.all false
set_option maxRecDepth 100000
set_option maxHeartbeats 4000000
namespace L2.Sc2
open PySem PySem.Spec PyProof.Rows L2 L2.VL PpSet
end L2.Sc2
end
section
set_option Elab.async false
set_option linter.all false
set_option maxRecDepth 100000
set_option maxHeartbeats 4000000
namespace L2.VL
open PySem PySem.Spec PyProof.Rows L2
end L2.VL
end
section
set_option Elab.async false
set_option linter.all false
set_option maxRecDepth 100000
set_option maxHeartbeats 4000000
namespace L2.VL
open PySem PySem.Spec PyProof.Rows L2
end L2.VL
end
section
set_option Elab.async false
set_option linter.all false
set_option maxRecDepth 100000
namespace L2.VL
open PySem PySem.Spec PyProof.Rows L2
end L2.VL
end
section
set_option Elab.async false
set_option linter.all false
set_option maxRecDepth 100000
set_option maxHeartbeats 2000000
namespace L2.VL
open PySem PySem.Spec PyProof.Rows L2
theorem tupIter_at {h h' : Heap} {a t : Addr} {i : Nat} (x : IsTupIter h a t i) (e : ∀ o, h.get? a = some o → h'.get? a = some o) : IsTupIter h' a t i := let ⟨o, ho, r⟩ := x; ⟨o, e _ ho, r⟩
theorem tup_at {h h' : Heap} {a : Addr} {items : Array Value} (x : IsTup h a items) (e : ∀ o, h.get? a = some o → h'.get? a = some o) : IsTup h' a items := let ⟨o, ho, r⟩ := x; ⟨o, e _ ho, r⟩
theorem walks_tupFrom {prog : Program} {w : World} {A : Around} (hh : A.handled = none) (I ax : Addr) (hne : ax ≠ I) (items : Array Value) (j : Nat) :
    Walks prog w A I [I, ax] [I] (items.size - j) (fun i v => items[j + i]? = some v) (fun i h => IsTupIter h I ax (j + i) ∧ IsTup h ax items) where
  sub := fun b hb => by simp at hb; simp [hb]
  frame := fun _ _ _ st hk => ⟨tupIter_at st.1 fun o e => hk I (by simp) o e, tup_at st.2 fun o e => hk ax (by simp) o e⟩
  item := fun i s Q E hi st hQ => by
    have hx : items[j + i]? = some items[j + i] := by simp
    refine next_tuple_item st.1 st.2 hx fun h' hit' hs' => ?_
    exact hQ _ h' s.toks hx ⟨hit', tup_at st.2 fun o e => hs'.extBut ax o hne e⟩ fun b o hb e => hs'.extBut b o (fun h => hb (by simp [h])) e
  done := fun s Q E st hQ => next_tuple_end hh st.1 st.2 (by simp; omega) fun h' he' => hQ h' s.toks fun b o hb e => he' b o (fun h => hb (by simp [h])) e
  self := fun i s Q E st hQ => by
    have hT : s.TypeIs (.ref I) "tuple_iterator" := let ⟨o, ho, hc, _⟩ := st.1; ⟨o, ho, hc⟩
    refine wpAny_pyIter_slot hT F.slot_tuple_iterator_iter (wpAny_call_entry F.slot_tuple_iterator_iter hT F.entry_tuple_iterator_iter ?_ (F.args_tuple_iterator_iter_1 _))
    show wpAny _ _ (ret (.ref I)) _ _ s
    exact wpAny_pure ⟨_, rfl, "tuple_iterator", _, hT, F.slot_tuple_iterator_next.lookup, hQ⟩
theorem itemsOf_drop {items acc : Array Value} (h : ItemsOf (fun i v => items[1 + i]? = some v) acc (items.size - 1)) : acc.toList = items.toList.drop 1 := by
  refine List.ext_getElem? fun i => ?_
  rw [List.getElem?_drop, Array.getElem?_toList, Array.getElem?_toList]
  by_cases c : i < acc.size
  · obtain ⟨v, hv⟩ : ∃ v, acc[i]? = some v := ⟨acc[i], by simp [c]⟩
    rw [hv, h.2 i v hv]
  · have h1 := h.1
    rw [Array.getElem?_eq_none (by omega), Array.getElem?_eq_none (by omega)]
/-- the items for a, *b -/
theorem unpackItems_star {prog : Program} {w : World} {A : Around} {E : Value → Shared → Prop} {s : Shared} {t : Addr} {items : Array Value} {Q : List Value → Shared → Prop} (hh : A.handled = none) (ht : IsTup s.heap t items) (h1 : 1 ≤ items.size) (hz : items.size ≤ sizeLine)
    (hQ : ∀ (h' : Heap) (tk : Nat), (∀ b o, s.heap.get? b = some o → h'.get? b = some o) → Q [items[0], .ref h'.objs.size] { s with heap := h'.push { cls := .type "list", data := .seq (items.toList.drop 1).toArray }, toks := tk }) :
    wpAny (model prog w) A (unpackItems (.ref t) 2 (some 1)) Q E s := by
  have hlt : t ≠ s.heap.objs.size := by obtain ⟨o, ho, _⟩ := ht; exact Nat.ne_of_lt (Heap.lt_size ho)
  unfold unpackItems
  refine wpAny_bind ?_
  unfold notIterableAtAll
  refine wpAny_bind (wpAny_specialOf ht.typeIs slot_tuple_iter.lookup ?_)
  refine wpAny_pure ?_
  simp only [Bool.false_eq_true, if_false]
  refine wpAny_bind (wpAny_holding (iter_tuple ht ?_))
  refine wpAny_bind (wpAny_holding (draw_tuple hlt 1 0 _ _ ⟨_, Heap.get?_push_size _ rfl, rfl, rfl⟩ (ht.push _) (show 0 + 1 ≤ items.size by omega) fun h₁ hit₁ hs₁ => ?_))
  have hf : List.take 1 (List.drop 0 items.toList) = [items[0]] := by
    rw [List.drop_zero]
    cases e : items.toList with
    | nil =>
      have := congrArg List.length e
      rw [Array.length_toList] at this
      exact absurd h1 (by rw [this]; decide)
    | cons x xs =>
      have : items[0] = x := by
        have e2 : items.toList[0]? = some x := by rw [e]; rfl
        rw [Array.getElem?_toList] at e2
        have : items[0]? = some items[0] := by rw [Array.getElem?_eq_getElem]
        rw [this] at e2
        exact Option.some.inj e2
      rw [this]; rfl
  rw [hf]
  rw [if_neg (by simp)]
  have ht₁ : IsTup h₁ t items := (ht.push _).extBut hs₁.extBut hlt
  have W := (walks_tupFrom (prog := prog) (w := w) (A := A.in1) hh s.heap.objs.size t hlt items 1).toS
  have hlt2 : t < s.heap.objs.size := by obtain ⟨o, ho, _⟩ := ht; exact Heap.lt_size ho
  have hlt3 : s.heap.objs.size < h₁.objs.size := by obtain ⟨o, ho, _⟩ := hit₁; exact Heap.lt_size ho
  refine wpAny_bind (wpAny_holding (wpAny_collect_iter (T := "tuple_iterator") (.inr (.inr (.inr rfl))) W (fun _ _ st => let ⟨o, ho, hc, _⟩ := st.1; ⟨o, ho, hc⟩) ⟨hit₁, ht₁⟩ (fun b hb => ?_) (by simp) (fun s' acc hm hi => ?_) (Nat.le_trans (Nat.sub_le _ _) hz)))
  · simp only [List.mem_cons, List.not_mem_nil, or_false] at hb
    show b < h₁.objs.size
    rcases hb with rfl | rfl
    · exact hlt3
    · exact Nat.lt_trans hlt2 hlt3
  · rw [itemsOf_drop hi, Moved.eq_with hm]
    rw [if_neg (by simp)]
    refine wpAny_bind (wpAny_newList ?_ (Nat.le_trans (List.length_take_le' _ _) (by rw [List.length_drop, Array.length_toList]; exact Nat.le_trans (Nat.sub_le _ _) hz)))
    refine wpAny_pure ?_
    have el : (List.drop 1 items.toList).take ((List.drop 1 items.toList).length - (2 - 1 - 1)) = List.drop 1 items.toList := List.take_of_length_le (by simp)
    have ed : (List.drop 1 items.toList).drop ((List.drop 1 items.toList).length - (2 - 1 - 1)) = [] := List.drop_eq_nil_of_le (by simp)
    rw [el, ed]
    have keep : ∀ b o, s.heap.get? b = some o → s'.heap.get? b = some o := fun b o e => by
      have hb := Heap.lt_size e
      exact hm.heap b o (fun z => Nat.ne_of_lt hb (List.mem_singleton.mp z)) (hs₁.extBut b o (Nat.ne_of_lt hb) (Heap.get?_push_of_some _ e))
    exact hQ _ _ keep
section
variable {X : Cx} {pos : Pos}
/-- (a, *b) = a tuple -/
def gStar (K : PySem.W.Frag) (t : TGs) : TG := fun v σ H Q => ∃ a x xs, v = .ref a ∧ SqT K H a (x :: xs) ∧ ∀ p, H p = none → t [x, .ref p] σ (upd H p (.lst xs)) Q
theorem pgs_starred {e : Expr} {es : List Expr} {t : TG} {u : TGs} {p : Pos} (h1 : PG X e t) (h2 : PGs X es u)
    (hs : (assignEach (.Starred e p :: es) X.env).map (·.2) = assign e X.env :: (assignEach es X.env).map (·.2) := by rfl) : PGs X (.Starred e p :: es) (gCons t u) := by
  refine ⟨fun pins s σ H vs us Q I r h => ?_⟩
  obtain ⟨v, vr, e1, h⟩ := h
  subst e1
  cases r with
  | cons r rr =>
    rw [hs]
    refine assignInOrder_cons (thn (h1.run pins s σ H _ _ _ I r h) fun _ s1 ⟨σ1, H1, I1, q1⟩ => ?_)
    exact h2.run pins s1 σ1 H1 _ _ Q I1 rr q1
theorem pg_star {es : List Expr} {k : Nat} {t : TGs} (hc : X.calm = true) (h : PGs X es t)
    (hn : (assignEach es X.env).length = 2 := by rfl) (hst : (assignEach es X.env).findIdx? (·.1) = some 1 := by rfl) : PG X (.Tuple es k pos) (gStar X.K t) := by
  refine ⟨fun pins s σ H v u Q I r hw => ?_⟩
  obtain ⟨a, x, xs, e1, hq, hw⟩ := hw
  subst e1
  cases r
  obtain ⟨its, rv, ht, hz⟩ := I.tuple hq
  cases rv with
  | cons r0 rr =>
    rename_i u0 us
    rw [assign_Tuple]
    refine wpAny_bind (wpAny_standAt ?_)
    unfold unpack
    rw [hn, hst]
    refine wpAny_bind (wpAny_holding (unpackItems_star (I.ok.hd hc) ht (by simp) (by rw [List.size_toArray, List.length_cons, ← rr.length]; exact hz) fun h' tk keep => ?_))
    have I1 : Inv X pins σ H { s with heap := h', toks := tk } := I.kept keep
    have hf : H h'.objs.size = none := I1.hok.fresh (Nat.le_refl _)
    have I2 : Inv X pins σ (upd H h'.objs.size (.lst xs)) { s with heap := h'.push { cls := .type "list", data := .seq us.toArray }, toks := tk } := I1.laid (t' := tk) (fun b u e => Heap.get?_push_of_some _ e) (Nat.le_refl _) ⟨Nat.le_trans (Nat.le_succ _) hz, us, 0, rr, Heap.get?_push_size _ rfl⟩
    exact h.run pins _ σ _ [x, .ref h'.objs.size] [u0, .ref h'.objs.size] Q I2 (.cons r0 (.cons rfl .nil)) (hw _ hf)
end
/-- a, *b = e -/
def dStar (i j : Nat) (r : DE) : DS := do
  let x ← r
  let y ← keep false x
  match y.1 with
  | .tup (d :: ds) => do
    dPut j (.lst ds, .fr)
    dPut i (d, .shr)
    pure .nx
  | _ => mStuck
theorem ss_star {X : Cx} {pj : VK → VK} (i j : Nat) {x y : Str} {e : Expr} {r : DE} {px py ps pt pos : Pos} {k : Nat} (hx : CxG X) (he : SE X e r) (hi : X.N[i]? = some x := by rfl) (hj : X.N[j]? = some y := by rfl) (hij : i ≠ j := by decide)
    (hlx : Loc X.env.scope x := by first | exact Or.inl rfl | exact Or.inr rfl) (hly : Loc X.env.scope y := by first | exact Or.inl rfl | exact Or.inr rfl)
    (hfx : X.fn x = true ∨ X.env.scope.names.lookup x = some .local := by first | exact .inl rfl | exact .inr rfl) (hfy : X.fn y = true ∨ X.env.scope.names.lookup y = some .local := by first | exact .inl rfl | exact .inr rfl)
    (hz1 : (assignEach [.Name x px, .Starred (.Name y py) ps] X.env).map (·.2) = assign (.Name x px) X.env :: (assignEach [.Starred (.Name y py) ps] X.env).map (·.2) := by rfl)
    (hz2 : (assignEach [.Starred (.Name y py) ps] X.env).map (·.2) = assign (.Name y py) X.env :: (assignEach [] X.env).map (·.2) := by rfl)
    (hn : (assignEach [.Name x px, .Starred (.Name y py) ps] X.env).length = 2 := by rfl) (hst : (assignEach [.Name x px, .Starred (.Name y py) ps] X.env).findIdx? (·.1) = some 1 := by rfl)
    (hs : swapsWithSole [.Tuple [.Name x px, .Starred (.Name y py) ps] k pt] e pos.line X.env = pure false := by rfl)
    (hw : swappedStores [.Tuple [.Name x px, .Starred (.Name y py) ps] k pt] e X.env = pure none := by rfl)
    (h1 : (assignEach [.Tuple [.Name x px, .Starred (.Name y py) ps] k pt] X.env).map (·.2) = [assign (.Tuple [.Name x px, .Starred (.Name y py) ps] k pt) X.env] := by rfl) :
    SSf pj X (.Assign [.Tuple [.Name x px, .Starred (.Name y py) ps] k pt] e pos) (dStar i j r) := fun W tk =>
  PS.imp (ps_asg (he W tk) (pg_star hx.calm (pgs_cons (pg_name hx.nd hi hlx hfx) (pgs_starred (pg_name hx.nd hj hly hfy) pgs_nil hz2) hz1) hn hst) hs hw h1) fun D σ H ⟨G, O, ρ, hK, R, h⟩ =>
  ⟨G, O, ρ, hK, R, Res.post_mono ((post_bind _ _).mp h) (fun x1 ρ1 q O' v H' R' => by
    obtain ⟨d0, e1, q2⟩ := keep_false ((post_bind _ _).mp q)
    obtain ⟨O2, R2⟩ := R'.settle (d := d0) e1
    dsimp only at q2
    split at q2
    · rename_i d ds
      have vw : Vw G.K H' O2 v (.tup (d :: ds)) := .inl R2.tm.1
      obtain ⟨a, vs, rfl, sq, rp⟩ := vw.tup
      cases rp with
      | cons rx rxs =>
        rename_i vx vxs
        rw [hK] at sq
        refine ⟨a, vx, vxs, rfl, sq, fun p hp => ?_⟩
        have R3 := R2.pop.push (t := ⟨vx, d, .shr⟩) rx
        obtain ⟨O4, R4⟩ := R3.fresh (d := .lst ds) hp (.lst rxs)
        obtain ⟨O5, ρ5, R5, q5⟩ := put_post (.cons .nil (fun i z => by cases z)) R4 ((post_bind _ _).mp q2)
        obtain ⟨O6, ρ6, R6, q6⟩ := put_post .nil R5 ((post_bind _ _).mp q5)
        refine ⟨vx, [.ref p], rfl, ?_⟩
        refine ⟨.ref p, [], rfl, rfl, ?_⟩
        have es : (σ.set i (some vx)).set j (some (.ref p)) = (σ.set j (some (.ref p))).set i (some vx) := List.set_comm _ _ hij
        rw [es]
        exact q6 O6 _ _ R6
    · exact q2.elim) fun x ρ' q => q σ⟩
end L2.VL
end
section
set_option Elab.async false
set_option linter.all false
set_option maxRecDepth 100000
set_option maxHeartbeats 2000000
namespace L2.VL
open PySem PySem.Spec PyProof.Rows L2
def dOpT (g : D → Option (D × Kd)) (ra : DE) : DE := do
  let x ← ra
  let d ← dcur x
  mOpt (g d)
def OpS1 (K : PySem.W.Frag) (r : V → Hp → VK → Prop) (g : D → Option (D × Kd)) : Prop := ∀ (G : Fix) (O : Own) (σ : St) (H : Hp) (ρ : Rho) (a : V) (x : D) (z : D × Kd) (Q : VK), G.K = K → Rel G O σ H ρ [] → Vw K H O a x →
  g x = some z → (∀ O' v H', Rel G O' σ H' ρ [⟨v, z.1, z.2⟩] → Q v H') → r a H Q
theorem OpS1.run {K : PySem.W.Frag} {W : WX} {r : V → Hp → VK → Prop} {g : D → Option (D × Kd)} {ra : DE} (hs : OpS1 K r g) (σ : St) (H : Hp) (Q : VK) (h : tE K W (dOpT g ra) σ H Q) : tE K W ra σ H fun x H1 => r x H1 Q := by
  obtain ⟨G, O, ρ, hK, R, h⟩ := h
  refine tE.at hK R (Res.post_ok ((post_bind _ _).mp h) fun x ρ1 q O1 v H1 R1 => ?_)
  obtain ⟨d, e1, q3⟩ := post_cur.mp ((post_bind _ _).mp q)
  obtain ⟨z, e3, q5⟩ := (post_opt _).mp q3
  have v1 := R1.view R1.tm.1 e1
  rw [hK] at v1
  exact hs G O1 σ H1 ρ1 v d z Q hK R1.nil v1 e3 q5
/-- x is a dict of the module with these texts and ints -/
structure KdT (K : PySem.W.Frag) (w : World) (mg : Str → Option Value) (x : Str) (tab : List (Str × Int)) : Prop where
  ex : ∃ d es n, mg x = some (.ref d) ∧ KDict K w d es n ∧ ∀ z, (∃ u, tab.lookup z = none ∧ PySem.W.nsIn K d z = some u ∧ u = none) ∨ ∃ i t, tab.lookup z = some i ∧ PySem.W.nsIn K d z = some (some (.int i t))
theorem ix_kd {X : Cx} {d : Addr} {es : Array DictEntry} {n : Nat} (D : KDict X.K X.w d es n) : IxR X (fun x y H Q => ∃ (z : Str) (u0 : Value) (v0 : V), x = .ref d ∧ y = .str z ∧ PySem.W.nsIn X.K d z = some (some u0) ∧ RelV v0 u0 ∧ Q v0 H) := by
  intro value slice pins s σ H x y v u Q I rx ry h hs
  have op := op_item_kd D pins s σ H x y v u Q I rx ry h
  obtain ⟨z, u0, v0, rfl, rfl, e, r, q⟩ := h
  cases rx
  exact tail_any (kd_type D I) F.slot_dict_getitem.lookup op hs
def inTabD (neg : Bool) (tab : List (Str × Int)) (d : D) : Option (D × Kd) := match d with
  | .con (.str z) => some (.con (.bl ((tab.lookup z).isSome != neg)), .shr)
  | _ => none
def ixTabD (tab : List (Str × Int)) (d : D) : Option (D × Kd) := match d with
  | .con (.str z) => (tab.lookup z).map fun i => (.con (.int i), .shr)
  | _ => none
section
variable {X : Cx} {a : Expr} {ra : DE} {x : Str} {tab : List (Str × Int)} {pos p : Pos}
theorem st_ninT (T : KdT X.K X.w X.mg x tab) (ha : SE X a ra) (hg : Gl X x := by rfl) (hd : (x == ("__debug__" : Str)) = false := by decide) (hm : behindInMarks .NotIn (.Name x p) = false := by rfl) : ST X (.Compare a [.NotIn] [.Name x p] pos) (dB (dOpT (inTabD true tab) ra)) := fun W tk => by
  obtain ⟨d, es, n, e1, D, all⟩ := T.ex
  refine PT.imp (pt_cmpR (op_notIn_kd D) (ha W tk) (pe_glob hg e1 (show RelV (.ref d) (.ref d) from rfl) hd) hm) fun σ H Q ⟨G, O, ρ, hK, R, h⟩ => ?_
  refine OpS1.run (K := X.K) (g := inTabD true tab) (r := fun x H1 Q => ∃ (z : Str) (r : Option Value), x = .str z ∧ V.ref d = .ref d ∧ PySem.W.nsIn X.K d z = some r ∧ Q (.bl (!r.isSome)) H1) (fun G O σ H ρ a x z Q hK R v e q => ?_) σ H _ (dB_post hK R h)
  unfold inTabD at e
  split at e
  · cases e
    rename_i z
    rcases all z with ⟨u, h1, h2, h3⟩ | ⟨i, t, h1, h2⟩
    · refine ⟨z, u, v.con, rfl, h2, ?_⟩
      rw [h1] at q
      rw [h3]
      exact q O _ H (R.con _)
    · refine ⟨z, _, v.con, rfl, h2, ?_⟩
      rw [h1] at q
      exact q O _ H (R.con _)
  · cases e
theorem se_ixT (T : KdT X.K X.w X.mg x tab) (ha : SE X a ra) (hp : PlainIx a) (hg : Gl X x := by rfl) (hd : (x == ("__debug__" : Str)) = false := by decide) : SE X (.Subscript (.Name x p) a pos) (dOpT (ixTabD tab) ra) := fun W tk => by
  obtain ⟨d, es, n, e1, D, all⟩ := T.ex
  refine PE.imp (pe_ix (ix_kd D) (pe_glob hg e1 (show RelV (.ref d) (.ref d) from rfl) hd) (ha W tk) hp) fun σ H Q h => ?_
  show tE X.K W ra σ H _
  refine OpS1.run (K := X.K) (g := ixTabD tab) (r := fun y H1 Q => ∃ (z : Str) (u0 : Value) (v0 : V), V.ref d = .ref d ∧ y = .str z ∧ PySem.W.nsIn X.K d z = some (some u0) ∧ RelV v0 u0 ∧ Q v0 H1) (fun G O σ H ρ a x z Q hK R v e q => ?_) σ H Q h
  unfold ixTabD at e
  split at e
  · rename_i z
    obtain ⟨i, h1, rfl⟩ := Option.map_eq_some_iff.mp e
    rcases all z with ⟨u, h3, _, _⟩ | ⟨j, t, h3, h2⟩
    · rw [h3] at h1; cases h1
    · rw [h3] at h1
      cases h1
      exact ⟨z, _, .int _, rfl, v.con, h2, ⟨t, rfl⟩, q O _ H (R.con _)⟩
  · cases e
end
/-- a dict of the module: its name, its texts and ints -/
abbrev TabD : Type := Str × List (Str × Int)
def tabV (K : PySem.W.Frag) (t : TabD) : Bool := t.2.all fun q => match PySem.W.nsIn K (He.ga K t.1) q.1 with
  | some (some (.int j _)) => decide (j = q.2)
  | _ => false
def obK (n : Nat) (fa : List He.Fa) (fn : List He.DefD) (ts : List TabD) (g : Addr → Option Obj) : He.AlT × Bool :=
  ((He.obsD fa fn (He.frG g (He.asD g n)), ts.map fun t => He.dicW (He.frG g (He.asD g n)) (He.ga (He.frG g (He.asD g n)) t.1)), ts.all fun t => tabV (He.frG g (He.asD g n)) t)
def keysT (w : World) (ts : List TabD) : List (Option (List (Option (Str × Int)))) := ts.map fun t => some (He.keysIn w.params (t.2.map Prod.fst))
def hookK (n : Nat) (fa : List He.Fa) (fn : List He.DefD) (ts : List TabD) : PySem.W.Hook where
  α := He.AlT × Bool
  obs := fun s => obK n fa fn ts s.heap.get?
  val := fun w => ((He.valD fn, keysT w ts), true)
  says := fun w h => ∃ K : PySem.W.Frag, K.In h ∧ He.SaysD fa fn K ∧ (ts.map fun t => He.dicW K (He.ga K t.1)) = keysT w ts ∧ (ts.all fun t => tabV K t) = true
  of := fun _ _ e => ⟨_, He.frG_in, congrArg (fun z : He.AlT × Bool => z.1.1) e, congrArg (fun z : He.AlT × Bool => z.1.2) e, congrArg (fun z : He.AlT × Bool => z.2) e⟩
  keeps := fun _ _ _ ⟨K, hK, c⟩ k => ⟨K, PySem.W.Frag.In.keeps hK k, c⟩
theorem obK_eq {n : Nat} {fa : List He.Fa} {fn : List He.DefD} {ts : List TabD} {g : Addr → Option Obj} {s : Shared} (h : ∀ a, g a = s.heap.get? a) : obK n fa fn ts g = (hookK n fa fn ts).obs s := by
  have e : g = s.heap.get? := funext h
  rw [e] <;> rfl
theorem find_key {P : Params} {z : Str} : ∀ {l : List DictEntry} {ks : List Str}, l.map He.keyOf = He.keysIn P ks → z ∉ ks → l.find? (fun e => e.key.isStr z) = none ∧ l.any (fun e => e.refKey) = false
  | [], _, _, _ => ⟨rfl, rfl⟩
  | e :: r, [], h, _ => by cases h
  | e :: r, k :: ks, h, hz => by
    have h1 : He.keyOf e :: r.map He.keyOf = some (k, PyData.keyHash P k) :: He.keysIn P ks := h
    injection h1 with h2 h3
    obtain ⟨i1, i2⟩ := find_key h3 fun y => hz (List.mem_cons_of_mem _ y)
    unfold He.keyOf at h2
    split at h2
    · rename_i x t q
      have h4 := Option.some.inj h2
      obtain ⟨h5, h6⟩ := Prod.mk.inj h4
      have hx : x ≠ z := fun y => hz (by rw [← y, h5]; exact List.mem_cons_self)
      have n1 : e.key.isStr z = false := by
        rw [q]
        exact beq_eq_false_iff_ne.mpr hx
      have n2 : e.refKey = false := by
        unfold DictEntry.refKey
        rw [q]
      refine ⟨?_, ?_⟩
      · rw [List.find?_cons, n1]; exact i1
      · rw [List.any_cons, n2, i2]; rfl
    · cases h2
theorem lookup_memI {z : Str} {i : Int} : ∀ {l : List (Str × Int)}, l.lookup z = some i → (z, i) ∈ l
  | [], h => nomatch h
  | b :: r, h => by
    rw [List.lookup_cons] at h
    split at h
    · rename_i e
      cases h
      rw [beq_iff_eq.mp e]
      exact List.mem_cons_self
    · exact List.mem_cons_of_mem _ (lookup_memI h)
theorem kdT_ok {K : PySem.W.Frag} {w : World} {mg : Str → Option Value} {t : TabD} (g : mg t.1 = some (.ref (He.ga K t.1))) (hd : He.dicW K (He.ga K t.1) = some (He.keysIn w.params (t.2.map Prod.fst))) (hv : tabV K t = true) : KdT K w mg t.1 t.2 := by
  obtain ⟨es, n, D⟩ := He.dicW_ok hd
  have hk : es.toList.map He.keyOf = He.keysIn w.params (t.2.map Prod.fst) := by
    unfold He.dicW at hd
    rw [D.at_] at hd
    have h1 : (match decide (("dict" : String) = "dict") && ((#[] : Array (Option Value)).isEmpty && !(He.ga K t.1 == sysModules)) with
      | true => some (es.toList.map He.keyOf)
      | false => none) = some (He.keysIn w.params (t.2.map Prod.fst)) := hd
    rw [D.low] at h1
    exact Option.some.inj h1
  refine ⟨_, es, n, g, D, fun z => ?_⟩
  cases e : t.2.lookup z with
  | none =>
    left
    have hz : z ∉ t.2.map Prod.fst := fun y => by
      obtain ⟨q, hq, rfl⟩ := List.mem_map.mp y
      have : ∀ l : List (Str × Int), q ∈ l → l.lookup q.1 ≠ none := by
        intro l
        induction l with
        | nil => exact fun y => nomatch y
        | cons b r ih =>
          intro hb y
          rw [List.lookup_cons] at y
          split at y
          · cases y
          · rename_i ne
            rcases List.mem_cons.mp hb with w | w
            · rw [w] at ne; simp at ne
            · exact ih w y
      exact this _ hq e
    obtain ⟨i1, i2⟩ := find_key hk hz
    refine ⟨none, rfl, ?_, rfl⟩
    unfold PySem.W.nsIn
    rw [D.at_]
    dsimp only
    rw [i1]
    dsimp only
    rw [i2]
    rfl
  | some i =>
    right
    have h1 := List.all_eq_true.mp hv _ (lookup_memI e)
    dsimp only at h1
    split at h1
    · rename_i j tk h2
      have := of_decide_eq_true h1
      subst this
      exact ⟨_, tk, rfl, h2⟩
    · cases h1
theorem tab_at {K : PySem.W.Frag} {w : World} {ts : List TabD} (h : (ts.map fun t => He.dicW K (He.ga K t.1)) = keysT w ts) (i : Nat) {t : TabD} (e : ts[i]? = some t := by rfl) : He.dicW K (He.ga K t.1) = some (He.keysIn w.params (t.2.map Prod.fst)) := by
  have h2 : (ts.map fun t => He.dicW K (He.ga K t.1))[i]? = (keysT w ts)[i]? := by rw [h]
  unfold keysT at h2
  rw [List.getElem?_map, List.getElem?_map, e] at h2
  exact Option.some.inj h2
theorem tabv_at {K : PySem.W.Frag} {ts : List TabD} (h : (ts.all fun t => tabV K t) = true) (i : Nat) {t : TabD} (e : ts[i]? = some t := by rfl) : tabV K t = true := List.all_eq_true.mp h t (List.mem_of_getElem? e)
end L2.VL
end
section
set_option Elab.async false
set_option linter.all false
set_option maxRecDepth 100000
set_option maxHeartbeats 2000000
namespace L2.VL
open PySem PySem.Spec PyProof.Rows L2
def rLtS : R2 := fun x y H Q => ∃ i j, x = .str i ∧ y = .str j ∧ Q (.bl (decide (i.cps.toList < j.cps.toList))) H
theorem op_ltS {X : Cx} : OpR X (compareOp .Lt) rLtS := by
  intro pins s σ H x y v u Q I rx ry h
  obtain ⟨i, j, rfl, rfl, q⟩ := h
  obtain ⟨t, rfl⟩ := rx
  obtain ⟨t2, rfl⟩ := ry
  exact P.lt_str ⟨.bl _, H, I, rfl, q⟩
def ltSD (x y : D) : Option Bool := match x, y with
  | .con (.str a), .con (.str b) => some (decide (a.cps.toList < b.cps.toList))
  | _, _ => none
theorem cs_ltS {K : PySem.W.Frag} : CmpS K rLtS ltSD := fun x y H d1 d2 k O Q v1 v2 e q => by
  unfold ltSD at e
  split at e
  · cases e
    exact ⟨_, _, v1.con, v2.con, q⟩
  · cases e
def upSD (d : D) : Option (D × Kd) := match d with
  | .con (.str a) => if a.length ≤ 5592405 then some (.con (.str (Txt.upper a)), .shr) else none
  | _ => none
def dUp (ra : DE) : DE := do
  let x ← ra
  let d ← dcur x
  mOpt (upSD d)
theorem se_up {X : Cx} {o : Expr} {ra : DE} {apos pos : Pos} (ha : SE X o ra) (hbase : attributeBase o "upper" X.env (eval o X.env) = eval o X.env := by rfl) (hline : (apos.endLine == pos.line) = true := by rfl) : SE X (.Call (.Attribute o "upper" apos) [] [] pos) (dUp ra) := fun W tk =>
  PE.imp (pe_upper (ha W tk) hbase hline) fun σ H Q ⟨G, O, ρ, hK, R, h⟩ => by
    refine tE.at hK R (Res.post_ok ((post_bind _ _).mp h) fun x ρ1 q O1 v H1 R1 => ?_)
    obtain ⟨d, e1, q3⟩ := post_cur.mp ((post_bind _ _).mp q)
    obtain ⟨z, e2, q4⟩ := (post_opt _).mp q3
    have v1 := R1.view R1.tm.1 e1
    unfold upSD at e2
    split at e2
    · split at e2
      · rename_i w hw
        cases e2
        exact ⟨⟨w, v1.con⟩, w, v1.con, rfl, hw, q4 O1 _ H1 (R1.pop.con _)⟩
      · cases e2
    · cases e2
theorem call_listS {X : Cx} (hc : X.calm = true) : CallR X (.type "list") (fun xs H Q => ∃ z, xs = [.str z] ∧ z.length ≤ sizeLine ∧ ∀ p, H p = none → Q (.ref p) (upd H p (.lst (z.cps.toList.map fun c => V.str ⟨#[c]⟩)))) := by
  intro pins s σ H xs us Q I r h
  obtain ⟨z, rfl, hz, q⟩ := h
  obtain ⟨u, rfl, rx⟩ := vals1 r
  obtain ⟨t, rfl⟩ := rx
  refine call_list_str (I.ok.hd hc) z t (fun h' tk acc c' keep e items => ?_) hz
  have vs : Vals (z.cps.toList.map fun c => V.str ⟨#[c]⟩) acc.toList := by
    refine vals_of_idx _ _ (by rw [Array.length_toList, items.1, List.length_map, Array.length_toList]) fun j u hj => ?_
    rw [Array.getElem?_toList] at hj
    obtain ⟨c, t2, h1, h2⟩ := items.2 j u hj
    refine ⟨.str ⟨#[c]⟩, ?_, ?_⟩
    · rw [List.getElem?_map, Array.getElem?_toList, h1]; rfl
    · rw [h2]; exact ⟨t2, rfl⟩
  exact ⟨.ref s.heap.objs.size, _, I.laid (t' := tk) keep (Nat.le_refl _) (show ObjOk X.prog X.w _ h' _ (.lst (z.cps.toList.map fun c => V.str ⟨#[c]⟩)) from ⟨by rw [List.length_map, Array.length_toList]; exact hz, acc.toList, c', vs, e⟩), rfl, q _ (I.hok.fresh (Nat.le_refl _))⟩
def listSD (ds : List D) : Option (D × Kd) := match ds with
  | [.con (.str z)] => if z.length ≤ 16777216 then some (.lst (chrs z), .fr) else none
  | _ => none
theorem os_listS {K : PySem.W.Frag} : OpS K (fun xs H Q => ∃ z, xs = [.str z] ∧ z.length ≤ sizeLine ∧ ∀ p, H p = none → Q (.ref p) (upd H p (.lst (z.cps.toList.map fun c => V.str ⟨#[c]⟩)))) listSD := by
  intro G O σ H ρ vs ds z Q hK R w e q
  unfold listSD at e
  split at e
  · rename_i a
    split at e
    · rename_i hz
      cases e
      obtain ⟨v, rfl, v1⟩ := w.one
      rw [v1.con]
      refine ⟨a, rfl, hz, fun l hl => ?_⟩
      obtain ⟨O4, R4⟩ := R.fresh (d := .lst (chrs a)) hl (.lst (by
        have := Reps.cons_map (K := G.K) (H := H) (L := lin O) (fun c : Nat => V.str ⟨#[c]⟩) a.cps.toList
        exact this))
      exact q O4 _ _ R4
    · cases e
  · cases e
end L2.VL
end
section
set_option Elab.async false
set_option linter.all false
set_option maxRecDepth 100000
namespace PySem
open Sem (wp)
theorem wpAny_loadIfAlive {M : Model} {A : Around} {Q : Option Obj → Shared → Prop} {E : Value → Shared → Prop} {s : Shared} {a : Addr} (h : Q (s.heap.get? a) s) : wpAny M A (loadIfAlive a) Q E s := fun Γ p _ => by
  first | exact h | (unfold loadIfAlive; exact h) | (simp only [loadIfAlive, wp]; exact h)
/-- a zip that has handed out the tuple T -/
abbrev IsZipK (h : Heap) (z TI TO : Addr) (t : Value) (b : Bool) : Prop := h.get? z = some { cls := .type "zip", data := .fields #[t, .bool b, .bool false, .ref TI, .ref TO] }
end PySem
namespace PySem
open Sem (wp)
section
variable {prog : Program} {w : World} {A : Around} {E : Value → Shared → Prop} {s : Shared} {z TI TO i1 i2 T : Addr} {fp1 fp2 : List Addr} {n1 n2 i : Nat} {P1 P2 : Nat → Value → Prop} {St1 St2 : Nat → Heap → Prop} {b : Bool}
theorem owned_kept {Q : Bool → Shared → Prop} (hz : IsZipK s.heap z TI TO (rawInt T) b) (hT : ∃ o, s.heap.get? T = some o)
    (h : ∀ g0, IsZipK g0 z TI TO (rawInt T) true → Heap.SameBut z s.heap g0 → Q false { s with heap := g0 }) : wpAny (model prog w) A (Builtin.SmallTypes.ownedTupleIsFree (.ref z)) Q E s := by
  unfold Builtin.SmallTypes.ownedTupleIsFree
  refine wpAny_bind (wpAny_field hz rfl (x := rawInt T) rfl ?_)
  show wpAny _ _ (loadIfAlive ((T : Int).toNat) >>= _) _ _ _
  refine wpAny_bind (wpAny_loadIfAlive ?_)
  obtain ⟨o, ho⟩ := hT
  rw [Int.toNat_natCast, ho]
  simp only [Option.isNone_some, Bool.false_eq_true, if_false]
  refine wpAny_bind (wpAny_field hz rfl (x := .bool b) rfl ?_)
  cases b with
  | true =>
    rw [if_neg (by decide)]
    exact wpAny_pure (h s.heap hz (by first | exact Heap.SameBut.refl _ _ | exact Heap.SameBut.refl .. | exact ⟨rfl, fun _ _ _ e => e⟩ | exact ⟨rfl, fun _ _ => rfl⟩))
  | false =>
    rw [if_pos (by decide)]
    exact wpAny_bind (wpAny_setField_rec hz (by simp) fun g0 hz0 hs0 => wpAny_pure (h g0 hz0 hs0))
end
end PySem
namespace PySem
open Sem (wp)
section
variable {prog : Program} {w : World} {A : Around} {E : Value → Shared → Prop} {s : Shared} {z TI TO i1 i2 T : Addr} {fp1 fp2 : List Addr} {n1 n2 i : Nat} {P1 P2 : Nat → Value → Prop} {St1 St2 : Nat → Heap → Prop} {b : Bool}
theorem zipK_next_item {Q : Value → Shared → Prop} (S : ZipSep2 z TI TO i1 i2 fp1 fp2) (D1 : Draws prog w A i1 fp1 n1 P1 St1) (D2 : Draws prog w A i2 fp2 n2 P2 St2)
    (hz : IsZipK s.heap z TI TO (rawInt T) b) (hT : ∃ o, s.heap.get? T = some o) (hTI : IsTupOf2 s.heap TI (.ref i1) (.ref i2)) (st1 : St1 i s.heap) (st2 : St2 i s.heap) (hlt1 : i < n1) (hlt2 : i < n2)
    (hQ : ∀ x1 x2 h' tk, P1 i x1 → P2 i x2 → IsZipK h' z TI TO (rawInt T) true → St1 (i + 1) h' → St2 (i + 1) h' → IsTupOf2 h' s.heap.objs.size x1 x2 → h'.objs.size = s.heap.objs.size + 1 →
      (∀ c o, c ≠ z → c ≠ i1 → c ≠ i2 → s.heap.get? c = some o → h'.get? c = some o) → Q (.ref s.heap.objs.size) { s with heap := h', toks := tk }) :
    wpAny (model prog w) A (Builtin.«zip.__next__» ⟨[.ref z], []⟩) (fun fin s' => ∃ v, fin = .done (.ret v) ∧ Q v s') E s := by
  obtain ⟨hp, g, d, tk0, os⟩ := s
  show wpAny _ _ (field (.ref z) 2 >>= _) _ _ _
  refine wpAny_bind (wpAny_field hz rfl (x := .bool false) rfl ?_)
  show wpAny _ _ (field (.ref z) 3 >>= _) _ _ _
  refine wpAny_bind (wpAny_field hz rfl (x := .ref TI) rfl ?_)
  refine wpAny_bind (wpAny_seqItems hTI rfl ?_)
  show wpAny _ _ (Builtin.SmallTypes.ownedTupleIsFree (.ref z) >>= _) _ _ _
  refine wpAny_bind (owned_kept hz hT fun g0 hz0 hs0 => ?_)
  replace hs0 : Heap.SameBut z hp g0 := hs0
  simp only [Bool.false_eq_true, if_false]
  refine wpAny_bind ?_
  show wpAny _ _ (forIn #[Value.ref i1, Value.ref i2] _ _) _ _ _
  rw [← Array.forIn_toList]
  simp only [List.forIn_cons, List.forIn_nil]
  refine wpAny_bind (wpAny_bind (wpAny_holding ?_))
  show wpAny _ _ (Builtin.SmallTypes.nextOf (.ref i1) >>= _) _ _ ⟨g0, g, d, tk0, os⟩
  refine wpAny_bind (D1.item i _ _ _ hlt1 (D1.over st1 hs0 S.zf1) fun x1 p1 tk1 hx1 sn1 hp1 => wpAny_pure ?_)
  replace hp1 : Heap.SameBut i1 g0 p1 := hp1
  refine wpAny_pure ?_
  refine wpAny_bind (wpAny_bind (wpAny_holding ?_))
  show wpAny _ _ (Builtin.SmallTypes.nextOf (.ref i2) >>= _) _ _ ⟨p1, g, d, tk1, os⟩
  refine wpAny_bind (D2.item i _ _ _ hlt2 (D2.over (D2.over st2 hs0 S.zf2) hp1 S.sep1_2) fun x2 p2 tk2 hx2 sn2 hp2 => wpAny_pure ?_)
  replace hp2 : Heap.SameBut i2 p1 p2 := hp2
  refine wpAny_pure (wpAny_pure ?_)
  have hsz : p2.objs.size = hp.objs.size := by rw [hp2.1, hp1.1, hs0.1]
  refine wpAny_bind (wpAny_newTuple (wpAny_pure ⟨_, rfl, ?_⟩) (by show 2 ≤ sizeLine; decide))
  have hzz : IsZipK p2 z TI TO (rawInt T) true := hp2.extBut _ _ S.zi2 (hp1.extBut _ _ S.zi1 hz0)
  have hj1 : St1 (i + 1) p2 := D1.over sn1 hp2 S.sep2_1
  show Q (.ref p2.objs.size) ⟨p2.push { cls := .type "tuple", data := .seq #[x1, x2] }, g, d, tk2, os⟩
  rw [hsz]
  exact hQ x1 x2 _ tk2 hx1 hx2 (Heap.get?_push_of_some _ hzz) (D1.frame _ _ _ hj1 fun b _ o e => Heap.get?_push_of_some _ e) (D2.frame _ _ _ sn2 fun b _ o e => Heap.get?_push_of_some _ e) (by rw [← hsz]; exact Heap.get?_push_size _ rfl) (by rw [Heap.size_push, hsz]) fun c o cz c1 c2 e => Heap.get?_push_of_some _ (hp2.extBut _ _ c2 (hp1.extBut _ _ c1 (hs0.extBut _ _ cz e)))
theorem zipK_next_end {Q : Fin → Shared → Prop} (S : ZipSep2 z TI TO i1 i2 fp1 fp2) (D1 : Draws prog w A i1 fp1 n1 P1 St1) (D2 : Draws prog w A i2 fp2 n2 P2 St2)
    (hz : IsZipK s.heap z TI TO (rawInt T) b) (hT : ∃ o, s.heap.get? T = some o) (hTI : IsTupOf2 s.heap TI (.ref i1) (.ref i2)) (st1 : St1 i s.heap) (st2 : St2 i s.heap) (hle1 : i ≤ n1) (hle2 : i ≤ n2) (hend : i = n1 ∨ i = n2)
    (hE : ∀ h' tk e, (∀ c o, c ≠ z → c ≠ i1 → c ≠ i2 → s.heap.get? c = some o → h'.get? c = some o) → (∃ o, h'.get? e = some o ∧ o.cls = .type "StopIteration") → E (.ref e) { s with heap := h', toks := tk }) :
    wpAny (model prog w) A (Builtin.«zip.__next__» ⟨[.ref z], []⟩) Q E s := by
  obtain ⟨hp, g, d, tk0, os⟩ := s
  show wpAny _ _ (field (.ref z) 2 >>= _) _ _ _
  refine wpAny_bind (wpAny_field hz rfl (x := .bool false) rfl ?_)
  show wpAny _ _ (field (.ref z) 3 >>= _) _ _ _
  refine wpAny_bind (wpAny_field hz rfl (x := .ref TI) rfl ?_)
  refine wpAny_bind (wpAny_seqItems hTI rfl ?_)
  show wpAny _ _ (Builtin.SmallTypes.ownedTupleIsFree (.ref z) >>= _) _ _ _
  refine wpAny_bind (owned_kept hz hT fun g0 hz0 hs0 => ?_)
  replace hs0 : Heap.SameBut z hp g0 := hs0
  simp only [Bool.false_eq_true, if_false]
  refine wpAny_bind ?_
  show wpAny _ _ (forIn #[Value.ref i1, Value.ref i2] _ _) _ _ _
  rw [← Array.forIn_toList]
  simp only [List.forIn_cons, List.forIn_nil]
  refine wpAny_bind (wpAny_bind (wpAny_holding ?_))
  show wpAny _ _ (Builtin.SmallTypes.nextOf (.ref i1) >>= _) _ _ ⟨g0, g, d, tk0, os⟩
  by_cases hlt1 : i < n1
  · refine wpAny_bind (D1.item i _ _ _ hlt1 (D1.over st1 hs0 S.zf1) fun x1 p1 tk1 hx1 sn1 hp1 => wpAny_pure ?_)
    replace hp1 : Heap.SameBut i1 g0 p1 := hp1
    refine wpAny_pure ?_
    have hi2 : i = n2 := by omega
    refine wpAny_bind (wpAny_bind (wpAny_holding ?_))
    show wpAny _ _ (Builtin.SmallTypes.nextOf (.ref i2) >>= _) _ _ ⟨p1, g, d, tk1, os⟩
    refine wpAny_bind (D2.done ⟨p1, g, d, tk1, os⟩ _ _ (by rw [← hi2]; exact D2.over (D2.over st2 hs0 S.zf2) hp1 S.sep1_2) fun q e hq he => ?_)
    replace hq : Heap.ExtBut i2 p1 q := hq
    exact hE q tk1 e (fun c o cz c1 c2 x => hq _ _ c2 (hp1.extBut _ _ c1 (hs0.extBut _ _ cz x))) he
  · have hi1 : i = n1 := by omega
    refine wpAny_bind (D1.done ⟨g0, g, d, tk0, os⟩ _ _ (by rw [← hi1]; exact D1.over st1 hs0 S.zf1) fun q e hq he => ?_)
    replace hq : Heap.ExtBut i1 g0 q := hq
    exact hE q tk0 e (fun c o cz c1 c2 x => hq _ _ c1 (hs0.extBut _ _ cz x)) he
theorem wpAny_pyNext_zipK_item {Q : Option Value → Shared → Prop} (S : ZipSep2 z TI TO i1 i2 fp1 fp2) (D1 : Draws prog w A.in1 i1 fp1 n1 P1 St1) (D2 : Draws prog w A.in1 i2 fp2 n2 P2 St2)
    (hz : IsZipK s.heap z TI TO (rawInt T) b) (hT : ∃ o, s.heap.get? T = some o) (hTI : IsTupOf2 s.heap TI (.ref i1) (.ref i2)) (st1 : St1 i s.heap) (st2 : St2 i s.heap) (hlt1 : i < n1) (hlt2 : i < n2)
    (hQ : ∀ x1 x2 h' tk, P1 i x1 → P2 i x2 → IsZipK h' z TI TO (rawInt T) true → St1 (i + 1) h' → St2 (i + 1) h' → IsTupOf2 h' s.heap.objs.size x1 x2 → h'.objs.size = s.heap.objs.size + 1 →
      (∀ c o, c ≠ z → c ≠ i1 → c ≠ i2 → s.heap.get? c = some o → h'.get? c = some o) → Q (some (.ref s.heap.objs.size)) { s with heap := h', toks := tk }) :
    wpAny (model prog w) A (pyNext (.ref z)) Q E s := by
  have hTz : s.TypeIs (.ref z) "zip" := ⟨_, hz, rfl⟩
  unfold pyNext
  exact wpAny_bind (wpAny_attempt (wpAny_callSpecial?_slot (name := Str.ofString "__next__") hTz F.slot_zip_next
    (wpAny_call_entry F.slot_zip_next hTz F.entry_zip_next
      (zipK_next_item S D1 D2 hz hT hTI st1 st2 hlt1 hlt2 fun x1 x2 h' tk y1 y2 b1 d1 d2 b5 b6 b7 => wpAny_pure (hQ x1 x2 h' tk y1 y2 b1 d1 d2 b5 b6 b7)) (F.args_zip_next_1 _))))
theorem wpAny_pyNext_zipK_end {Q : Option Value → Shared → Prop} (S : ZipSep2 z TI TO i1 i2 fp1 fp2) (D1 : Draws prog w A.in1 i1 fp1 n1 P1 St1) (D2 : Draws prog w A.in1 i2 fp2 n2 P2 St2)
    (hz : IsZipK s.heap z TI TO (rawInt T) b) (hT : ∃ o, s.heap.get? T = some o) (hTI : IsTupOf2 s.heap TI (.ref i1) (.ref i2)) (st1 : St1 i s.heap) (st2 : St2 i s.heap) (hle1 : i ≤ n1) (hle2 : i ≤ n2) (hend : i = n1 ∨ i = n2)
    (hQ : ∀ h' tk, (∀ c o, c ≠ z → c ≠ i1 → c ≠ i2 → s.heap.get? c = some o → h'.get? c = some o) → Q none { s with heap := h', toks := tk }) : wpAny (model prog w) A (pyNext (.ref z)) Q E s := by
  have hTz : s.TypeIs (.ref z) "zip" := ⟨_, hz, rfl⟩
  unfold pyNext
  refine wpAny_bind (wpAny_attempt (wpAny_callSpecial?_slot (name := Str.ofString "__next__") hTz F.slot_zip_next
    (wpAny_call_entry F.slot_zip_next hTz F.entry_zip_next (zipK_next_end S D1 D2 hz hT hTI st1 st2 hle1 hle2 hend fun h' tk e hk he => ?_) (F.args_zip_next_1 _))))
  obtain ⟨o, ho, hc⟩ := he
  refine wpAny_bind (wpAny_isInstance (T := "StopIteration") (b := true) ⟨o, ho, hc⟩ isSubtype_stop ?_)
  exact wpAny_pure (hQ _ _ hk)
end
end PySem
end
section
set_option Elab.async false
set_option linter.all false
set_option maxRecDepth 100000
set_option maxHeartbeats 4000000
namespace PySem
theorem zip_no_len : typeLookup (.type "zip") "__len__" = pure none := by rw [typeLookup_type, builtinLookup_eq_fast]; kernel_rfl
theorem zip_no_hint : typeLookup (.type "zip") "__length_hint__" = pure none := by rw [typeLookup_type, builtinLookup_eq_fast]; kernel_rfl
end PySem
namespace L2.VL
open PySem PySem.Spec PyProof.Rows L2
/-- new tuples, one behind another -/
inductive NewTs : Hp → List (V × V) → List Addr → Hp → Prop
  | nil {H : Hp} : NewTs H [] [] H
  | snoc {H H' : Hp} {ps : List (V × V)} {ts : List Addr} {p : V × V} {T : Addr} : NewTs H ps ts H' → H' T = none → NewTs H (ps ++ [p]) (ts ++ [T]) (upd H' T (.tup [p.1, p.2]))
/-- a list as the loop sees it -/
abbrev lsO (items : Array Value) (c : Nat) : Obj := { cls := .type "list", dict := none, data := .seq items c, slots := #[] }
def ZSt (s1 s2 : Src) (z TI TO i1 i2 : Addr) (i : Nat) (h : Heap) : Prop :=
  ((i = 0 ∧ IsZip h z TI TO .none ∧ ∃ x y, IsPair h TO x y) ∨ ∃ (T : Addr) (b : Bool), IsZipK h z TI TO (rawInt T) b ∧ (∃ o, h.get? T = some o) ∧ (T ≠ z ∧ T ≠ i1 ∧ T ≠ i2) ∧ ∃ o, h.get? TO = some o) ∧ IsPair h TI (.ref i1) (.ref i2) ∧ s1.st i1 i h ∧ s2.st i2 i h
section
variable {X : Cx} {pins : List (Addr × Obj)} {σ : St} {H H0 : Hp} {s : Shared} {A : Around} {R : Result → Shared → Prop} {s1 s2 : Src} {xs ys : List V} {z TI TO i1 i2 S : Addr} {res : Value}
theorem is_upd {sr : Src} {p : Addr} {o : HO} (h : sr.is X.K H xs) (n : H p = none) : sr.is X.K (upd H p o) xs := by
  cases sr with
  | lst a =>
    rcases h with h | h
    · rcases h with h | ⟨q, h⟩
      · exact .inl (.inl (by rw [upd_ne (ne_of_none h n)]; exact h))
      · exact .inl (.inr ⟨q, by rw [upd_ne (ne_of_none h n)]; exact h⟩)
    · exact .inr h
  | tup a =>
    rcases h with h | h
    · rcases h with h | ⟨q, h⟩
      · exact .inl (.inl (by rw [upd_ne (ne_of_none h n)]; exact h))
      · exact .inl (.inr ⟨q, by rw [upd_ne (ne_of_none h n)]; exact h⟩)
    · exact .inr h
  | txt x => exact h
theorem zip_loop (hh : A.handled = none) (D : ZipSep2 z TI TO i1 i2 (i1 :: s1.ad) (i2 :: s2.ad)) (a1 : i1 ∉ s1.ad) (a2 : i2 ∉ s2.ad) (hSz : S ≠ z ∧ S ≠ TI ∧ S ≠ TO ∧ S ≠ i1 ∧ S ≠ i2) (hS1 : S ∉ s1.ad) (hS2 : S ∉ s2.ad) (hlen : (xs.zip ys).length ≤ sizeLine)
    (hR : ∀ s' H' ts c, NewTs H0 (xs.zip ys) ts H' → Inv X pins σ H' s' → (∀ b ∈ [S, z, TI, TO, i1, i2], FpOk X pins H' b) → s'.heap.get? S = some (lsO (ts.map Value.ref).toArray c) → R (.ok (.ret res)) s') :
    ∀ (k i : Nat) (s : Shared) (c : Nat) (H : Hp) (ts : List Addr), (xs.zip ys).length - i = k → i ≤ (xs.zip ys).length → Inv X pins σ H s → (∀ b ∈ [S, z, TI, TO, i1, i2], FpOk X pins H b) → NewTs H0 ((xs.zip ys).take i) ts H → ts.length = i → s1.is X.K H xs → s2.is X.K H ys → ZSt s1 s2 z TI TO i1 i2 i s.heap →
      s.heap.get? S = some (lsO (ts.map Value.ref).toArray c) → codeAny (model X.prog X.w) A (.builtin "list.extend.loop" ⟨[.ref S, .ref z, res], []⟩) R s := by
  have hz : ∀ a, a ∈ [S, z, TI, TO, i1, i2] ↔ a = S ∨ a = z ∨ a = TI ∨ a = TO ∨ a = i1 ∨ a = i2 := fun a => by simp
  have hl : (xs.zip ys).length = min xs.length ys.length := by simp
  intro k
  induction k with
  | zero =>
    intro i s c H ts hk hi I hf ht htl q1 q2 zs hS
    have hin : i = (xs.zip ys).length := by omega
    rw [hin, List.take_length] at ht
    obtain ⟨zz, hTI, h1, h2⟩ := zs
    obtain ⟨P1, St1, D1, t1, r1, k1⟩ := src_draws (A := A.in1.in1) (show A.in1.in1.handled = none from hh) I q1 h1 a1
    obtain ⟨P2, St2, D2, t2, r2, k2⟩ := src_draws (A := A.in1.in1) (show A.in1.in1.handled = none from hh) I q2 h2 a2
    refine codeAny_builtin F.entry_extend_loop ?_
    rw [Around.under_plainId F.plain_extend_loop _]
    show wpAny _ A.in1 (pyNext (.ref z) >>= _) _ _ s
    have fin : ∀ (h' : Heap) (tk : Nat), (∀ c o, c ≠ z → c ≠ TO → c ≠ i1 → c ≠ i2 → s.heap.get? c = some o → h'.get? c = some o) → R (.ok (.ret res)) { s with heap := h', toks := tk } := fun h' tk kk => by
      refine hR _ H ts c ht (I.turnedL (t' := tk) (ch := [S, z, TI, TO, i1, i2]) (fun b o hb e => ?_) hf) hf ?_
      · rw [hz] at hb
        exact kk b o (fun y => hb (by simp [y])) (fun y => hb (by simp [y])) (fun y => hb (by simp [y])) (fun y => hb (by simp [y])) e
      · exact kk S _ hSz.1 hSz.2.2.1 hSz.2.2.2.1 hSz.2.2.2.2 hS
    rcases zz with ⟨_, g1, x0, y0, g2⟩ | ⟨T, b, g1, g2, _⟩
    · refine wpAny_bind (wpAny_pyNext_zipD2_end D D1 D2 g1 hTI g2 t1 t2 (by omega) (by omega) (by omega) fun h' tk kk => ?_)
      exact wpAny_pure (fin h' tk kk)
    · refine wpAny_bind (wpAny_pyNext_zipK_end D D1 D2 g1 g2 hTI t1 t2 (by omega) (by omega) (by omega) fun h' tk kk => ?_)
      exact wpAny_pure (fin h' tk fun c o c1 _ c2 c3 e => kk c o c1 c2 c3 e)
  | succ k ih =>
    intro i s c H ts hk hi I hf ht htl q1 q2 zs hS
    have hlt : i < (xs.zip ys).length := by omega
    obtain ⟨zz, hTI, h1, h2⟩ := zs
    obtain ⟨P1, St1, D1, t1, r1, k1⟩ := src_draws (A := A.in1.in1) (show A.in1.in1.handled = none from hh) I q1 h1 a1
    obtain ⟨P2, St2, D2, t2, r2, k2⟩ := src_draws (A := A.in1.in1) (show A.in1.in1.handled = none from hh) I q2 h2 a2
    have hzl : z < s.heap.objs.size := by
      rcases zz with ⟨_, g1, _⟩ | ⟨T, b, g1, _⟩
      · exact Heap.lt_size g1
      · exact Heap.lt_size g1
    have hSl : S < s.heap.objs.size := Heap.lt_size hS
    have hTOl : TO < s.heap.objs.size := by
      rcases zz with ⟨_, _, x0, y0, g2⟩ | ⟨T, b, _, _, _, o, g2⟩
      · exact Heap.lt_size g2
      · exact Heap.lt_size g2
    have hi1 : i1 < s.heap.objs.size := by obtain ⟨_, e1, _⟩ := src_obj h1; exact Heap.lt_size e1
    have hi2 : i2 < s.heap.objs.size := by obtain ⟨_, e1, _⟩ := src_obj h2; exact Heap.lt_size e1
    refine codeAny_builtin F.entry_extend_loop ?_
    rw [Around.under_plainId F.plain_extend_loop _]
    show wpAny _ A.in1 (pyNext (.ref z) >>= _) _ _ s
    have fin : ∀ (u u2 : Value) (h' : Heap) (tk : Nat) (T : Addr) (b : Bool), P1 i u → P2 i u2 → IsZipK h' z TI TO (rawInt T) b → (∃ o, h'.get? T = some o) → T ≠ z → T ≠ i1 → T ≠ i2 → (∃ o, h'.get? TO = some o) → St1 (i + 1) h' → St2 (i + 1) h' → IsPair h' s.heap.objs.size u u2 →
        (∀ c o, c ≠ z → c ≠ TO → c ≠ i1 → c ≠ i2 → s.heap.get? c = some o → h'.get? c = some o) →
        wpAny (model X.prog X.w) A.in1 (updateSeq S (·.push (.ref s.heap.objs.size)) >>= fun _ => again (.builtin "list.extend.loop" ⟨[.ref S, .ref z, res], []⟩))
          (fun fin s' => match fin with | .done f => R (.ok f) s' | .again c' => c'.quiet = true ∧ codeAny (model X.prog X.w) A c' R s') (fun e s' => R (.error e) s') { s with heap := h', toks := tk } := by
      intro u u2 h' tk T b p1 p2 z' hT n1 n2 n3 hTO e1 e2 hP kk
      have hS' : h'.get? S = some (lsO (ts.map Value.ref).toArray c) := kk S _ hSz.1 hSz.2.2.1 hSz.2.2.2.1 hSz.2.2.2.2 hS
      have hacc : ((ts.map Value.ref).toArray).size = i := by simp [htl]
      refine wpAny_bind ?_
      refine wpAny_updateSeq hS' rfl (wpAny_pure ⟨plainId_quiet F.plain_extend_loop _, ?_⟩) (by rw [hacc]; omega) (by show ((ts.map Value.ref).toArray.push _).size ≤ sizeLine + 1; rw [Array.size_push, hacc]; omega)
      have up : ∀ b o, b ≠ S → h'.get? b = some o → (h'.update S (Obj.mapSeq (·.push (Value.ref s.heap.objs.size)))).get? b = some o := fun b o hb e => (Heap.get?_update_other _ _ (Ne.symm hb)).trans e
      obtain ⟨x, hx, ru⟩ := r1 i u p1
      obtain ⟨y, hy, ru2⟩ := r2 i u2 p2
      have hxy : (xs.zip ys)[i]? = some (x, y) := List.getElem?_zip_eq_some.mpr ⟨hx, hy⟩
      have hn : H s.heap.objs.size = none := I.hok.fresh (Nat.le_refl _)
      have hT2 : (h'.update S (Obj.mapSeq (·.push (Value.ref s.heap.objs.size)))).get? s.heap.objs.size = some { cls := .type "tuple", data := .seq #[u, u2] } := up _ _ (Nat.ne_of_gt hSl) hP
      have new : ObjOk X.prog X.w (upd H s.heap.objs.size (.tup [x, y])) (h'.update S (Obj.mapSeq (·.push (Value.ref s.heap.objs.size)))) s.heap.objs.size (.tup [x, y]) :=
        ⟨by show 2 ≤ sizeLine; decide, [u, u2], .cons ru (.cons ru2 .nil), ⟨_, hT2, rfl, _, rfl⟩⟩
      have I1 := I.turnedNew (t' := tk) (ch := [S, z, TI, TO, i1, i2]) (fun b o hb q => up b o (fun y => hb (by simp [y])) (kk b o (fun y => hb (by simp [y])) (fun y => hb (by simp [y])) (fun y => hb (by simp [y])) (fun y => hb (by simp [y])) q)) hf (Nat.le_refl _) new
      have tk1 : (xs.zip ys).take (i + 1) = (xs.zip ys).take i ++ [(x, y)] := by rw [List.take_add_one, hxy]; rfl
      obtain ⟨c', hS2⟩ : ∃ c', (h'.update S (Obj.mapSeq (·.push (Value.ref s.heap.objs.size)))).get? S = some (lsO ((ts ++ [s.heap.objs.size]).map Value.ref).toArray c') :=
        ⟨_, by rw [show ((ts ++ [s.heap.objs.size]).map Value.ref).toArray = (ts.map Value.ref).toArray.push (.ref s.heap.objs.size) by simp]; exact Heap.get?_update_self _ hS' rfl⟩
      refine ih (i + 1) _ c' (upd H s.heap.objs.size (.tup [x, y])) (ts ++ [s.heap.objs.size]) (by omega) (by omega) I1 (fun b hb => ⟨?_, (hf b hb).2⟩) ?_ (by simp [htl]) (is_upd q1 hn) (is_upd q2 hn) ⟨.inr ⟨T, b, up _ _ hSz.1.symm z', ?_, ⟨n1, n2, n3⟩, hTO.elim fun o q => ⟨o, up _ _ hSz.2.2.1.symm q⟩⟩, up _ _ hSz.2.1.symm (kk _ _ D.TIz D.TITO D.TIi1 D.TIi2 hTI), ?_, ?_⟩ hS2
      · have hlt : b < s.heap.objs.size := by
          rcases (hz b).mp hb with q | q | q | q | q | q
          · rw [q]; exact hSl
          · rw [q]; exact hzl
          · rw [q]; exact Heap.lt_size hTI
          · have : TO < s.heap.objs.size := hTOl
            rw [q]; exact this
          · rw [q]; exact hi1
          · rw [q]; exact hi2
        rw [upd_ne (Nat.ne_of_lt hlt)]
        exact (hf b hb).1
      · rw [tk1]
        exact .snoc ht hn
      · obtain ⟨o, ho⟩ := hT
        by_cases y : T = S
        · rw [y]
          exact ⟨_, Heap.get?_update_self _ hS' rfl⟩
        · exact ⟨o, up _ _ y ho⟩
      · exact src_keep (k1 _ _ e1) fun o q => up _ _ hSz.2.2.2.1.symm q
      · exact src_keep (k2 _ _ e2) fun o q => up _ _ hSz.2.2.2.2.symm q
    rcases zz with ⟨_, g1, x0, y0, g2⟩ | ⟨T, b, g1, g2, ⟨n1, n2, n3⟩, oT, hoT⟩
    · refine wpAny_bind (wpAny_pyNext_zipD2_item D D1 D2 g1 hTI g2 t1 t2 (by omega) (by omega) fun u u2 h' tk p1 p2 z' TO' e1 e2 hT hsz kk => ?_)
      exact fin u u2 h' tk _ false p1 p2 z' ⟨_, hT⟩ (Nat.ne_of_gt hzl) (Nat.ne_of_gt hi1) (Nat.ne_of_gt hi2) ⟨_, TO'⟩ e1 e2 hT kk
    · refine wpAny_bind (wpAny_pyNext_zipK_item D D1 D2 g1 g2 hTI t1 t2 (by omega) (by omega) fun u u2 h' tk p1 p2 z' e1 e2 hT hsz kk => ?_)
      obtain ⟨o, ho⟩ := g2
      exact fin u u2 h' tk T true p1 p2 z' ⟨o, kk T o n1 n2 n3 ho⟩ n1 n2 n3 ⟨oT, kk TO oT D.TOz D.Ti1 D.Ti2 hoT⟩ e1 e2 hT fun c o c1 _ c2 c3 e => kk c o c1 c2 c3 e
theorem NewTs.len {H H' : Hp} {ps : List (V × V)} {ts : List Addr} (h : NewTs H ps ts H') : ts.length = ps.length := by
  induction h with
  | nil => rfl
  | snoc _ _ ih => rw [List.length_append, List.length_append, ih]; rfl
theorem vals_refs : ∀ ts : List Addr, Vals (ts.map V.ref) (ts.map Value.ref)
  | [] => .nil
  | _ :: ts => .cons rfl (vals_refs ts)
theorem inv_shown {its : List Value} {vs : List V} {c : Nat} (I : Inv X pins σ H s) (f : FpOk X pins H S) (e : s.heap.get? S = some (lsO its.toArray c)) (r : Vals vs its) (hl : vs.length ≤ sizeLine) : Inv X pins σ (upd H S (.lst vs)) s := by
  have hn : H S = none := f.1
  refine I.step (h' := s.heap) (g' := s.gens) (d' := s.drawn) (t' := s.toks) (ch := [S]) (fun b hb => ?_) (fun b o _ _ _ e _ => e) (fun b o _ _ _ e _ => ⟨o.slots, e⟩) (fun b o hb _ n => ?_) (fun b o _ e => ⟨o, e⟩) (fun b xs e => ?_) (fun b o u e => ?_) (fun b ps e => ⟨#[], ?_⟩) (fun m hm => hm) (fun b u e' => ?_) I.bare
  · rw [List.mem_singleton.mp hb]
    exact ⟨f.2.2.2.1, f.2.1, f.2.2.2.2.1, f.2.2.2.2.2⟩
  · rw [upd_ne (fun z => hb (by rw [z]; exact List.mem_singleton.mpr rfl))]; exact n
  · rw [upd_ne (ne_of_none e hn)]; exact e
  · rw [upd_ne (ne_of_none e hn)]; exact e
  · rw [upd_ne (ne_of_none e hn), e]; simp
  · by_cases hb : b = S
    · subst hb
      rw [upd_same] at e'
      cases e'
      exact ⟨hl, its, c, r, e⟩
    · rw [upd_ne hb] at e'
      exact (I.hok b u e').stay (fun c v hc q => q) (fun c q => by rw [upd_ne (ne_of_none q hn)]; exact q) fun c xs q => by rw [upd_ne (ne_of_none q hn)]; exact q
theorem call_list_zip {E : Value → Shared → Prop} {Q : Value → Shared → Prop} (hh : A.handled = none) (D : ZipSep2 z TI TO i1 i2 (i1 :: s1.ad) (i2 :: s2.ad)) (a1 : i1 ∉ s1.ad) (a2 : i2 ∉ s2.ad) (hlt : ∀ b ∈ [z, TI, TO, i1, i2], b < s.heap.objs.size) (hl1 : ∀ b ∈ s1.ad, b < s.heap.objs.size) (hl2 : ∀ b ∈ s2.ad, b < s.heap.objs.size)
    (hlen : (xs.zip ys).length ≤ sizeLine) (I : Inv X pins σ H s) (hf : ∀ b ∈ [z, TI, TO, i1, i2], FpOk X pins H b) (q1 : s1.is X.K H xs) (q2 : s2.is X.K H ys) (hz : IsZip s.heap z TI TO .none) (hTO : ∃ x y, IsPair s.heap TO x y) (hTI : IsPair s.heap TI (.ref i1) (.ref i2)) (st1 : s1.st i1 0 s.heap) (st2 : s2.st i2 0 s.heap)
    (hQ : ∀ l s' H' ts, NewTs H (xs.zip ys) ts H' → H' l = none → Inv X pins σ (upd H' l (.lst (ts.map V.ref))) s' → Q (.ref l) s') :
    wpAny (model X.prog X.w) A (call (.type "list") [.ref z]) Q E s := by
  refine callType_codes (Q₁ := fun obj s₁ => obj = .ref s.heap.objs.size ∧ s₁ = { s with heap := s.heap.push { cls := .type "list", data := .seq #[] } }) F.called_list (F.typeCall_list_1 _) F.entry_list_init
    (code_list_new _ ⟨rfl, rfl⟩) fun obj s₁ h₁ => ?_
  obtain ⟨rfl, rfl⟩ := h₁
  have hS : (s.heap.push { cls := .type "list", data := .seq #[] }).get? s.heap.objs.size = some { cls := .type "list", data := .seq #[] } := Heap.get?_push_size _ rfl
  have ne : ∀ b, b < s.heap.objs.size → s.heap.objs.size ≠ b := fun b hb e => absurd hb (by rw [← e]; exact Nat.lt_irrefl _)
  have nz : s.heap.objs.size ≠ z := ne _ (hlt _ (by simp))
  refine ⟨⟨_, hS, rfl⟩, F.args_list_init_2 _ _, ?_⟩
  show wpAny _ A.in1.in1 (do let old ← Builtin.List.listItems (.ref s.heap.objs.size); Builtin.List.listUpdate (.ref s.heap.objs.size) (fun _ => #[]); letGo old.toList.reverse; Builtin.List.listExtendWith (.ref s.heap.objs.size) (.ref z) .none) _ _ _
  refine wpAny_bind ?_
  unfold Builtin.List.listItems
  refine wpAny_bind (wpAny_seqItems hS rfl (wpAny_pure ?_))
  show wpAny _ A.in1.in1 (updateSeq s.heap.objs.size (fun _ => #[]) >>= fun _ => letGo (#[] : Array Value).toList.reverse >>= fun _ => Builtin.List.listExtendWith (.ref s.heap.objs.size) (.ref z) .none) _ _ _
  refine wpAny_bind (wpAny_updateSeq hS rfl ?_)
  have hS₂ := Heap.get?_update_self (Obj.mapSeq (fun _ => (#[] : Array Value))) hS rfl
  refine wpAny_bind (wpAny_letGo ?_)
  have kp : ∀ b o, s.heap.get? b = some o → ((s.heap.push { cls := .type "list", data := .seq #[] }).update s.heap.objs.size (Obj.mapSeq (fun _ => (#[] : Array Value)))).get? b = some o := fun b o e =>
    (Heap.get?_update_other _ _ (ne b (Heap.lt_size e))).trans (Heap.get?_push_of_some _ e)
  have hzT : ({ s with heap := (s.heap.push { cls := .type "list", data := .seq #[] }).update s.heap.objs.size (Obj.mapSeq (fun _ => (#[] : Array Value))) } : Shared).TypeIs (.ref z) "zip" := ⟨_, kp _ _ hz, rfl⟩
  unfold Builtin.List.listExtendWith
  refine wpAny_bind (wpAny_typeOf hzT ?_)
  have h1 : Builtin.List.listSameRef (.ref s.heap.objs.size) (.ref z) = false := by simp [Builtin.List.listSameRef, nz]
  have h2 : (Value.type "zip" == Value.type "list") = false := by decide
  have h3 : (Value.type "zip" == Value.type "tuple") = false := by decide
  simp only [h1, h2, h3, Bool.or_false, Bool.false_eq_true, if_false]
  refine wpAny_bind (wpAny_pyIter_zip (kp _ _ hz) ?_)
  refine wpAny_bind (wpAny_holding ?_)
  unfold Builtin.List.listLengthHint
  refine wpAny_bind (wpAny_specialOf hzT zip_no_len ?_)
  show wpAny _ A.in1.in1 (specialOf (Value.ref z) (Str.ofString "__length_hint__") >>= _) _ _ _
  refine wpAny_bind (wpAny_specialOf hzT zip_no_hint ?_)
  refine wpAny_pure ?_
  show wpAny _ A.in1.in1 (rule "list.extend.makes-room" >>= fun _ => Builtin.List.listTouch (.ref s.heap.objs.size) >>= fun _ =>
    again (.builtin "list.extend.loop" ⟨[.ref s.heap.objs.size, .ref z, .none], []⟩)) _ _ _
  refine wpAny_bind (wpAny_rule ?_)
  refine wpAny_bind ?_
  show wpAny _ A.in1.in1 (updateSeq s.heap.objs.size (·.push .none) >>= fun _ => updateSeq s.heap.objs.size (·.pop)) _ _ _
  refine wpAny_bind (wpAny_updateSeq hS₂ rfl ?_)
  have hS₃ := Heap.get?_update_self (Obj.mapSeq (·.push Value.none)) hS₂ rfl
  refine wpAny_updateSeq hS₃ rfl ?_
  have hS₄ := Heap.get?_update_self (Obj.mapSeq (·.pop)) hS₃ rfl
  have kp4 : ∀ b o, s.heap.get? b = some o → ((((s.heap.push { cls := .type "list", data := .seq #[] }).update s.heap.objs.size (Obj.mapSeq (fun _ => (#[] : Array Value)))).update s.heap.objs.size (Obj.mapSeq (·.push Value.none))).update s.heap.objs.size (Obj.mapSeq (·.pop))).get? b = some o := fun b o e =>
    (Heap.get?_update_other _ _ (ne b (Heap.lt_size e))).trans ((Heap.get?_update_other _ _ (ne b (Heap.lt_size e))).trans (kp b o e))
  have I2 := I.kept (t' := s.toks) kp4
  have fS : FpOk X pins H s.heap.objs.size := I.fpOk (Nat.le_refl _) (I.hok.fresh (Nat.le_refl _))
  obtain ⟨x0, y0, hTO⟩ := hTO
  refine wpAny_pure ⟨plainId_quiet F.plain_extend_loop _, zip_loop (X := X) (pins := pins) (σ := σ) (H0 := H) (S := s.heap.objs.size) (show A.in1.handled = none from hh) D a1 a2 ⟨nz, ne _ (hlt _ (by simp)), ne _ (hlt _ (by simp)), ne _ (hlt _ (by simp)), ne _ (hlt _ (by simp))⟩ (fun q => ne _ (hl1 _ q) rfl) (fun q => ne _ (hl2 _ q) rfl) hlen (fun s' H' ts c nt I' f' e' => ?_)
    _ 0 _ _ H [] rfl (Nat.zero_le _) I2 (fun b hb => ?_) (by rw [List.take_zero]; exact .nil) rfl q1 q2 ⟨.inl ⟨rfl, kp4 _ _ hz, x0, y0, kp4 _ _ hTO⟩, kp4 _ _ hTI, src_keep st1 fun o q => kp4 _ _ q, src_keep st2 fun o q => kp4 _ _ q⟩ hS₄⟩
  · exact ⟨rfl, hQ _ s' H' ts nt (f' _ List.mem_cons_self).1 (inv_shown I' (f' _ List.mem_cons_self) e' (vals_refs ts) (by rw [List.length_map, nt.len]; exact hlen))⟩
  · rcases List.mem_cons.mp hb with q | q
    · rw [q]; exact fS
    · exact hf b q
end
def tListZip (K : PySem.W.Frag) (ta : TA) : TE := fun σ H Q => ta σ H fun vs H1 => ∃ (s1 s2 : Src) (xs ys : List V), vs = [s1.v, s2.v] ∧ s1.is K H1 xs ∧ s2.is K H1 ys ∧ (∀ x, s2 ≠ .txt x) ∧
  ∀ H2 ts l, NewTs H1 (xs.zip ys) ts H2 → H2 l = none → Q (.ref l) (upd H2 l (.lst (ts.map V.ref)))
theorem pe_listZip {X : Cx} {e e2 : Expr} {ta : TA} {p pos p2 pos2 : Pos} (hc : X.calm = true) (hg : Gl X "zip") (hm : X.mg "zip" = none) (hg2 : Gl X "list") (hm2 : X.mg "list" = none) (ha : PA X [e, e2] ta)
    (hs : starEach [e, e2] X.env = (false, eval e X.env) :: starEach [e2] X.env := by rfl) (hpl : (backTo pos (starEach [e2] X.env)).any (·.1) = false := by rfl)
    (he : starEach [.Call (.Name "zip" p) [e, e2] [] pos] X.env = (false, eval (.Call (.Name "zip" p) [e, e2] [] pos) X.env) :: starEach [] X.env := by rfl) :
    PE X (.Call (.Name "list" p2) [.Call (.Name "zip" p) [e, e2] [] pos] [] pos2) (tListZip X.K ta) := by
  refine ⟨fun pins s σ H Q I h => ?_⟩
  refine wpAny_Call_Name_kw (ld_blt I hg2 hm2 (show bootBuiltins "list" = some (.type "list") by first | rfl | decide +kernel) ?_)
  refine PyProof.Rows.callWith_type1 ?_ he rfl
  rw [he]
  show wpAny _ _ (spliced ((false, eval (.Call (.Name "zip" p) [e, e2] [] pos) X.env) :: backTo pos2 (starEach [] X.env))) _ _ s
  refine Calls.spliced_cons ?_
  refine Call_ (ld_blt I hg hm PyProof.Rows.boot_zip (PyProof.Rows.callWith_type1 (thn (ha.run pos pins s σ H _ I h) fun us s1 ⟨vs, H1, I1, r1, q1⟩ => ?_) hs hpl))
  obtain ⟨sa, sb, xs, ys, ex, hqx, hqy, ntx, q⟩ := q1
  subst ex
  cases r1 with
  | cons r rr =>
    cases rr with
    | cons r' rr =>
      cases rr
      obtain ⟨o1, Hq1, B1, b1, st1⟩ := src_begins I1 hqx r
      obtain ⟨o2, Hq2, B2, b2, st2⟩ := src_begins I1 hqy r'
      have l1 := src_lt I1 hqx
      have l2 := src_lt I1 hqy
      have hle : ys.length ≤ sizeLine := by
        cases sb with
        | lst a => obtain ⟨_, _, _, l⟩ := I1.list hqy; exact l
        | tup a => obtain ⟨_, _, _, l⟩ := I1.tuple hqy; exact l
        | txt x => exact absurd rfl (ntx x)
      refine zip_begins2 B1 B2 b1 b2 fun h' hz hTI hTO g1 g2 hsz hk => Calls.spliced_nil ?_
      have I2 : Inv X pins σ H1 { s1 with heap := h' } := I1.kept (t' := s1.toks) hk
      have hlt : ∀ b ∈ [s1.heap.objs.size + 4, s1.heap.objs.size + 2, s1.heap.objs.size + 3, s1.heap.objs.size, s1.heap.objs.size + 1], s1.heap.objs.size ≤ b ∧ b < h'.objs.size := fun b hb => by
        have e' : b = s1.heap.objs.size + 4 ∨ b = s1.heap.objs.size + 2 ∨ b = s1.heap.objs.size + 3 ∨ b = s1.heap.objs.size ∨ b = s1.heap.objs.size + 1 := by simpa using hb
        omega
      have hge : s1.heap.objs.size ≤ h'.objs.size := by omega
      refine call_list_zip (show X.A.handled = none from I.ok.hd hc) (zip_sep2 l1 l2) (fun z => Nat.lt_irrefl _ (l1 _ z)) (fun z => Nat.lt_irrefl _ (Nat.lt_of_succ_lt (l2 _ z))) (fun b hb => (hlt b hb).2) (fun b hb => Nat.lt_of_lt_of_le (l1 b hb) hge) (fun b hb => Nat.lt_of_lt_of_le (l2 b hb) hge)
        (by rw [List.length_zip]; omega) I2 (fun b hb => I1.fpOk (hlt b hb).1 (I1.hok.fresh (hlt b hb).1)) hqx hqy hz ⟨_, _, hTO⟩ hTI (st1 _ _ g1) (st2 _ _ g2) fun l s' H' ts nt nl I' => ?_
      exact ⟨.ref l, _, I', rfl, q _ ts l nt nl⟩
theorem newTs_nil {H H' : Hp} {ps : List (V × V)} {ts : List Addr} (h : NewTs H ps ts H') (e : ps = []) : ts = [] ∧ H' = H := by
  cases h with
  | nil => exact ⟨rfl, rfl⟩
  | snoc _ _ => simp at e
theorem newTs_snoc {H H' : Hp} {ps qs : List (V × V)} {p : V × V} {ts : List Addr} (h : NewTs H ps ts H') (e : ps = qs ++ [p]) : ∃ ts' T H1, ts = ts' ++ [T] ∧ NewTs H qs ts' H1 ∧ H1 T = none ∧ H' = upd H1 T (.tup [p.1, p.2]) := by
  cases h with
  | nil => simp at e
  | snoc h1 h2 =>
    obtain ⟨e1, e2⟩ := List.append_inj' e rfl
    subst e1
    cases e2
    exact ⟨_, _, _, rfl, h1, h2, rfl⟩
theorem newTs_rel {G : Fix} {O : Own} {σ : St} {H0 : Hp} {ρ : Rho} {T : List Tmp} {vs us : List V} {xs ys : List D} (r1 : Reps G.K H0 (lin O) vs xs) (r2 : Reps G.K H0 (lin O) us ys) (R : Rel G O σ H0 ρ T) :
    ∀ (n : Nat) (ts : List Addr) (H' : Hp), NewTs H0 ((vs.zip us).take n) ts H' → Rel G O σ H' ρ T ∧ Reps G.K H' (lin O) vs xs ∧ Reps G.K H' (lin O) us ys ∧ Reps G.K H' (lin O) (ts.map V.ref) (((xs.zip ys).take n).map fun p => .tup [p.1, p.2]) := by
  intro n
  induction n with
  | zero =>
    intro ts H' h
    obtain ⟨rfl, rfl⟩ := newTs_nil h (by simp)
    exact ⟨R, r1, r2, .nil⟩
  | succ n ih =>
    intro ts H' h
    cases e : (vs.zip us)[n]? with
    | none =>
      have hl : (vs.zip us).length ≤ n := List.getElem?_eq_none_iff.mp e
      have hl2 : (xs.zip ys).length ≤ n := by
        rw [List.length_zip, ← r1.len, ← r2.len, ← List.length_zip]; exact hl
      rw [List.take_of_length_le (Nat.le_succ_of_le hl)] at h
      have := ih ts H' (by rw [List.take_of_length_le hl]; exact h)
      rw [List.take_of_length_le hl2] at this
      rw [List.take_of_length_le (Nat.le_succ_of_le hl2)]
      exact this
    | some p =>
      obtain ⟨e1, e2⟩ := List.getElem?_zip_eq_some.mp e
      obtain ⟨ts', T', H1, rfl, h1, hn, rfl⟩ := newTs_snoc h (by rw [List.take_add_one, e]; rfl)
      obtain ⟨R1, q1, q2, q3⟩ := ih ts' H1 h1
      have hs : Stay H1 (upd H1 T' (.tup [p.1, p.2])) (lin O) (lin O) := fun b o n eb => ⟨by rw [upd_ne (fun z => by rw [z, hn] at eb; cases eb)]; exact eb, n⟩
      obtain ⟨x, k1⟩ : ∃ x, xs[n]? = some x := ⟨_, List.getElem?_eq_getElem (by rw [← r1.len]; exact (List.getElem?_eq_some_iff.mp e1).1)⟩
      obtain ⟨y, k2⟩ : ∃ y, ys[n]? = some y := ⟨_, List.getElem?_eq_getElem (by rw [← r2.len]; exact (List.getElem?_eq_some_iff.mp e2).1)⟩
      obtain ⟨u, w1, w2⟩ := q1.get k1
      obtain ⟨u', w3, w4⟩ := q2.get k2
      have ey : ys[n]? = some y := k2
      have exy : (xs.zip ys)[n]? = some (x, y) := List.getElem?_zip_eq_some.mpr ⟨k1, k2⟩
      rw [e1] at w1
      rw [e2] at w3
      cases w1
      cases w3
      have R2 := R1.freshT hn (d := .tup [x, y]) (.tup (.cons w2 (.cons w4 .nil)))
      refine ⟨R2.pop, q1.mono hs, q2.mono hs, ?_⟩
      rw [List.take_add_one, exy, List.map_append, List.map_append]
      exact (q3.mono hs).append (.cons (show Rep _ _ _ _ _ from R2.tm.1) .nil)
def zipL (ds : List D) : Option (List D) := match ds with
  | [a, .lst ys] => (seqOf a).map fun xs => (xs.zip ys).map fun p => .tup [p.1, p.2]
  | [a, .tup ys] => (seqOf a).map fun xs => (xs.zip ys).map fun p => .tup [p.1, p.2]
  | _ => none
def dListZip (l : List (Bool × DE)) : DE := do
  let xs ← dA l
  let ds ← mOpt (shrs xs)
  let r ← mOpt (zipL ds)
  pure (.lst r, .fr)
theorem zipL_inv {ds : List D} {r : List D} (h : zipL ds = some r) : ∃ a b xs ys, ds = [a, b] ∧ seqOf a = some xs ∧ seqOf b = some ys ∧ (b = .lst ys ∨ b = .tup ys) ∧ r = (xs.zip ys).map fun p => .tup [p.1, p.2] := by
  unfold zipL at h
  split at h
  · obtain ⟨xs, e, rfl⟩ := Option.map_eq_some_iff.mp h
    exact ⟨_, _, xs, _, rfl, e, rfl, .inl rfl, rfl⟩
  · obtain ⟨xs, e, rfl⟩ := Option.map_eq_some_iff.mp h
    exact ⟨_, _, xs, _, rfl, e, rfl, .inr rfl, rfl⟩
  · cases h
theorem se_listZip {X : Cx} {e e2 : Expr} {p pos p2 pos2 : Pos} {l : List (Bool × DE)} (hx : CxG X) (hm : X.mg "zip" = none) (hm2 : X.mg "list" = none) (ha : SA X [e, e2] l) (hg : Gl X "zip" := by rfl) (hg2 : Gl X "list" := by rfl)
    (hs : starEach [e, e2] X.env = (false, eval e X.env) :: starEach [e2] X.env := by rfl) (hpl : (backTo pos (starEach [e2] X.env)).any (·.1) = false := by rfl)
    (he : starEach [.Call (.Name "zip" p) [e, e2] [] pos] X.env = (false, eval (.Call (.Name "zip" p) [e, e2] [] pos) X.env) :: starEach [] X.env := by rfl) :
    SE X (.Call (.Name "list" p2) [.Call (.Name "zip" p) [e, e2] [] pos] [] pos2) (dListZip l) := fun W tk =>
  PE.imp (pe_listZip hx.calm hg hm hg2 hm2 (ha W tk) hs hpl he) fun σ H Q ⟨G, O, ρ, hK, R, h⟩ => ⟨G, O, ρ, [], hK, R, Res.post_ok ((post_bind _ _).mp h) fun xs ρ1 q O1 vs H1 hl R1 => by
    obtain ⟨ds, e1, q2⟩ := (post_opt _).mp ((post_bind _ _).mp q)
    obtain ⟨z, e2, q3⟩ := (post_opt _).mp ((post_bind _ _).mp q2)
    have rp := pushC_reps hl R1 e1
    obtain ⟨a, b, as, bs, rfl, ea, eb, hb, rfl⟩ := zipL_inv e2
    cases rp with
    | cons r1 rr =>
      cases rr with
      | cons r2 rr =>
        cases rr
        obtain ⟨s1, f1, rfl⟩ := src_of r1 ea
        obtain ⟨s2, f2, rfl⟩ := src_of r2 eb
        obtain ⟨v1, q1, w1⟩ := src_at f1 r1 ea
        obtain ⟨v2, q2', w2⟩ := src_at f2 r2 eb
        have q1' := q1
        have q2'' := q2'
        rw [hK] at q1' q2''
        refine ⟨s1, s2, v1, v2, rfl, q1', q2'', fun x => ?_, fun H2 ts p nt np => ?_⟩
        · intro ex
          subst ex
          have f2 : b = .con (.str x) := f2
          rcases hb with y | y
          · rw [y] at f2; cases f2
          · rw [y] at f2; cases f2
        · have hlen : (v1.zip v2).take (v1.zip v2).length = v1.zip v2 := List.take_length
          obtain ⟨R2, _, _, rs⟩ := newTs_rel w1 w2 (pushC_pop R1) (v1.zip v2).length ts H2 (by rw [hlen]; exact nt)
          have hl2 : (v1.zip v2).length = (as.zip bs).length := by rw [List.length_zip, List.length_zip, w1.len, w2.len]
          rw [hl2, List.take_length] at rs
          obtain ⟨O3, R3⟩ := R2.fresh np (.lst rs)
          exact (show (Res.ok (D.lst _, Kd.fr) ρ1).post _ _ from q3) O3 _ _ R3⟩
end L2.VL
end
section
set_option Elab.async false
set_option linter.all false
set_option maxRecDepth 100000
set_option maxHeartbeats 2000000
namespace L2.VL
open PySem PySem.Spec PyProof.Rows L2
/-- every other item from the second one on -/
def od2 {α : Type} (xs : List α) : List α := (sliceRange (max 0 (min 1 (xs.length : Int))) (xs.length : Int) 2).filterMap fun k => xs[k]?
theorem od2_len {α : Type} (xs : List α) : (od2 xs).length ≤ xs.length := Nat.le_trans (List.length_filterMap_le _ _) (sliceRange_length_le _ xs.length 2 xs.length (fun _ => ⟨by omega, Int.le_refl _⟩) fun z => absurd z (by decide))
theorem od2_map {α β : Type} (f : α → β) (xs : List α) : od2 (xs.map f) = (od2 xs).map f := by
  unfold od2
  rw [List.length_map, List.map_filterMap]
  congr 1
  funext k
  rw [List.getElem?_map]
theorem slice_od2 (items : Array Value) : slicePick items (some 1) none (some 2) = (od2 items.toList).toArray := by
  unfold slicePick od2
  have hb : sliceBounds (some 1) none (some 2) items.size = (max 0 (min 1 (items.size : Int)), (items.size : Int), 2) := rfl
  rw [hb]
  show ((sliceRange (max 0 (min 1 (items.size : Int))) (items.size : Int) 2).filterMap fun x => items[x]?).toArray = ((sliceRange (max 0 (min 1 (items.toList.length : Int))) (items.toList.length : Int) 2).filterMap fun k => items.toList[k]?).toArray
  rw [Array.length_toList]
  simp only [Array.getElem?_toList]
theorem Vals.od2 {xs : List V} {us : List Value} (h : Vals xs us) : Vals (od2 xs) (od2 us) := by
  unfold L2.VL.od2
  rw [h.length]
  exact Vals.pick h _
theorem Reps.od2 {K : PySem.W.Frag} {H : Hp} {L : Addr → Prop} {xs : List V} {ds : List D} (h : Reps K H L xs ds) : Reps K H L (od2 xs) (od2 ds) := by
  unfold L2.VL.od2
  rw [h.len_]
  exact h.pick _
def tOd2 (K : PySem.W.Frag) (te : TE) : TE := fun σ H Q => te σ H fun x H1 => ∃ a xs, x = .ref a ∧ SqL K H1 a xs ∧ ∀ p, H1 p = none → Q (.ref p) (upd H1 p (.lst (od2 xs)))
section
variable {X : Cx} {e : Expr} {r : DE} {pos : Pos}
theorem pe_od2 {te : TE} {k k1 : Nat} {p0 p1 p3 : Pos} (he : PE X e te) : PE X (.Subscript e (.Slice (some (.Constant (.int 1) k1 p0)) none (some (.Constant (.int 2) k p1)) p3) pos) (tOd2 X.K te) := by
  refine ⟨fun pins s σ H Q I h => ?_⟩
  refine Subscript_ (thn (he.run pins s σ H _ I h) fun v s1 ⟨x, H1, I1, r1, q1⟩ => ?_)
  obtain ⟨a, xs, ex, hx, q⟩ := q1
  subst ex
  cases r1
  have hlo : PO X (some (.Constant (.int 1) k1 p0)) (tPart (tC (.int 1))) := po_some pe_int
  have hst : PO X (some (.Constant (.int 2) k p1)) (tPart (tC (.int 2))) := po_some pe_int
  refine wpAny_Slice (thn (hlo.run pins s1 σ H1 (fun o H2 => o = some 1 ∧ H2 = H1) I1 ⟨1, rfl, rfl, rfl⟩) fun vl s2 ⟨l, H2, I2, pl, el, e2⟩ => ?_)
  subst el e2
  refine thn (po_none.run pins s2 σ H2 (fun o H3 => o = none ∧ H3 = H2) I2 ⟨rfl, rfl⟩) fun vu s3 ⟨u, H3, I3, pu, eu, e3⟩ => ?_
  subst eu e3
  refine thn (hst.run pins s3 σ H3 (fun o H4 => o = some 2 ∧ H4 = H3) I3 ⟨2, rfl, rfl, rfl⟩) fun vs s4 ⟨o, H4, I4, ps, eo, e4⟩ => ?_
  subst eo e4
  have I5 : Inv X pins σ H4 { s4 with heap := s4.heap.push { cls := .type "slice", data := .fields #[vl, vu, vs] } } := I4.kept (t' := s4.toks) fun b ob q => Heap.get?_push_of_some _ q
  obtain ⟨its, r, ht, hz⟩ := I5.list hx
  have hlen := r.length
  show wpAny (model X.prog X.w) X.A (subscriptTail e (.Slice (some (.Constant (.int 1) k1 p0)) none (some (.Constant (.int 2) k p1)) p3) (.ref a) (.ref s4.heap.objs.size)) (EP X pins σ Q) X.xe { s4 with heap := s4.heap.push { cls := .type "slice", data := .fields #[vl, vu, vs] } }
  refine tail_any (ops := [.ref a, .ref s4.heap.objs.size]) ht.isList.typeIs (PySem.slot_list_getitem.lookup) ?_ (by with_unfolding_all rfl)
  refine wpAny_getItem_list_slice ht.isList (Heap.IsSliceOf.new _ vl vu vs) pl pu ps (by decide) ?_ (by rw [List.size_toArray]; omega)
  rw [slice_od2]
  refine ⟨.ref _, _, I5.laid (t' := s4.toks) (o := .lst (od2 xs)) (fun b ob q => Heap.get?_push_of_some _ q) (Nat.le_refl _) ?_, rfl, q _ (I5.hok.fresh (Nat.le_refl _))⟩
  exact ⟨by have := od2_len xs; omega, _, 0, Vals.od2 r, Heap.get?_push_size _ rfl⟩
def od2D (d : D) : Option (D × Kd) := match d with
  | .lst xs => some (.lst (od2 xs), .fr)
  | _ => none
def dOd2 (ra : DE) : DE := do
  let x ← ra
  let d ← dcur x
  mOpt (od2D d)
theorem se_od2 {k k1 : Nat} {p0 p1 p3 : Pos} (ha : SE X e r) : SE X (.Subscript e (.Slice (some (.Constant (.int 1) k1 p0)) none (some (.Constant (.int 2) k p1)) p3) pos) (dOd2 r) := fun W tk =>
  PE.imp (pe_od2 (ha W tk)) fun σ H Q ⟨G, O, ρ, hK, R, h⟩ => by
    refine tE.at hK R (Res.post_ok ((post_bind _ _).mp h) fun x ρ1 q O1 v H1 R1 => ?_)
    obtain ⟨d, e1, q3⟩ := post_cur.mp ((post_bind _ _).mp q)
    obtain ⟨z, e2, q4⟩ := (post_opt _).mp q3
    have v1 := R1.view R1.tm.1 e1
    unfold od2D at e2
    split at e2
    · rename_i xs
      cases e2
      obtain ⟨a1, vs, rfl, s1, r1⟩ := v1.lst
      rw [hK] at s1
      refine ⟨a1, vs, rfl, s1, fun p hp => ?_⟩
      obtain ⟨O4, R4⟩ := R1.pop.fresh (d := .lst (od2 xs)) hp (.lst r1.od2)
      exact q4 O4 _ _ R4
    · cases e2
end
end L2.VL
end
section
set_option Elab.async false
set_option linter.all false
set_option maxRecDepth 100000
namespace L2.SG
open PySem PySem.Spec PyProof.Rows L2
def geo : Nat → Nat
  | 0 => 0
  | k + 1 => geo k * 5 + 1
theorem geo_add (a : Nat) : ∀ b, geo (a + b) = geo a * 5 ^ b + geo b
  | 0 => by simp [geo]
  | b + 1 => by
    show geo (a + b) * 5 + 1 = geo a * 5 ^ (b + 1) + (geo b * 5 + 1)
    rw [geo_add a b, Nat.pow_succ, Nat.add_mul, Nat.mul_assoc, Nat.add_assoc]
theorem geo_five : ∀ b, 5 ^ b = 4 * geo b + 1
  | 0 => rfl
  | b + 1 => by
    rw [Nat.pow_succ, geo_five b]
    show _ = 4 * (geo b * 5 + 1) + 1
    omega
/-- at 2^n it is an odd multiple of 2^n -/
theorem geo_two : ∀ n, ∃ q, geo (2 ^ n) = 2 ^ n * (2 * q + 1)
  | 0 => ⟨0, rfl⟩
  | n + 1 => by
    obtain ⟨q, e⟩ := geo_two n
    refine ⟨q + geo (2 ^ n) * (2 * q + 1), ?_⟩
    have h : geo (2 ^ (n + 1)) = geo (2 ^ n) * (2 * (2 * geo (2 ^ n) + 1)) := by
      rw [Nat.pow_succ, Nat.mul_two, geo_add, geo_five]
      have : geo (2 ^ n) * (4 * geo (2 ^ n) + 1) + geo (2 ^ n) = geo (2 ^ n) * (4 * geo (2 ^ n) + 1 + 1) := (Nat.mul_succ _ _).symm
      rw [this]
      congr 1
      omega
    rw [h]
    generalize hg : geo (2 ^ n) = g at e ⊢
    have h2 : 2 * (q + g * (2 * q + 1)) + 1 = (2 * q + 1) * (2 * g + 1) := by grind
    rw [h2, Nat.pow_succ]
    rw [show g * (2 * (2 * g + 1)) = g * 2 * (2 * g + 1) from (Nat.mul_assoc _ _ _).symm]
    rw [show 2 ^ n * 2 * ((2 * q + 1) * (2 * g + 1)) = 2 ^ n * (2 * q + 1) * 2 * (2 * g + 1) by
      rw [← Nat.mul_assoc, Nat.mul_right_comm (2 ^ n) 2 (2 * q + 1)], ← e]
theorem geo_hits : ∀ n j, j < 2 ^ n → ∃ b, b < 2 ^ n ∧ geo b % 2 ^ n = j
  | 0, j, h => ⟨0, by decide, by simp [geo]; omega⟩
  | n + 1, j, h => by
    have hp : 0 < 2 ^ n := Nat.pow_pos (by decide)
    have e2 : 2 ^ (n + 1) = 2 ^ n + 2 ^ n := by rw [Nat.pow_succ]; omega
    obtain ⟨b, hb, e⟩ := geo_hits n (j % 2 ^ n) (Nat.mod_lt _ hp)
    obtain ⟨q, eq⟩ := geo_two n
    -- the two candidates
    have two : geo (2 ^ n + b) = geo b + 2 ^ n * (2 * (q * 5 ^ b + 2 * geo b) + 1) := by
      rw [geo_add, eq, geo_five b]
      grind
    have split : ∀ x, x % 2 ^ n = j % 2 ^ n → x % 2 ^ (n + 1) = j ∨ (x + 2 ^ n) % 2 ^ (n + 1) = j := by
      intro x hx
      have m1 := Nat.mod_lt x (show 0 < 2 ^ (n + 1) by omega)
      have d1 : x % 2 ^ (n + 1) % 2 ^ n = x % 2 ^ n := by
        rw [Nat.pow_succ, Nat.mod_mul_right_mod]
      have hj : j % 2 ^ n = j ∨ j % 2 ^ n + 2 ^ n = j := by
        by_cases c : j < 2 ^ n
        · exact .inl (Nat.mod_eq_of_lt c)
        · right
          rw [Nat.mod_eq_sub_mod (by omega), Nat.mod_eq_of_lt (by omega)]; omega
      have hx2 : x % 2 ^ (n + 1) = j % 2 ^ n ∨ x % 2 ^ (n + 1) = j % 2 ^ n + 2 ^ n := by
        by_cases c : x % 2 ^ (n + 1) < 2 ^ n
        · left; rw [← Nat.mod_eq_of_lt c, d1, hx]
        · right
          rw [← hx, ← d1]
          generalize x % 2 ^ (n + 1) = y at m1 c
          rw [Nat.mod_eq_sub_mod (by omega), Nat.mod_eq_of_lt (show y - 2 ^ n < 2 ^ n by omega)]
          omega
      have ad : (x + 2 ^ n) % 2 ^ (n + 1) = (x % 2 ^ (n + 1) + 2 ^ n) % 2 ^ (n + 1) := by
        rw [Nat.mod_add_mod]
      rcases hx2 with a | a <;> rcases hj with c | c
      · left; omega
      · right; rw [ad, a, c, Nat.mod_eq_of_lt h]
      · right
        rw [ad, a, Nat.add_assoc, ← e2, Nat.add_mod_right, c, Nat.mod_eq_of_lt h]
      · left; omega
    rcases split (geo b) e with a | a
    · exact ⟨b, by omega, a⟩
    · refine ⟨2 ^ n + b, by omega, ?_⟩
      rw [two, ← a, Nat.mul_succ, Nat.add_comm (2 ^ n * _), ← Nat.add_assoc]
      rw [show 2 ^ n * (2 * (q * 5 ^ b + 2 * geo b)) = 2 ^ (n + 1) * (q * 5 ^ b + 2 * geo b) by rw [Nat.pow_succ, Nat.mul_assoc]]
      rw [Nat.add_mul_mod_self_left]
/-- one less than a power of two, at least 7 and at most 2047 -/
def Msk (m : Nat) : Prop := ∃ n, (n = 3 ∨ n = 5 ∨ n = 7 ∨ n = 9 ∨ n = 11) ∧ m + 1 = 2 ^ n
theorem Msk.bd {m : Nat} (h : Msk m) : 7 ≤ m ∧ m ≤ 2047 := by
  obtain ⟨n, h1, e⟩ := h
  have a := Nat.pow_le_pow_right (n := 2) (by decide) (show 3 ≤ n by omega)
  have b := Nat.pow_le_pow_right (n := 2) (by decide) (show n ≤ 11 by omega)
  simp only [Nat.reducePow] at a b
  omega
theorem Msk.odd {m : Nat} (h : Msk m) : m % 2 = 1 := by
  obtain ⟨n, h1, e⟩ := h
  obtain ⟨k, rfl⟩ : ∃ k, n = k + 1 := ⟨n - 1, by omega⟩
  rw [Nat.pow_succ] at e
  omega
theorem lcg_geo (m : Nat) : ∀ k, lcgN m k = geo k % (m + 1)
  | 0 => by show 0 = 0 % _; rw [Nat.zero_mod]
  | k + 1 => by
    show (lcgN m k * 5 + 1) % (m + 1) = (geo k * 5 + 1) % (m + 1)
    rw [lcg_geo m k, Nat.add_mod, Nat.mod_mul_mod, ← Nat.add_mod]
theorem lcg_turn {m : Nat} (h : Msk m) : lcgN m (m + 1) = 0 := by
  obtain ⟨n, _, e⟩ := h
  rw [lcg_geo, e]
  obtain ⟨q, eq⟩ := geo_two n
  rw [eq, Nat.mul_mod_right]
theorem lcg_more {m : Nat} (h : Msk m) : ∀ k, lcgN m (m + 1 + k) = lcgN m k
  | 0 => lcg_turn h
  | k + 1 => by
    show (lcgN m (m + 1 + k) * 5 + 1) % (m + 1) = (lcgN m k * 5 + 1) % (m + 1)
    rw [lcg_more h k]
theorem lcg_from {m i j : Nat} (h : Msk m) (hi : i ≤ m) (hj : j ≤ m) : ∃ k, k ≤ m ∧ lcgI m i k = j := by
  have hh := h
  obtain ⟨n, _, e⟩ := h
  obtain ⟨a, ha, ea⟩ := geo_hits n i (by omega)
  obtain ⟨b, hb, eb⟩ := geo_hits n j (by omega)
  rw [← e, ← lcg_geo] at ea eb
  rw [← e] at ha hb
  by_cases c : a ≤ b
  · refine ⟨b - a, by omega, ?_⟩
    rw [← ea, lcgN_add, show a + (b - a) = b by omega, eb]
  · refine ⟨m + 1 + b - a, by omega, ?_⟩
    rw [← ea, lcgN_add, show a + (m + 1 + b - a) = m + 1 + b by omega, lcg_more hh, eb]
theorem run_hits {m j : Nat} (hm : Msk m) (h : Int) (hj : j ≤ m) : ∃ n, n ≤ m + 12 ∧ runI m (SetTable.bits h) n = j := by
  obtain ⟨k, hk, e⟩ := lcg_from hm (runI_le m (SetTable.bits h) 12) hj
  refine ⟨12 + k, by omega, ?_⟩
  rw [runI_tail (bits_lt h)]; exact e
theorem way_hits {m j : Nat} (hm : Msk m) (h : Int) (hj : j ≤ m) : ∃ k, k < 10 * SetTable.turns m ∧ way m h k = j := by
  obtain ⟨n, hn, e⟩ := run_hits hm h hj
  obtain ⟨k, hk, e2⟩ := run_nth m (SetTable.bits h) n
  refine ⟨k, ?_, ?_⟩
  · unfold SetTable.turns
    omega
  · show (nth m _ k).j = j
    rw [e2]; exact e
theorem way_in {m : Nat} {h : Int} {k : Nat} : way m h k ≤ m := by
  have hi : SetTable.bits h % (m + 1) ≤ m := Nat.le_of_lt_succ (Nat.mod_lt _ (Nat.succ_pos _))
  have b := runEnd_bd hi
  have c : (runAt m (SetTable.bits h % (m + 1)) (SetTable.bits h)).j + (runAt m (SetTable.bits h % (m + 1)) (SetTable.bits h)).more ≤ m := by
    show SetTable.bits h % (m + 1) + (SetTable.runEnd m (SetTable.bits h % (m + 1)) - SetTable.bits h % (m + 1)) ≤ m
    omega
  have := nth_in (m := m) k _ c
  exact Nat.le_trans (Nat.le_add_right _ _) this
structure Tab (t : SetTable) (hs : List Int) : Prop where
  ris : Ris t.place.toList
  dm : t.dummies = #[]
  sz : t.place.toList.length = hs.length
  msk : Msk t.mask
  bd : ∀ x ∈ t.place.toList, x ≤ t.mask
  met : ∀ (i : Nat) (h : Int) (j : Nat), hs[i]? = some h → t.place.toList[i]? = some j → ∃ k, way t.mask h k = j ∧ ∀ k', k' < k → way t.mask h k' ∈ t.place.toList
section
variable {t : SetTable} {hs : List Int} {h : Int} {K : Nat}
/-- the first slot of the way that is free -/
theorem Tab.free (T : Tab t hs) (hl : hs.length ≤ t.mask) (h : Int) : ∃ K, K < 10 * SetTable.turns t.mask ∧ way t.mask h K ∉ t.place.toList ∧ ∀ k, k < K → way t.mask h k ∈ t.place.toList := by
  obtain ⟨j, hj, out⟩ := st_missing t.place.toList (t.mask + 1) (by rw [T.sz]; omega)
  obtain ⟨k, hk, e⟩ := way_hits T.msk h (Nat.le_of_lt_succ hj)
  obtain ⟨K, a, b, c⟩ := st_least (p := fun k => way t.mask h k ∉ t.place.toList) k (fun z => out (e ▸ z))
  exact ⟨K, by omega, b, fun k' hk' => Classical.byContradiction fun z => c k' hk' z⟩
/-- an entry of this hash stands ahead of it -/
theorem Tab.ahead (T : Tab t hs) {i j : Nat} (hK : way t.mask h K ∉ t.place.toList) (hi : hs[i]? = some h) (hj : t.place.toList[i]? = some j) : ∃ k, k < K ∧ way t.mask h k = j := by
  obtain ⟨k, e, b⟩ := T.met i h j hi hj
  refine ⟨k, Classical.byContradiction fun z => hK ?_, e⟩
  by_cases c : k = K
  · subst c
    rw [e]; exact List.mem_of_getElem? hj
  · exact b K (by omega)
/-- one entry more, at the first free slot -/
theorem Tab.more (T : Tab t hs) (hK : way t.mask h K ∉ t.place.toList) (hb : ∀ k, k < K → way t.mask h k ∈ t.place.toList) (p : Nat) (hp : p = SetTable.below t.place (way t.mask h K)) :
    p ≤ hs.length ∧ Tab (t.put (way t.mask h K)).1 (hs.take p ++ h :: hs.drop p) ∧ (t.put (way t.mask h K)).1.fill = hs.length + 1 := by
  subst hp
  have hw : way t.mask h K ≤ t.mask := way_in
  generalize hj : way t.mask h K = j at hK hw ⊢
  obtain ⟨c, _, _⟩ := below_cut T.ris j
  have l1 : SetTable.below t.place j ≤ t.place.toList.length := by rw [Array.length_toList]; exact c
  have l2 : SetTable.below t.place j ≤ hs.length := by rw [← T.sz]; exact l1
  have new : t.place[SetTable.below t.place j]? ≠ some j := fun z => hK (List.mem_of_getElem? (i := SetTable.below t.place j) (by rw [Array.getElem?_toList]; exact z))
  have ep := put_place t j
  have len : (t.put j).1.place.toList.length = hs.length + 1 := by rw [ep, len_ins _ l1, T.sz]
  have up : ∀ x, x ∈ t.place.toList → x ∈ (t.put j).1.place.toList := fun x hx => by rw [ep]; exact mem_ins.2 (.inr hx)
  refine ⟨l2, ⟨ris_insert T.ris new, put_dm T.dm j, by rw [len, len_ins _ l2], T.msk, fun x hx => ?_, fun i h' j' h1 h2 => ?_⟩, ?_⟩
  · rw [ep] at hx
    rcases mem_ins.1 hx with z | z
    · rw [z]; exact hw
    · exact T.bd x z
  · rw [tins_get hs l2] at h1
    rw [ep, tins_get _ l1] at h2
    split at h1
    · rename_i q
      rw [if_pos q] at h2
      obtain ⟨k, e, z⟩ := T.met i h' j' h1 h2
      exact ⟨k, e, fun k' hk' => up _ (z k' hk')⟩
    · rename_i q
      rw [if_neg q] at h2
      split at h1
      · rename_i q2
        rw [if_pos q2] at h2
        cases h1; cases h2
        exact ⟨K, hj, fun k' hk' => up _ (hb k' hk')⟩
      · rename_i q2
        rw [if_neg q2] at h2
        obtain ⟨k, e, z⟩ := T.met (i - 1) h' j' h1 h2
        exact ⟨k, e, fun k' hk' => up _ (z k' hk')⟩
  · have : (t.put j).1.place.size = hs.length + 1 := by rw [← Array.length_toList]; exact len
    show (t.put j).1.place.size + (t.put j).1.dummies.size = _
    rw [this, put_dm T.dm j]
    rfl
end
theorem spot {m : Nat} (hm : Msk m) (owner : Array (Option Nat)) (h : Int) {j : Nat} (hj : j ≤ m) (hf : oAt owner j = none) :
    ∃ K, SetTable.layClean.free m owner (SetTable.turns m) (SetTable.bits h % (m + 1)) (SetTable.bits h) = some (way m h K) ∧ oAt owner (way m h K) = none ∧ ∀ k, k < K → oAt owner (way m h k) ≠ none := by
  obtain ⟨n, hn, e⟩ := run_hits hm h hj
  let N := off m (SetTable.bits h % (m + 1)) (SetTable.bits h) n
  have hN : way m h N = j := by
    show (nth m _ (off m _ _ n)).j = j
    rw [nth_off, itL_run]; exact e
  obtain ⟨K, a, b, c⟩ := st_least (p := fun k => oAt owner (way m h k) = none) N (by show oAt owner (way m h N) = none; rw [hN]; exact hf)
  refine ⟨K, free_spec m owner _ n _ _ K (by unfold SetTable.turns; omega) a (fun k hk => ?_) ?_, b, c⟩
  · have := c k hk
    revert this
    show ¬ oAt owner (way m h k) = none → (oAt owner (way m h k)).isNone = false
    cases oAt owner (way m h k) <;> simp
  · show (oAt owner (way m h K)).isNone = true
    rw [show oAt owner (way m h K) = none from b]; rfl
theorem lay1 {m : Nat} (hm : Msk m) {done : List Int} {owner : Array (Option Nat)} (W : L2.Own m done owner) (hl : done.length ≤ m) (h : Int) :
    ∃ j, SetTable.layClean.free m owner (SetTable.turns m) (SetTable.bits h % (m + 1)) (SetTable.bits h) = some j ∧ L2.Own m (done ++ [h]) (owner.setIfInBounds j (some done.length)) := by
  obtain ⟨ps, lp, cov⟩ := W.ps
  obtain ⟨j0, b0, n0⟩ := st_missing ps (m + 1) (by omega)
  have f0 : oAt owner j0 = none := Classical.byContradiction fun z => n0 (cov j0 (by omega) z)
  obtain ⟨K, e1, e2, e3⟩ := spot hm owner h (show j0 ≤ m by omega) f0
  have hw : way m h K ≤ m := way_in
  generalize hj : way m h K = j at e1 e2 hw
  have hs : j < owner.size := by rw [W.sz]; omega
  have self := oAt_set_self (some done.length) hs
  have grow : ∀ i, oAt owner i ≠ none → oAt (owner.setIfInBounds j (some done.length)) i ≠ none := fun i hi => by
    by_cases c : i = j
    · rw [c, self]; simp
    · rw [oAt_set_ne _ c]; exact hi
  refine ⟨j, e1, ⟨by rw [Array.size_setIfInBounds]; exact W.sz, fun i k hi e => ?_, fun k hk => ?_, ⟨j :: ps, by simp [lp], fun i hi e => ?_⟩⟩⟩
  · by_cases c : i = j
    · rw [c, self] at e
      cases e
      exact ⟨h, K, by simp, by rw [hj, c], fun k' hk' => grow _ (e3 k' hk')⟩
    · rw [oAt_set_ne _ c] at e
      obtain ⟨h', K', a, b, d⟩ := W.at_ i k hi e
      refine ⟨h', K', ?_, b, fun k' hk' => grow _ (d k' hk')⟩
      rw [List.getElem?_append_left (List.getElem?_eq_some_iff.mp a).1]; exact a
  · by_cases c : k < done.length
    · obtain ⟨i, hi, e⟩ := W.all k c
      refine ⟨i, hi, ?_⟩
      rw [oAt_set_ne _ (fun z => by rw [z, e2] at e; cases e)]; exact e
    · have : k = done.length := by simp at hk; omega
      subst this
      exact ⟨j, hw, self⟩
  · by_cases c : i = j
    · rw [c]; exact List.mem_cons_self
    · rw [oAt_set_ne _ c] at e
      exact List.mem_cons_of_mem _ (cov i hi e)
theorem lays {m : Nat} (hm : Msk m) : ∀ (rest done : List Int) (owner : Array (Option Nat)), L2.Own m done owner → done.length + rest.length ≤ m →
    ∃ o2, rest.foldl (stepF m) (some (owner, done.length)) = some (o2, (done ++ rest).length) ∧ L2.Own m (done ++ rest) o2
  | [], done, owner, W, _ => ⟨owner, by simp, by simpa using W⟩
  | h :: rest, done, owner, W, hl => by
    simp only [List.length_cons] at hl
    obtain ⟨j, e, W1⟩ := lay1 hm W (by omega) h
    have l1 : (done ++ [h]).length = done.length + 1 := by simp
    obtain ⟨o2, f, W2⟩ := lays hm rest (done ++ [h]) _ W1 (by omega)
    have a : done ++ [h] ++ rest = done ++ h :: rest := by simp
    rw [a, l1] at f
    rw [a] at W2
    exact ⟨o2, by rw [List.foldl_cons, stepF_some e]; exact f, W2⟩
theorem relay_tab (t : SetTable) {hs : Array Int} {wanted M : Nat} (hw : SetTable.sizeAbove wanted - 1 = M) (hM : Msk M) (hn : hs.size ≤ M) :
    ∃ t' order, t.relaid hs wanted = some (t', order) ∧ order.toList.Perm (List.range hs.size) ∧ Tab t' (order.toList.map fun i => hs.getD i 0) ∧ t'.mask = M ∧ t'.led = t.led ∧ t'.plain = t.plain := by
  obtain ⟨owner, f, W⟩ := lays hM hs.toList [] _ (L2.Own.init M) (by simpa using hn)
  have lc : SetTable.layClean M hs = some owner := by
    rw [layClean_eq]
    have f' : hs.toList.foldl (stepF M) (some (Array.replicate (M + 1) none, 0)) = some (owner, hs.toList.length) := by simpa using f
    rw [f']; rfl
  have W : L2.Own M hs.toList owner := by simpa using W
  have rel : t.relaid hs wanted = some (tabOf t M owner, ((liveOf M owner).map (·.2)).toArray) := by
    rw [relaid_eq, hw, lc]; rfl
  have rl := ris_live (fun j => owner.getD j none) (List.range (M + 1)) List.pairwise_lt_range
  have r1 : Ris ((liveOf M owner).map (·.1)) := rl.1
  have nd : ((liveOf M owner).map (·.1)).Nodup := List.Pairwise.imp (fun h => Nat.ne_of_lt h) r1
  have mem := fun (j k : Nat) => mem_live (m := M) (owner := owner) W.sz (j := j) (k := k)
  have len : (liveOf M owner).length = hs.size := by
    obtain ⟨ps, p1, p2⟩ := W.ps
    refine Nat.le_antisymm ?_ ?_
    · have := nat_nodup_len ((liveOf M owner).map (·.1)) ps nd fun x hx => by
        obtain ⟨⟨y, k⟩, hq, rfl⟩ := List.mem_map.mp hx
        obtain ⟨b1, b2⟩ := (mem y k).1 hq
        exact p2 y b1 (by rw [b2]; simp)
      rw [List.length_map, p1, Array.length_toList] at this
      exact this
    · have := nat_nodup_len (List.range hs.size) ((liveOf M owner).map (·.2)) List.nodup_range fun k hk => by
        obtain ⟨j, b1, b2⟩ := W.all k (by rw [Array.length_toList]; exact List.mem_range.mp hk)
        exact List.mem_map.mpr ⟨(j, k), (mem j k).2 ⟨b1, b2⟩, rfl⟩
      rw [List.length_map, List.length_range] at this
      exact this
  refine ⟨_, _, rel, ?_, ⟨r1, rfl, ?_, hM, fun x hx => ?_, fun i h j h1 h2 => ?_⟩, rfl, rfl, rfl⟩
  · refine perm_range hs.size _ (by simpa using len) fun k hk => ?_
    obtain ⟨j, b1, b2⟩ := W.all k (by rw [Array.length_toList]; exact hk)
    exact List.mem_map.mpr ⟨(j, k), (mem j k).2 ⟨b1, b2⟩, rfl⟩
  · show ((liveOf M owner).map (·.1)).length = (((liveOf M owner).map (·.2)).map _).length
    simp only [List.length_map]
  · exact Nat.le_of_lt_succ (List.mem_range.mp (rl.2 x hx))
  · replace h1 : (((liveOf M owner).map (·.2)).map fun i => hs.getD i 0)[i]? = some h := h1
    replace h2 : ((liveOf M owner).map (·.1))[i]? = some j := h2
    rw [List.getElem?_map, List.getElem?_map] at h1
    rw [List.getElem?_map] at h2
    cases hq : (liveOf M owner)[i]? with
    | none => rw [hq] at h2; cases h2
    | some q =>
      obtain ⟨y, k⟩ := q
      rw [hq] at h1 h2
      obtain rfl : y = j := Option.some.inj h2
      have eh : hs.getD k 0 = h := Option.some.inj h1
      obtain ⟨b1, b2⟩ := (mem y k).1 (List.mem_of_getElem? hq)
      obtain ⟨h0, K, a1, a2, a3⟩ := W.at_ y k b1 b2
      have e0 : hs.getD k 0 = h0 := by
        rw [Array.getD_eq_getD_getElem?, ← Array.getElem?_toList, a1]; rfl
      obtain rfl : h0 = h := e0.symm.trans eh
      refine ⟨K, a2, fun k' hk' => ?_⟩
      show way M h0 k' ∈ (liveOf M owner).map (·.1)
      cases z : oAt owner (way M h0 k') with
      | none => exact absurd z (a3 k' hk')
      | some k2 => exact List.mem_map.mpr ⟨(_, k2), (mem _ k2).2 ⟨way_in, z⟩, rfl⟩
end L2.SG
end
section
set_option Elab.async false
set_option linter.all false
set_option maxRecDepth 100000
set_option maxHeartbeats 1600000
namespace L2.SG
open PySem PySem.Spec PyProof.Rows L2
/-- what a kind of keys must tell beside hash and == -/
structure KX {P : Program} {w : World} {κ : Type} [DecidableEq κ] (knd : HeapKind P w κ) : Prop where
  ofA : ∀ {A : Around} {E : Value → Shared → Prop} {s : Shared} {k : κ} {b : Addr} {Q : Bool → Shared → Prop}, knd.is s.heap k b → Q false s → wpAny (model P w) A (ofAClassStatement 8 (.ref b)) Q E s
  hbv : ∀ {A : Around} {E : Value → Shared → Prop} {s : Shared} {k : κ} {b : Addr} {Q : Bool → Shared → Prop}, knd.is s.heap k b → Q true s → wpAny (model P w) A (hashByValue 8 (.ref b)) Q E s
  stay : ∀ {h h' : Heap} {k : κ} {a b : Addr} {o : Obj} {es : Array (Int × Value)} {ep : Nat} {t : SetTable}, knd.is h k b → h.get? a = some o → o.data = .set es ep t → Heap.SameBut a h h' → knd.is h' k b
  keep : ∀ {h h' : Heap} {k : κ} {b : Addr}, knd.is h k b → (∀ c o, h.get? c = some o → h'.get? c = some o) → knd.is h' k b
section
variable {P : Program} {w : World} {κ : Type} [DecidableEq κ] {knd : HeapKind P w κ} {A : Around} {E : Value → Shared → Prop} {s : Shared}
/-- the members' rows -/
abbrev rws (knd : HeapKind P w κ) (L : List (Addr × κ)) : List (Int × Value) := L.map fun p => (knd.hash p.2, Value.ref p.1)
abbrev hss (knd : HeapKind P w κ) (L : List (Addr × κ)) : List Int := L.map fun p => knd.hash p.2
structure KSet (knd : HeapKind P w κ) (h : Heap) (a : Addr) (L : List (Addr × κ)) (es : Array (Int × Value)) (ep : Nat) (t : SetTable) : Prop where
  ob : ∃ o, h.get? a = some o ∧ o.ExactSet ∧ o.data = .set es ep t
  rows : es.toList = rws knd L
  tab : Tab t (hss knd L)
  nd : (L.map (·.2)).Nodup
  key : ∀ p ∈ L, knd.is h p.2 p.1
  plain : t.plain = true
  led : w.params.followText "set-order" = true ∨ t.led = true
  room : L.length * 5 < t.mask * 3
  few : L.length < 1200
variable {a : Addr} {L : List (Addr × κ)} {es : Array (Int × Value)} {ep : Nat} {t : SetTable}
theorem KSet.size (R : KSet knd s.heap a L es ep t) : es.size = L.length := by
  rw [← Array.length_toList, R.rows, List.length_map]
theorem tab_fits {hs : List Int} (T : Tab t hs) (n : Nat) (e : n = hs.length) (h : hs.length ≤ t.mask) : t.fits n = true := by
  have z := T.sz
  rw [Array.length_toList] at z
  unfold SetTable.fits SetTable.fill
  rw [T.dm, Bool.and_eq_true, beq_iff_eq, decide_eq_true_eq]
  refine ⟨by omega, ?_⟩
  show t.place.size + 0 ≤ t.mask
  omega
theorem KSet.fits (R : KSet knd s.heap a L es ep t) : t.fits es.size = true :=
  tab_fits R.tab _ (by rw [R.size, List.length_map]) (by have := R.room; rw [List.length_map]; omega)
theorem KSet.at (R : KSet knd s.heap a L es ep t) {i : Nat} {p : Addr × κ} (h : L[i]? = some p) : es[i]? = some (knd.hash p.2, Value.ref p.1) := by
  rw [← Array.getElem?_toList, R.rows, List.getElem?_map, h]; rfl
theorem KSet.gave (R : KSet knd s.heap a L es ep t) : ¬ t.gaveWay = true := by
  unfold SetTable.gaveWay
  rw [R.tab.msk.odd]
  decide
/-- asking for a member shows nothing -/
theorem unseen (X : KX knd) {k : κ} {b : Addr} {Q : Bool → Shared → Prop} (hk : knd.is s.heap k b) {ys : List Value} (hy : ∀ y ∈ ys, ∃ k' c, y = Value.ref c ∧ knd.is s.heap k' c) (h : Q false s) :
    wpAny (model P w) A (searchCouldBeSeen (.ref b) ys) Q E s := by
  unfold searchCouldBeSeen
  refine wpAny_bind ?_
  refine wpAny_forIn_list _ (fun rest r s1 => (r.1 = none ∧ s1 = s) ∧ ∀ y ∈ rest, ∃ k' c, y = Value.ref c ∧ knd.is s.heap k' c) _ ?_ ?_ _ _ ⟨⟨rfl, rfl⟩, hy⟩
  · rintro v rest r s1 ⟨⟨e1, rfl⟩, all⟩
    obtain ⟨k1, c, rfl, hc⟩ := all v List.mem_cons_self
    have tl : ∀ y ∈ rest, ∃ k' c, y = Value.ref c ∧ knd.is s1.heap k' c := fun u hu => all u (List.mem_cons_of_mem _ hu)
    dsimp only
    by_cases z : (b == c || (carriedByValue (.ref b) && carriedByValue (.ref c))) = true
    · exact wp_if_pos z (wpAny_pure ⟨⟨rfl, rfl⟩, tl⟩)
    · refine wp_if_neg z (wpAny_bind (knd.quiet hk ?_))
      simp only [Bool.not_true, Bool.false_eq_true, if_false]
      refine wpAny_bind (knd.quiet hc ?_)
      simp only [Bool.not_true, Bool.false_eq_true, if_false]
      refine wpAny_bind (X.ofA hk ?_)
      simp only [Bool.false_eq_true, if_false]
      refine wpAny_bind (X.ofA hc ?_)
      simp only [Bool.false_eq_true, if_false]
      exact wpAny_pure ⟨⟨rfl, rfl⟩, tl⟩
  · rintro ⟨r1, r2⟩ s1 ⟨⟨e1, rfl⟩, _⟩
    dsimp only at e1
    subst e1
    exact wpAny_pure h
/-- the state of a probe behind c steps -/
abbrev stp (m : Nat) (h : Int) (c : Nat) : SetTable.Probe := nth m (runAt m (SetTable.bits h % (m + 1)) (SetTable.bits h)) c
theorem stp_dummy (m : Nat) (h : Int) (c : Nat) : (stp m h c).dummy = none := by
  have gen : ∀ (n : Nat) (p : SetTable.Probe), p.dummy = none → (nth m p n).dummy = none := by
    intro n
    induction n with
    | zero => exact fun _ q => q
    | succ n ih =>
      intro p q
      show (nth m (adv m p) n).dummy = none
      refine ih _ ?_
      unfold adv
      split <;> exact q
  exact gen c _ rfl
theorem stp_add (m : Nat) (h : Int) (c q : Nat) : nth m (stp m h c) q = stp m h (c + q) := (nth_add m c _ q).symm
/-- from the c-th step of the way on -/
theorem seek (X : KX knd) (R : KSet knd s.heap a L es ep t) {x : Addr} {k : κ} (hx : knd.is s.heap k x) (hu : knd.room A) {K : Nat} (hK : way t.mask (knd.hash k) K ∉ t.place.toList)
    (hb : ∀ c, c < K → way t.mask (knd.hash k) c ∈ t.place.toList) (hKf : K < 10 * SetTable.turns t.mask) {Q : SetFound → Shared → Prop} (yes : k ∈ L.map (·.2) → Q (.there none) s)
    (no : k ∉ L.map (·.2) → Q (.free (way t.mask (knd.hash k) K) false) s) : ∀ (f c : Nat) (stand : Option SetTable.Probe), stand.getD (t.probeStart (knd.hash k)) = stp t.mask (knd.hash k) c → c ≤ K → K - c < f →
      (∀ (i : Nat) p, L[i]? = some p → p.2 = k → ∃ d, c ≤ d ∧ d < K ∧ t.place.toList[i]? = some (way t.mask (knd.hash k) d)) →
      wpAny (model P w) A (setSearchFrom a (.ref x) (knd.hash k) true f stand) Q E s := by
  intro f
  induction f with
  | zero => intro c stand _ _ hf; exact absurd hf (Nat.not_lt_zero _)
  | succ f ih =>
    intro c stand est hc hf left
    obtain ⟨o, ho, hex, hd⟩ := R.ob
    rw [setSearchFrom_succ]
    refine wpAny_bind (wpAny_setState_of ho hd R.fits ?_)
    dsimp only
    refine wp_if_neg R.gave ?_
    try refine wpAny_bind (wpAny_pure ?_)
    have ways : ∀ q, (nth t.mask (stp t.mask (knd.hash k) c) q).j = way t.mask (knd.hash k) (c + q) := fun q => congrArg SetTable.Probe.j (stp_add _ _ c q)
    have hz : L.length = t.place.toList.length := by rw [R.tab.sz, List.length_map]
    have hAt : ∀ (i : Nat) p, L[i]? = some p → (fun i => (es[i]?.map (·.1)).getD 0) i = knd.hash p.2 := fun i p hp => by
      dsimp only
      rw [R.at hp]; rfl
    have sp := go_spec t R.tab.ris R.tab.dm (fun i => (es[i]?.map (·.1)).getD 0) (knd.hash k) (10 * SetTable.turns t.mask) (K - c) _ (stp_dummy t.mask (knd.hash k) c) (by omega)
      (fun q hq => by rw [ways]; exact hb _ (by omega)) (by rw [ways, Nat.add_sub_cancel' hc]; exact hK)
    rcases sp with ⟨q, i, hq, hi, hh, skip, pr⟩ | ⟨skip, pr⟩
    · have pr' : t.probe (fun i => (es[i]?.map (·.1)).getD 0) (knd.hash k) (stand.getD (t.probeStart (knd.hash k))) = some (.candidate (way t.mask (knd.hash k) (c + q)) i (stp t.mask (knd.hash k) (c + (q + 1)))) := by
        rw [est, ← ways, ← stp_add]; exact pr
      rw [pr']
      dsimp only
      rw [ways] at hi
      obtain ⟨p, hp⟩ : ∃ p, L[i]? = some p := ⟨_, List.getElem?_eq_getElem (by rw [hz]; exact (List.getElem?_eq_some_iff.mp hi).1)⟩
      have mem := List.mem_of_getElem? hp
      have live : t.slot (way t.mask (knd.hash k) (c + q)) = .live i := slot_live R.tab.ris hi
      have rest : wpAny (model P w) A (searchRest a (.ref x) (knd.hash k) true f es t (way t.mask (knd.hash k) (c + q)) i (stp t.mask (knd.hash k) (c + (q + 1)))) Q E s := by
        unfold searchRest
        rw [R.at hp]
        dsimp only
        refine wpAny_bind (wpAny_holding (knd.eqBool hu (R.key p mem) hx ?_))
        refine wpAny_bind (wpAny_setState_of ho hd R.fits ?_)
        dsimp only
        by_cases e : p.2 = k
        · exact wp_if_pos (by simp [e]) (wpAny_pure (yes (List.mem_map.mpr ⟨p, mem, e⟩)))
        · refine wp_if_neg (by simp [e]) ?_
          try refine wpAny_bind (wpAny_pure ?_)
          rw [sameMem]
          dsimp only
          simp only [if_true, live, R.at hp]
          refine wpAny_bind (wpAny_isSame_ref_self (wpAny_bind (wpAny_pure ?_)))
          simp only [if_true]
          refine wp_if_neg (by simp [e]) ?_
          refine ih (c + (q + 1)) _ rfl (by omega) (by omega) fun i0 p0 h0 k0 => ?_
          obtain ⟨d, d1, d2, d3⟩ := left i0 p0 h0 k0
          refine ⟨d, Classical.byContradiction fun z => ?_, d2, d3⟩
          by_cases y : d = c + q
          · subst y
            have s0 := slot_live R.tab.ris d3
            rw [live] at s0
            injection s0 with s0
            subst s0
            rw [hp] at h0
            cases h0
            exact e k0
          · refine skip (d - c) i0 (by omega) (by rw [ways, Nat.add_sub_cancel' d1]; exact d3) ?_
            exact (hAt i0 p0 h0).trans (congrArg knd.hash k0)
      by_cases hl : t.led = true
      · refine wp_if_neg (by simp [hl]) ?_
        try refine wpAny_bind (wpAny_pure ?_)
        exact rest
      · refine wp_if_pos (by simp [hl]) (wpAny_bind (unseen X hx (fun y hy => ?_) ?_))
        · obtain ⟨e, he, rfl⟩ := List.mem_map.mp hy
          have h1 : e ∈ es ∧ e.1 = knd.hash k := by simpa using he
          have h2 : e ∈ es.toList := by simpa using h1.1
          rw [R.rows] at h2
          obtain ⟨p2, m2, rfl⟩ := List.mem_map.mp h2
          exact ⟨p2.2, p2.1, rfl, R.key p2 m2⟩
        · refine wp_if_neg (by decide) ?_
          try refine wpAny_bind (wpAny_pure ?_)
          exact rest
    · have pr' : t.probe (fun i => (es[i]?.map (·.1)).getD 0) (knd.hash k) (stand.getD (t.probeStart (knd.hash k))) = some (.empty (way t.mask (knd.hash k) K) none) := by
        have z := ways (K - c)
        rw [Nat.add_sub_cancel' hc] at z
        rw [est, ← z]; exact pr
      rw [pr']
      dsimp only
      refine wpAny_pure (no fun z => ?_)
      obtain ⟨p0, m0, k0⟩ := List.mem_map.mp z
      obtain ⟨i0, h0⟩ := List.getElem?_of_mem m0
      obtain ⟨d, d1, d2, d3⟩ := left i0 p0 h0 k0
      refine skip (d - c) i0 (by omega) (by rw [ways, Nat.add_sub_cancel' d1]; exact d3) ?_
      exact (hAt i0 p0 h0).trans (congrArg knd.hash k0)
theorem search (X : KX knd) (R : KSet knd s.heap a L es ep t) {x : Addr} {k : κ} (hx : knd.is s.heap k x) (hu : knd.room A) {Q : SetFound → Shared → Prop} (yes : k ∈ L.map (·.2) → Q (.there none) s)
    (no : ∀ K, k ∉ L.map (·.2) → way t.mask (knd.hash k) K ∉ t.place.toList → (∀ c, c < K → way t.mask (knd.hash k) c ∈ t.place.toList) → Q (.free (way t.mask (knd.hash k) K) false) s) :
    wpAny (model P w) A (setSearch a (.ref x) (knd.hash k) true) Q E s := by
  have rm := R.room
  obtain ⟨K, b1, b2, b3⟩ := R.tab.free (by rw [List.length_map]; omega) (knd.hash k)
  have big := R.tab.msk.bd
  unfold setSearch
  refine seek X R hx hu b2 b3 b1 yes (fun z => no K z b2 b3) 100000 0 none rfl (Nat.zero_le _) (by unfold SetTable.turns at b1; omega) fun i p hp e => ?_
  have hi : (hss knd L)[i]? = some (knd.hash k) := by rw [List.getElem?_map, hp, ← e]; rfl
  obtain ⟨j, hj⟩ : ∃ j, t.place.toList[i]? = some j := ⟨_, List.getElem?_eq_getElem (by rw [R.tab.sz]; exact (List.getElem?_eq_some_iff.mp hi).1)⟩
  obtain ⟨d, d1, d2⟩ := R.tab.ahead b2 hi hj
  exact ⟨d, Nat.zero_le _, d1, by rw [hj, d2]⟩
/-- the rows in another sequence -/
theorem rows_order (L : List (Addr × κ)) (es : Array (Int × Value)) (order : Array Nat) (hr : es.toList = rws knd L) (hp : order.toList.Perm (List.range L.length)) :
    ∃ L2, (order.filterMap (es[·]?)).toList = rws knd L2 ∧ L2.Perm L ∧ hss knd L2 = order.toList.map fun i => (es.map (·.1)).getD i 0 := by
  have ent : ∀ i, es[i]? = (L[i]?).map fun p : Addr × κ => (knd.hash p.2, Value.ref p.1) := fun i => by rw [← Array.getElem?_toList, hr, List.getElem?_map]
  have gen : ∀ l : List Nat, (∀ i ∈ l, i < L.length) → l.filterMap (fun i => es[i]?) = rws knd (l.filterMap fun i => L[i]?) ∧ hss knd (l.filterMap fun i => L[i]?) = l.map fun i => (es.map (·.1)).getD i 0 := by
    intro l
    induction l with
    | nil => exact fun _ => ⟨rfl, rfl⟩
    | cons i l ih =>
      intro hl
      obtain ⟨a1, a2⟩ := ih fun j hj => hl j (List.mem_cons_of_mem _ hj)
      have hi := List.getElem?_eq_getElem (hl i List.mem_cons_self)
      have e := ent i
      rw [hi] at e
      rw [List.filterMap_cons_some e, List.filterMap_cons_some hi]
      refine ⟨by rw [a1]; rfl, ?_⟩
      rw [List.map_cons, ← a2]
      show _ :: _ = _ :: _
      congr 1
      rw [Array.getD_eq_getD_getElem?, Array.getElem?_map, e]; rfl
  obtain ⟨a1, a2⟩ := gen order.toList fun i hi => List.mem_range.mp (hp.mem_iff.mp hi)
  refine ⟨_, by rw [Array.toList_filterMap]; exact a1, ?_, a2⟩
  have all : ∀ n, n ≤ L.length → (List.range n).filterMap (fun i => L[i]?) = L.take n := by
    intro n
    induction n with
    | zero => exact fun _ => rfl
    | succ n ih =>
      intro hn
      have e := List.getElem?_eq_getElem (show n < L.length from hn)
      rw [List.range_succ, List.filterMap_append, ih (Nat.le_of_lt hn), List.filterMap_cons_some e, List.take_succ, e]; rfl
  have := hp.filterMap fun i => L[i]?
  rw [all _ (Nat.le_refl _), List.take_length] at this
  exact this
/-- laid anew -/
theorem relay (X : KX knd) {o : Obj} (ho : s.heap.get? a = some o) (hex : o.ExactSet) (hd : o.data = .set es ep t) (hr : es.toList = rws knd L) (T : Tab t (hss knd L)) (hm : L.length ≤ t.mask) (nd : (L.map (·.2)).Nodup) (key : ∀ p ∈ L, knd.is s.heap p.2 p.1)
    (pl : t.plain = true) (ld : w.params.followText "set-order" = true ∨ t.led = true) (few : L.length < 1200) {wanted M : Nat} (hw : SetTable.sizeAbove wanted - 1 = M) (hM : Msk M) (hn : L.length * 5 < M * 3) {Q : Unit → Shared → Prop}
    (hQ : ∀ h' L' es' ep' t', Heap.SameBut a s.heap h' → KSet knd h' a L' es' ep' t' → L'.Perm L → Q () { s with heap := h' }) : wpAny (model P w) A (setRelay a wanted) Q E s := by
  have sz : es.size = L.length := by rw [← Array.length_toList, hr, List.length_map]
  obtain ⟨t', order, e, hp, T', em, el, epl⟩ := relay_tab t (hs := es.map (·.1)) (wanted := wanted) hw hM (by rw [Array.size_map, sz]; omega)
  rw [Array.size_map, sz] at hp
  obtain ⟨L2, r1, r2, r3⟩ := rows_order L es order hr hp
  rw [← r3] at T'
  have sz2 : (order.filterMap (es[·]?)).size = es.size := by
    rw [← Array.length_toList, r1, List.length_map, r2.length_eq, sz]
  have bd := hM.bd
  rw [setRelay_eq]
  refine wpAny_bind (wpAny_setState_of ho hd (tab_fits T _ (by rw [sz, List.length_map]) (by rw [List.length_map]; exact hm)) ?_)
  dsimp only
  refine wp_if_neg (by rw [sizeLine_eq]; omega) ?_
  try refine wpAny_bind (wpAny_pure ?_)
  rw [e]
  dsimp only
  refine wpAny_bind (wp_if_neg (by rw [sz2]; simp) ?_)
  try refine wpAny_bind (wpAny_pure ?_)
  refine wpAny_pure ?_
  dsimp only
  refine wpAny_storeSet_of ho hd ?_ (by rw [sz2, sz, sizeLine_eq]; omega)
  have sb := Heap.SameBut.update s.heap a (Obj.putSet (order.filterMap (es[·]?)) t')
  refine hQ _ L2 _ (ep + 1) t' sb ⟨⟨_, store_at ho hd, ⟨hex.1, hex.2.1, hex.2.2⟩, rfl⟩, r1, T', (r2.map (·.2)).nodup_iff.mpr nd, fun p m => X.stay (key p (r2.mem_iff.mp m)) ho hd sb, by rw [epl]; exact pl, by rw [el]; exact ld, ?_, ?_⟩ r2
  · rw [r2.length_eq, em]; exact hn
  · rw [r2.length_eq]; exact few
theorem grow5 : SetTable.sizeAbove (SetTable.grown 77) = 512 := by decide +kernel
theorem grow6 : SetTable.sizeAbove (SetTable.grown 307) = 2048 := by decide +kernel
/-- when a table is full, and what it grows to -/
theorem full_at {m n : Nat} (hm : Msk m) (h1 : n * 5 < m * 3) (h2 : m * 3 ≤ (n + 1) * 5) (h3 : n + 1 < 1200) : ∃ M, SetTable.sizeAbove (SetTable.grown (n + 1)) - 1 = M ∧ Msk M ∧ (n + 1) * 5 < M * 3 := by
  obtain ⟨c, cs, e⟩ := hm
  rcases cs with rfl | rfl | rfl | rfl | rfl
  · obtain rfl : n = 4 := by omega
    exact ⟨31, by rw [size_20], ⟨5, by omega, rfl⟩, by decide⟩
  · obtain rfl : n = 18 := by omega
    exact ⟨127, by rw [size_76], ⟨7, by omega, rfl⟩, by decide⟩
  · obtain rfl : n = 76 := by omega
    exact ⟨511, by rw [grow5], ⟨9, by omega, rfl⟩, by decide⟩
  · obtain rfl : n = 306 := by omega
    exact ⟨2047, by rw [grow6], ⟨11, by omega, rfl⟩, by decide⟩
  · omega
/-- a member more, or not -/
theorem add (X : KX knd) (R : KSet knd s.heap a L es ep t) {x : Addr} {k : κ} (hx : knd.is s.heap k x) (hu : knd.room A) (few : L.length + 1 < 1200) {Q : Bool → Shared → Prop}
    (hQ : ∀ b h' L' es' ep' t', Heap.SameBut a s.heap h' → KSet knd h' a L' es' ep' t' → (k ∈ L.map (·.2) → L' = L) → (k ∉ L.map (·.2) → L'.Perm ((x, k) :: L)) → Q b { s with heap := h' }) :
    wpAny (model P w) A (setAddHashed a (.ref x) (knd.hash k)) Q E s := by
  obtain ⟨o, ho, hex, hd⟩ := R.ob
  have sz := R.size
  have rm := R.room
  unfold setAddHashed
  refine wpAny_holding ?_
  rw [show (100000 : Nat) = 99999 + 1 from rfl, setAddHashedIn_succ]
  refine wpAny_bind (wpAny_setState_of ho hd R.fits ?_)
  dsimp only
  refine wp_if_neg (by simp [byScan, Value.scannable]) ?_
  try refine wpAny_bind (wpAny_pure ?_)
  refine wpAny_bind (search X R hx hu (fun m => ?_) fun K m b1 b2 => ?_)
  · dsimp only
    exact wpAny_pure (hQ false s.heap L es ep t (Heap.SameBut.refl a s.heap) R (fun _ => rfl) fun z => absurd m z)
  dsimp only
  refine wpAny_bind (wpAny_setState_of ho hd R.fits ?_)
  dsimp only
  obtain ⟨q2, T1, q9⟩ := R.tab.more b1 b2 _ rfl
  have em : (t.put (way t.mask (knd.hash k) K)).1.mask = t.mask := rfl
  have el : (t.put (way t.mask (knd.hash k) K)).1.led = t.led := rfl
  have pl : (t.put (way t.mask (knd.hash k) K)).1.plain = true := R.plain
  have e2 : (t.put (way t.mask (knd.hash k) K)).2 = SetTable.below t.place (way t.mask (knd.hash k) K) := rfl
  rw [List.length_map] at q9 q2
  generalize SetTable.below t.place (way t.mask (knd.hash k) K) = p at q2 T1 e2
  generalize t.put (way t.mask (knd.hash k) K) = pt at T1 q9 em el pl e2 ⊢
  obtain ⟨t1, p'⟩ := pt
  dsimp only at T1 q9 em el pl e2 ⊢
  subst e2
  first
    | (refine wpAny_bind ?_; refine wp_if_pos pl ?_; refine X.hbv hx ?_)
    | refine wp_if_pos pl (wpAny_bind (X.hbv hx ?_))
  simp only [if_true]
  have r1 : (SetTable.insertAt es p' (knd.hash k, Value.ref x)).toList = rws knd (L.take p' ++ (x, k) :: L.drop p') := by
    rw [SetTable.toList_insertAt, R.rows]
    simp only [rws, List.map_append, List.map_cons, List.map_take, List.map_drop]
  have hh : hss knd (L.take p' ++ (x, k) :: L.drop p') = (hss knd L).take p' ++ knd.hash k :: (hss knd L).drop p' := by
    simp only [hss, List.map_append, List.map_cons, List.map_take, List.map_drop]
  rw [← hh] at T1
  have pm := put_perm L p' (x, k)
  generalize SetTable.insertAt es p' (knd.hash k, Value.ref x) = es1 at r1 ⊢
  generalize L.take p' ++ (x, k) :: L.drop p' = L1 at pm T1 r1
  have len : L1.length = L.length + 1 := pm.length_eq
  have sz1 : es1.size = L.length + 1 := by rw [← Array.length_toList, r1, List.length_map, len]
  have nd1 : (L1.map (·.2)).Nodup := (pm.map (·.2)).nodup_iff.mpr (List.nodup_cons.mpr ⟨m, R.nd⟩)
  refine wpAny_bind (wpAny_storeSet_of ho hd ?_ (by rw [sz1, sizeLine_eq]; omega))
  have sb := Heap.SameBut.update s.heap a (Obj.putSet es1 t1)
  have ho1 := store_at (es' := es1) (t' := t1) ho hd
  generalize s.heap.update a (Obj.putSet es1 t1) = h1 at sb ho1 ⊢
  have key1 : ∀ p ∈ L1, knd.is h1 p.2 p.1 := fun p hp => by
    rcases List.mem_cons.mp (pm.mem_iff.mp hp) with e | hp
    · rw [e]; exact X.stay hx ho hd sb
    · exact X.stay (R.key p hp) ho hd sb
  have ld1 : w.params.followText "set-order" = true ∨ t1.led = true := by rw [el]; exact R.led
  have full : t1.tooFull = decide ((L.length + 1) * 5 ≥ t.mask * 3) := by
    unfold SetTable.tooFull
    rw [q9, em]
  by_cases hf : t1.tooFull = true
  · first
      | (refine wpAny_bind ?_; refine wp_if_pos (by simp [hf]) ?_)
      | (refine wp_if_pos (by simp [hf]) ?_; refine wpAny_bind ?_)
    rw [full, decide_eq_true_eq] at hf
    obtain ⟨M, m1, m2, m3⟩ := full_at R.tab.msk rm hf few
    rw [sz]
    refine relay (s := { s with heap := h1 }) X ho1 ⟨hex.1, hex.2.1, hex.2.2⟩ rfl r1 T1 (by rw [len, em]; have := R.tab.msk.bd; omega) nd1 key1 pl ld1 (by rw [len]; exact few) m1 m2 (by rw [len]; exact m3) fun h2 L2 es2 ep2 t2 sb2 R2 pm2 => ?_
    exact wpAny_pure (hQ true h2 L2 es2 ep2 t2 (sb.trans sb2) R2 (fun z => absurd z m) fun _ => pm2.trans pm)
  · first
      | refine wp_if_neg (by simp [hf]) ?_
      | (refine wpAny_bind ?_; refine wp_if_neg (by simp [hf]) ?_; refine wpAny_pure ?_)
    rw [full, decide_eq_true_eq] at hf
    exact wpAny_pure (hQ true h1 L1 es1 (ep + 1) t1 sb ⟨⟨_, ho1, ⟨hex.1, hex.2.1, hex.2.2⟩, rfl⟩, r1, T1, nd1, key1, pl, ld1, by rw [len, em]; omega, by rw [len]; exact few⟩ (fun z => absurd z m) fun _ => pm)
end
end L2.SG
end
section
set_option Elab.async false
set_option linter.all false
set_option maxRecDepth 100000
set_option maxHeartbeats 3200000
namespace L2.SG
open PySem PySem.Spec PyProof.Rows L2 PpSet
section
variable {P : Program} {w : World}
/-- at a stands the tuple (r, (..ns)) -/
def IsRT (h : Heap) (k : Int × List Int) (a : Addr) : Prop := ∃ (t : Addr) (o o2 : Obj) (its : Array Value) (n m : Nat) (tk : Tok), (h.get? a = some o ∧ o.cls = .type "tuple" ∧ o.data = .seq #[.int k.1 tk, .ref t] n) ∧
  (h.get? t = some o2 ∧ o2.cls = .type "tuple" ∧ o2.data = .seq its m) ∧ IntsAre its.toList k.2
abbrev rtKey (k : Int × List Int) : NestedKey := .tup [.num k.1, .tup (k.2.map .num)]
theorem nums_all {h : Heap} {vs : List Value} {ns : List Int} (x : IntsAre vs ns) : NestedAll h (ns.map .num) vs := by
  induction x with
  | nil => exact .nil
  | cons n t _ ih => exact .cons (.int _ _) ih
theorem IsRT.key {h : Heap} {k : Int × List Int} {a : Addr} (x : IsRT h k a) : NestedIs h (rtKey k) (.ref a) := by
  obtain ⟨t, o, o2, its, n, m, tk, ⟨h1, h2, h3⟩, ⟨g1, g2, g3⟩, r⟩ := x
  exact .tup h1 h2 h3 (.cons (.int _ _) (.cons (.tup g1 g2 g3 (nums_all r)) .nil))
theorem IsRT.moved {h h' : Heap} {k : Int × List Int} {a : Addr} (x : IsRT h k a) (hk : ∀ b o vs n, h.get? b = some o → o.data = .seq vs n → h'.get? b = some o) : IsRT h' k a := by
  obtain ⟨t, o, o2, its, n, m, tk, ⟨h1, h2, h3⟩, ⟨g1, g2, g3⟩, r⟩ := x
  exact ⟨t, o, o2, its, n, m, tk, ⟨hk _ _ _ _ h1 h3, h2, h3⟩, ⟨hk _ _ _ _ g1 g3, g2, g3⟩, r⟩
theorem IsRT.kept {h h' : Heap} {k : Int × List Int} {a : Addr} (x : IsRT h k a) (hk : ∀ b o, h.get? b = some o → h'.get? b = some o) : IsRT h' k a := x.moved fun b o _ _ e _ => hk b o e
end
section
variable {P : Program} {w : World} {κ : Type} [DecidableEq κ] {knd : HeapKind P w κ} {A : Around} {E : Value → Shared → Prop} {s : Shared}
theorem KSet.keep (X : KX knd) {h h' : Heap} {a : Addr} {L : List (Addr × κ)} {es : Array (Int × Value)} {ep : Nat} {t : SetTable} (R : KSet knd h a L es ep t) (k : ∀ o, h.get? a = some o → h'.get? a = some o) (kk : ∀ p ∈ L, knd.is h' p.2 p.1) : KSet knd h' a L es ep t := by
  obtain ⟨⟨o, ho, r⟩, b, c, d, e, f, g, i, j⟩ := R
  exact ⟨⟨o, k o ho, r⟩, b, c, d, kk, f, g, i, j⟩
abbrev newSet (w : World) : Obj := { cls := .type "set", dict := none, data := .set #[] 0 (.fresh 0 0 (!w.params.followText "set-order")) }
theorem KSet.new {h : Heap} {a : Addr} (ho : h.get? a = some (newSet w)) : KSet knd h a [] #[] 0 (.fresh 0 0 (!w.params.followText "set-order")) :=
  ⟨⟨_, ho, ⟨rfl, rfl, rfl⟩, rfl⟩, rfl, ⟨List.Pairwise.nil, rfl, rfl, ⟨3, .inl rfl, rfl⟩, fun x hx => (by cases hx), fun i h j hi => (by simp at hi)⟩, List.nodup_nil, fun p hp => (by cases hp), rfl, by
    cases e : w.params.followText "set-order" with
    | true => exact .inl rfl
    | false => exact .inr rfl, by show 0 * 5 < 7 * 3; decide, by show 0 < 1200; decide⟩
end
end L2.SG
end
section
set_option Elab.async false
set_option linter.all false
set_option maxRecDepth 100000
set_option maxHeartbeats 3200000
namespace L2.SG
open PySem PySem.Spec PyProof.Rows L2 L2.VL SrtO
open PySem.W (keyToks keyToksAll dataLt alike alikeAll reads_keeps lt_data)
end L2.SG
end
section
set_option Elab.async false
set_option linter.all false
set_option maxRecDepth 100000
set_option maxHeartbeats 1600000
namespace L2.VL
open PySem PySem.Spec PyProof.Rows L2
open PySem.W (keyToks dataLt alike lt_data)
end L2.VL
end
section
set_option Elab.async false
set_option linter.all false
set_option maxRecDepth 100000
set_option maxHeartbeats 3200000
namespace L2.SG
open PySem PySem.Spec PyProof.Rows L2 L2.VL SrtO PySem.W
end L2.SG
end
section
set_option Elab.async false
set_option linter.all false
set_option maxRecDepth 100000
set_option maxHeartbeats 4000000
namespace Law_strictranks_k41_steps_and_faults
open PySem PySem.Spec PyProof.Rows L2 L2.VL L2.TX
def topS (i : Nat) : Stmt := PySem.Challenge.pw_strictranks_k41_steps_and_faults.main.body.getD i (.Pass ⟨0, 0, 0, 0⟩)
abbrev s__law_purse : Stmt := topS 29
abbrev s__law_coin : Stmt := topS 30
abbrev s__law_set : Stmt := topS 31
abbrev s__law_end_set : Stmt := topS 32
abbrev s__law_rule : Stmt := topS 33
abbrev s__law_grammar : Stmt := topS 34
abbrev s__law_word : Stmt := topS 35
abbrev s_is_ascending : Stmt := topS 12
abbrev s_is_set : Stmt := topS 13
abbrev s_is_rule : Stmt := topS 14
abbrev s_is_grammar : Stmt := topS 15
abbrev s_need_grammar : Stmt := topS 16
abbrev s_need_word : Stmt := topS 17
abbrev s_letter_at : Stmt := topS 22
abbrev s_kept_steps : Stmt := topS 27
abbrev s__law_faults : Stmt := topS 36
abbrev s_fits : Stmt := topS 18
abbrev s_is_steps : Stmt := topS 19
abbrev s_need_steps : Stmt := topS 20
abbrev s_item_faults : Stmt := topS 23
abbrev s_end_faults : Stmt := topS 24
abbrev s_rule_faults : Stmt := topS 25
abbrev s_faults_of : Stmt := topS 26
abbrev s__law_steps : Stmt := topS 37
abbrev s_output_of : Stmt := topS 21
abbrev s__law_no_steps : Stmt := topS 38
abbrev s__law_right : Stmt := topS 39
abbrev s_law : Stmt := topS 40
end Law_strictranks_k41_steps_and_faults
end
section
set_option Elab.async false
set_option linter.all false
set_option maxRecDepth 100000
set_option maxHeartbeats 0
namespace Law_strictranks_k41_steps_and_faults
open PySem PySem.Spec PyProof.Rows L2 L2.VL L2.TX
def d__law_purse : He.DefD := ⟨("_law_purse", none), "_law_purse", "_law_purse", defArgs s__law_purse, defBody s__law_purse, defScope s__law_purse, [], []⟩
def d__law_coin : He.DefD := ⟨("_law_coin", none), "_law_coin", "_law_coin", defArgs s__law_coin, defBody s__law_coin, defScope s__law_coin, [], []⟩
def d__law_set : He.DefD := ⟨("_law_set", none), "_law_set", "_law_set", defArgs s__law_set, defBody s__law_set, defScope s__law_set, [], []⟩
def d__law_end_set : He.DefD := ⟨("_law_end_set", none), "_law_end_set", "_law_end_set", defArgs s__law_end_set, defBody s__law_end_set, defScope s__law_end_set, [], []⟩
def d__law_rule : He.DefD := ⟨("_law_rule", none), "_law_rule", "_law_rule", defArgs s__law_rule, defBody s__law_rule, defScope s__law_rule, [], []⟩
def d__law_grammar : He.DefD := ⟨("_law_grammar", none), "_law_grammar", "_law_grammar", defArgs s__law_grammar, defBody s__law_grammar, defScope s__law_grammar, [], []⟩
def d__law_word : He.DefD := ⟨("_law_word", none), "_law_word", "_law_word", defArgs s__law_word, defBody s__law_word, defScope s__law_word, [], []⟩
def d_is_ascending : He.DefD := ⟨("is_ascending", none), "is_ascending", "is_ascending", defArgs s_is_ascending, defBody s_is_ascending, defScope s_is_ascending, [], []⟩
def d_is_set : He.DefD := ⟨("is_set", none), "is_set", "is_set", defArgs s_is_set, defBody s_is_set, defScope s_is_set, [], []⟩
def d_is_rule : He.DefD := ⟨("is_rule", none), "is_rule", "is_rule", defArgs s_is_rule, defBody s_is_rule, defScope s_is_rule, [], []⟩
def d_is_grammar : He.DefD := ⟨("is_grammar", none), "is_grammar", "is_grammar", defArgs s_is_grammar, defBody s_is_grammar, defScope s_is_grammar, [], []⟩
def d_need_grammar : He.DefD := ⟨("need_grammar", none), "need_grammar", "need_grammar", defArgs s_need_grammar, defBody s_need_grammar, defScope s_need_grammar, [], []⟩
def d_need_word : He.DefD := ⟨("need_word", none), "need_word", "need_word", defArgs s_need_word, defBody s_need_word, defScope s_need_word, [.int 10], []⟩
def d_letter_at : He.DefD := ⟨("letter_at", none), "letter_at", "letter_at", defArgs s_letter_at, defBody s_letter_at, defScope s_letter_at, [], []⟩
def d_kept_steps : He.DefD := ⟨("kept_steps", none), "kept_steps", "kept_steps", defArgs s_kept_steps, defBody s_kept_steps, defScope s_kept_steps, [], []⟩
def d__law_faults : He.DefD := ⟨("_law_faults", none), "_law_faults", "_law_faults", defArgs s__law_faults, defBody s__law_faults, defScope s__law_faults, [], []⟩
def d_fits : He.DefD := ⟨("fits", none), "fits", "fits", defArgs s_fits, defBody s_fits, defScope s_fits, [], []⟩
def d_is_steps : He.DefD := ⟨("is_steps", none), "is_steps", "is_steps", defArgs s_is_steps, defBody s_is_steps, defScope s_is_steps, [], []⟩
def d_need_steps : He.DefD := ⟨("need_steps", none), "need_steps", "need_steps", defArgs s_need_steps, defBody s_need_steps, defScope s_need_steps, [], []⟩
def d_item_faults : He.DefD := ⟨("item_faults", none), "item_faults", "item_faults", defArgs s_item_faults, defBody s_item_faults, defScope s_item_faults, [], []⟩
def d_end_faults : He.DefD := ⟨("end_faults", none), "end_faults", "end_faults", defArgs s_end_faults, defBody s_end_faults, defScope s_end_faults, [], []⟩
def d_rule_faults : He.DefD := ⟨("rule_faults", none), "rule_faults", "rule_faults", defArgs s_rule_faults, defBody s_rule_faults, defScope s_rule_faults, [], []⟩
def d_faults_of : He.DefD := ⟨("faults_of", none), "faults_of", "faults_of", defArgs s_faults_of, defBody s_faults_of, defScope s_faults_of, [], []⟩
def d__law_steps : He.DefD := ⟨("_law_steps", none), "_law_steps", "_law_steps", defArgs s__law_steps, defBody s__law_steps, defScope s__law_steps, [], []⟩
def d_output_of : He.DefD := ⟨("output_of", none), "output_of", "output_of", defArgs s_output_of, defBody s_output_of, defScope s_output_of, [], []⟩
def d__law_no_steps : He.DefD := ⟨("_law_no_steps", none), "_law_no_steps", "_law_no_steps", defArgs s__law_no_steps, defBody s__law_no_steps, defScope s__law_no_steps, [], []⟩
def d__law_right : He.DefD := ⟨("_law_right", none), "_law_right", "_law_right", defArgs s__law_right, defBody s__law_right, defScope s__law_right, [], []⟩
def d_law : He.DefD := ⟨("law", none), "law", "law", defArgs s_law, defBody s_law, defScope s_law, [], []⟩
def fn : List He.DefD := [d__law_purse, d__law_coin, d__law_set, d__law_end_set, d__law_rule, d__law_grammar, d__law_word, d_is_ascending, d_is_set, d_is_rule, d_is_grammar, d_need_grammar, d_need_word, d_letter_at, d_kept_steps, d__law_faults, d_fits, d_is_steps, d_need_steps, d_item_faults, d_end_faults, d_rule_faults, d_faults_of, d__law_steps, d_output_of, d__law_no_steps, d__law_right, d_law]
def fa : List He.Fa := [.glo "_law_purse", .glo "_law_coin", .glo "_law_set", .glo "_law_end_set", .glo "_law_rule", .glo "_law_grammar", .glo "_law_word", .glo "is_ascending", .glo "is_set", .glo "is_rule", .glo "is_grammar", .glo "need_grammar", .glo "need_word", .glo "letter_at", .glo "kept_steps", .glo "_law_faults", .glo "fits", .glo "is_steps", .glo "need_steps", .glo "item_faults", .glo "end_faults", .glo "rule_faults", .glo "faults_of", .glo "_law_steps", .glo "output_of", .glo "_law_no_steps", .glo "_law_right", .glo "law", .free "abs", .free "all"] ++ [.free "enumerate", .free "int", .free "isinstance", .free "len", .free "list", .free "max", .free "min", .free "range", .free "repr", .free "str", .free "tuple", .free "zip", .str "END" "#", .str "LOWERCASE" "abcdefghijklmnopqrstuvwxyz", .int "MOST_LETTERS" 4, .int "MOST_RULES" 6, .glo "KINDS"]
def loose : List Str := [("RankError" : Str), ("InvalidGrammar" : Str), ("InvalidWord" : Str), ("InvalidSteps" : Str), ("MOST_LETTERS" : Str), ("MOST_RULES" : Str), ("MOST_WORD" : Str), ("LOWERCASE" : Str), ("END" : Str), ("KINDS" : Str), ("is_ascending" : Str), ("is_set" : Str), ("is_rule" : Str), ("is_grammar" : Str), ("need_grammar" : Str), ("need_word" : Str), ("fits" : Str), ("is_steps" : Str), ("need_steps" : Str), ("output_of" : Str)] ++ [("letter_at" : Str), ("item_faults" : Str), ("end_faults" : Str), ("rule_faults" : Str), ("faults_of" : Str), ("kept_steps" : Str), ("_law_purse" : Str), ("_law_coin" : Str), ("_law_set" : Str), ("_law_end_set" : Str), ("_law_rule" : Str), ("_law_grammar" : Str), ("_law_word" : Str), ("_law_faults" : Str), ("_law_steps" : Str), ("_law_no_steps" : Str), ("_law_right" : Str)]
abbrev R : PySem.W.OpenRow := PySem.W.OpenLaw.row PySem.Challenge.rw_strictranks_k41_steps_and_faults
def ts : List TabD := [("KINDS", [("one", 1), ("pair", 2), ("change", 2), ("drop", 1), ("add", 1)])]
abbrev hk : PySem.W.Hook := hookK 4 fa fn ts
def ob (s : PySem.W.SharedT) : He.AlT × Bool := obK 4 fa fn ts (HandSHeadRun.getT s)
theorem ob_eq (s : PySem.W.SharedT) : ob s = hk.obs s.abs := obK_eq (HandSHeadRun.getT_eq s)
theorem run_f (w : World) : HandSHeadRun.RunEq R (PySem.W.view R.prog [40]) hk ob 2656 loose (w.withFollow "special-get-raises" false) := by
  intro os
  kernel_rfl
theorem run_t (w : World) : HandSHeadRun.RunEq R (PySem.W.view R.prog [40]) hk ob 2656 loose (w.withFollow "special-get-raises" true) := by
  intro os
  kernel_rfl
theorem run (w : World) : HandSHeadRun.RunEq R (PySem.W.view R.prog [40]) hk ob 2656 loose w := PySem.W.byRow2 "special-get-raises" (P := fun w => HandSHeadRun.RunEq R (PySem.W.view R.prog [40]) hk ob 2656 loose w) run_f run_t w
end Law_strictranks_k41_steps_and_faults
end
section
set_option Elab.async false
set_option linter.all false
set_option maxRecDepth 100000
namespace L2.TX
open PySem PySem.Spec PyProof.Rows L2 L2.VL
abbrev rI (i : Int) : D := .con (.int i)
abbrev rB (b : Bool) : D := .con (.bl b)
abbrev sx (cs : List Nat) : Str := ⟨cs.toArray⟩
abbrev rS (cs : List Nat) : D := .con (.str (sx cs))
abbrev rN (_ : Unit) : D := .con .non
abbrev rU (d : D) : D := d
abbrev rL {α : Type} (f : α → D) (xs : List α) : D := .lst (xs.map f)
abbrev rP {α β : Type} (f : α → D) (g : β → D) (p : α × β) : D := .tup [f p.1, g p.2]
abbrev rP3 {α β γ : Type} (f : α → D) (g : β → D) (h : γ → D) (p : α × β × γ) : D := .tup [f p.1, g p.2.1, h p.2.2]
abbrev rTu {α : Type} (f : α → D) (xs : List α) : D := .tup (xs.map f)
def rO {α : Type} (f : α → D) : Option α → D
  | none => .con .non
  | some a => f a
abbrev sl_ {α : Type} (f : α → D) (a : α) : Option Slot := some ⟨f a, false, false⟩
abbrev so_ {α : Type} (f : α → D) (a : α) : Option Slot := some ⟨f a, true, false⟩
abbrev sp_ {α : Type} (f : α → D) (a : α) : Option Slot := some ⟨f a, true, true⟩
/-- a name for a value -/
@[irreducible] def lt {α : Type} {β : Sort u} (v : α) (h : α → β) : β := h v
theorem lt_eq {α : Type} {β : Sort u} (v : α) (h : α → β) : lt v h = h v := by unfold lt; rfl
inductive Fw (σ α : Type) where
  | nx (s : σ) | brk (s : σ) | ret (a : α)
section
variable {α β γ σ τ : Type}
def fo (b : σ → β → Option σ) : List β → σ → Option σ
  | [], s => some s
  | x :: xs, s => (b s x).bind (fo b xs)
def fwNext (k : σ → Option (Fw σ α)) : Fw σ α → Option (Fw σ α)
  | .nx s => k s
  | .brk s => some (.nx s)
  | .ret a => some (.ret a)
def foW (b : σ → β → Option (Fw σ α)) : List β → σ → Option (Fw σ α)
  | [], s => some (.nx s)
  | x :: xs, s => (b s x).bind (fwNext (foW b xs))
def whN (t : σ → Option Bool) (b : σ → Option (Fw σ α)) : Nat → σ → Option (Fw σ α)
  | 0, _ => none
  | n + 1, s => (t s).bind fun c => if c then (b s).bind (fwNext (whN t b n)) else some (.nx s)
open Classical in
noncomputable def wh (t : σ → Option Bool) (b : σ → Option (Fw σ α)) (s : σ) : Option (Fw σ α) :=
  if h : ∃ n w, whN t b n s = some w then whN t b h.choose s else none
/-- behind a loop: on, or out -/
def fwOut {ω : Type} (k : σ → Option ω) (r : α → Option ω) : Fw σ α → Option ω
  | .nx s => k s
  | .brk s => k s
  | .ret a => r a
def chk (ys : List α) : Option (List α) := if ys.length ≤ cap then some ys else none
def lc (q : β → Option Bool) (e : β → Option γ) : List β → Option (List γ)
  | [] => some []
  | x :: xs => (q x).bind fun c => if c then (e x).bind fun y => (lc q e xs).bind fun ys => some (y :: ys) else lc q e xs
def lcC (q : β → Option Bool) (e : β → Option γ) (xs : List β) : Option (List γ) := (lc q e xs).bind chk
/-- .. with a state that goes along -/
def lcX (q : τ → β → Option (Bool × τ)) (e : τ → β → Option (γ × τ)) : List β → τ → Option (List γ × τ)
  | [], t => some ([], t)
  | x :: xs, t => (q t x).bind fun c => if c.1 then (e c.2 x).bind fun y => (lcX q e xs y.2).bind fun ys => some (y.1 :: ys.1, ys.2) else lcX q e xs c.2
def chkX (p : List α × τ) : Option (List α × τ) := if p.1.length ≤ cap then some p else none
def lcXC (q : τ → β → Option (Bool × τ)) (e : τ → β → Option (γ × τ)) (xs : List β) (t : τ) : Option (List γ × τ) := (lcX q e xs t).bind chkX
end
def divI (i j : Int) : Option Int := if CDivB i j then some (i / j) else none
def modI (i j : Int) : Option Int := if 0 < j then some (i % j) else none
def shlI (i j : Int) : Option Int := if CPowB i j then some (i * 2 ^ j.toNat) else none
def shrI (i j : Int) : Option Int := if 0 ≤ j then some (i / 2 ^ j.toNat) else none
def ixL {α : Type} (xs : List α) (i : Int) : Option α := atI xs i
def ixS (cs : List Nat) (i : Int) : Option (List Nat) := if cs.length ≤ cap then (atI cs i).map fun c => [c] else none
def lenS (cs : List Nat) : Option Int := if cs.length ≤ cap then some cs.length else none
def catL {α : Type} (xs ys : List α) : Option (List α) := if xs.length + ys.length ≤ cap then some (xs ++ ys) else none
def catS (xs ys : List Nat) : Option (List Nat) := if xs.length + ys.length ≤ cap then some (xs ++ ys) else none
def appL {α : Type} (xs : List α) (x : α) : Option (List α) := if xs.length < cap then some (xs ++ [x]) else none
def setL {α : Type} (xs : List α) (n : Int) (x : α) : Option (List α) := (ixN xs.length n).map fun k => xs.set k x
def rng (i j : Int) : Option (List Int) := if small62 i && small62 j then some ((List.range (j - i).toNat).map fun (k : Nat) => i + k) else none
def enm {α : Type} (xs : List α) : List (Int × α) := xs.zipIdx.map fun p => ((p.2 : Int), p.1)
def chs (cs : List Nat) : List (List Nat) := cs.map fun c => [c]
section
variable {α β : Type} {m : M α} {f : α → M β} {ρ ρ1 ρ2 ρ3 : Rho} {a : α}
theorem bind_ok (h : m ρ = .ok a ρ1) : (m >>= f) ρ = f a ρ1 := by
  show M.bind m f ρ = _
  unfold M.bind
  rw [h]
theorem bind_ex {x : Exn} (h : m ρ = .ex x ρ1) : (m >>= f) ρ = .ex x ρ1 := by
  show M.bind m f ρ = _
  unfold M.bind
  rw [h]
theorem cur_ok {x : D × Kd} {d : D} (h : cur ρ x = some d) : dcur x ρ = .ok d ρ := by unfold dcur; rw [h]
theorem opt_ok {o : Option α} (h : o = some a) : (mOpt o) ρ = .ok a ρ := by subst h; rfl
end
section
variable {ρ ρ1 ρ2 ρ3 ρ4 : Rho} {ra rb rc r : DE} {da db dc d da0 db0 dc0 d0 e : D} {ka kb kc k : Kd} {z : D × Kd} {i : Nat} {o p : Bool} {l : List (Bool × DE)} {xs ys : List (D × Kd)} {qa qb q : M Bool} {a b c : Bool}
theorem q_var (h : ρ[i]? = some (some ⟨d, o, p⟩)) : dVar i ρ = .ok (d, .nm i) ρ := by unfold dVar; rw [h]
theorem q_con {v : V} : dCon v ρ = .ok (.con v, .shr) ρ := rfl
theorem q_op2 {g : D → D → Option (D × Kd)} (ha : ra ρ = .ok (da0, ka) ρ1) (hb : rb ρ1 = .ok (db0, kb) ρ2) (ca : cur ρ2 (da0, ka) = some da) (cb : cur ρ2 (db0, kb) = some db) (hg : g da db = some z) : dOp2 g ra rb ρ = .ok z ρ2 := by
  unfold dOp2
  rw [bind_ok ha, bind_ok hb, bind_ok (cur_ok ca), bind_ok (cur_ok cb), opt_ok hg]
theorem q_cmp {g : D → D → Option Bool} (ha : ra ρ = .ok (da0, ka) ρ1) (hb : rb ρ1 = .ok (db0, kb) ρ2) (ca : cur ρ2 (da0, ka) = some da) (cb : cur ρ2 (db0, kb) = some db) (hg : g da db = some b) : dCmp g ra rb ρ = .ok (.con (.bl b), .shr) ρ2 :=
  q_op2 ha hb ca cb (by show (g da db).map _ = _; rw [hg]; rfl)
theorem q_chain {g g' : D → D → Option Bool} (ha : ra ρ = .ok (da0, ka) ρ1) (hb : rb ρ1 = .ok (db0, kb) ρ2) (hc : rc ρ2 = .ok (dc0, kc) ρ2) (ca : cur ρ2 (da0, ka) = some da) (cb : cur ρ2 (db0, kb) = some db) (cc : cur ρ2 (dc0, kc) = some dc)
    (hg : g da db = some a) (hg' : g' db dc = some b) : dChain g g' ra rb rc ρ = .ok (.con (.bl (a && b)), .shr) ρ2 := by
  unfold dChain
  rw [bind_ok ha, bind_ok hb, bind_ok (cur_ok ca), bind_ok (cur_ok cb), bind_ok (opt_ok hg)]
  cases a with
  | false => rfl
  | true =>
    show (rc >>= _) ρ2 = _
    rw [bind_ok hc, bind_ok (cur_ok cb), bind_ok (cur_ok cc), bind_ok (opt_ok hg')]
    rfl
theorem q_op1 {g : D → Option V} {v : V} (ha : ra ρ = .ok (da0, ka) ρ1) (ca : cur ρ1 (da0, ka) = some da) (hg : g da = some v) : dOp1 g ra ρ = .ok (.con v, .shr) ρ1 := by
  unfold dOp1
  rw [bind_ok ha, bind_ok (cur_ok ca), bind_ok (opt_ok hg)]
  rfl
theorem q_dB (ha : ra ρ = .ok (da0, ka) ρ1) (ca : cur ρ1 (da0, ka) = some (.con (.bl b))) : dB ra ρ = .ok b ρ1 := by
  unfold dB
  rw [bind_ok ha, bind_ok (cur_ok ca)]
  rfl
theorem q_dTr (ha : ra ρ = .ok (da0, ka) ρ1) (ca : cur ρ1 (da0, ka) = some da) (hg : truthD da = some b) : dTr ra ρ = .ok b ρ1 := by
  unfold dTr
  rw [bind_ok ha, bind_ok (cur_ok ca), opt_ok hg]
theorem q_not (h : q ρ = .ok b ρ1) : dNot q ρ = .ok (!b) ρ1 := by unfold dNot; rw [bind_ok h]; rfl
theorem q_and (h1 : qa ρ = .ok a ρ1) (h2 : qb ρ1 = .ok b ρ1) : dAnd qa qb ρ = .ok (a && b) ρ1 := by
  unfold dAnd
  rw [bind_ok h1]
  cases a with
  | false => rfl
  | true => show qb ρ1 = _; rw [h2]; rfl
/-- a partial reading: its value, its test -/
structure VT (ρ : Rho) (q : M Bool) (o : Option Bool) : Prop where
  run : ∀ c, o = some c → q ρ = .ok c ρ
structure VE {α : Type} (ρ : Rho) (r : DE) (f : α → D) (o : Option α) : Prop where
  run : ∀ y, o = some y → ∃ d0 k, r ρ = .ok (d0, k) ρ ∧ cur ρ (d0, k) = some (f y) ∧ settleR ρ k = ρ
theorem vt_ret (h : q ρ = .ok c ρ) : VT ρ q (some c) := ⟨fun _ e => by cases e; exact h⟩
theorem vt_bind {α : Type} {o : Option α} {h : α → Option Bool} (hh : ∀ a, o = some a → VT ρ q (h a)) : VT ρ q (o.bind h) := ⟨fun c e => by
  obtain ⟨a, e1, e2⟩ := Option.bind_eq_some_iff.mp e
  exact (hh a e1).run c e2⟩
theorem ve_ret {α : Type} {f : α → D} {y : α} (h : r ρ = .ok (d0, k) ρ) (hc : cur ρ (d0, k) = some (f y)) (hs : settleR ρ k = ρ) : VE ρ r f (some y) := ⟨fun _ e => by cases e; exact ⟨d0, k, h, hc, hs⟩⟩
theorem ve_bind {α β : Type} {f : α → D} {o : Option β} {h : β → Option α} (hh : ∀ a, o = some a → VE ρ r f (h a)) : VE ρ r f (o.bind h) := ⟨fun c e => by
  obtain ⟨a, e1, e2⟩ := Option.bind_eq_some_iff.mp e
  exact (hh a e1).run c e2⟩
theorem q_andP {ob : Option Bool} (h1 : qa ρ = .ok a ρ1) (h2 : VT ρ1 qb ob) (hv : (if a = true then ob else some false) = some b) : dAnd qa qb ρ = .ok b ρ1 := by
  unfold dAnd
  rw [bind_ok h1]
  cases a with
  | false => cases hv; rfl
  | true => exact h2.run b hv
theorem q_orP {ob : Option Bool} (h1 : qa ρ = .ok a ρ1) (h2 : VT ρ1 qb ob) (hv : (if a = true then some true else ob) = some b) : dOr qa qb ρ = .ok b ρ1 := by
  unfold dOr
  rw [bind_ok h1]
  cases a with
  | true => cases hv; rfl
  | false => exact h2.run b hv
/-- a value of a kind that says nothing of names: of a test that is a value -/
structure VB (ρ : Rho) (r : DE) (o : Option Bool) : Prop where
  run : ∀ c, o = some c → r ρ = .ok (.con (.bl c), .shr) ρ
theorem vb_ret (h : r ρ = .ok (.con (.bl c), .shr) ρ) : VB ρ r (some c) := ⟨fun _ e => by cases e; exact h⟩
theorem vb_bind {α : Type} {o : Option α} {h : α → Option Bool} (hh : ∀ a, o = some a → VB ρ r (h a)) : VB ρ r (o.bind h) := ⟨fun c e => by
  obtain ⟨a, e1, e2⟩ := Option.bind_eq_some_iff.mp e
  exact (hh a e1).run c e2⟩
theorem q_andVP {ob : Option Bool} (h1 : dB ra ρ = .ok a ρ1) (h2 : VB ρ1 rb ob) (hv : (if a = true then ob else some false) = some b) : dAndV ra rb ρ = .ok (.con (.bl b), .shr) ρ1 := by
  unfold dAndV
  rw [bind_ok h1]
  cases a with
  | false => cases hv; rfl
  | true => exact h2.run b hv
/-- a if q else b: both made, or both shared -/
theorem q_ifx {α : Type} {f : α → D} {x y : α} (hq : q ρ = .ok c ρ1) (ha : ra ρ1 = .ok (f x, k) ρ1) (hb : rb ρ1 = .ok (f y, k) ρ1) : dIfx q ra rb ρ = .ok (f (if c = true then x else y), k) ρ1 := by
  unfold dIfx
  rw [bind_ok hq]
  cases c with
  | true => exact ha
  | false => exact hb
/-- shared at once -/
def dSh (r : DE) : DE := do
  let x ← r
  keep false x
theorem keep_ok {x : D × Kd} (hc : cur ρ x = some d) (hs : settleR ρ x.2 = ρ1) : keep false x ρ = .ok (d, .shr) ρ1 := by
  unfold keep
  show (dcur x >>= fun d => settleM x.2 >>= fun _ => pure (d, Kd.shr)) ρ = _
  rw [bind_ok (cur_ok hc)]
  show (settleM x.2 >>= _) ρ = _
  rw [bind_ok (show settleM x.2 ρ = .ok () (settleR ρ x.2) from rfl), hs]
  rfl
theorem q_sh (hr : r ρ = .ok (d0, k) ρ1) (hc : cur ρ1 (d0, k) = some d) (hs : settleR ρ1 k = ρ2) : dSh r ρ = .ok (d, .shr) ρ2 := by
  unfold dSh
  rw [bind_ok hr, keep_ok hc hs]
/-- a if q else b, shared -/
structure VSh {α : Type} (ρ : Rho) (r : DE) (f : α → D) (o : Option α) : Prop where
  run : ∀ y, o = some y → r ρ = .ok (f y, .shr) ρ
theorem vs_ret {α : Type} {f : α → D} {y : α} (h : r ρ = .ok (f y, .shr) ρ) : VSh ρ r f (some y) := ⟨fun _ e => by cases e; exact h⟩
theorem vs_bind {α β : Type} {f : α → D} {o : Option β} {h : β → Option α} (hh : ∀ a, o = some a → VSh ρ r f (h a)) : VSh ρ r f (o.bind h) := ⟨fun c e => by
  obtain ⟨a, e1, e2⟩ := Option.bind_eq_some_iff.mp e
  exact (hh a e1).run c e2⟩
theorem q_ifxP {α : Type} {f : α → D} {oa ob : Option α} {y : α} (hq : q ρ = .ok c ρ1) (ha : VSh ρ1 ra f oa) (hb : VSh ρ1 rb f ob) (hv : (if c = true then oa else ob) = some y) : dIfx q ra rb ρ = .ok (f y, .shr) ρ1 := by
  unfold dIfx
  rw [bind_ok hq]
  cases c with
  | true => exact ha.run y hv
  | false => exact hb.run y hv
theorem a_nil : dA [] ρ = .ok [] ρ := rfl
theorem a_F (ha : r ρ = .ok (d0, k) ρ1) (hc : cur ρ1 (d0, k) = some d) (hs : settleR ρ1 k = ρ2) (hl : dA l ρ2 = .ok ys ρ3) : dA ((false, r) :: l) ρ = .ok ((d, .shr) :: ys) ρ3 := by
  unfold dA
  rw [bind_ok ha, bind_ok (keep_ok hc hs), bind_ok hl]
  rfl
theorem a_T (ha : r ρ = .ok (d0, k) ρ1) (hl : dA l ρ1 = .ok ys ρ3) : dA ((true, r) :: l) ρ = .ok ((d0, k) :: ys) ρ3 := by
  unfold dA
  rw [bind_ok ha, bind_ok (show keep true (d0, k) ρ1 = .ok (d0, k) ρ1 from rfl), bind_ok hl]
  rfl
theorem q_lst {ds : List D} (ha : dA l ρ = .ok xs ρ1) (hs : shrs xs = some ds) (hl : decide (ds.length ≤ cap) = true) : dLst l ρ = .ok (.lst ds, .fr) ρ1 := by
  unfold dLst
  rw [bind_ok ha]
  exact opt_ok (by unfold gD; rw [hs]; exact if_pos (of_decide_eq_true hl))
theorem q_tup {ds : List D} (ha : dA l ρ = .ok xs ρ1) (hs : shrs xs = some ds) (hl : decide (ds.length ≤ cap) = true) : dTup l ρ = .ok (.tup ds, .shr) ρ1 := by
  unfold dTup
  rw [bind_ok ha]
  exact opt_ok (by unfold gD; rw [hs]; exact if_pos (of_decide_eq_true hl))
theorem q_bi {g : List D → Option (D × Kd)} {ds : List D} (ha : dA l ρ = .ok xs ρ1) (hc : curs ρ1 xs = some ds) (hg : g ds = some z) : dBi g l ρ = .ok z ρ1 := by
  unfold dBi
  rw [bind_ok ha, bind_ok (show dcurs xs ρ1 = .ok ds ρ1 by unfold dcurs; rw [hc]), opt_ok hg]
theorem q_mt {ty : D → Bool} {g : D → List D → Option (D × Kd)} {ds : List D} (hr : r ρ = .ok (d0, k) ρ1) (hc : cur ρ1 (d0, k) = some d) (ht : ty d = true) (ha : dA l ρ1 = .ok xs ρ2) (hc2 : cur ρ2 (d0, k) = some d) (hx : curs ρ2 xs = some ds) (hg : g d ds = some z) :
    dMt ty g r l ρ = .ok z ρ2 := by
  unfold dMt
  rw [bind_ok hr, bind_ok (cur_ok hc), bind_ok (opt_ok (a := ()) (if_pos ht)), bind_ok ha, bind_ok (cur_ok hc2), bind_ok (show dcurs xs ρ2 = .ok ds ρ2 by unfold dcurs; rw [hx]), opt_ok hg]
theorem q_isi {u t : Ty} (hr : r ρ = .ok (d0, k) ρ1) (hc : cur ρ1 (d0, k) = some d) (ht : tyOf d = some t) : dIsi u r ρ = .ok (.con (.bl (isiT t u)), .shr) ρ1 := by
  unfold dIsi
  rw [bind_ok hr, bind_ok (cur_ok hc), bind_ok (opt_ok ht)]
  rfl
theorem q_call {F : Fn} {np : Nat} {dfl : List D} {args : List VL.Arg} {kf : Bool} {outs : Rho} (ha : dA l ρ = .ok xs ρ1) (hu : (uniqW (wsOf ρ1 0 xs) && decide (xs.length + dfl.length = np)) = true) (hx : argsOf ρ1 xs = some args)
    (hF : F (args ++ dfl.map shA) = some (.ret d kf outs)) (hb : backs xs outs 0 ρ1 = ρ2) : dCall F np dfl l ρ = .ok (d, frK kf) ρ2 := by
  unfold dCall
  rw [bind_ok ha]
  unfold VL.callEnd
  rw [if_pos hu, hx]
  dsimp only
  rw [hF]
  dsimp only
  rw [hb]
theorem q_mut {i : Nat} {g : List D → List D → Option (List D × D)} {ys ys' ds : List D} {p p' : Bool} (hi : ρ[i]? = some (some ⟨.lst ys, true, p⟩)) (ha : dA l ρ = .ok xs ρ1) (hx : shrs xs = some ds) (hi1 : ρ1[i]? = some (some ⟨.lst ys', true, p'⟩)) {w : List D × D}
    (hg : g ys' ds = some w) (hS : ρ1.set i (some ⟨.lst w.1, true, p'⟩) = ρ2) : dMut i g l ρ = .ok (w.2, .shr) ρ2 := by
  unfold dMut
  rw [bind_ok (show chkOwn i ρ = .ok () ρ by unfold chkOwn getOwn; rw [hi]), bind_ok ha, bind_ok (opt_ok hx)]
  unfold mutEnd getOwn
  rw [hi1]
  dsimp only
  rw [hg]
  dsimp only
  rw [hS]
theorem q_part {j : Int} (hr : r ρ = .ok (d0, k) ρ1) (hc : cur ρ1 (d0, k) = some (.con (.int j))) : dPart (some r) ρ = .ok (some j) ρ1 := by
  unfold dPart
  show (r >>= _) ρ = _
  rw [bind_ok hr, bind_ok (cur_ok hc)]
  rfl
theorem q_part0 : dPart none ρ = .ok none ρ := rfl
theorem q_slL {lo hi : Option DE} {i j : Option Int} {ds : List D} (hr : r ρ = .ok (d0, k) ρ1) (h1 : dPart lo ρ1 = .ok i ρ2) (h2 : dPart hi ρ2 = .ok j ρ3) (hc : cur ρ3 (d0, k) = some (.lst ds)) : dSlL r lo hi ρ = .ok (.lst (cutD ds i j), .fr) ρ3 := by
  unfold dSlL
  rw [bind_ok hr, bind_ok h1, bind_ok h2, bind_ok (cur_ok hc)]
  rfl
theorem q_lnd {ds : List D} (hr : r (ρ.map lent) = .ok (.lst ds, .fr) ρ1) (hc : ds.all isCon = true) : dLnd r ρ = .ok (.lst ds, .fr) ρ := by
  unfold dLnd
  rw [hr]
  exact if_pos hc
theorem q_put (hc : cur ρ (d0, k) = some d) (hp : pinned (settleR ρ k) i = false) (hS : (settleR ρ k).set i (some ⟨d, ownOf k, false⟩) = ρ1) : dPut i (d0, k) ρ = .ok () ρ1 := by
  unfold dPut
  rw [bind_ok (cur_ok hc)]
  show putEnd i k d ρ = _
  unfold putEnd
  rw [hp, ← hS]
  rfl
theorem q_set (hr : r ρ = .ok (d0, k) ρ1) (hc : cur ρ1 (d0, k) = some d) (hp : pinned (settleR ρ1 k) i = false) (hS : (settleR ρ1 k).set i (some ⟨d, ownOf k, false⟩) = ρ2) : dSet i r ρ = .ok .nx ρ2 := by
  unfold dSet
  rw [bind_ok hr, bind_ok (q_put hc hp hS)]
  rfl
theorem q_expr (hr : r ρ = .ok z ρ1) : dExpr r ρ = .ok .nx ρ1 := by
  unfold dExpr
  rw [bind_ok hr]
  rfl
theorem q_unp {t : Tg} (hr : r ρ = .ok (d0, k) ρ1) (hc : cur ρ1 (d0, k) = some d) (hs : settleR ρ1 k = ρ2) (ht : (t.put d) ρ2 = .ok () ρ3) : dUnp t r ρ = .ok .nx ρ3 := by
  unfold dUnp
  rw [bind_ok hr, bind_ok (keep_ok hc hs), bind_ok ht]
  rfl
theorem q_setIx {rk rv : DE} {i : Nat} {n : Int} {ys ys' ws : List D} {p : Bool} {dk0 : D} {kk : Kd} (hv : rv ρ = .ok (d0, k) ρ1) (hc : cur ρ1 (d0, k) = some d) (hs : settleR ρ1 k = ρ2) (hi : ρ2[i]? = some (some ⟨.lst ys, true, p⟩)) (hk : rk ρ2 = .ok (dk0, kk) ρ3)
    (ck : cur ρ3 (dk0, kk) = some (.con (.int n))) (hi3 : ρ3[i]? = some (some ⟨.lst ys', true, p⟩)) (hg : setG (.con (.int n)) d ys' = some (ws, .non)) (hS : ρ3.set i (some ⟨.lst ws, true, p⟩) = ρ4) : dSetIx i rk rv ρ = .ok .nx ρ4 := by
  unfold dSetIx
  rw [bind_ok hv, bind_ok (keep_ok hc hs), bind_ok (show chkOwn i ρ2 = .ok () ρ2 by unfold chkOwn getOwn; rw [hi]), bind_ok hk, bind_ok (cur_ok ck)]
  have : mutEnd i (setG (.con (.int n)) d) ρ3 = .ok (.non, .shr) ρ4 := by
    unfold mutEnd getOwn
    rw [hi3]
    dsimp only
    rw [hg]
    dsimp only
    rw [hS]
  rw [bind_ok this]
  rfl
theorem q_par {i j : Nat} {bi bj : Bool} {x y : D × Kd} (ha : dA [(bi, ra), (bj, rb)] ρ = .ok [x, y] ρ1) (hn : nonm x = some ()) (h1 : dPut j y ρ1 = .ok () ρ2) (h2 : dPut i x ρ2 = .ok () ρ3) : dPar i j bi bj ra rb ρ = .ok .nx ρ3 := by
  unfold dPar
  rw [bind_ok ha]
  show (mOpt (nonm x) >>= _) ρ1 = _
  rw [bind_ok (opt_ok hn), bind_ok h1, bind_ok h2]
  rfl
/-- slots are shared -/
def shareAll (ρ : Rho) : List Nat → Rho
  | [] => ρ
  | i :: is => shareR (shareAll ρ is) i
def dShB (is : List Nat) (sa : DS) : DS := fun ρ => sa (shareAll ρ is)
end
end L2.TX
end
section
set_option Elab.async false
set_option linter.all false
set_option maxRecDepth 100000
namespace L2.TX
open PySem PySem.Spec PyProof.Rows L2 L2.VL
section
variable {X : Cx} {pj : VK → VK} {st : Stmt} {sts : List Stmt} {sa : DS} {e : Expr} {r : DE}
theorem Rel.shareAll {G : Fix} {σ : St} {H : Hp} {ρ : Rho} {T : List Tmp} : ∀ (is : List Nat) {O : L2.VL.Own}, Rel G O σ H ρ T → ∃ O', Rel G O' σ H (shareAll ρ is) T
  | [], O, R => ⟨O, R⟩
  | i :: is, O, R => by
    obtain ⟨O1, R1⟩ := Rel.shareAll is R
    show ∃ O', Rel G O' σ H (shareR (TX.shareAll ρ is) i) T
    cases q : (TX.shareAll ρ is)[i]? with
    | none => exact ⟨O1, by unfold shareR; rw [q]; exact R1⟩
    | some o =>
      cases o with
      | none => exact ⟨O1, by unfold shareR; rw [q]; exact R1⟩
      | some s =>
        obtain ⟨O2, _, R2, _, _⟩ := R1.share q
        exact ⟨O2, R2⟩
theorem ss_shB (is : List Nat) (h : SSf pj X st sa) : SSf pj X st (dShB is sa) := fun W tk => PS.imp (h W tk) fun D σ H ⟨G, O, ρ, hK, R, h⟩ => by
  obtain ⟨O', R'⟩ := Rel.shareAll is R
  exact ⟨G, O', _, hK, R', h⟩
def shareM (is : List Nat) : M Unit := fun ρ => .ok () (shareAll ρ is)
/-- shared behind a statement -/
def dShE (is : List Nat) (sa : DS) : DS := do
  let f ← sa
  shareM is
  pure f
theorem ss_shE (is : List Nat) (h : SSf pj X st sa) : SSf pj X st (dShE is sa) := fun W tk => PS.imp (h W tk) fun D σ H ⟨G, O, ρ, hK, R, h⟩ => ⟨G, O, ρ, hK, R, Res.post_ok ((post_bind _ _).mp h) fun f ρ1 q => by
  replace q : FlOk G (D.re pj) [] f (shareAll ρ1 is) := q
  cases f with
  | nx => exact fun O' σ' H' R' => let ⟨O2, R2⟩ := Rel.shareAll is R'; q O2 σ' H' R2
  | brk => exact fun O' σ' H' R' => let ⟨O2, R2⟩ := Rel.shareAll is R'; q O2 σ' H' R2
  | cnt => exact fun O' σ' H' R' => let ⟨O2, R2⟩ := Rel.shareAll is R'; q O2 σ' H' R2
  | ret d b => exact fun O' σ' v H' R' => let ⟨O2, R2⟩ := Rel.shareAll is R'; q O2 σ' v H' R2⟩
theorem q_shE {is : List Nat} {ρ ρ1 ρ2 : Rho} (h : sa ρ = .ok .nx ρ1) (hs : shareAll ρ1 is = ρ2) : dShE is sa ρ = .ok .nx ρ2 := by
  unfold dShE
  rw [bind_ok h]
  show (shareM is >>= _) ρ1 = _
  rw [bind_ok (show shareM is ρ1 = .ok () ρ2 by show Res.ok () (shareAll ρ1 is) = _; rw [hs])]
  rfl
theorem se_sh (h : SE X e r) : SE X e (dSh r) := fun W tk => PE.imp (h W tk) fun σ H Q ⟨G, O, ρ, hK, R, h⟩ => ⟨G, O, ρ, hK, R, Res.post_ok ((post_bind _ _).mp h) fun x ρ1 q O1 v H1 R1 => by
  obtain ⟨d, e1, q2⟩ := keep_false q
  obtain ⟨O2, R2⟩ := R1.settle (d := d) e1
  exact q2 O2 v H1 R2⟩
end
structure BL {ω : Type} (P : Res Fl → ω → Prop) (ρ : Rho) (m : DS) (o : Option ω) : Prop where
  run : ∀ w, o = some w → P (m ρ) w
def fgRes (fg : List Nat) : Res Fl → Res Fl
  | .ok f ρ => .ok f (forgetR ρ fg)
  | r => r
abbrev PF {ω : Type} (fg : List Nat) (P : Res Fl → ω → Prop) : Res Fl → ω → Prop := fun r w => P (fgRes fg r) w
abbrev PN {σ : Type} (S : σ → Rho) : Res Fl → σ → Prop := fun r s => r = .ok .nx (S s)
abbrev PL {σ : Type} (S : σ → Rho) : Res Fl → σ → Prop := fun r s => r = .ok .nx (S s) ∨ r = .ok .cnt (S s)
def PW {σ α : Type} (S : σ → Rho) (Q : Res Fl → α → Prop) (r : Res Fl) : Fw σ α → Prop
  | .nx s => r = .ok .nx (S s) ∨ r = .ok .cnt (S s)
  | .brk s => r = .ok .brk (S s)
  | .ret a => (∃ d b ρ', r = .ok (.ret d b) ρ') ∧ Q r a
def PR {α : Type} (f : α → D) (kf : Bool) : Res Fl → α → Prop := fun r a => ∃ ρ', r = .ok (.ret (f a) kf) ρ'
def PRt {α τ : Type} (f : α → D) (kf : Bool) (n : Nat) (g : τ → Rho) : Res Fl → α × τ → Prop := fun r p => ∃ ρ', r = .ok (.ret (f p.1) kf) ρ' ∧ ρ'.take n = g p.2
section
variable {ω ω' α β σ τ : Type} {P : Res Fl → ω → Prop} {ρ ρ1 ρ2 ρ3 : Rho} {a b s1 t m : DS} {o : Option ω} {r : DE} {d d0 : D} {k : Kd} {i : Nat} {S : σ → Rho} {q : M Bool} {c : Bool} {fg : List Nat} {f : Fl}
theorem seq_nx (h : a ρ = .ok .nx ρ1) : (dSeq a b) ρ = b ρ1 := by
  unfold dSeq
  rw [bind_ok h]
theorem seq_out (h : a ρ = .ok f ρ1) (hf : f ≠ .nx) : (dSeq a b) ρ = .ok f ρ1 := by
  unfold dSeq
  rw [bind_ok h]
  cases f with
  | nx => exact absurd rfl hf
  | brk => rfl
  | cnt => rfl
  | ret d b => rfl
theorem seq_ex {x : Exn} (h : a ρ = .ex x ρ1) : (dSeq a b) ρ = .ex x ρ1 := by
  unfold dSeq
  rw [bind_ex h]
theorem seq_stuck (h : a ρ = .stuck) : (dSeq a b) ρ = .stuck := by
  show M.bind a _ ρ = _
  unfold M.bind
  rw [h]
theorem seq_eq (h : a ρ = m ρ1) : (dSeq a b) ρ = (dSeq m b) ρ1 := by
  show M.bind a _ ρ = M.bind m _ ρ1
  unfold M.bind
  rw [h]
theorem seq_assoc : (dSeq (dSeq s1 t) b) ρ = (dSeq s1 (dSeq t b)) ρ := by
  cases e : s1 ρ with
  | stuck => rw [seq_stuck e, seq_stuck (seq_stuck e)]
  | ex x ρ1 => rw [seq_ex e, seq_ex (seq_ex e)]
  | ok f ρ1 =>
    by_cases hf : f = .nx
    · subst hf
      rw [seq_nx e]
      exact seq_eq (seq_nx e)
    · rw [seq_out e hf, seq_out (seq_out e hf) hf]
theorem seq_next : (dSeq m dNext) ρ = m ρ := by
  cases e : m ρ with
  | stuck => rw [seq_stuck e]
  | ex x ρ1 => rw [seq_ex e]
  | ok f ρ1 =>
    by_cases hf : f = .nx
    · subst hf
      rw [seq_nx e]
      rfl
    · rw [seq_out e hf]
theorem bl_eq {m' : DS} (e : m ρ = m' ρ1) (h : BL P ρ1 m' o) : BL P ρ m o := ⟨fun w q => by rw [e]; exact h.run w q⟩
theorem bl_last (h : BL P ρ (dSeq m dNext) o) : BL P ρ m o := bl_eq seq_next.symm h
theorem bl_assoc (h : BL P ρ (dSeq s1 (dSeq t b)) o) : BL P ρ (dSeq (dSeq s1 t) b) o := bl_eq seq_assoc h
theorem bl_nextS (h : BL P ρ b o) : BL P ρ (dSeq dNext b) o := bl_eq (seq_nx rfl) h
theorem bl_end {w : ω} (h : P (.ok .nx ρ) w) : BL P ρ dNext (some w) := ⟨fun _ e => by cases e; exact h⟩
theorem bl_bind {oa : Option α} {h : α → Option ω} (hh : ∀ a, oa = some a → BL P ρ m (h a)) : BL P ρ m (oa.bind h) := ⟨fun w e => by
  obtain ⟨x, e1, e2⟩ := Option.bind_eq_some_iff.mp e
  exact (hh x e1).run w e2⟩
theorem bl_seq (h : a ρ = .ok .nx ρ1) (hb : BL P ρ1 b o) : BL P ρ (dSeq a b) o := bl_eq (seq_nx h) hb
/-- a name for the value -/
theorem bl_set {v : α} {f : α → D} {S : α → Rho} {h : α → Option ω} (hr : r ρ = .ok (d0, k) ρ1) (hc : cur ρ1 (d0, k) = some (f v)) (hp : pinned (settleR ρ1 k) i = false) (hS : ∀ x, (settleR ρ1 k).set i (some ⟨f x, ownOf k, false⟩) = S x)
    (hb : ∀ x, BL P (S x) b (h x)) : BL P ρ (dSeq (dSet i r) b) (lt v h) := by
  rw [lt_eq]
  exact bl_seq (q_set hr hc hp (hS v)) (hb v)
theorem bl_setV (hr : r ρ = .ok (d0, k) ρ1) (hc : cur ρ1 (d0, k) = some d) (hp : pinned (settleR ρ1 k) i = false) (hS : (settleR ρ1 k).set i (some ⟨d, ownOf k, false⟩) = ρ2)
    (hb : BL P ρ2 b o) : BL P ρ (dSeq (dSet i r) b) o := bl_seq (q_set hr hc hp hS) hb
theorem bl_lt {v : α} {S : α → Rho} {h : α → Option ω} (hS : S v = ρ) (hb : ∀ x, BL P (S x) m (h x)) : BL P ρ m (lt v h) := by
  rw [lt_eq, ← hS]
  exact hb v
theorem bl_expr {z : D × Kd} (hr : r ρ = .ok z ρ1) (hb : BL P ρ1 b o) : BL P ρ (dSeq (dExpr r) b) o := bl_seq (q_expr hr) hb
theorem take_ok {x : D × Kd} {y : D × Bool} (hc : cur ρ x = some d) (h : (match x.2 with | .fr => (pure (d, true) : M (D × Bool)) | .shr => pure (d, false) | .nm i => takeNm d i) ρ = .ok y ρ1) : dTake x ρ = .ok y ρ1 := by
  unfold dTake
  rw [bind_ok (cur_ok hc)]
  exact h
theorem bl_ret {w : ω} {kf : Bool} (hr : r ρ = .ok (d0, k) ρ1) (hc : cur ρ1 (d0, k) = some d) (ht : (match k with | .fr => (pure (d, true) : M (D × Bool)) | .shr => pure (d, false) | .nm i => takeNm d i) ρ1 = .ok (d, kf) ρ2)
    (hP : P (.ok (.ret d kf) ρ2) w) : BL P ρ (dSeq (dRet r) b) (some w) := ⟨fun _ e => by
  cases e
  have : dRet r ρ = .ok (.ret d kf) ρ2 := by
    unfold dRet
    rw [bind_ok hr, bind_ok (take_ok (x := (d0, k)) hc ht)]
    rfl
  rw [seq_out this (fun z => by cases z)]
  exact hP⟩
/-- a statement that may not be reached -/
theorem bl_never : BL P ρ m none := ⟨fun _ e => by cases e⟩
theorem if_eq {b1 b2 : DS} (hq : q ρ = .ok c ρ1) : (dIf q b1 b2) ρ = if c = true then b1 ρ1 else b2 ρ1 := by
  unfold dIf
  rw [bind_ok hq]
  cases c <;> rfl
theorem bl_if {b1 b2 : DS} {oa ob : Option ω} (hq : q ρ = .ok c ρ1) (h1 : c = true → BL P ρ1 (dSeq b1 b) oa) (h2 : c = false → BL P ρ1 (dSeq b2 b) ob) : BL P ρ (dSeq (dIf q b1 b2) b) (if c = true then oa else ob) := by
  have e := if_eq (b1 := b1) (b2 := b2) hq
  cases c with
  | true => exact bl_eq (seq_eq e) (h1 rfl)
  | false => exact bl_eq (seq_eq e) (h2 rfl)
/-- an if that goes on in any case -/
theorem bl_ifJ {b1 b2 : DS} {oa ob : Option σ} {h : σ → Option ω} (S : σ → Rho) (hq : q ρ = .ok c ρ1) (h1 : c = true → BL (PN S) ρ1 b1 oa) (h2 : c = false → BL (PN S) ρ1 b2 ob) (hb : ∀ s, BL P (S s) b (h s)) : BL P ρ (dSeq (dIf q b1 b2) b) ((if c = true then oa else ob).bind h) := bl_bind fun s e => by
  have e2 := if_eq (b1 := b1) (b2 := b2) hq
  cases c with
  | true => exact bl_seq (e2.trans ((h1 rfl).run s e)) (hb s)
  | false => exact bl_seq (e2.trans ((h2 rfl).run s e)) (hb s)
theorem fgE_eq : (dFgE fg m) ρ = fgRes fg (m ρ) := by
  unfold dFgE
  show M.bind m _ ρ = _
  unfold M.bind
  cases e : m ρ with
  | stuck => rfl
  | ex x ρ1 => rfl
  | ok f ρ1 => rfl
theorem bl_fgE (h : BL (PF fg P) ρ m o) : BL P ρ (dFgE fg m) o := ⟨fun w e => by rw [fgE_eq]; exact h.run w e⟩
theorem bl_shB {is : List Nat} (hs : shareAll ρ is = ρ1) (h : BL P ρ1 (dSeq m b) o) : BL P ρ (dSeq (dShB is m) b) o := bl_eq (seq_eq (show dShB is m ρ = m ρ1 by unfold dShB; rw [hs])) h
theorem bl_fgB (hs : forgetR ρ fg = ρ1) (h : BL P ρ1 (dSeq m b) o) : BL P ρ (dSeq (dFgB fg m) b) o := bl_eq (seq_eq (show dFgB fg m ρ = m ρ1 by
  unfold dFgB
  rw [bind_ok (show forgetM fg ρ = .ok () (forgetR ρ fg) from rfl), hs])) h
variable {t : Tg} {body : DS} {fb : β → D} {S1 : σ → β → Rho} {it : M (List D)} {xs : List β} {s0 : σ}
theorem for_fo {gb : σ → β → Option σ} (hp : ∀ s x, (t.put (fb x)) (S s) = .ok () (S1 s x)) (hb : ∀ s x, BL (PL S) (S1 s x) body (gb s x)) : ∀ (xs : List β) (s s' : σ), fo gb xs s = some s' → forD t body (xs.map fb) (S s) = .ok .nx (S s')
  | [], s, s', e => by cases e; rfl
  | x :: xs, s, s', e => by
    obtain ⟨s2, e1, e2⟩ := Option.bind_eq_some_iff.mp (show (gb s x).bind (fo gb xs) = some s' from e)
    show (t.put (fb x) >>= fun _ => body >>= _) (S s) = _
    rw [bind_ok (hp s x)]
    rcases (hb s x).run s2 e1 with q | q
    · rw [bind_ok q]
      exact for_fo hp hb xs s2 s' e2
    · rw [bind_ok q]
      exact for_fo hp hb xs s2 s' e2
theorem bl_for {gb : σ → β → Option σ} {h : σ → Option ω} (S : σ → Rho) (S1 : σ → β → Rho) (hB : forgetR ρ fg = ρ1) (hi : it ρ1 = .ok (xs.map fb) (S s0)) (hp : ∀ s x, (t.put (fb x)) (S s) = .ok () (S1 s x))
    (hb : ∀ s x, BL (PF fg (PL S)) (S1 s x) body (gb s x)) (hr : ∀ s, BL P (S s) b (h s)) : BL P ρ (dSeq (dFgB fg (dFor it t (dFgE fg body))) b) ((fo gb xs s0).bind h) := bl_fgB hB (bl_bind fun s e => bl_seq (by
  unfold dFor
  rw [bind_ok hi]
  exact for_fo hp (fun s x => bl_fgE (hb s x)) xs s0 s e) (hr s))
theorem for_foW {gb : σ → β → Option (Fw σ α)} {Q : Res Fl → α → Prop} (hp : ∀ s x, (t.put (fb x)) (S s) = .ok () (S1 s x)) (hb : ∀ s x, BL (PW S Q) (S1 s x) body (gb s x)) : ∀ (xs : List β) (s : σ) (w : Fw σ α), foW gb xs s = some w →
    match w with
    | .nx s' => forD t body (xs.map fb) (S s) = .ok .nx (S s')
    | .brk s' => False
    | .ret a => (∃ d b ρ', forD t body (xs.map fb) (S s) = .ok (.ret d b) ρ') ∧ Q (forD t body (xs.map fb) (S s)) a
  | [], s, w, e => by cases e; rfl
  | x :: xs, s, w, e => by
    obtain ⟨u, e1, e2⟩ := Option.bind_eq_some_iff.mp (show (gb s x).bind (fwNext (foW gb xs)) = some w from e)
    have hu := (hb s x).run u e1
    have key : forD t body ((x :: xs).map fb) (S s) = (body >>= fun f => match f with
      | .nx => forD t body (xs.map fb)
      | .cnt => forD t body (xs.map fb)
      | .brk => pure .nx
      | f => pure f) (S1 s x) := by
      show (t.put (fb x) >>= fun _ => body >>= _) (S s) = _
      rw [bind_ok (hp s x)]
      all_goals rfl
    rw [key]
    cases u with
    | nx s2 =>
      have ih := for_foW hp hb xs s2 w e2
      rcases hu with q | q
      · rw [bind_ok q]; exact ih
      · rw [bind_ok q]; exact ih
    | brk s2 =>
      cases e2
      rw [bind_ok (show body (S1 s x) = .ok .brk (S s2) from hu)]
      rfl
    | ret a =>
      cases e2
      obtain ⟨⟨d, k, ρ', q⟩, hQ⟩ := hu
      rw [bind_ok q]
      exact ⟨⟨d, k, ρ', rfl⟩, by rw [q] at hQ; exact hQ⟩
/-- what a loop's answer is, where it stands: handed back at once, or as a turn's end of the loop around -/
structure Out {α ω : Type} (Q : Res Fl → α → Prop) (P : Res Fl → ω → Prop) (rt : α → ω) : Prop where
  run : ∀ d k ρ' a, Q (.ok (.ret d k) ρ') a → P (.ok (.ret d k) ρ') (rt a)
theorem bl_forW {gb : σ → β → Option (Fw σ α)} {h : σ → Option ω} {Q : Res Fl → α → Prop} {rt : α → ω} (S : σ → Rho) (S1 : σ → β → Rho) (hB : forgetR ρ fg = ρ1) (hi : it ρ1 = .ok (xs.map fb) (S s0)) (hp : ∀ s x, (t.put (fb x)) (S s) = .ok () (S1 s x))
    (hb : ∀ s x, BL (PF fg (PW S Q)) (S1 s x) body (gb s x)) (hQ : Out Q P rt) (hr : ∀ s, BL P (S s) b (h s)) : BL P ρ (dSeq (dFgB fg (dFor it t (dFgE fg body))) b) ((foW gb xs s0).bind (fwOut h fun a => some (rt a))) := bl_fgB hB (bl_bind fun w e => by
  have q := for_foW hp (fun s x => bl_fgE (hb s x)) xs s0 w e
  have key : dFor it t (dFgE fg body) ρ1 = forD t (dFgE fg body) (xs.map fb) (S s0) := by
    unfold dFor
    rw [bind_ok hi]
  cases w with
  | nx s => exact bl_seq (key.trans q) (hr s)
  | brk s => exact q.elim
  | ret a =>
    obtain ⟨⟨d, k, ρ', q1⟩, q2⟩ := q
    refine ⟨fun w ew => ?_⟩
    cases ew
    rw [seq_out (key.trans q1) (fun z => by cases z)]
    rw [q1] at q2
    exact hQ.run d k ρ' a q2)
end
theorem out_R {α : Type} {Q : Res Fl → α → Prop} : Out Q Q id := ⟨fun _ _ _ _ h => h⟩
theorem out_W {α σ : Type} {S : σ → Rho} {Q : Res Fl → α → Prop} : Out Q (PW S Q) Fw.ret := ⟨fun d k ρ' _ h => ⟨⟨d, k, ρ', rfl⟩, h⟩⟩
/-- what is handed back does not hang on what is forgotten -/
theorem out_F {α ω : Type} {Q Q' : Res Fl → α → Prop} {P : Res Fl → ω → Prop} {fg : List Nat} {rt : α → ω} (h : Out Q' P rt) (hf : ∀ d k ρ' a, Q (.ok (.ret d k) ρ') a → Q' (.ok (.ret d k) (forgetR ρ' fg)) a) : Out Q (PF fg P) rt := ⟨fun d k ρ' a q => h.run d k _ a (hf d k ρ' a q)⟩
theorem fg_PR {α : Type} {f : α → D} {kf : Bool} {fg : List Nat} : ∀ d k ρ' a, PR f kf (.ok (.ret d k) ρ') a → PR f kf (.ok (.ret d k) (forgetR ρ' fg)) a := fun d k ρ' a ⟨ρ2, e⟩ => by
  cases e
  exact ⟨_, rfl⟩
end L2.TX
end
section
set_option Elab.async false
set_option linter.all false
set_option maxRecDepth 100000
namespace L2.TX
open PySem PySem.Spec PyProof.Rows L2 L2.VL
section
variable {α β γ σ τ : Type} {ρ ρ1 ρ2 ρ3 : Rho} {r : DE} {q : M Bool} {t : Tg} {own : List Nat} {it : M (List D)} {fb : β → D} {f : α → D} {xs : List β} {d d0 : D} {k : Kd}
theorem noX_ok {m : M α} {a : α} (h : m ρ = .ok a ρ1) : noX m ρ = .ok a ρ1 := by unfold noX; rw [h]
theorem lcD_lc {cq : β → Option Bool} {ce : β → Option α} {S1 : β → Rho} {ρ0 : Rho} (hp : ∀ x, (t.put (fb x)) ρ0 = .ok () (S1 x)) (hq : ∀ x, VT (S1 x) q (cq x)) (he : ∀ x, VE (S1 x) r f (ce x)) (hw : ∀ x, wipeR (S1 x) own = ρ0) :
    ∀ (xs : List β) (ys : List α) (ρ : Rho), wipeR ρ own = ρ0 → lc cq ce xs = some ys → ∃ ρ', lcD own t q r (xs.map fb) ρ = .ok (ys.map f) ρ' ∧ wipeR ρ' own = ρ0
  | [], ys, ρ, h0, e => by cases e; exact ⟨ρ, rfl, h0⟩
  | x :: xs, ys, ρ, h0, e => by
    obtain ⟨c, e1, e2⟩ := Option.bind_eq_some_iff.mp (show (cq x).bind _ = some ys from e)
    have k0 : lcD own t q r ((x :: xs).map fb) ρ = ((wipeM own >>= fun _ => t.put (fb x) >>= fun _ => noX q >>= fun b => if b = true then (noX r >>= fun y => keep false y >>= fun z => lcD own t q r (xs.map fb) >>= fun rest => pure (z.1 :: rest)) else lcD own t q r (xs.map fb)) : M (List D)) ρ := rfl
    have e0 : wipeM own ρ = .ok () ρ0 := by show Res.ok () (wipeR ρ own) = _; rw [h0]
    rw [k0, bind_ok e0, bind_ok (hp x), bind_ok (noX_ok ((hq x).run c e1))]
    cases c with
    | false =>
      rw [if_neg Bool.false_ne_true]
      exact lcD_lc hp hq he hw xs ys (S1 x) (hw x) e2
    | true =>
      rw [if_pos rfl]
      obtain ⟨y, e3, e4⟩ := Option.bind_eq_some_iff.mp (show (ce x).bind _ = some ys from e2)
      obtain ⟨zs, e5, e6⟩ := Option.bind_eq_some_iff.mp e4
      cases e6
      obtain ⟨d0, k, h1, h2, h3⟩ := (he x).run y e3
      obtain ⟨ρ', h4, h5⟩ := lcD_lc hp hq he hw xs zs (S1 x) (hw x) e5
      rw [bind_ok (noX_ok h1), bind_ok (keep_ok h2 h3), bind_ok h4]
      exact ⟨ρ', rfl, h5⟩
theorem chk_of {ys zs : List α} (h : chk ys = some zs) : zs = ys ∧ ys.length ≤ cap := by
  unfold chk at h
  split at h
  · cases h; exact ⟨rfl, by assumption⟩
  · cases h
theorem q_lc {cq : β → Option Bool} {ce : β → Option α} {ys : List α} (S1 : β → Rho) (hi : it ρ = .ok (xs.map fb) ρ1) (ho : own.all (fun i => !pinned ρ1 i) = true) (h0 : wipeR ρ1 own = ρ2) (hp : ∀ x, (t.put (fb x)) ρ2 = .ok () (S1 x)) (hw : ∀ x, wipeR (S1 x) own = ρ2)
    (hq : ∀ x, VT (S1 x) q (cq x)) (he : ∀ x, VE (S1 x) r f (ce x)) (h : lcC cq ce xs = some ys) : dLc own it t q r ρ = .ok (.lst (ys.map f), .fr) ρ2 := by
  obtain ⟨zs, e1, e2⟩ := Option.bind_eq_some_iff.mp (show (lc cq ce xs).bind chk = some ys from h)
  obtain ⟨rfl, hl⟩ := chk_of e2
  obtain ⟨ρ', h4, h5⟩ := lcD_lc hp hq he hw xs ys ρ1 h0 e1
  unfold dLc
  rw [bind_ok hi]
  show (okOwn own >>= _) ρ1 = _
  rw [bind_ok (show okOwn own ρ1 = .ok () ρ1 by unfold okOwn; rw [if_pos ho]), bind_ok h4]
  show (wipeM own >>= _) ρ' = _
  rw [bind_ok (show wipeM own ρ' = .ok () ρ2 by show Res.ok () (wipeR ρ' own) = _; rw [h5])]
  exact opt_ok (by unfold lcEnd; rw [List.length_map]; exact if_pos hl)
/-- .. with a state that goes along -/
structure XT (S : τ → Rho) (ρ : Rho) (q : M Bool) (o : Option (Bool × τ)) : Prop where
  run : ∀ p, o = some p → q ρ = .ok p.1 (S p.2)
structure XE (S : τ → Rho) (ρ : Rho) (r : DE) (f : α → D) (o : Option (α × τ)) : Prop where
  run : ∀ p, o = some p → ∃ d0 k, r ρ = .ok (d0, k) (S p.2) ∧ cur (S p.2) (d0, k) = some (f p.1) ∧ settleR (S p.2) k = S p.2
theorem xt_ret {S : τ → Rho} {p : Bool × τ} (h : q ρ = .ok p.1 (S p.2)) : XT S ρ q (some p) := ⟨fun _ e => by cases e; exact h⟩
theorem xt_bind {S : τ → Rho} {o : Option γ} {h : γ → Option (Bool × τ)} (hh : ∀ a, o = some a → XT S ρ q (h a)) : XT S ρ q (o.bind h) := ⟨fun c e => by
  obtain ⟨a, e1, e2⟩ := Option.bind_eq_some_iff.mp e
  exact (hh a e1).run c e2⟩
theorem xe_ret {S : τ → Rho} {p : α × τ} (h : r ρ = .ok (d0, k) (S p.2)) (hc : cur (S p.2) (d0, k) = some (f p.1)) (hs : settleR (S p.2) k = S p.2) : XE S ρ r f (some p) := ⟨fun _ e => by cases e; exact ⟨d0, k, h, hc, hs⟩⟩
theorem xe_bind {S : τ → Rho} {o : Option γ} {h : γ → Option (α × τ)} (hh : ∀ a, o = some a → XE S ρ r f (h a)) : XE S ρ r f (o.bind h) := ⟨fun c e => by
  obtain ⟨a, e1, e2⟩ := Option.bind_eq_some_iff.mp e
  exact (hh a e1).run c e2⟩
theorem lcD_lcX {cq : τ → β → Option (Bool × τ)} {ce : τ → β → Option (α × τ)} {S : τ → Rho} {S1 : τ → β → Rho} (hp : ∀ s x, (t.put (fb x)) (S s) = .ok () (S1 s x)) (hq : ∀ s x, XT (fun s' => S1 s' x) (S1 s x) q (cq s x)) (he : ∀ s x, XE (fun s' => S1 s' x) (S1 s x) r f (ce s x)) (hw : ∀ s x, wipeR (S1 s x) own = S s) :
    ∀ (xs : List β) (s : τ) (w : List α × τ) (ρ : Rho), wipeR ρ own = S s → lcX cq ce xs s = some w → ∃ ρ', lcD own t q r (xs.map fb) ρ = .ok (w.1.map f) ρ' ∧ wipeR ρ' own = S w.2
  | [], s, w, ρ, h0, e => by cases e; exact ⟨ρ, rfl, h0⟩
  | x :: xs, s, w, ρ, h0, e => by
    obtain ⟨c, e1, e2⟩ := Option.bind_eq_some_iff.mp (show (cq s x).bind _ = some w from e)
    have k0 : lcD own t q r ((x :: xs).map fb) ρ = ((wipeM own >>= fun _ => t.put (fb x) >>= fun _ => noX q >>= fun b => if b = true then (noX r >>= fun y => keep false y >>= fun z => lcD own t q r (xs.map fb) >>= fun rest => pure (z.1 :: rest)) else lcD own t q r (xs.map fb)) : M (List D)) ρ := rfl
    have e0 : wipeM own ρ = .ok () (S s) := by show Res.ok () (wipeR ρ own) = _; rw [h0]
    rw [k0, bind_ok e0, bind_ok (hp s x), bind_ok (noX_ok ((hq s x).run c e1))]
    obtain ⟨c1, c2⟩ := c
    cases c1 with
    | false =>
      rw [if_neg Bool.false_ne_true]
      exact lcD_lcX hp hq he hw xs c2 w (S1 c2 x) (hw c2 x) e2
    | true =>
      rw [if_pos rfl]
      obtain ⟨y, e3, e4⟩ := Option.bind_eq_some_iff.mp (show (ce c2 x).bind _ = some w from e2)
      obtain ⟨zs, e5, e6⟩ := Option.bind_eq_some_iff.mp e4
      cases e6
      obtain ⟨d0, k, h1, h2, h3⟩ := (he c2 x).run y e3
      obtain ⟨ρ', h4, h5⟩ := lcD_lcX hp hq he hw xs y.2 zs (S1 y.2 x) (hw y.2 x) e5
      rw [bind_ok (noX_ok h1), bind_ok (keep_ok h2 h3), bind_ok h4]
      exact ⟨ρ', rfl, h5⟩
theorem chkX_of {p w : List α × τ} (h : chkX p = some w) : w = p ∧ p.1.length ≤ cap := by
  unfold chkX at h
  split at h
  · cases h; exact ⟨rfl, by assumption⟩
  · cases h
theorem q_lcX {cq : τ → β → Option (Bool × τ)} {ce : τ → β → Option (α × τ)} {w : List α × τ} {s : τ} (S : τ → Rho) (S1 : τ → β → Rho) (hi : it ρ = .ok (xs.map fb) ρ1) (ho : own.all (fun i => !pinned ρ1 i) = true) (h0 : wipeR ρ1 own = S s) (hp : ∀ s x, (t.put (fb x)) (S s) = .ok () (S1 s x)) (hw : ∀ s x, wipeR (S1 s x) own = S s)
    (hq : ∀ s x, XT (fun s' => S1 s' x) (S1 s x) q (cq s x)) (he : ∀ s x, XE (fun s' => S1 s' x) (S1 s x) r f (ce s x)) (h : lcXC cq ce xs s = some w) : dLc own it t q r ρ = .ok (.lst (w.1.map f), .fr) (S w.2) := by
  obtain ⟨zs, e1, e2⟩ := Option.bind_eq_some_iff.mp (show (lcX cq ce xs s).bind chkX = some w from h)
  obtain ⟨rfl, hl⟩ := chkX_of e2
  obtain ⟨ρ', h4, h5⟩ := lcD_lcX hp hq he hw xs s w ρ1 h0 e1
  unfold dLc
  rw [bind_ok hi]
  show (okOwn own >>= _) ρ1 = _
  rw [bind_ok (show okOwn own ρ1 = .ok () ρ1 by unfold okOwn; rw [if_pos ho]), bind_ok h4]
  show (wipeM own >>= _) ρ' = _
  rw [bind_ok (show wipeM own ρ' = .ok () (S w.2) by show Res.ok () (wipeR ρ' own) = _; rw [h5])]
  exact opt_ok (by unfold lcEnd; rw [List.length_map]; exact if_pos hl)
theorem i_any {ys : List D} (hr : r ρ = .ok (d0, k) ρ1) (hc : cur ρ1 (d0, k) = some d) (hs : settleR ρ1 k = ρ2) (ha : anyOf d = some ys) : iAny r ρ = .ok ys ρ2 := by
  unfold iAny
  rw [bind_ok hr, bind_ok (keep_ok hc hs), opt_ok ha]
theorem i_rng {g : List D → Option (List D)} {l : List (Bool × DE)} {ys : List (D × Kd)} {ds zs : List D} (ha : dA l ρ = .ok ys ρ1) (hc : curs ρ1 ys = some ds) (hg : g ds = some zs) : iRng g l ρ = .ok zs ρ1 := by
  unfold iRng
  rw [bind_ok ha, bind_ok (show dcurs ys ρ1 = .ok ds ρ1 by unfold dcurs; rw [hc]), opt_ok hg]
theorem rngD_map (i : Int) (n : Nat) : rngD i n = ((List.range n).map fun (k : Nat) => i + k).map rI := by
  unfold rngD
  rw [List.map_map]
  rfl
theorem g_rng1 {j : Int} {zs : List Int} (h : rng 0 j = some zs) : rng1 [rI j] = some (zs.map rI) := by
  unfold rng at h
  split at h
  · rename_i hj
    cases h
    rw [Bool.and_eq_true] at hj
    show (if small62 j then some (rngD 0 j.toNat) else none) = _
    rw [if_pos hj.2, rngD_map]
    simp
  · cases h
theorem i_enumL {l : List (Bool × DE)} {ys : List (D × Kd)} {fa : α → D} {as : List α} (ha : dA l ρ = .ok ys ρ1) (hs : shrs ys = some [rL fa as]) : iEnumA l ρ = .ok ((enm as).map (rP rI fa)) ρ1 := by
  unfold iEnumA
  rw [bind_ok ha, bind_ok (opt_ok hs)]
  show (mOpt (some ((as.map fa).zipIdx.map fun p => D.tup [.int p.2, p.1]))) ρ1 = _
  unfold enm
  rw [List.zipIdx_map, List.map_map, List.map_map]
  rfl
theorem chrs_sx (cs : List Nat) : chrs (sx cs) = (chs cs).map rS := by
  unfold chrs chs
  rw [List.map_map]
  show List.map _ cs = _
  rfl
theorem i_enumS {l : List (Bool × DE)} {ys : List (D × Kd)} {as : List Nat} (ha : dA l ρ = .ok ys ρ1) (hs : shrs ys = some [rS as]) : iEnumA l ρ = .ok ((enm (chs as)).map (rP rI rS)) ρ1 := by
  unfold iEnumA
  rw [bind_ok ha, bind_ok (opt_ok hs)]
  show (mOpt (some ((chrs (sx as)).zipIdx.map fun p => D.tup [.int p.2, p.1]))) ρ1 = _
  unfold enm
  rw [chrs_sx, List.zipIdx_map, List.map_map, List.map_map]
  rfl
theorem any_S (as : List Nat) : anyOf (rS as) = some ((chs as).map rS) := by
  show some (chrs (sx as)) = _
  rw [chrs_sx]
structure Ref (F : Fn) (args : List VL.Arg) (f : α → D) (kf : Bool) (o : Option α) : Prop where
  run : ∀ a, o = some a → ∃ outs, F args = some (.ret (f a) kf outs)
structure RefT (F : Fn) (args : List VL.Arg) (f : α → D) (kf : Bool) (g : τ → Rho) (o : Option (α × τ)) : Prop where
  run : ∀ p, o = some p → F args = some (.ret (f p.1) kf (g p.2))
theorem ref_of {n : Nat} {body : DS} {args : List VL.Arg} {kf : Bool} {o : Option α} (h0 : args.map slotOf ++ List.replicate (n - args.length) none = ρ) (h : BL (PR f kf) ρ body o) : Ref (runFn n body) args f kf o := ⟨fun a e => by
  obtain ⟨ρ', q⟩ := h.run a e
  refine ⟨ρ'.take args.length, ?_⟩
  unfold runFn
  rw [h0, q]⟩
theorem ref_ofT {n m : Nat} {body : DS} {args : List VL.Arg} {kf : Bool} {g : τ → Rho} {o : Option (α × τ)} (h0 : args.map slotOf ++ List.replicate (n - args.length) none = ρ) (hm : args.length = m) (h : BL (PRt f kf m g) ρ body o) : RefT (runFn n body) args f kf g o := ⟨fun a e => by
  obtain ⟨ρ', q, q2⟩ := h.run a e
  unfold runFn
  rw [h0, q, hm]
  dsimp only
  rw [q2]⟩
theorem q_callR {F : Fn} {np : Nat} {dfl : List D} {l : List (Bool × DE)} {ys : List (D × Kd)} {as args : List VL.Arg} {kf : Bool} {o : Option α} {x : α} (R : Ref F args f kf o) (hx : o = some x) (ha : dA l ρ = .ok ys ρ1) (hu : (uniqW (wsOf ρ1 0 ys) && decide (ys.length + dfl.length = np)) = true)
    (hy : argsOf ρ1 ys = some as) (he : as ++ dfl.map shA = args) (hb : ∀ outs, backs ys outs 0 ρ1 = ρ1) : dCall F np dfl l ρ = .ok (f x, frK kf) ρ1 := by
  obtain ⟨outs, q⟩ := R.run x hx
  exact q_call ha hu hy (by rw [he]; exact q) (hb outs)
theorem q_callT {F : Fn} {np : Nat} {dfl : List D} {l : List (Bool × DE)} {ys : List (D × Kd)} {as args : List VL.Arg} {kf : Bool} {g : τ → Rho} {o : Option (α × τ)} {x : α × τ} (R : RefT F args f kf g o) (hx : o = some x) (ha : dA l ρ = .ok ys ρ1) (hu : (uniqW (wsOf ρ1 0 ys) && decide (ys.length + dfl.length = np)) = true)
    (hy : argsOf ρ1 ys = some as) (he : as ++ dfl.map shA = args) (hb : backs ys (g x.2) 0 ρ1 = ρ2) : dCall F np dfl l ρ = .ok (f x.1, frK kf) ρ2 := q_call ha hu hy (by rw [he]; exact R.run x hx) hb
end
section
variable {α β : Type} {f : α → D} {g : β → D} {a b c i j : Int} {xs ys zs : List α} {s t u : List Nat} {x : α} {p q : Bool}
theorem g_addI : addD (rI a) (rI b) = some (rI (a + b), .shr) := rfl
theorem sx_app : sx s ++ sx t = sx (s ++ t) := by
  show Str.mk (s.toArray ++ t.toArray) = _
  simp
theorem sx_len : (sx s).length = s.length := by
  show s.toArray.size = _
  simp
theorem g_addS (h : catS s t = some u) : addD (rS s) (rS t) = some (rS u, .shr) := by
  unfold catS at h
  split at h
  · rename_i hl
    cases h
    show (if (sx s).length + (sx t).length ≤ cap then some (D.str (sx s ++ sx t), Kd.shr) else none) = _
    rw [sx_len, sx_len, if_pos hl, sx_app]
  · cases h
theorem g_addL (h : catL xs ys = some zs) : addD (rL f xs) (rL f ys) = some (rL f zs, .fr) := by
  unfold catL at h
  split at h
  · rename_i hl
    cases h
    show (if (xs.map f).length + (ys.map f).length ≤ cap then some (D.lst (xs.map f ++ ys.map f), Kd.fr) else none) = _
    rw [List.length_map, List.length_map, if_pos hl]
    show _ = some (D.lst ((xs ++ ys).map f), Kd.fr)
    rw [List.map_append]
  · cases h
theorem g_subI : subD (rI a) (rI b) = some (rI (a - b), .shr) := rfl
theorem mulT_I (h : CMulB a b = true) : mulT (rI a) (rI b) = some (rI (a * b), .shr) := by
  show (mulA (rI a) (rI b)).or _ = _
  rw [show mulA (rI a) (rI b) = some (rI (a * b), .shr) from if_pos h]
  rfl
theorem g_mulIl (h : (decide (-18446744073709551616 < a) && decide (a < 18446744073709551616)) = true) : mulT (rI a) (rI b) = some (rI (a * b), .shr) := mulT_I (by unfold CMulB; rw [h]; simp)
theorem g_divI (h : divI a b = some c) : divD (rI a) (rI b) = some (rI c, .shr) := by
  unfold divI at h
  split at h
  · rename_i hl; cases h; exact if_pos hl
  · cases h
theorem g_modI (h : modI a b = some c) : modD (rI a) (rI b) = some (rI c, .shr) := by
  unfold modI at h
  split at h
  · rename_i hl; cases h; exact if_pos (decide_eq_true hl)
  · cases h
theorem g_modIr (h : decide (0 < b) = true) : modD (rI a) (rI b) = some (rI (a % b), .shr) := if_pos h
theorem g_powIr (h : CPowB a b = true) : powD (rI a) (rI b) = some (rI (a ^ b.toNat), .shr) := if_pos h
theorem g_shlI (h : shlI a b = some c) : shlD (rI a) (rI b) = some (rI c, .shr) := by
  unfold shlI at h
  split at h
  · rename_i hl; cases h; exact if_pos hl
  · cases h
theorem g_shrI (h : shrI a b = some c) : shrD (rI a) (rI b) = some (rI c, .shr) := by
  unfold shrI at h
  split at h
  · rename_i hl; cases h; exact if_pos (decide_eq_true hl)
  · cases h
theorem g_andI : andD (rI a) (rI b) = some (rI (Builtin.bitAnd a b), .shr) := rfl
theorem g_negI : negV (rI a) = some (.int (-a)) := rfl
theorem g_ltI : ltC (rI a) (rI b) = some (decide (a < b)) := rfl
theorem g_leI : leC (rI a) (rI b) = some (decide (a ≤ b)) := rfl
theorem g_gtI : gtA (rI a) (rI b) = some (decide (a > b)) := rfl
theorem g_eqI : eqD (rI a) (rI b) = some (decide (a = b)) := eqD_int
theorem sx_inj : sx s = sx t ↔ s = t := by
  constructor
  · intro h
    have : s.toArray = t.toArray := congrArg Str.cps h
    simpa using this
  · intro h; rw [h]
theorem g_eqS : eqD (rS s) (rS t) = some (decide (s = t)) := by
  rw [show eqD (rS s) (rS t) = some (decide (sx s = sx t)) from eqD_str]
  simp only [sx_inj]
theorem g_ne {x y : D} (h : eqD x y = some p) : neD x y = some (!p) := by unfold neD; rw [h]; rfl
def EqT (f : α → D) (n : Nat) : Prop := ∀ a b, okD n (f a) = true ∧ (same (f a) (f b) = true ↔ a = b)
theorem okD_int (n : Nat) (i : Int) : okD n (rI i) = true := by cases n <;> rfl
theorem et_I {n : Nat} : EqT rI n := fun a b => ⟨okD_int n a, by show decide (a = b) = true ↔ _; simp⟩
theorem same_L {P : α → Prop} (h : ∀ a b, P a → P b → (same (f a) (f b) = true ↔ a = b)) : ∀ xs ys : List α, (∀ x ∈ xs, P x) → (∀ y ∈ ys, P y) → (sameL (xs.map f) (ys.map f) = true ↔ xs = ys)
  | [], [], _, _ => by simp [sameL]
  | [], y :: ys, _, _ => by simp [sameL]
  | x :: xs, [], _, _ => by simp [sameL]
  | x :: xs, y :: ys, h1, h2 => by
    show (same (f x) (f y) && sameL (xs.map f) (ys.map f)) = true ↔ _
    rw [Bool.and_eq_true, h x y (h1 x (by simp)) (h2 y (by simp)), same_L h xs ys (fun z hz => h1 z (by simp [hz])) (fun z hz => h2 z (by simp [hz]))]
    simp
theorem et_L {n : Nat} (h : EqT f n) : EqT (rL f) (n + 1) := fun a b => ⟨okL_map a n fun x _ => (h x x).1, same_L (P := fun _ => True) (fun a b _ _ => (h a b).2) a b (fun _ _ => trivial) (fun _ _ => trivial)⟩
theorem eqD_nl {x y : D} (hx : okD 60 x = true) (hy : okD 60 y = true) (hn : isCon x = false) : eqD x y = some (same x y) := by
  unfold eqD
  cases x with
  | con v => cases hn
  | lst _ => simp [hx, hy]
  | tup _ => simp [hx, hy]
  | dic _ => simp [hx, hy]
  | dit _ => simp [hx, hy]
  | own _ => simp [hx, hy]
  | exv _ => simp [hx, hy]
  | dix _ => simp [hx, hy]
  | fnv _ _ _ => simp [hx, hy]
theorem bool_dec {p : Bool} {Q : Prop} [Decidable Q] (h : p = true ↔ Q) : p = decide Q := by
  cases p with
  | true => exact (decide_eq_true (h.mp rfl)).symm
  | false => exact (decide_eq_false fun q => nomatch h.mpr q).symm
theorem g_eqT {x y : α} [Decidable (x = y)] (h : EqT f 60) (hn : isCon (f x) = false) : eqD (f x) (f y) = some (decide (x = y)) := by
  rw [eqD_nl (h x x).1 (h y y).1 hn, bool_dec (h x y).2]
theorem atI_map : ∀ {xs : List α} {i : Int}, atI (xs.map f) i = (atI xs i).map f := fun {xs i} => by
  unfold atI
  rw [List.length_map]
  cases ixN xs.length i with
  | none => rfl
  | some k => simp
theorem g_ixL (h : ixL xs i = some x) : ixD (rL f xs) (rI i) = some (f x, .shr) := by
  show (atI (xs.map f) i).map _ = _
  rw [atI_map, show atI xs i = some x from h]
  rfl
theorem g_ixS (h : ixS s i = some t) : ixD (rS s) (rI i) = some (rS t, .shr) := by
  unfold ixS at h
  split at h
  · rename_i hl
    obtain ⟨c, e, rfl⟩ := Option.map_eq_some_iff.mp h
    show (if (sx s).length ≤ cap then (atI (sx s).cps.toList i).map fun c => (D.str ⟨#[c]⟩, Kd.shr) else none) = _
    rw [sx_len, if_pos hl]
    show (atI s i).map _ = _
    rw [e]
    rfl
  · cases h
theorem g_lenL : lenD [rL f xs] = some (rI xs.length, .shr) := by
  show some (D.int ((xs.map f).length : Nat), Kd.shr) = _
  rw [List.length_map]
theorem g_lenS (h : lenS s = some c) : lenD [rS s] = some (rI c, .shr) := by
  unfold lenS at h
  split at h
  · rename_i hl
    cases h
    show (if (sx s).length ≤ cap then some (D.int ((sx s).length : Nat), Kd.shr) else none) = _
    rw [sx_len, if_pos hl]
  · cases h
theorem g_abs : scB VL.absV [rI a] = some (rI (if a < 0 then -a else a), .shr) := rfl
theorem g_max2 : scB maxV [rI a, rI b] = some (rI (if b > a then b else a), .shr) := rfl
theorem g_min2 : scB minV [rI a, rI b] = some (rI (if b < a then b else a), .shr) := rfl
theorem g_intI : scB intV [rI a] = some (rI a, .shr) := rfl
theorem g_intB : scB intV [rB p] = some (rI (if p then 1 else 0), .shr) := rfl
theorem blsD_map : ∀ bs : List Bool, blsD (bs.map rB) = some bs
  | [] => rfl
  | b :: bs => by
    show (blsD (bs.map rB)).map _ = _
    rw [blsD_map bs]; rfl
theorem intsD_map : ∀ bs : List Int, intsD (bs.map rI) = some bs
  | [] => rfl
  | b :: bs => by
    show (intsD (bs.map rI)).map _ = _
    rw [intsD_map bs]; rfl
theorem g_all {bs : List Bool} : scB allV [rL rB bs] = some (rB (bs.all id), .shr) := by
  show ((blsD (bs.map rB)).map fun bs => V.bl (bs.all id)).map _ = _
  rw [blsD_map]; rfl
/-- a text in a text -/
def inTx (s t : List Nat) : Bool := strIn (sx s) (sx t)
theorem g_inTx : inB (rS s) (rS t) = some (inTx s t) := rfl
theorem g_nin {x y : D} (h : inB x y = some p) : notInB x y = some (!p) := by unfold notInB; rw [h]; rfl
def NN (f : α → D) : Prop := ∀ a, isNonD (f a) = some false
theorem nn_S : NN rS := fun _ => rfl
theorem g_isN {o : Option α} (h : NN f) : isNC (rO f o) (.con .non) = some o.isNone := by
  cases o with
  | none => rfl
  | some x => exact h x
theorem g_isBl : isBD (rB p) (rB q) = some (decide (p = q)) := by cases p <;> cases q <;> rfl
theorem g_notBl : notBD (rB p) (rB q) = some (!decide (p = q)) := by cases p <;> cases q <;> rfl
theorem t_B : truthD (rB p) = some p := rfl
theorem cutD_map {lo hi : Option Int} : VL.cutD (xs.map f) lo hi = (cutL xs lo hi).map f := by
  unfold VL.cutD cutL
  rw [List.length_map, List.map_take, List.map_drop]
def mulS (s : List Nat) (k : Int) : Option (List Nat) := if 0 ≤ k ∧ k ≤ 1000 ∧ s.length ≤ 1000 then some (List.replicate k.toNat s).flatten else none
theorem g_mulS (h : mulS s a = some u) : mulT (rS s) (rI a) = some (rS u, .shr) := by
  unfold mulS at h
  split at h
  · rename_i hl
    cases h
    show (mulA (rS s) (rI a)).or (mulSD (rS s) (rI a)) = _
    have h1 : mulA (rS s) (rI a) = none := rfl
    rw [h1]
    show (if 0 ≤ a ∧ a ≤ 1000 ∧ (sx s).length ≤ 1000 then some (rS (List.replicate a.toNat s).flatten, Kd.shr) else none) = _
    rw [sx_len, if_pos hl]
  · cases h
theorem g_app (h : appL xs x = some zs) : appG (xs.map f) [f x] = some (zs.map f, .non) := by
  unfold appL at h
  split at h
  · rename_i hl
    cases h
    show (if (xs.map f).length < cap then some (xs.map f ++ [f x], D.non) else none) = _
    rw [List.length_map, if_pos hl, List.map_append]
    rfl
  · cases h
theorem g_setL (h : setL xs i x = some zs) : setG (rI i) (f x) (xs.map f) = some (zs.map f, .non) := by
  obtain ⟨k, e, rfl⟩ := Option.map_eq_some_iff.mp h
  show (ixN (xs.map f).length i).map _ = _
  rw [List.length_map, e]
  show some ((xs.map f).set k (f x), D.non) = _
  rw [List.map_set]
end
end L2.TX
end
section
set_option Elab.async false
set_option linter.all false
set_option maxRecDepth 100000
namespace L2.TX
open PySem PySem.Spec PyProof.Rows L2 L2.VL
def joinT (s : List Nat) : List (List Nat) → List Nat
  | [] => []
  | [x] => x
  | x :: y :: rest => x ++ s ++ joinT s (y :: rest)
theorem joinT_nil : ∀ ts : List (List Nat), joinT [] ts = ts.flatten
  | [] => rfl
  | [x] => by simp [joinT]
  | x :: y :: rest => by
    show x ++ [] ++ joinT [] (y :: rest) = _
    rw [joinT_nil (y :: rest)]
    simp
theorem join_sx (s : List Nat) : ∀ ts : List (List Nat), Txt.join (sx s) (ts.map sx) = sx (joinT s ts)
  | [] => rfl
  | [x] => rfl
  | x :: y :: rest => by
    have h : Txt.join (sx s) ((x :: y :: rest).map sx) = sx x ++ sx s ++ Txt.join (sx s) ((y :: rest).map sx) := by
      rw [TL.join_eq, TL.join_eq]
      show Str.join (sx s) (sx x :: sx y :: rest.map sx) = sx x ++ sx s ++ Str.join (sx s) (sx y :: rest.map sx)
      rfl
    rw [h, join_sx s (y :: rest), sx_app, sx_app]
    rfl
theorem strsD_map : ∀ ts : List (List Nat), strsD (ts.map rS) = some (ts.map sx)
  | [] => rfl
  | t :: ts => by
    show (strsD (ts.map rS)).map _ = _
    rw [strsD_map ts]; rfl
def joinS (s : List Nat) (ts : List (List Nat)) : Option (List Nat) := if (ts.map List.length).sum + ts.length * s.length ≤ 16777216 then some (joinT s ts) else none
section
variable {α β γ δ σ τ ω : Type} {f : α → D} {g : β → D} {a b c i j : Int} {xs ys zs : List α} {s t u : List Nat} {x y : α} {p q : Bool} {ρ ρ1 ρ2 ρ3 ρ4 : Rho} {ra rb rc r : DE} {qa qb : M Bool} {d d0 : D} {k : Kd}
theorem g_join {ts : List (List Nat)} (h : joinS s ts = some u) : joinD (rS s) [rL rS ts] = some (rS u, .shr) := by
  unfold joinS at h
  split at h
  · rename_i hl
    cases h
    have : joinD (rS s) [rL rS ts] = if (((ts.map sx).map (fun z => Str.length z)).sum + (ts.map sx).length * (sx s).length ≤ 16777216) then some (D.str (Txt.join (sx s) (ts.map sx)), Kd.shr) else none := by
      show (match strsD (ts.map rS) with | some ys => if (ys.map (fun z => Str.length z)).sum + ys.length * (sx s).length ≤ 16777216 then some (D.str (Txt.join (sx s) ys), Kd.shr) else none | none => none) = _
      rw [strsD_map]
    have e : ((ts.map sx).map (fun z => Str.length z)) = ts.map List.length := by
      rw [List.map_map]
      exact List.map_congr_left fun z _ => sx_len
    rw [this, e, List.length_map, sx_len, if_pos hl, join_sx]
  · cases h
theorem isStr_S : isStr (rS s) = true := rfl
theorem co_cur {o : Option α} {z : D × Kd} (hx : o = some x) (h : cur ρ z = some (rO f o)) : cur ρ z = some (f x) := by
  subst hx
  exact h
theorem q_andX {S : τ → Rho} {t0 : τ} {ob : Option (Bool × τ)} {w : Bool × τ} (h1 : qa ρ = .ok p (S t0)) (h2 : XT S (S t0) qb ob) (hv : (if p = true then ob else some (false, t0)) = some w) : dAnd qa qb ρ = .ok w.1 (S w.2) := by
  unfold dAnd
  rw [bind_ok h1]
  cases p with
  | false => cases hv; rfl
  | true => exact h2.run w hv
abbrev PU : Res Fl → Unit → Prop := fun r _ => (∃ ρ', r = .ok .nx ρ') ∨ ∃ ρ', r = .ok (.ret .non false) ρ'
theorem ref_ofU {n : Nat} {body : DS} {args : List VL.Arg} {o : Option Unit} (h0 : args.map slotOf ++ List.replicate (n - args.length) none = ρ) (h : BL PU ρ body o) : Ref (runFn n body) args rN false o := ⟨fun a e => by
  rcases h.run a e with ⟨ρ', q⟩ | ⟨ρ', q⟩
  all_goals
    refine ⟨ρ'.take args.length, ?_⟩
    unfold runFn
    rw [h0, q]⟩
theorem q_revL (hr : ra ρ = .ok (d0, k) ρ1) (hc : cur ρ1 (d0, k) = some (rL f xs)) : dRevL ra ρ = .ok (rL f xs.reverse, .fr) ρ1 := by
  unfold dRevL
  rw [bind_ok hr, bind_ok (cur_ok hc)]
  exact opt_ok (by show some (D.lst (xs.map f).reverse, Kd.fr) = some (D.lst (xs.reverse.map f), Kd.fr); rw [List.map_reverse])
end
end L2.TX
end
section
set_option Elab.async false
set_option linter.all false
set_option maxRecDepth 100000
namespace L2.TX
open PySem PySem.Spec PyProof.Rows L2 L2.VL
section
variable {X : Cx} {a b c e : Expr} {ra rb rc r : DE} {pos : Pos}
def dSlS (ra : DE) (lo hi : Option DE) : DE := do
  let x ← ra
  let i ← dPart lo
  let j ← dPart hi
  let d ← dcur x
  mOpt (match d with
    | .con (.str z) => if z.length ≤ cap then some (.con (.str (cutS z i j)), .shr) else none
    | _ => none)
theorem se_slS {lo hi : Option Expr} {rl rh : Option DE} {p2 : Pos} (ha : SE X a ra) (hl : SP_ X lo (dPart rl)) (hh : SP_ X hi (dPart rh)) : SE X (.Subscript a (.Slice lo hi none p2) pos) (dSlS ra rl rh) := fun W tk =>
  PE.imp (pe_slice sl_str (ha W tk) (hl W tk) (hh W tk)) fun σ H Q ⟨G, O, ρ, hK, R, h⟩ => by
    refine tE.at hK R (Res.post_ok ((post_bind _ _).mp h) fun x ρ1 q O1 v H1 R1 => ?_)
    refine ⟨G, O1, ρ1, _, hK, R1, Res.post_ok ((post_bind _ _).mp q) fun i ρ2 q2 O2 H2 R2 => ?_⟩
    refine ⟨G, O2, ρ2, _, hK, R2, Res.post_ok ((post_bind _ _).mp q2) fun j ρ3 q3 O3 H3 R3 => ?_⟩
    obtain ⟨d, e1, q4⟩ := post_cur.mp ((post_bind _ _).mp q3)
    obtain ⟨z, e2, q5⟩ := (post_opt _).mp q4
    have v1 := R3.view R3.tm.1 e1
    split at e2
    · rename_i z0
      split at e2
      · rename_i hl
        cases e2
        exact ⟨z0, v1.con, by rw [← cap_eq]; exact hl, q5 O3 _ _ (R3.pop.con _)⟩
      · cases e2
    · cases e2
end
section
variable {ρ ρ1 ρ2 ρ3 : Rho} {r : DE} {d0 : D} {k : Kd} {s u : List Nat}
def cutT (cs : List Nat) (lo hi : Option Int) : Option (List Nat) := if cs.length ≤ cap then some (cutL cs lo hi) else none
theorem q_slS {lo hi : Option DE} {i j : Option Int} (hr : r ρ = .ok (d0, k) ρ1) (h1 : dPart lo ρ1 = .ok i ρ2) (h2 : dPart hi ρ2 = .ok j ρ3) (hc : cur ρ3 (d0, k) = some (rS s)) (h : cutT s i j = some u) : dSlS r lo hi ρ = .ok (rS u, .shr) ρ3 := by
  unfold cutT at h
  split at h
  · rename_i hl
    cases h
    unfold dSlS
    rw [bind_ok hr, bind_ok h1, bind_ok h2, bind_ok (cur_ok hc)]
    refine opt_ok ?_
    show (if (sx s).length ≤ cap then some (D.con (.str (cutS (sx s) i j)), Kd.shr) else none) = _
    rw [sx_len, if_pos hl]
    unfold cutS cutL
    rw [sx_len]
  · cases h
end
end L2.TX
end
section
set_option Elab.async false
set_option linter.all false
set_option maxRecDepth 100000
namespace L2.TX
open PySem PySem.Spec PyProof.Rows L2 L2.VL
section
variable {α β γ δ σ τ ω : Type} {f : α → D} {g : β → D} {a b c i j : Int} {xs ys zs : List α} {s t u : List Nat} {x y : α} {p q : Bool} {ρ ρ1 ρ2 ρ3 ρ4 : Rho} {ra rb rc r : DE} {qa qb : M Bool} {d d0 : D} {k : Kd}
theorem q_str {z : Str} (h : z = sx s) : dCon (.str z) ρ = .ok (rS s, .shr) ρ := by subst h; rfl
theorem g_divIk (h : (decide (0 < b) && decide (b < 2 ^ 200)) = true) : divD (rI a) (rI b) = some (rI (a / b), .shr) := if_pos h
theorem a_FN {l : List (Bool × DE)} {ys : List (D × Kd)} (ha : r ρ = .ok (d0, k) ρ1) (hc : cur ρ1 (d0, k) = some d) (hs : settleR ρ1 k = ρ1) (hl : dA l ρ1 = .ok ys ρ3) : dA ((false, r) :: l) ρ = .ok ((d, .shr) :: ys) ρ3 := a_F ha hc hs hl
theorem q_shN (hr : r ρ = .ok (d0, k) ρ1) (hc : cur ρ1 (d0, k) = some d) (hs : settleR ρ1 k = ρ1) : dSh r ρ = .ok (d, .shr) ρ1 := q_sh hr hc hs
theorem i_anyN {ys : List D} (hr : r ρ = .ok (d0, k) ρ1) (hc : cur ρ1 (d0, k) = some d) (hs : settleR ρ1 k = ρ1) (ha : anyOf d = some ys) : iAny r ρ = .ok ys ρ1 := i_any hr hc hs ha
theorem q_unpN {t : Tg} (hr : r ρ = .ok (d0, k) ρ1) (hc : cur ρ1 (d0, k) = some d) (hs : settleR ρ1 k = ρ1) (ht : (t.put d) ρ1 = .ok () ρ3) : dUnp t r ρ = .ok .nx ρ3 := q_unp hr hc hs ht
theorem cs_nil : curs ρ [] = some [] := rfl
theorem cs_cons {z : D × Kd} {zs : List (D × Kd)} {ds : List D} (h : cur ρ z = some d) (hs : curs ρ zs = some ds) : curs ρ (z :: zs) = some (d :: ds) := by
  unfold curs
  rw [h, hs]
  rfl
theorem g_powIk (h : CPowB a b = true) (hk : a ^ b.toNat = c) : powD (rI a) (rI b) = some (rI c, .shr) := by
  rw [g_powIr h, hk]
theorem q_slT {lo hi : Option DE} {i j : Option Int} (hr : r ρ = .ok (d0, k) ρ1) (h1 : dPart lo ρ1 = .ok i ρ2) (h2 : dPart hi ρ2 = .ok j ρ3) (hc : cur ρ3 (d0, k) = some (rL f xs)) : dSlL r lo hi ρ = .ok (rL f (cutL xs i j), .fr) ρ3 := by
  rw [q_slL hr h1 h2 hc, cutD_map]
theorem q_dis {kvs : List (Key × V)} {l : List (Key × D)} (h : kvs.map (fun p => (p.1, D.con p.2)) = l) : dDis kvs ρ = .ok (.dic l, .fr) ρ := by subst h; rfl
end
end L2.TX
end
section
set_option Elab.async false
set_option linter.all false
set_option maxRecDepth 100000
open PySem PySem.Spec PyProof.Rows L2 L2.VL
namespace L2.TX
noncomputable section
section
variable {α β γ τ : Type} {ρ ρ1 ρ2 ρ3 : Rho} {f : α → D} {p : Bool} {ra rb : DE}
theorem g_eqOS {x y : Option (List Nat)} : eqD (rO rS x) (rO rS y) = some (decide (x = y)) := by
  cases x with
  | none => cases y <;> rfl
  | some a => cases y with
    | none => rfl
    | some b =>
      show eqD (rS a) (rS b) = _
      rw [g_eqS]
      congr 1
      exact decide_eq_decide.mpr ⟨fun z => by rw [z], fun z => by cases z; rfl⟩
end
end
end L2.TX
end
section
set_option Elab.async false
set_option linter.all false
set_option maxRecDepth 100000
open PySem PySem.Spec PyProof.Rows L2 L2.VL
namespace L2.TX
end L2.TX
end
section
set_option Elab.async false
set_option linter.all false
set_option maxRecDepth 100000
open PySem PySem.Spec PyProof.Rows L2 L2.VL
namespace L2.TX
noncomputable section
def asB (d : D) : Option Bool := match d with
  | .con (.bl i) => some i
  | _ => none
def asS (d : D) : Option (List Nat) := match d with
  | .con (.str z) => some z.cps.toList
  | _ => none
def asU (d : D) : Option D := some d
def asP {α β : Type} (a : D → Option α) (b : D → Option β) (d : D) : Option (α × β) := match d with
  | .tup [x, y] => (a x).bind fun u => (b y).map fun v => (u, v)
  | _ => none
def AsT {α : Type} (f : α → D) (as : D → Option α) : Prop := ∀ d x, as d = some x → d = f x
theorem sx_cps (z : Str) : sx z.cps.toList = z := by
  obtain ⟨a⟩ := z
  show Str.mk (a.toList.toArray) = _
  rw [Array.toArray_toList]
section
variable {α β : Type} {f : α → D} {g : β → D} {a : D → Option α} {b : D → Option β}
theorem as_S : AsT rS asS := fun d x h => by
  unfold asS at h
  split at h
  · cases h; show D.con (.str _) = D.con (.str (sx _)); rw [sx_cps]
  · cases h
theorem as_U : AsT rU asU := fun d x h => by cases h; rfl
theorem as_P (h1 : AsT f a) (h2 : AsT g b) : AsT (rP f g) (asP a b) := fun d x e => by
  unfold asP at e
  split at e
  · obtain ⟨u, e1, e2⟩ := Option.bind_eq_some_iff.mp e
    obtain ⟨v, e3, rfl⟩ := Option.map_eq_some_iff.mp e2
    rw [h1 _ _ e1, h2 _ _ e3]
  · cases e
theorem as_cur {ρ : Rho} {z : D × Kd} {d : D} {x : α} (h : AsT f a) (hx : a d = some x) (hc : cur ρ z = some (rU d)) : cur ρ z = some (f x) := by
  rw [hc, show rU d = f x from h d x hx]
end
section
variable {α : Type} {f : α → D} {ρ ρ1 ρ2 : Rho} {r : DE} {d d0 x y : D} {k : Kd} {i n : Int} {p b : Bool} {t : List Nat}
def isU (u : Ty) (d : D) : Option Bool := (tyOf d).map fun t => isiT t u
theorem q_isiU {u : Ty} (hr : r ρ = .ok (d0, k) ρ1) (hc : cur ρ1 (d0, k) = some (rU d)) (h : isU u d = some b) : dIsi u r ρ = .ok (.con (.bl b), .shr) ρ1 := by
  obtain ⟨t, e, rfl⟩ := Option.map_eq_some_iff.mp h
  exact q_isi hr hc e
def lenU (d : D) : Option Int := match d with
  | .lst xs => some xs.length
  | .tup xs => some xs.length
  | .con (.str z) => if z.length ≤ cap then some z.length else none
  | _ => none
theorem g_lenU (h : lenU d = some n) : lenD [rU d] = some (rI n, .shr) := by
  unfold lenU at h
  unfold lenD
  split at h
  · cases h; rfl
  · cases h; rfl
  · split at h
    · rename_i hl
      cases h
      exact if_pos hl
    · cases h
  · cases h
def ixU (d : D) (i : Int) : Option D := match d with
  | .lst ds => atI ds i
  | .tup ds => atI ds i
  | .con (.str z) => if z.length ≤ cap then (atI z.cps.toList i).map fun c => rS [c] else none
  | _ => none
theorem g_ixU (h : ixU d i = some x) : ixD (rU d) (rI i) = some (rU x, .shr) := by
  unfold ixU at h
  split at h
  · show (atI _ i).map _ = _; rw [h]; rfl
  · show (atI _ i).map _ = _; rw [h]; rfl
  · split at h
    · rename_i hl
      obtain ⟨c, e, rfl⟩ := Option.map_eq_some_iff.mp h
      show (if _ then _ else _) = _
      rw [if_pos hl, e]
      try rfl
    · cases h
  · cases h
theorem any_U {ys : List D} (h : anyOf d = some ys) : anyOf (rU d) = some (ys.map rU) := by
  rw [show ys.map rU = ys from List.map_id' ys]
  exact h
theorem map_rU (ys : List D) : ys.map rU = ys := List.map_id' ys
theorem g_id {h : D → D → Option Bool} (e : h x y = some p) : h (rU x) (rU y) = some p := e
theorem g_tupG {xs : List α} : tupGD [rL f xs] = some (rTu f xs, .shr) := rfl
def repG (d : D) : Option (List Nat) := (reprOf d).map fun t => t.cps.toList
theorem g_repG (h : repG d = some t) : reprGD [d] = some (rS t, .shr) := by
  obtain ⟨z, e, rfl⟩ := Option.map_eq_some_iff.mp h
  show (reprOf d).map _ = _
  rw [e]
  show some (D.con (.str _), Kd.shr) = some (D.con (.str (sx _)), Kd.shr)
  rw [sx_cps]
end
end
end L2.TX
end
section
set_option Elab.async false
set_option linter.all false
set_option maxRecDepth 100000
open PySem PySem.Spec PyProof.Rows L2 L2.VL
namespace L2.TX
noncomputable section
theorem co_lU {α : Type} {f : α → D} {ρ : Rho} {z : D × Kd} {xs : List α} (h : cur ρ z = some (rL f xs)) : cur ρ z = some (rL rU (xs.map f)) := by
  rw [h]
  show some (D.lst (xs.map f)) = some (D.lst ((xs.map f).map rU))
  rw [map_rU]
end
end L2.TX
end
section
set_option Elab.async false
set_option linter.all false
set_option maxRecDepth 100000
open PySem PySem.Spec PyProof.Rows L2 L2.VL
namespace L2.TX
end L2.TX
end
section
set_option Elab.async false
set_option linter.all false
set_option maxRecDepth 100000
open PySem PySem.Spec PyProof.Rows L2 L2.VL
namespace L2.TX
noncomputable section
def powN (i j : Int) : Option Int := if CPwB i j then some (i ^ j.toNat) else none
theorem g_powN {a b c : Int} (h : powN a b = some c) : powW (rI a) (rI b) = some (rI c, .shr) := by
  unfold powN at h
  split at h
  · rename_i hl
    cases h
    exact if_pos hl
  · cases h
end
end L2.TX
end
section
set_option Elab.async false
set_option linter.all false
set_option maxRecDepth 100000
open PySem PySem.Spec PyProof.Rows L2 L2.VL
namespace L2.TX
end L2.TX
end
section
set_option Elab.async false
set_option linter.all false
set_option maxRecDepth 100000
open PySem PySem.Spec PyProof.Rows L2 L2.VL
namespace L2.TX
end L2.TX
end
section
set_option Elab.async false
set_option linter.all false
set_option maxRecDepth 100000
namespace L2.TX
open PySem PySem.Spec PyProof.Rows L2 L2.VL
section
variable {α : Type} {f : α → D} {ρ ρ1 ρ2 : Rho} {r ra rk : DE} {d0 : D} {k : Kd} {a : Int} {x : α} {xs : List α}
theorem g_augAdd {a b : Int} : augAdd (rI a) (rI b) = some (rI (a + b), .shr) := rfl
end
end L2.TX
end
section
set_option Elab.async false
set_option linter.all false
set_option maxRecDepth 100000
namespace L2.TX
open PySem PySem.Spec PyProof.Rows L2 L2.VL
end L2.TX
end
section
set_option Elab.async false
set_option linter.all false
set_option maxRecDepth 100000
namespace L2.TX
open PySem PySem.Spec PyProof.Rows L2 L2.VL
section
variable {α β : Type} {ρ ρ1 ρ2 ρ3 ρ4 ρ5 : Rho} {r r1 r2 rv : DE} {f : α → D} {g : β → D} {c : α → β} {d0 : D} {k : Kd}
theorem map_set {f : α → D} : ∀ (xs : List α) (k : Nat) (x : α), (xs.map f).set k (f x) = (xs.set k x).map f
  | [], _, _ => rfl
  | _ :: _, 0, _ => rfl
  | y :: ys, k + 1, x => by
    show f y :: (ys.map f).set k (f x) = f y :: (ys.set k x).map f
    rw [map_set ys k x]
theorem g_clear {xs : List α} : clearG (xs.map f) [] = some (([] : List α).map f, .non) := rfl
end
end L2.TX
end
section
set_option Elab.async false
set_option linter.all false
set_option maxRecDepth 100000
namespace L2.TX
open PySem PySem.Spec PyProof.Rows L2 L2.VL
end L2.TX
end
section
set_option Elab.async false
set_option linter.all false
set_option maxRecDepth 100000
namespace L2.TX
open PySem PySem.Spec PyProof.Rows L2 L2.VL
end L2.TX
end
section
set_option Elab.async false
set_option linter.all false
set_option maxRecDepth 100000
open PySem PySem.Spec PyProof.Rows L2 L2.VL
namespace L2.TX
end L2.TX
end
section
set_option Elab.async false
set_option linter.all false
set_option maxRecDepth 100000
open PySem PySem.Spec PyProof.Rows L2 L2.VL
namespace L2.TX
end L2.TX
end
section
set_option Elab.async false
set_option linter.all false
set_option maxRecDepth 100000
open PySem PySem.Spec PyProof.Rows L2 L2.VL
namespace L2.TX
noncomputable section
section
variable {α β γ δ σ ω : Type} {f : α → D} {fb : β → D} {fc : γ → D} {a b : Int} {xs : List α} {ρ ρ1 ρ2 ρ3 : Rho} {r rk rv : DE} {d d0 : D} {k : Kd}
def inK (a : Int) (kvs : List (Int × α)) : Bool := decide (a ∈ kvs.map (·.1))
def two (xs : List α) : Option (α × α) := match xs with
  | [a, b] => some (a, b)
  | _ => none
end
end
end L2.TX
end
section
set_option Elab.async false
set_option linter.all false
set_option maxRecDepth 100000
namespace L2.TX
open PySem PySem.Spec PyProof.Rows L2 L2.VL
end L2.TX
end
section
set_option Elab.async false
set_option linter.all false
set_option maxRecDepth 100000
namespace L2.TX
open PySem PySem.Spec PyProof.Rows L2 L2.VL
end L2.TX
end
section
set_option Elab.async false
set_option linter.all false
set_option maxRecDepth 100000
set_option maxHeartbeats 2000000
namespace L2.TX
open PySem PySem.Spec PyProof.Rows L2 L2.VL
section
variable {α : Type} {ρ ρ1 : Rho} {ra : DE} {f : α → D} {xs : List α} {d0 : D} {k : Kd}
theorem q_ev2 (hr : ra ρ = .ok (d0, k) ρ1) (hc : cur ρ1 (d0, k) = some (rL f xs)) : dEv2 ra ρ = .ok (rL f (ev2 xs), .fr) ρ1 := by
  unfold dEv2
  rw [bind_ok hr, bind_ok (cur_ok hc)]
  show (mOpt (ev2D (.lst (xs.map f)))) ρ1 = _
  show Res.ok (D.lst (ev2 (xs.map f)), Kd.fr) ρ1 = _
  rw [ev2_map]
end
end L2.TX
end
section
set_option Elab.async false
set_option linter.all false
set_option maxRecDepth 100000
set_option maxHeartbeats 2000000
namespace L2.TX
open PySem PySem.Spec PyProof.Rows L2 L2.VL
noncomputable section
section
variable {α β γ δ σ ω : Type} {f : α → D} {ρ ρ1 ρ2 ρ3 : Rho} {r ri rk rv ro : DE} {d d0 : D} {k : Kd} {e : α → NestedKey} {c : β → V}
def lookT [DecidableEq α] (kvs : List (α × β)) (a : α) : Option β := (kvs.find? fun p => decide (p.1 = a)).map (·.2)
def getT [DecidableEq α] (kvs : List (α × β)) (a : α) (z : β) : β := (lookT kvs a).getD z
theorem i_zipS {l : List (Bool × DE)} {ys : List (D × Kd)} {fa : α → D} {fc : γ → D} {as : List α} {cs : List γ} {a c : D} (ha : dA l ρ = .ok ys ρ1) (hs : shrs ys = some [a, c]) (h1 : seqOf a = some (as.map fa)) (h2 : seqOf c = some (cs.map fc)) : iZipSD l ρ = .ok ((as.zip cs).map (rP fa fc)) ρ1 := by
  unfold iZipSD
  rw [bind_ok ha, bind_ok (opt_ok hs)]
  refine opt_ok ?_
  unfold zipS
  dsimp only
  rw [h1]
  show (seqOf c).map _ = _
  rw [h2]
  show some (((as.map fa).zip (cs.map fc)).map fun p => D.tup [p.1, p.2]) = _
  rw [List.zip_map, List.map_map]
  rfl
theorem q_od2 (hr : ra ρ = .ok (d0, k) ρ1) (hc : cur ρ1 (d0, k) = some (rL f xs)) : dOd2 ra ρ = .ok (rL f (od2 xs), .fr) ρ1 := by
  unfold dOd2
  rw [bind_ok hr, bind_ok (cur_ok hc)]
  show (mOpt (od2D (.lst (xs.map f)))) ρ1 = _
  show Res.ok (D.lst (od2 (xs.map f)), Kd.fr) ρ1 = _
  rw [od2_map]
theorem q_listZip {l : List (Bool × DE)} {ys : List (D × Kd)} {fa : α → D} {fc : γ → D} {as : List α} {cs : List γ} {a : D} (ha : dA l ρ = .ok ys ρ1) (hs : shrs ys = some [a, rL fc cs]) (h1 : seqOf a = some (as.map fa)) : dListZip l ρ = .ok (rL (rP fa fc) (as.zip cs), .fr) ρ1 := by
  have e : zipL [a, rL fc cs] = some ((as.zip cs).map (rP fa fc)) := by
    show (seqOf a).map _ = _
    rw [h1]
    show some (((as.map fa).zip (cs.map fc)).map fun p => D.tup [p.1, p.2]) = _
    rw [List.zip_map, List.map_map]
    rfl
  unfold dListZip
  rw [bind_ok ha, bind_ok (opt_ok hs), bind_ok (opt_ok e)]
  rfl
def listT (s : List Nat) : Option (List (List Nat)) := if (sx s).length ≤ 16777216 then some (chs s) else none
theorem g_listS {s : List Nat} {ys : List (List Nat)} (h : listT s = some ys) : listSD [rS s] = some (rL rS ys, .fr) := by
  unfold listT at h
  split at h
  · rename_i hz
    cases h
    show (if (sx s).length ≤ 16777216 then some (D.lst (chrs (sx s)), Kd.fr) else none) = _
    rw [if_pos hz, chrs_sx]
  · cases h
theorem sq_str {s : List Nat} : seqOf (rS s) = some ((chs s).map rS) := any_S s
end
section
variable {ρ ρ1 ρ2 ρ3 ρ4 : Rho} {r : DE} {d0 : D} {k : Kd}
def ltT (a b : List Nat) : Bool := decide (a < b)
theorem g_ltS {a b : List Nat} : ltSD (rS a) (rS b) = some (ltT a b) := by
  show some (decide ((sx a).cps.toList < (sx b).cps.toList)) = some (decide (a < b))
  rfl
def upT (s : List Nat) : Option (List Nat) := if (sx s).length ≤ 5592405 then some (Txt.upper (sx s)).cps.toList else none
theorem q_up {s t : List Nat} (hr : r ρ = .ok (d0, k) ρ1) (hc : cur ρ1 (d0, k) = some (rS s)) (h : upT s = some t) : dUp r ρ = .ok (rS t, .shr) ρ1 := by
  unfold dUp
  rw [bind_ok hr, bind_ok (cur_ok hc)]
  refine opt_ok ?_
  unfold upT at h
  split at h
  · rename_i hz
    cases h
    show (if (sx s).length ≤ 5592405 then some (D.con (.str (Txt.upper (sx s))), Kd.shr) else none) = _
    rw [if_pos hz]
  · cases h
def lookTab (tab : List (Str × Int)) (s : List Nat) : Option Int := tab.lookup (sx s)
theorem q_inT {neg : Bool} {tab : List (Str × Int)} {s : List Nat} (hr : r ρ = .ok (d0, k) ρ1) (hc : cur ρ1 (d0, k) = some (rS s)) : dOpT (inTabD neg tab) r ρ = .ok (rB ((lookTab tab s).isSome != neg), .shr) ρ1 := by
  unfold dOpT
  rw [bind_ok hr, bind_ok (cur_ok hc)]
  rfl
theorem q_ixT {tab : List (Str × Int)} {s : List Nat} {i : Int} (hr : r ρ = .ok (d0, k) ρ1) (hc : cur ρ1 (d0, k) = some (rS s)) (h : lookTab tab s = some i) : dOpT (ixTabD tab) r ρ = .ok (rI i, .shr) ρ1 := by
  unfold dOpT
  rw [bind_ok hr, bind_ok (cur_ok hc)]
  refine opt_ok ?_
  show ((tab.lookup (sx s)).map fun i => (D.con (.int i), Kd.shr)) = _
  rw [show tab.lookup (sx s) = some i from h]
  rfl
/-- a tuple's first value, the list of the others -/
def starU (d : D) : Option (D × List D) := match d with
  | .tup (x :: xs) => some (x, xs)
  | _ => none
theorem q_star {i j : Nat} {d : D} {p : D × List D} (hr : r ρ = .ok (d0, k) ρ1) (hc : cur ρ1 (d0, k) = some (rU d)) (h : starU d = some p) (hs : settleR ρ1 k = ρ2) (h1 : dPut j (rL rU p.2, .fr) ρ2 = .ok () ρ3) (h2 : dPut i (rU p.1, .shr) ρ3 = .ok () ρ4) : dStar i j r ρ = .ok .nx ρ4 := by
  unfold starU at h
  split at h
  · rename_i x xs
    cases h
    unfold dStar
    rw [bind_ok hr, bind_ok (keep_ok (d := D.tup (x :: xs)) hc hs)]
    have e : rL rU xs = D.lst xs := congrArg D.lst (map_rU xs)
    show (dPut j (.lst xs, .fr) >>= fun _ => (dPut i (x, .shr) >>= fun _ => pure Fl.nx)) ρ2 = _
    rw [← e, bind_ok h1, bind_ok (show dPut i (x, .shr) ρ3 = .ok () ρ4 from h2)]
    rfl
  · cases h
end
end
end L2.TX
end
section
set_option Elab.async false
set_option linter.all false
set_option maxRecDepth 100000
noncomputable section
namespace Law_strictranks_k41_steps_and_faults
open PySem PySem.Spec PyProof.Rows L2 L2.VL L2.TX
/-- _law_purse: 0 _law_script, 1 _law_k, 2 _law_cell -/
abbrev r__law_purse_2 : DS := dRet (dLst [(false, dBi (scB maxV) [(true, dCon (.int 0)), (true, dOp2 subD (dVar 2) (dOp2 powD (dCon (.int 10)) (dCon (.int 18))))]), (false, dOp2 addD (dOp2 addD (dOp2 modD (dBi (scB intV) [(true, dBi (scB absV) [(true, dVar 2)])]) (dOp2 addD (dOp2 powD (dCon (.int 10)) (dCon (.int 41))) (dCon (.int 37)))) (dOp2 mulT (dCon (.int 90001)) (dVar 1))) (dCon (.int 17))), (false, dCon (.int 0))])
abbrev r__law_purse_1 : DS := dSeq (dSet 2 (dIfx (dB (dCmp ltC (dVar 1) (dBi (lenD) [(true, dVar 0)]))) (dOp2 ixD (dVar 0) (dVar 1)) (dCon (.int 0)))) r__law_purse_2
def F__law_purse : Fn := runFn 3 r__law_purse_1
/-- _law_coin: 0 _law_purse_here, 1 _law_many, 2 _law_found, 3 _law_mixed -/
abbrev r__law_coin_1_a_3 : DS := dRet (dSh (dVar 2))
abbrev r__law_coin_1_a_2 : DS := dSeq (dSetIx 0 (dCon (.int 0)) (dOp2 divD (dOp2 ixD (dVar 0) (dCon (.int 0))) (dVar 1))) r__law_coin_1_a_3
abbrev r__law_coin_1_a_1 : DS := dSeq (dSet 2 (dOp2 modD (dBi (scB intV) [(true, dOp2 ixD (dVar 0) (dCon (.int 0)))]) (dVar 1))) r__law_coin_1_a_2
abbrev r__law_coin_5 : DS := dRet (dOp2 modD (dBi (scB intV) [(true, dOp2 divD (dVar 3) (dCon (.int 524287)))]) (dVar 1))
abbrev r__law_coin_4 : DS := dSeq (dSet 3 (dOp2 modD (dBi (scB intV) [(true, dOp2 powW (dOp2 addD (dVar 3) (dOp2 mulT (dCon (.int 49979687)) (dOp2 ixD (dVar 0) (dCon (.int 2))))) (dCon (.int 3)))]) (dOp2 addD (dOp2 powD (dCon (.int 10)) (dCon (.int 45))) (dCon (.int 9))))) r__law_coin_5
abbrev r__law_coin_3 : DS := dSeq (dSet 3 (dOp2 modD (dBi (scB intV) [(true, dOp2 powW (dOp2 addD (dOp2 ixD (dVar 0) (dCon (.int 1))) (dOp2 mulT (dCon (.int 15485863)) (dOp2 ixD (dVar 0) (dCon (.int 2))))) (dCon (.int 3)))]) (dOp2 addD (dOp2 powD (dCon (.int 10)) (dCon (.int 43))) (dCon (.int 29))))) r__law_coin_4
abbrev r__law_coin_2 : DS := dSeq (dSetIx 0 (dCon (.int 2)) (dOp2 addD (dOp2 ixD (dVar 0) (dCon (.int 2))) (dCon (.int 1)))) r__law_coin_3
abbrev r__law_coin_1 : DS := dSeq (dIf (dB (dCmp gtA (dOp2 ixD (dVar 0) (dCon (.int 0))) (dCon (.int 0)))) (r__law_coin_1_a_1) (dNext)) r__law_coin_2
def F__law_coin : Fn := runFn 4 r__law_coin_1
/-- _law_set: 0 _law_purse_here, 1 _law_letters, 2 _law_bits, 3 _law_place, 4 _law_letter -/
abbrev r__law_set_2 : DS := dRet (dMt isStr joinD (dCon (.str "")) [(true, dLc [3, 4] (iEnumA [(false, dVar 1)]) (.many [3, 4]) (dB (dCmp eqD (dOp2 andD (dOp2 shrD (dVar 2) (dVar 3)) (dCon (.int 1))) (dCon (.int 1)))) (dVar 4))])
abbrev r__law_set_1 : DS := dSeq (dSet 2 (dOp2 addD (dCon (.int 1)) (dCall F__law_coin 2 [] [(true, dVar 0), (false, dOp2 subD (dOp2 shlD (dCon (.int 1)) (dBi (lenD) [(true, dVar 1)])) (dCon (.int 1)))]))) r__law_set_2
def F__law_set : Fn := runFn 5 r__law_set_1
/-- _law_end_set: 0 _law_purse_here, 1 _law_letters, 2 _law_way -/
abbrev r__law_end_set_2 : DS := dRet (dOp2 ixD (dLst [(false, dCon (.str "#")), (false, dOp2 addD (dCon (.str "#")) (dCall F__law_set 2 [] [(true, dVar 0), (false, dVar 1)])), (false, dCall F__law_set 2 [] [(true, dVar 0), (false, dVar 1)]), (false, dCall F__law_set 2 [] [(true, dVar 0), (false, dVar 1)])]) (dVar 2))
abbrev r__law_end_set_1 : DS := dSeq (dSet 2 (dCall F__law_coin 2 [] [(true, dVar 0), (false, dCon (.int 4))])) r__law_end_set_2
def F__law_end_set : Fn := runFn 3 r__law_end_set_1
/-- _law_rule: 0 _law_purse_here, 1 _law_letters, 2 _law_kind -/
abbrev r__law_rule_2_a_1 : DS := dRet (dTup [(false, dVar 2), (false, dCall F__law_end_set 2 [] [(true, dVar 0), (false, dVar 1)]), (false, dCall F__law_end_set 2 [] [(true, dVar 0), (false, dVar 1)])])
abbrev r__law_rule_3_a_1 : DS := dRet (dTup [(false, dVar 2), (false, dCall F__law_set 2 [] [(true, dVar 0), (false, dVar 1)]), (false, dCall F__law_set 2 [] [(true, dVar 0), (false, dVar 1)])])
abbrev r__law_rule_4 : DS := dRet (dTup [(false, dVar 2), (false, dCall F__law_set 2 [] [(true, dVar 0), (false, dVar 1)])])
abbrev r__law_rule_3 : DS := dSeq (dIf (dB (dCmp eqD (dVar 2) (dCon (.str "change")))) (r__law_rule_3_a_1) (dNext)) r__law_rule_4
abbrev r__law_rule_2 : DS := dSeq (dIf (dB (dCmp eqD (dVar 2) (dCon (.str "pair")))) (r__law_rule_2_a_1) (dNext)) r__law_rule_3
abbrev r__law_rule_1 : DS := dSeq (dSet 2 (dOp2 ixD (dLst [(false, dCon (.str "one")), (false, dCon (.str "pair")), (false, dCon (.str "pair")), (false, dCon (.str "change")), (false, dCon (.str "drop")), (false, dCon (.str "add"))]) (dCall F__law_coin 2 [] [(true, dVar 0), (false, dCon (.int 6))]))) r__law_rule_2
def F__law_rule : Fn := runFn 3 r__law_rule_1
/-- _law_grammar: 0 _law_purse_here, 1 _law_alphabets, 2 _law_most, 3 _law_letters, 4 _law_rules, 5 _law_all_of, 6 _law_turn, 7 _law_at -/
abbrev r__law_grammar_3_a_3_l_2 : DS := dSet 4 (dSh (dOp2 addD (dSlL (dVar 4) (some (dVar 7)) none) (dRevL (dSlL (dVar 4) none (some (dVar 7))))))
abbrev r__law_grammar_3_a_3_l_1 : DS := dSeq (dSet 7 (dCall F__law_coin 2 [] [(true, dVar 0), (false, dBi (lenD) [(true, dVar 4)])])) r__law_grammar_3_a_3_l_2
abbrev r__law_grammar_3_a_3 : DS := dFgB [6, 7] (dFor (iRng rng1 [(true, dCon (.int 2))]) (.one 6) (dFgE [6, 7] (r__law_grammar_3_a_3_l_1)))
abbrev r__law_grammar_3_a_2 : DS := dSeq (dSet 4 (dSh (dSlL (dOp2 addD (dVar 5) (dVar 4)) none (some (dVar 2))))) r__law_grammar_3_a_3
abbrev r__law_grammar_3_a_1 : DS := dSeq (dSet 5 (dSh (dLst [(false, dTup [(false, dCon (.str "change")), (false, dVar 3), (false, dVar 3)]), (false, dTup [(false, dCon (.str "drop")), (false, dVar 3)]), (false, dTup [(false, dCon (.str "add")), (false, dVar 3)])]))) r__law_grammar_3_a_2
abbrev r__law_grammar_4 : DS := dRet (dTup [(false, dVar 3), (false, dVar 4)])
abbrev r__law_grammar_3 : DS := dSeq (dIf (dB (dCmp eqD (dCall F__law_coin 2 [] [(true, dVar 0), (false, dCon (.int 2))]) (dCon (.int 0)))) (dFgE [5] (r__law_grammar_3_a_1)) (dNext)) r__law_grammar_4
abbrev r__law_grammar_2 : DS := dSeq (dShE [4] (dSet 4 (dLc [6] (iRng rng1 [(true, dOp2 addD (dCon (.int 1)) (dCall F__law_coin 2 [] [(true, dVar 0), (false, dVar 2)]))]) (.one 6) (pure true) (dCall F__law_rule 2 [] [(true, dVar 0), (false, dVar 3)])))) r__law_grammar_3
abbrev r__law_grammar_1 : DS := dSeq (dSet 3 (dOp2 ixD (dVar 1) (dCall F__law_coin 2 [] [(true, dVar 0), (false, dBi (lenD) [(true, dVar 1)])]))) r__law_grammar_2
def F__law_grammar : Fn := runFn 8 r__law_grammar_1
/-- _law_word: 0 _law_purse_here, 1 _law_letters, 2 _law_most, 3 _law_turn -/
abbrev r__law_word_1 : DS := dRet (dMt isStr joinD (dCon (.str "")) [(true, dLc [3] (iRng rng1 [(true, dCall F__law_coin 2 [] [(true, dVar 0), (false, dOp2 addD (dVar 2) (dCon (.int 1)))])]) (.one 3) (pure true) (dOp2 ixD (dVar 1) (dCall F__law_coin 2 [] [(true, dVar 0), (false, dBi (lenD) [(true, dVar 1)])])))])
def F__law_word : Fn := runFn 4 r__law_word_1
/-- is_ascending: 0 text, 1 one, 2 other -/
abbrev r_is_ascending_1 : DS := dRet (dBi (scB allV) [(true, dLc [1, 2] (iZipSD [(false, dVar 0), (false, dSlS (dVar 0) (some (dCon (.int 1))) none)]) (.many [1, 2]) (pure true) (dCmp ltSD (dVar 1) (dVar 2)))])
def F_is_ascending : Fn := runFn 3 r_is_ascending_1
/-- is_set: 0 value, 1 known, 2 sign -/
abbrev r_is_set_1_a_1 : DS := dRet (dCon (.bl false))
abbrev r_is_set_2 : DS := dRet (dAndV (dCall F_is_ascending 1 [] [(false, dVar 0)]) (dBi (scB allV) [(true, dLc [2] (iAny (dVar 0)) (.one 2) (pure true) (dCmp inB (dVar 2) (dVar 1)))]))
abbrev r_is_set_1 : DS := dSeq (dIf (dOr (dNot (dTr (dIsi .str (dVar 0)))) (dB (dCmp eqD (dVar 0) (dCon (.str ""))))) (r_is_set_1_a_1) (dNext)) r_is_set_2
def F_is_set : Fn := runFn 3 r_is_set_1
/-- is_rule: 0 value, 1 letters, 2 kind, 3 sets, 4 known, 5 one -/
abbrev r_is_rule_1_a_1 : DS := dRet (dCon (.bl false))
abbrev r_is_rule_4 : DS := dShB [3] (dRet (dAndV (dCmp eqD (dBi (lenD) [(true, dVar 3)]) (dOpT (ixTabD [("one", 1), ("pair", 2), ("change", 2), ("drop", 1), ("add", 1)]) (dVar 2))) (dBi (scB allV) [(true, dLc [5] (iAny (dVar 3)) (.one 5) (pure true) (dCall F_is_set 2 [] [(false, dVar 5), (false, dVar 4)]))])))
abbrev r_is_rule_3 : DS := dSeq (dSet 4 (dIfx (dB (dCmp eqD (dVar 2) (dCon (.str "pair")))) (dOp2 addD (dCon (.str "#")) (dVar 1)) (dSh (dVar 1)))) r_is_rule_4
abbrev r_is_rule_2 : DS := dSeq (dStar 2 3 (dVar 0)) r_is_rule_3
abbrev r_is_rule_1 : DS := dSeq (dIf (dOr (dNot (dTr (dIsi .tuple (dVar 0)))) (dOr (dB (dCmp ltC (dBi (lenD) [(true, dVar 0)]) (dCon (.int 2)))) (dOr (dNot (dTr (dIsi .str (dOp2 ixD (dVar 0) (dCon (.int 0)))))) (dB (dOpT (inTabD true [("one", 1), ("pair", 2), ("change", 2), ("drop", 1), ("add", 1)]) (dOp2 ixD (dVar 0) (dCon (.int 0)))))))) (r_is_rule_1_a_1) (dNext)) r_is_rule_2
def F_is_rule : Fn := runFn 6 r_is_rule_1
/-- is_grammar: 0 value, 1 letters, 2 rules, 3 rule -/
abbrev r_is_grammar_1_a_1 : DS := dRet (dCon (.bl false))
abbrev r_is_grammar_3_a_1 : DS := dRet (dCon (.bl false))
abbrev r_is_grammar_4_a_1 : DS := dRet (dCon (.bl false))
abbrev r_is_grammar_5 : DS := dRet (dBi (scB allV) [(true, dLc [3] (iAny (dVar 2)) (.one 3) (pure true) (dCall F_is_rule 2 [] [(false, dVar 3), (false, dVar 1)]))])
abbrev r_is_grammar_4 : DS := dSeq (dIf (dOr (dNot (dTr (dIsi .list (dVar 2)))) (dNot (dB (dChain leC leC (dCon (.int 1)) (dBi (lenD) [(true, dVar 2)]) (dCon (.int 6)))))) (r_is_grammar_4_a_1) (dNext)) r_is_grammar_5
abbrev r_is_grammar_3 : DS := dSeq (dIf (dOr (dNot (dTr (dCall F_is_set 2 [] [(false, dVar 1), (false, dCon (.str "abcdefghijklmnopqrstuvwxyz"))]))) (dB (dCmp gtA (dBi (lenD) [(true, dVar 1)]) (dCon (.int 4))))) (r_is_grammar_3_a_1) (dNext)) r_is_grammar_4
abbrev r_is_grammar_2 : DS := dSeq (dUnp (.many [1, 2]) (dVar 0)) r_is_grammar_3
abbrev r_is_grammar_1 : DS := dSeq (dIf (dOr (dNot (dTr (dIsi .tuple (dVar 0)))) (dB (dCmp neD (dBi (lenD) [(true, dVar 0)]) (dCon (.int 2))))) (r_is_grammar_1_a_1) (dNext)) r_is_grammar_2
def F_is_grammar : Fn := runFn 4 r_is_grammar_1
/-- need_grammar: 0 value -/
abbrev r_need_grammar_1_a_1 : DS := mStuck
abbrev r_need_grammar_1 : DS := dIf (dNot (dTr (dCall F_is_grammar 1 [] [(false, dVar 0)]))) (r_need_grammar_1_a_1) (dNext)
def F_need_grammar : Fn := runFn 1 r_need_grammar_1
/-- need_word: 0 grammar, 1 value, 2 most, 3 sign -/
abbrev r_need_word_1_a_1 : DS := mStuck
abbrev r_need_word_1 : DS := dIf (dOr (dNot (dTr (dIsi .str (dVar 1)))) (dOr (dB (dCmp gtA (dBi (lenD) [(true, dVar 1)]) (dVar 2))) (dNot (dTr (dBi (scB allV) [(true, dLc [3] (iAny (dVar 1)) (.one 3) (pure true) (dCmp inB (dVar 3) (dOp2 ixD (dVar 0) (dCon (.int 0)))))]))))) (r_need_word_1_a_1) (dNext)
def F_need_word : Fn := runFn 4 r_need_word_1
/-- letter_at: 0 word, 1 place -/
abbrev r_letter_at_1 : DS := dRet (dIfx (dB (dCmp eqD (dOp2 modD (dVar 1) (dCon (.int 2))) (dCon (.int 1)))) (dOp2 ixD (dVar 0) (dOp2 divD (dVar 1) (dCon (.int 2)))) (dCon .non))
def F_letter_at : Fn := runFn 2 r_letter_at_1
/-- kept_steps: 0 grammar, 1 word, 2 place -/
abbrev r_kept_steps_3 : DS := dRet (dLc [2] (iRng rng1 [(true, dOp2 addD (dOp2 mulT (dCon (.int 2)) (dBi (lenD) [(true, dVar 1)])) (dCon (.int 1)))]) (.one 2) (pure true) (dIfx (dB (dCmp eqD (dOp2 modD (dVar 2) (dCon (.int 2))) (dCon (.int 1)))) (dCall F_letter_at 2 [] [(false, dVar 1), (false, dVar 2)]) (dCon (.str ""))))
abbrev r_kept_steps_2 : DS := dSeq (dExpr (dCall F_need_word 3 ([.int 10].map .con) [(false, dVar 0), (false, dVar 1)])) r_kept_steps_3
abbrev r_kept_steps_1 : DS := dSeq (dExpr (dCall F_need_grammar 1 [] [(false, dVar 0)])) r_kept_steps_2
def F_kept_steps : Fn := runFn 3 r_kept_steps_1
/-- _law_faults: 0 _law_rule_here, 1 _law_word_here, 2 _law_steps_here, 3 _law_output, 4 _law_kind, 5 _law_around, 6 _law_became, 7 _law_changed, 8 _law_sign, 9 _law_one, 10 _law_two, 11 _law_item, 12 _law_letter -/
abbrev r__law_faults_2_a_1 : DS := dRet (dBi (lenD) [(true, dLc [8] (iAny (dVar 3)) (.one 8) (dB (dCmp inB (dVar 8) (dOp2 ixD (dVar 0) (dCon (.int 1))))) (dCon (.int 1)))])
abbrev r__law_faults_3_a_2 : DS := dRet (dBi (lenD) [(true, dLc [9, 10] (iZipSD [(false, dVar 5), (false, dSlS (dVar 5) (some (dCon (.int 1))) none)]) (.many [9, 10]) (dAnd (dB (dCmp inB (dVar 9) (dOp2 ixD (dVar 0) (dCon (.int 1))))) (dB (dCmp inB (dVar 10) (dOp2 ixD (dVar 0) (dCon (.int 2)))))) (dCon (.int 1)))])
abbrev r__law_faults_3_a_1 : DS := dSeq (dSet 5 (dOp2 addD (dOp2 addD (dCon (.str "#")) (dVar 3)) (dCon (.str "#")))) r__law_faults_3_a_2
abbrev r__law_faults_4_a_1 : DS := dRet (dBi (lenD) [(true, dLc [11] (iAny (dEv2 (dVar 2))) (.one 11) (dAnd (dB (dCmp neD (dVar 11) (dCon (.str "")))) (dB (dCmp inB (dVar 11) (dOp2 ixD (dVar 0) (dCon (.int 1)))))) (dCon (.int 1)))])
abbrev r__law_faults_6_a_1 : DS := dRet (dBi (lenD) [(true, dLc [12, 11] (iAny (dVar 6)) (.many [12, 11]) (dAnd (dB (dCmp eqD (dVar 11) (dCon (.str "")))) (dB (dCmp inB (dVar 12) (dOp2 ixD (dVar 0) (dCon (.int 1)))))) (dCon (.int 1)))])
abbrev r__law_faults_8 : DS := dRet (dBi (lenD) [(true, dLc [12, 11] (iAny (dVar 7)) (.many [12, 11]) (dAnd (dB (dCmp inB (dVar 12) (dOp2 ixD (dVar 0) (dCon (.int 1))))) (dB (dCmp inB (dVar 11) (dOp2 ixD (dVar 0) (dCon (.int 2)))))) (dCon (.int 1)))])
abbrev r__law_faults_7 : DS := dSeq (dShE [7] (dSet 7 (dLc [12, 11] (iAny (dVar 6)) (.many [12, 11]) (dAnd (dB (dCmp neD (dVar 11) (dCon (.str "")))) (dB (dCmp neD (dVar 11) (dVar 12)))) (dTup [(false, dVar 12), (false, dVar 11)])))) r__law_faults_8
abbrev r__law_faults_6 : DS := dSeq (dIf (dB (dCmp eqD (dVar 4) (dCon (.str "drop")))) (r__law_faults_6_a_1) (dNext)) r__law_faults_7
abbrev r__law_faults_5 : DS := dSeq (dSet 6 (dSh (dListZip [(false, dVar 1), (false, dOd2 (dVar 2))]))) r__law_faults_6
abbrev r__law_faults_4 : DS := dSeq (dIf (dB (dCmp eqD (dVar 4) (dCon (.str "add")))) (r__law_faults_4_a_1) (dNext)) r__law_faults_5
abbrev r__law_faults_3 : DS := dSeq (dIf (dB (dCmp eqD (dVar 4) (dCon (.str "pair")))) (r__law_faults_3_a_1) (dNext)) r__law_faults_4
abbrev r__law_faults_2 : DS := dSeq (dIf (dB (dCmp eqD (dVar 4) (dCon (.str "one")))) (r__law_faults_2_a_1) (dNext)) r__law_faults_3
abbrev r__law_faults_1 : DS := dSeq (dPar 3 4 true true (dMt isStr joinD (dCon (.str "")) [(true, dVar 2)]) (dOp2 ixD (dVar 0) (dCon (.int 0)))) r__law_faults_2
def F__law_faults : Fn := runFn 13 r__law_faults_1
/-- fits: 0 letters, 1 word, 2 value, 3 item -/
abbrev r_fits_1_a_1 : DS := dRet (dCon (.bl false))
abbrev r_fits_2 : DS := dRet (dBi (scB allV) [(true, dLc [3] (iAny (dVar 2)) (.one 3) (pure true) (dAndV (dIsi .str (dVar 3)) (dAndV (dCmp leC (dBi (lenD) [(true, dVar 3)]) (dCon (.int 1))) (dCmp inB (dVar 3) (dVar 0)))))])
abbrev r_fits_1 : DS := dSeq (dIf (dOr (dNot (dTr (dIsi .list (dVar 2)))) (dB (dCmp neD (dBi (lenD) [(true, dVar 2)]) (dOp2 addD (dOp2 mulT (dCon (.int 2)) (dBi (lenD) [(true, dVar 1)])) (dCon (.int 1)))))) (r_fits_1_a_1) (dNext)) r_fits_2
def F_fits : Fn := runFn 4 r_fits_1
/-- is_steps: 0 grammar, 1 word, 2 value -/
abbrev r_is_steps_3 : DS := dRet (dCall F_fits 3 [] [(false, dOp2 ixD (dVar 0) (dCon (.int 0))), (false, dVar 1), (false, dVar 2)])
abbrev r_is_steps_2 : DS := dSeq (dExpr (dCall F_need_word 3 ([.int 10].map .con) [(false, dVar 0), (false, dVar 1)])) r_is_steps_3
abbrev r_is_steps_1 : DS := dSeq (dExpr (dCall F_need_grammar 1 [] [(false, dVar 0)])) r_is_steps_2
def F_is_steps : Fn := runFn 3 r_is_steps_1
/-- need_steps: 0 grammar, 1 word, 2 steps -/
abbrev r_need_steps_1_a_1 : DS := mStuck
abbrev r_need_steps_1 : DS := dIf (dNot (dTr (dCall F_is_steps 3 [] [(false, dVar 0), (false, dVar 1), (false, dVar 2)]))) (r_need_steps_1_a_1) (dNext)
def F_need_steps : Fn := runFn 3 r_need_steps_1
/-- item_faults: 0 rule, 1 letter, 2 item, 3 last, 4 kind -/
abbrev r_item_faults_2_a_1 : DS := dRet (dBi (scB intV) [(true, dAndV (dCmp neD (dVar 2) (dCon (.str ""))) (dAndV (dCmp inB (dVar 3) (dOp2 ixD (dVar 0) (dCon (.int 1)))) (dCmp inB (dVar 2) (dOp2 ixD (dVar 0) (dCon (.int 2))))))])
abbrev r_item_faults_3_a_1 : DS := dRet (dBi (scB intV) [(true, dAndV (dCmp neD (dVar 2) (dCon (.str ""))) (dCmp inB (dVar 2) (dOp2 ixD (dVar 0) (dCon (.int 1)))))])
abbrev r_item_faults_4_a_1 : DS := dRet (dBi (scB intV) [(true, dAndV (dCmp isNC (dVar 1) (dCon .non)) (dAndV (dCmp neD (dVar 2) (dCon (.str ""))) (dCmp inB (dVar 2) (dOp2 ixD (dVar 0) (dCon (.int 1))))))])
abbrev r_item_faults_5_a_1 : DS := dRet (dCon (.int 0))
abbrev r_item_faults_6_a_1 : DS := dRet (dBi (scB intV) [(true, dCmp eqD (dVar 2) (dCon (.str "")))])
abbrev r_item_faults_7 : DS := dRet (dBi (scB intV) [(true, dAndV (dCmp neD (dVar 2) (dCon (.str ""))) (dAndV (dCmp neD (dVar 2) (dVar 1)) (dCmp inB (dVar 2) (dOp2 ixD (dVar 0) (dCon (.int 2))))))])
abbrev r_item_faults_6 : DS := dSeq (dIf (dB (dCmp eqD (dVar 4) (dCon (.str "drop")))) (r_item_faults_6_a_1) (dNext)) r_item_faults_7
abbrev r_item_faults_5 : DS := dSeq (dIf (dOr (dB (dCmp isNC (dVar 1) (dCon .non))) (dB (dCmp notInB (dVar 1) (dOp2 ixD (dVar 0) (dCon (.int 1)))))) (r_item_faults_5_a_1) (dNext)) r_item_faults_6
abbrev r_item_faults_4 : DS := dSeq (dIf (dB (dCmp eqD (dVar 4) (dCon (.str "add")))) (r_item_faults_4_a_1) (dNext)) r_item_faults_5
abbrev r_item_faults_3 : DS := dSeq (dIf (dB (dCmp eqD (dVar 4) (dCon (.str "one")))) (r_item_faults_3_a_1) (dNext)) r_item_faults_4
abbrev r_item_faults_2 : DS := dSeq (dIf (dB (dCmp eqD (dVar 4) (dCon (.str "pair")))) (r_item_faults_2_a_1) (dNext)) r_item_faults_3
abbrev r_item_faults_1 : DS := dSeq (dSet 4 (dOp2 ixD (dVar 0) (dCon (.int 0)))) r_item_faults_2
def F_item_faults : Fn := runFn 5 r_item_faults_1
/-- end_faults: 0 rule, 1 last -/
abbrev r_end_faults_1 : DS := dRet (dBi (scB intV) [(true, dAndV (dCmp eqD (dOp2 ixD (dVar 0) (dCon (.int 0))) (dCon (.str "pair"))) (dAndV (dCmp inB (dVar 1) (dOp2 ixD (dVar 0) (dCon (.int 1)))) (dCmp inB (dCon (.str "#")) (dOp2 ixD (dVar 0) (dCon (.int 2))))))])
def F_end_faults : Fn := runFn 2 r_end_faults_1
/-- rule_faults: 0 rule, 1 word, 2 steps, 3 found, 4 last, 5 place, 6 item -/
abbrev r_rule_faults_2_l_2 : DS := dSet 4 (dIfx (dB (dCmp eqD (dVar 6) (dCon (.str "")))) (dSh (dVar 4)) (dSh (dVar 6)))
abbrev r_rule_faults_2_l_1 : DS := dSeq (dSet 3 (dOp2 augAdd (dVar 3) (dCall F_item_faults 4 [] [(false, dVar 0), (false, dCall F_letter_at 2 [] [(false, dVar 1), (false, dVar 5)]), (false, dVar 6), (false, dVar 4)]))) r_rule_faults_2_l_2
abbrev r_rule_faults_3 : DS := dRet (dOp2 addD (dVar 3) (dCall F_end_faults 2 [] [(false, dVar 0), (false, dVar 4)]))
abbrev r_rule_faults_2 : DS := dSeq (dFgB [5, 6] (dFor (iEnumA [(false, dVar 2)]) (.many [5, 6]) (dFgE [5, 6] (r_rule_faults_2_l_1)))) r_rule_faults_3
abbrev r_rule_faults_1 : DS := dSeq (dPar 3 4 true false (dCon (.int 0)) (dCon (.str "#"))) r_rule_faults_2
def F_rule_faults : Fn := runFn 7 r_rule_faults_1
/-- faults_of: 0 grammar, 1 word, 2 steps, 3 rule -/
abbrev r_faults_of_2 : DS := dRet (dLc [3] (iAny (dOp2 ixD (dVar 0) (dCon (.int 1)))) (.one 3) (pure true) (dCall F_rule_faults 3 [] [(false, dVar 3), (false, dVar 1), (false, dVar 2)]))
abbrev r_faults_of_1 : DS := dSeq (dExpr (dCall F_need_steps 3 [] [(false, dVar 0), (false, dVar 1), (false, dVar 2)])) r_faults_of_2
def F_faults_of : Fn := runFn 4 r_faults_of_1
/-- _law_steps: 0 _law_purse_here, 1 _law_letters, 2 _law_word_here, 3 _law_way, 4 _law_found, 5 _law_place, 6 _law_item -/
abbrev r__law_steps_2_l_2_a_1 : DS := dSet 6 (dIfx (dB (dCmp eqD (dOp2 modD (dVar 5) (dCon (.int 2))) (dCon (.int 1)))) (dOp2 ixD (dVar 2) (dOp2 divD (dVar 5) (dCon (.int 2)))) (dCon (.str "")))
abbrev r__law_steps_2_l_3 : DS := dExpr (dMut 4 appG [(false, dVar 6)])
abbrev r__law_steps_2_l_2 : DS := dSeq (dIf (dAnd (dB (dCmp gtA (dVar 3) (dCon (.int 0)))) (dB (dCmp gtA (dCall F__law_coin 2 [] [(true, dVar 0), (false, dCon (.int 4))]) (dCon (.int 0))))) (r__law_steps_2_l_2_a_1) (dNext)) r__law_steps_2_l_3
abbrev r__law_steps_2_l_1 : DS := dSeq (dSet 6 (dOp2 ixD (dOp2 addD (dLst [(false, dCon (.str "")), (false, dCon (.str ""))]) (dBi (listSD) [(true, dVar 1)])) (dCall F__law_coin 2 [] [(true, dVar 0), (false, dOp2 addD (dBi (lenD) [(true, dVar 1)]) (dCon (.int 2)))]))) r__law_steps_2_l_2
abbrev r__law_steps_3 : DS := dRet (dVar 4)
abbrev r__law_steps_2 : DS := dSeq (dFgB [5, 6] (dFor (iRng rng1 [(true, dOp2 addD (dOp2 mulT (dCon (.int 2)) (dBi (lenD) [(true, dVar 2)])) (dCon (.int 1)))]) (.one 5) (dFgE [5, 6] (r__law_steps_2_l_1)))) r__law_steps_3
abbrev r__law_steps_1 : DS := dSeq (dPar 3 4 true true (dCall F__law_coin 2 [] [(true, dVar 0), (false, dCon (.int 3))]) (dLst [])) r__law_steps_2
def F__law_steps : Fn := runFn 7 r__law_steps_1
/-- output_of: 0 grammar, 1 word, 2 steps -/
abbrev r_output_of_2 : DS := dRet (dMt isStr joinD (dCon (.str "")) [(true, dVar 2)])
abbrev r_output_of_1 : DS := dSeq (dExpr (dCall F_need_steps 3 [] [(false, dVar 0), (false, dVar 1), (false, dVar 2)])) r_output_of_2
def F_output_of : Fn := runFn 3 r_output_of_1
/-- _law_no_steps: 0 _law_purse_here, 1 _law_letters, 2 _law_word_here, 3 _law_steps_here, 4 _law_at, 5 _law_odd, 6 _law_found, 7 _law_one -/
abbrev r__law_no_steps_3_a_1 : DS := dSet 5 (dSh (dOp2 addD (dVar 5) (dLst [(false, dSlS (dVar 1) none (some (dCon (.int 2)))), (false, dSlS (dVar 1) (some (dOp1 negV (dCon (.int 2)))) none), (false, dVar 1)])))
abbrev r__law_no_steps_6 : DS := dRet (dOp2 addD (dVar 6) (dLst [(false, dDis []), (false, dLst []), (false, dLst [(false, dVar 3)]), (false, dCon (.int 1)), (false, dVar 2)]))
abbrev r__law_no_steps_5 : DS := dSeq (dSet 6 (dSh (dOp2 addD (dVar 6) (dLst [(false, dSlL (dVar 3) (some (dCon (.int 1))) none), (false, dOp2 addD (dVar 3) (dLst [(false, dCon (.str ""))])), (false, dOp2 addD (dOp2 addD (dSlL (dVar 3) none (some (dVar 4))) (dLst [(false, dCon (.str "")), (false, dCon (.str ""))])) (dSlL (dVar 3) (some (dVar 4)) none)), (false, dBi (tupGD) [(true, dVar 3)]), (false, dMt isStr joinD (dCon (.str "")) [(true, dVar 3)]), (false, dCon .non)])))) r__law_no_steps_6
abbrev r__law_no_steps_4 : DS := dSeq (dShE [6] (dSet 6 (dLc [7] (iAny (dVar 5)) (.one 7) (pure true) (dOp2 addD (dOp2 addD (dSlL (dVar 3) none (some (dVar 4))) (dLst [(false, dVar 7)])) (dSlL (dVar 3) (some (dOp2 addD (dVar 4) (dCon (.int 1)))) none))))) r__law_no_steps_5
abbrev r__law_no_steps_3 : DS := dSeq (dIf (dB (dCmp gtA (dBi (lenD) [(true, dVar 1)]) (dCon (.int 1)))) (r__law_no_steps_3_a_1) (dNext)) r__law_no_steps_4
abbrev r__law_no_steps_2 : DS := dSeq (dSet 5 (dSh (dLst [(false, dCon (.str "q")), (false, dOp2 mulT (dOp2 ixD (dVar 1) (dCon (.int 0))) (dCon (.int 2))), (false, dCon .non), (false, dCon (.int 0)), (false, dCon (.str "#")), (false, dUp (dOp2 ixD (dVar 1) (dCon (.int 0)))), (false, dLst [(false, dOp2 ixD (dVar 1) (dCon (.int 0)))]), (false, dOp2 addD (dOp2 ixD (dVar 1) (dCon (.int 0))) (dCon (.str "q"))), (false, dCon (.bl true)), (false, dCon (.str " "))]))) r__law_no_steps_3
abbrev r__law_no_steps_1 : DS := dSeq (dSet 4 (dCall F__law_coin 2 [] [(true, dVar 0), (false, dBi (lenD) [(true, dVar 3)])])) r__law_no_steps_2
def F__law_no_steps : Fn := runFn 8 r__law_no_steps_1
/-- _law_right: 0 _law_purse_here, 1 _law_alphabets, 2 _law_grammar_here, 3 _law_letters, 4 _law_rules, 5 _law_word_here, 6 _law_plain, 7 _law_letter, 8 _law_told, 9 _law_due, 10 _law_turn, 11 _law_steps_here, 12 _law_before, 13 _law_wrong, 14 _law_rule_here, 15 _law_value -/
abbrev r__law_right_5_l_1 : DS := dSet 6 (dSh (dOp2 addD (dVar 6) (dLst [(false, dVar 7), (false, dCon (.str ""))])))
abbrev r__law_right_7_a_1 : DS := dRet (dCon (.bl false))
abbrev r__law_right_9_l_3_a_1 : DS := dRet (dCon (.bl false))
abbrev r__law_right_9_l_5_a_1 : DS := dRet (dCon (.bl false))
abbrev r__law_right_9_l_7_a_1 : DS := dRet (dCon (.bl false))
abbrev r__law_right_9_l_7 : DS := dIf (dOr (dB (dCmp neD (dBi (reprGD) [(true, dCall F_faults_of 3 [] [(false, dVar 2), (false, dVar 5), (false, dVar 11)])]) (dBi (reprGD) [(true, dVar 9)]))) (dB (dCmp neD (dBi (reprGD) [(true, dLst [(false, dVar 2), (false, dVar 11)])]) (dVar 12)))) (r__law_right_9_l_7_a_1) (dNext)
abbrev r__law_right_9_l_6 : DS := dSeq (dExpr (dMut 8 appG [(false, dCon (.str "?"))])) r__law_right_9_l_7
abbrev r__law_right_9_l_5 : DS := dSeq (dIf (dB (dCmp neD (dBi (reprGD) [(true, dVar 8)]) (dBi (reprGD) [(true, dVar 9)]))) (r__law_right_9_l_5_a_1) (dNext)) r__law_right_9_l_6
abbrev r__law_right_9_l_4 : DS := dSeq (dSet 8 (dCall F_faults_of 3 [] [(false, dVar 2), (false, dVar 5), (false, dVar 11)])) r__law_right_9_l_5
abbrev r__law_right_9_l_3 : DS := dSeq (dIf (dOr (dB (dCmp notBD (dCall F_is_steps 3 [] [(false, dVar 2), (false, dVar 5), (false, dVar 11)]) (dCon (.bl true)))) (dB (dCmp neD (dCall F_output_of 3 [] [(false, dVar 2), (false, dVar 5), (false, dVar 11)]) (dMt isStr joinD (dCon (.str "")) [(true, dVar 11)])))) (r__law_right_9_l_3_a_1) (dNext)) r__law_right_9_l_4
abbrev r__law_right_9_l_2 : DS := dSeq (dPar 12 9 true true (dBi (reprGD) [(true, dLst [(false, dVar 2), (false, dVar 11)])]) (dSh (dLc [14] (iAny (dVar 4)) (.one 14) (pure true) (dCall F__law_faults 3 [] [(false, dVar 14), (false, dVar 5), (false, dVar 11)])))) r__law_right_9_l_3
abbrev r__law_right_9_l_1 : DS := dSeq (dSet 11 (dSh (dCall F__law_steps 3 [] [(true, dVar 0), (false, dVar 3), (false, dVar 5)]))) r__law_right_9_l_2
abbrev r__law_right_11 : DS := dRet (dCmp eqD (dLc [15] (iAny (dVar 13)) (.one 15) (dB (dCmp notBD (dCall F_is_steps 3 [] [(false, dVar 2), (false, dVar 5), (false, dVar 15)]) (dCon (.bl false)))) (dVar 15)) (dLst []))
abbrev r__law_right_10 : DS := dSeq (dSet 13 (dSh (dCall F__law_no_steps 4 [] [(true, dVar 0), (false, dVar 3), (false, dVar 5), (false, dVar 6)]))) r__law_right_11
abbrev r__law_right_9 : DS := dSeq (dFgB [8, 9, 10, 11, 12] (dFor (iRng rng1 [(true, dCon (.int 6))]) (.one 10) (dFgE [8, 9, 10, 11, 12] (r__law_right_9_l_1)))) r__law_right_10
abbrev r__law_right_8 : DS := dSeq (dExpr (dMut 8 clearG [])) r__law_right_9
abbrev r__law_right_7 : DS := dSeq (dIf (dOr (dB (dCmp neD (dBi (reprGD) [(true, dVar 8)]) (dBi (reprGD) [(true, dVar 6)]))) (dB (dCmp neD (dBi (reprGD) [(true, dLnd (dCall F_faults_of 3 [] [(false, dVar 2), (false, dVar 5), (false, dVar 8)]))]) (dBi (reprGD) [(true, dVar 9)])))) (r__law_right_7_a_1) (dNext)) r__law_right_8
abbrev r__law_right_6 : DS := dSeq (dPar 8 9 true true (dCall F_kept_steps 2 [] [(false, dVar 2), (false, dVar 5)]) (dSh (dLc [14] (iAny (dVar 4)) (.one 14) (pure true) (dCall F__law_faults 3 [] [(false, dVar 14), (false, dVar 5), (false, dVar 6)])))) r__law_right_7
abbrev r__law_right_5 : DS := dSeq (dFgB [7] (dFor (iAny (dVar 5)) (.one 7) (dFgE [7] (r__law_right_5_l_1)))) r__law_right_6
abbrev r__law_right_4 : DS := dSeq (dSet 6 (dSh (dLst [(false, dCon (.str ""))]))) r__law_right_5
abbrev r__law_right_3 : DS := dSeq (dSet 5 (dCall F__law_word 3 [] [(true, dVar 0), (false, dVar 3), (false, dCon (.int 10))])) r__law_right_4
abbrev r__law_right_2 : DS := dSeq (dUnp (.many [3, 4]) (dVar 2)) r__law_right_3
abbrev r__law_right_1 : DS := dSeq (dSet 2 (dCall F__law_grammar 3 [] [(true, dVar 0), (false, dVar 1), (false, dCon (.int 6))])) r__law_right_2
def F__law_right : Fn := runFn 16 r__law_right_1
/-- law: 0 _law_script, 1 _law_k, 2 _law_purse_here, 3 _law_turn, 4 _law_rules, 5 _law_grammar_here, 6 _law_told -/
abbrev r_law_1_l_2_l_1_a_1 : DS := dRet (dCon (.bl false))
abbrev r_law_1_l_2_l_1 : DS := dIf (dNot (dTr (dCall F__law_right 2 [] [(true, dVar 2), (false, dLst [(false, dCon (.str "a")), (false, dCon (.str "ab")), (false, dCon (.str "abc")), (false, dCon (.str "abcd")), (false, dCon (.str "xz")), (false, dCon (.str "bdfh"))])]))) (r_law_1_l_2_l_1_a_1) (dNext)
abbrev r_law_1_l_2 : DS := dFgB [3] (dFor (iRng rng1 [(true, dCon (.int 4))]) (.one 3) (dFgE [3] (r_law_1_l_2_l_1)))
abbrev r_law_1_l_1 : DS := dSeq (dSet 2 (dCall F__law_purse 2 [] [(false, dVar 0), (false, dVar 1)])) r_law_1_l_2
abbrev r_law_5 : DS := dRet (dAndV (dCmp eqD (dVar 6) (dLst [(false, dLst [(false, dCon (.int 0)), (false, dCon (.int 1)), (false, dCon (.int 2)), (false, dCon (.int 0)), (false, dCon (.int 0))]), (false, dLst [(false, dCon (.int 0)), (false, dCon (.int 1)), (false, dCon (.int 0)), (false, dCon (.int 0)), (false, dCon (.int 1))])])) (dCmp isBD (dCall F_is_steps 3 [] [(false, dVar 5), (false, dCon (.str "")), (false, dLst [(false, dCon (.str ""))])]) (dCon (.bl true))))
abbrev r_law_4 : DS := dSeq (dSet 6 (dSh (dLst [(false, dCall F_faults_of 3 [] [(false, dVar 5), (false, dCon (.str "ab")), (false, dLst [(false, dCon (.str "")), (false, dCon (.str "")), (false, dCon (.str "b")), (false, dCon (.str "b")), (false, dCon (.str "a"))])]), (false, dCall F_faults_of 3 [] [(false, dVar 5), (false, dCon (.str "b")), (false, dLst [(false, dCon (.str "")), (false, dCon (.str "")), (false, dCon (.str ""))])])]))) r_law_5
abbrev r_law_3 : DS := dSeq (dSet 5 (dTup [(false, dCon (.str "ab")), (false, dVar 4)])) r_law_4
abbrev r_law_2 : DS := dSeq (dSet 4 (dSh (dLst [(false, dTup [(false, dCon (.str "pair")), (false, dCon (.str "b")), (false, dCon (.str "#"))]), (false, dTup [(false, dCon (.str "drop")), (false, dCon (.str "ab"))]), (false, dTup [(false, dCon (.str "add")), (false, dCon (.str "ab"))]), (false, dTup [(false, dCon (.str "change")), (false, dCon (.str "ab")), (false, dCon (.str "ab"))]), (false, dTup [(false, dCon (.str "pair")), (false, dCon (.str "#")), (false, dCon (.str "#"))])]))) r_law_3
abbrev r_law_1 : DS := dSeq (dFgB [1, 2, 3] (dFor (iRng rng1 [(true, dBi (scB maxV) [(true, dCon (.int 1)), (true, dBi (scB minV) [(true, dCon (.int 6)), (true, dBi (lenD) [(true, dVar 0)])])])]) (.one 1) (dFgE [1, 2, 3] (r_law_1_l_1)))) r_law_2
def F_law : Fn := runFn 7 r_law_1
end Law_strictranks_k41_steps_and_faults
end
end
section
set_option Elab.async false
set_option linter.all false
set_option maxRecDepth 100000
set_option maxHeartbeats 4000000
namespace Law_strictranks_k41_steps_and_faults
open PySem PySem.Spec PyProof.Rows L2 L2.VL L2.TX
/-- what the top has written -/
structure Txt (w : World) (K : PySem.W.Frag) (mg : Str → Option Value) : Prop where
  n_abs : mg "abs" = none
  n_all : mg "all" = none
  n_enumerate : mg "enumerate" = none
  n_int : mg "int" = none
  n_isinstance : mg "isinstance" = none
  n_len : mg "len" = none
  n_list : mg "list" = none
  n_max : mg "max" = none
  n_min : mg "min" = none
  n_range : mg "range" = none
  n_repr : mg "repr" = none
  n_str : mg "str" = none
  n_tuple : mg "tuple" = none
  n_zip : mg "zip" = none
  t_KINDS : KdT K w mg "KINDS" [("one", 1), ("pair", 2), ("change", 2), ("drop", 1), ("add", 1)]
  c_END : ∃ t, mg "END" = some (.str "#" t)
  c_LOWERCASE : ∃ t, mg "LOWERCASE" = some (.str "abcdefghijklmnopqrstuvwxyz" t)
  c_MOST_LETTERS : ∃ t, mg "MOST_LETTERS" = some (.int 4 t)
  c_MOST_RULES : ∃ t, mg "MOST_RULES" = some (.int 6 t)
  f__law_purse : FnAt K mg "_law_purse" s__law_purse [] []
  f__law_coin : FnAt K mg "_law_coin" s__law_coin [] []
  f__law_set : FnAt K mg "_law_set" s__law_set [] []
  f__law_end_set : FnAt K mg "_law_end_set" s__law_end_set [] []
  f__law_rule : FnAt K mg "_law_rule" s__law_rule [] []
  f__law_grammar : FnAt K mg "_law_grammar" s__law_grammar [] []
  f__law_word : FnAt K mg "_law_word" s__law_word [] []
  f_is_ascending : FnAt K mg "is_ascending" s_is_ascending [] []
  f_is_set : FnAt K mg "is_set" s_is_set [] []
  f_is_rule : FnAt K mg "is_rule" s_is_rule [] []
  f_is_grammar : FnAt K mg "is_grammar" s_is_grammar [] []
  f_need_grammar : FnAt K mg "need_grammar" s_need_grammar [] []
  f_need_word : FnAt K mg "need_word" s_need_word [.int 10] []
  f_letter_at : FnAt K mg "letter_at" s_letter_at [] []
  f_kept_steps : FnAt K mg "kept_steps" s_kept_steps [] []
  f__law_faults : FnAt K mg "_law_faults" s__law_faults [] []
  f_fits : FnAt K mg "fits" s_fits [] []
  f_is_steps : FnAt K mg "is_steps" s_is_steps [] []
  f_need_steps : FnAt K mg "need_steps" s_need_steps [] []
  f_item_faults : FnAt K mg "item_faults" s_item_faults [] []
  f_end_faults : FnAt K mg "end_faults" s_end_faults [] []
  f_rule_faults : FnAt K mg "rule_faults" s_rule_faults [] []
  f_faults_of : FnAt K mg "faults_of" s_faults_of [] []
  f__law_steps : FnAt K mg "_law_steps" s__law_steps [] []
  f_output_of : FnAt K mg "output_of" s_output_of [] []
  f__law_no_steps : FnAt K mg "_law_no_steps" s__law_no_steps [] []
  f__law_right : FnAt K mg "_law_right" s__law_right [] []
  f_law : FnAt K mg "law" s_law [] []
section
variable {P : Program} {w : World} {K : PySem.W.Frag} {mg : Str → Option Value} {base : Heap}
theorem sc__law_purse : FnScope ["_law_script", "_law_k", "_law_cell"] ["_law_script", "_law_k"] (defScope s__law_purse) := ⟨rfl, rfl, rfl, by decide +kernel, rfl, by decide +kernel, by decide +kernel⟩
theorem b__law_purse (T : Txt w K mg) (f : Addr) (cdv : Value) (A : Around) (outer : List Env) (s : Shared) (H : Hp) (E : XK) (c : FnCx (cxOf (L2.CX P w) P w K mg base ["_law_script", "_law_k", "_law_cell"] "_law_purse" (defScope s__law_purse) f cdv A outer s H E) 0) :
  SSs (cxOf (L2.CX P w) P w K mg base ["_law_script", "_law_k", "_law_cell"] "_law_purse" (defScope s__law_purse) f cdv A outer s H E) (defBody s__law_purse) r__law_purse_1 :=
  ss_cons (ss_set 2 c.g (se_ifx (st_cmp op_lt cs_int.os (se_var 1) (se_callB (call_len) os_len T.n_len (sa_cons (b := true) (se_var 0) (sa_nil))) (nomark _)) (se_ix ix_seq os_ix (se_var 0) (se_var 1) (fun _ _ => rfl)) (se_int)))
    (ss_one (ss_ret (se_lst (sa_cons (b := false) (se_callB (call_max2 c.g.calm) os_max T.n_max (sa_cons (b := true) (se_int) (sa_cons (b := true) (se_op op_sub os_sub (se_var 2) (se_op op_pow os_pow (se_int) (se_int))) (sa_nil)))) (sa_cons (b := false) (se_op op_addA os_add (se_op op_addA os_add (se_op op_mod os_mod (se_callTy (call_int1) os_int T.n_int (sa_cons (b := true) (se_callB (call_abs) os_abs T.n_abs (sa_cons (b := true) (se_var 2) (sa_nil))) (sa_nil))) (se_op op_addA os_add (se_op op_pow os_pow (se_int) (se_int)) (se_int))) (se_op op_mulT os_mulT (se_int) (se_var 1))) (se_int)) (sa_cons (b := false) (se_int) (sa_nil)))))))
theorem ok__law_purse (T : Txt w K mg) : Def P w K mg base "_law_purse" 1 F__law_purse 2 [] :=
  def_ok T.f__law_purse sc__law_purse rfl (fun _ _ _ _ _ _ us hl => match us, hl with | [_, _], _ => rfl) (b__law_purse T)
theorem sc__law_coin : FnScope ["_law_purse_here", "_law_many", "_law_found", "_law_mixed"] ["_law_purse_here", "_law_many"] (defScope s__law_coin) := ⟨rfl, rfl, rfl, by decide +kernel, rfl, by decide +kernel, by decide +kernel⟩
theorem b__law_coin (T : Txt w K mg) (f : Addr) (cdv : Value) (A : Around) (outer : List Env) (s : Shared) (H : Hp) (E : XK) (c : FnCx (cxOf (L2.CX P w) P w K mg base ["_law_purse_here", "_law_many", "_law_found", "_law_mixed"] "_law_coin" (defScope s__law_coin) f cdv A outer s H E) 0) :
  SSs (cxOf (L2.CX P w) P w K mg base ["_law_purse_here", "_law_many", "_law_found", "_law_mixed"] "_law_coin" (defScope s__law_coin) f cdv A outer s H E) (defBody s__law_coin) r__law_coin_1 :=
  ss_cons (ss_if (st_cmp (op_gtA c.room) cs_gtA.os (se_ix ix_seq os_ix (se_var 0) (se_int) (fun _ _ => rfl)) (se_int) (nomark _)) (ss_cons (ss_set 2 c.g (se_op op_mod os_mod (se_callTy (call_int1) os_int T.n_int (sa_cons (b := true) (se_ix ix_seq os_ix (se_var 0) (se_int) (fun _ _ => rfl)) (sa_nil))) (se_var 1)))
    (ss_cons (ss_setIx 0 (se_op op_fdivW os_div (se_ix ix_seq os_ix (se_var 0) (se_int) (fun _ _ => rfl)) (se_var 1)) (se_int))
    (ss_one (ss_ret (se_sh (se_var 2)))))) (ss_nil))
    (ss_cons (ss_setIx 0 (se_op op_addA os_add (se_ix ix_seq os_ix (se_var 0) (se_int) (fun _ _ => rfl)) (se_int)) (se_int))
    (ss_cons (ss_set 3 c.g (se_op op_mod os_mod (se_callTy (call_int1) os_int T.n_int (sa_cons (b := true) (se_op op_powW os_powW (se_op op_addA os_add (se_ix ix_seq os_ix (se_var 0) (se_int) (fun _ _ => rfl)) (se_op op_mulT os_mulT (se_int) (se_ix ix_seq os_ix (se_var 0) (se_int) (fun _ _ => rfl)))) (se_int)) (sa_nil))) (se_op op_addA os_add (se_op op_pow os_pow (se_int) (se_int)) (se_int))))
    (ss_cons (ss_set 3 c.g (se_op op_mod os_mod (se_callTy (call_int1) os_int T.n_int (sa_cons (b := true) (se_op op_powW os_powW (se_op op_addA os_add (se_var 3) (se_op op_mulT os_mulT (se_int) (se_ix ix_seq os_ix (se_var 0) (se_int) (fun _ _ => rfl)))) (se_int)) (sa_nil))) (se_op op_addA os_add (se_op op_pow os_pow (se_int) (se_int)) (se_int))))
    (ss_one (ss_ret (se_op op_mod os_mod (se_callTy (call_int1) os_int T.n_int (sa_cons (b := true) (se_op op_fdivW os_div (se_var 3) (se_int)) (sa_nil))) (se_var 1)))))))
theorem ok__law_coin (T : Txt w K mg) : Def P w K mg base "_law_coin" 1 F__law_coin 2 [] :=
  def_ok T.f__law_coin sc__law_coin rfl (fun _ _ _ _ _ _ us hl => match us, hl with | [_, _], _ => rfl) (b__law_coin T)
theorem sc__law_set : FnScope ["_law_purse_here", "_law_letters", "_law_bits", "_law_place", "_law_letter"] ["_law_purse_here", "_law_letters"] (defScope s__law_set) := ⟨rfl, rfl, rfl, by decide +kernel, rfl, by decide +kernel, by decide +kernel⟩
theorem b__law_set (T : Txt w K mg) (f : Addr) (cdv : Value) (A : Around) (outer : List Env) (s : Shared) (H : Hp) (E : XK) (c : FnCx (cxOf (L2.CX P w) P w K mg base ["_law_purse_here", "_law_letters", "_law_bits", "_law_place", "_law_letter"] "_law_set" (defScope s__law_set) f cdv A outer s H E) 1) :
  SSs (cxOf (L2.CX P w) P w K mg base ["_law_purse_here", "_law_letters", "_law_bits", "_law_place", "_law_letter"] "_law_set" (defScope s__law_set) f cdv A outer s H E) (defBody s__law_set) r__law_set_1 :=
  ss_cons (ss_set 2 c.g (se_op op_addA os_add (se_int) (se_call (dvs := []) (ok__law_coin T) c.g.gu (c.room.mono (by decide)) (sa_cons (b := true) (se_var 0) (sa_cons (b := false) (se_op op_sub os_sub (se_op op_shl os_shl (se_int) (se_callB (call_len) os_len T.n_len (sa_cons (b := true) (se_var 1) (sa_nil)))) (se_int)) (sa_nil))))))
    (ss_one (ss_ret (se_mt PySem.F.plainAttrs_str PySem.F.slot_str_join PySem.F.type_str_join mt_join om_join (se_str) (sa_cons (b := true) (se_lc [("_law_place", 3), ("_law_letter", 4)] c.g (si_enumA T.n_enumerate (sa_cons (b := false) (se_var 1) (sa_nil))) (by kernel_rfl) (fun s1 H1 C1 cl1 fp1 => sg_tup (cxg_blk c.g s1 H1 _ _ fp1) (sgs_cons 3 (cxg_blk c.g s1 H1 _ _ fp1) (sgs_cons 4 (cxg_blk c.g s1 H1 _ _ fp1) (sgs_nil)))) (fun s1 H1 C1 cl1 fp1 => sts_one (st_cmp (op_eqA c.room) cs_eq.os (se_op op_and os_and (se_op op_shr os_shr (se_var 2) (se_var 3)) (se_int)) (se_int) (nomark _))) (fun s1 H1 C1 cl1 fp1 => se_var 4)) (sa_nil)))))
theorem ok__law_set (T : Txt w K mg) : Def P w K mg base "_law_set" 2 F__law_set 2 [] :=
  def_ok T.f__law_set sc__law_set rfl (fun _ _ _ _ _ _ us hl => match us, hl with | [_, _], _ => rfl) (b__law_set T)
theorem sc__law_end_set : FnScope ["_law_purse_here", "_law_letters", "_law_way"] ["_law_purse_here", "_law_letters"] (defScope s__law_end_set) := ⟨rfl, rfl, rfl, by decide +kernel, rfl, by decide +kernel, by decide +kernel⟩
theorem b__law_end_set (T : Txt w K mg) (f : Addr) (cdv : Value) (A : Around) (outer : List Env) (s : Shared) (H : Hp) (E : XK) (c : FnCx (cxOf (L2.CX P w) P w K mg base ["_law_purse_here", "_law_letters", "_law_way"] "_law_end_set" (defScope s__law_end_set) f cdv A outer s H E) 2) :
  SSs (cxOf (L2.CX P w) P w K mg base ["_law_purse_here", "_law_letters", "_law_way"] "_law_end_set" (defScope s__law_end_set) f cdv A outer s H E) (defBody s__law_end_set) r__law_end_set_1 :=
  ss_cons (ss_set 2 c.g (se_call (dvs := []) (ok__law_coin T) c.g.gu (c.room.mono (by decide)) (sa_cons (b := true) (se_var 0) (sa_cons (b := false) (se_int) (sa_nil)))))
    (ss_one (ss_ret (se_ix ix_seq os_ix (se_lst (sa_cons (b := false) (se_str) (sa_cons (b := false) (se_op op_addA os_add (se_str) (se_call (dvs := []) (ok__law_set T) c.g.gu (c.room.mono (by decide)) (sa_cons (b := true) (se_var 0) (sa_cons (b := false) (se_var 1) (sa_nil))))) (sa_cons (b := false) (se_call (dvs := []) (ok__law_set T) c.g.gu (c.room.mono (by decide)) (sa_cons (b := true) (se_var 0) (sa_cons (b := false) (se_var 1) (sa_nil)))) (sa_cons (b := false) (se_call (dvs := []) (ok__law_set T) c.g.gu (c.room.mono (by decide)) (sa_cons (b := true) (se_var 0) (sa_cons (b := false) (se_var 1) (sa_nil)))) (sa_nil)))))) (se_var 2) (fun _ _ => rfl))))
theorem ok__law_end_set (T : Txt w K mg) : Def P w K mg base "_law_end_set" 3 F__law_end_set 2 [] :=
  def_ok T.f__law_end_set sc__law_end_set rfl (fun _ _ _ _ _ _ us hl => match us, hl with | [_, _], _ => rfl) (b__law_end_set T)
theorem sc__law_rule : FnScope ["_law_purse_here", "_law_letters", "_law_kind"] ["_law_purse_here", "_law_letters"] (defScope s__law_rule) := ⟨rfl, rfl, rfl, by decide +kernel, rfl, by decide +kernel, by decide +kernel⟩
theorem b__law_rule (T : Txt w K mg) (f : Addr) (cdv : Value) (A : Around) (outer : List Env) (s : Shared) (H : Hp) (E : XK) (c : FnCx (cxOf (L2.CX P w) P w K mg base ["_law_purse_here", "_law_letters", "_law_kind"] "_law_rule" (defScope s__law_rule) f cdv A outer s H E) 3) :
  SSs (cxOf (L2.CX P w) P w K mg base ["_law_purse_here", "_law_letters", "_law_kind"] "_law_rule" (defScope s__law_rule) f cdv A outer s H E) (defBody s__law_rule) r__law_rule_1 :=
  ss_cons (ss_set 2 c.g (se_ix ix_seq os_ix (se_lst (sa_cons (b := false) (se_str) (sa_cons (b := false) (se_str) (sa_cons (b := false) (se_str) (sa_cons (b := false) (se_str) (sa_cons (b := false) (se_str) (sa_cons (b := false) (se_str) (sa_nil)))))))) (se_call (dvs := []) (ok__law_coin T) c.g.gu (c.room.mono (by decide)) (sa_cons (b := true) (se_var 0) (sa_cons (b := false) (se_int) (sa_nil)))) (fun _ _ => rfl)))
    (ss_cons (ss_if (st_cmp (op_eqA c.room) cs_eq.os (se_var 2) (se_str) (nomark _)) (ss_one (ss_ret (se_tup (sa_cons (b := false) (se_var 2) (sa_cons (b := false) (se_call (dvs := []) (ok__law_end_set T) c.g.gu (c.room.mono (by decide)) (sa_cons (b := true) (se_var 0) (sa_cons (b := false) (se_var 1) (sa_nil)))) (sa_cons (b := false) (se_call (dvs := []) (ok__law_end_set T) c.g.gu (c.room.mono (by decide)) (sa_cons (b := true) (se_var 0) (sa_cons (b := false) (se_var 1) (sa_nil)))) (sa_nil))))))) (ss_nil))
    (ss_cons (ss_if (st_cmp (op_eqA c.room) cs_eq.os (se_var 2) (se_str) (nomark _)) (ss_one (ss_ret (se_tup (sa_cons (b := false) (se_var 2) (sa_cons (b := false) (se_call (dvs := []) (ok__law_set T) c.g.gu (c.room.mono (by decide)) (sa_cons (b := true) (se_var 0) (sa_cons (b := false) (se_var 1) (sa_nil)))) (sa_cons (b := false) (se_call (dvs := []) (ok__law_set T) c.g.gu (c.room.mono (by decide)) (sa_cons (b := true) (se_var 0) (sa_cons (b := false) (se_var 1) (sa_nil)))) (sa_nil))))))) (ss_nil))
    (ss_one (ss_ret (se_tup (sa_cons (b := false) (se_var 2) (sa_cons (b := false) (se_call (dvs := []) (ok__law_set T) c.g.gu (c.room.mono (by decide)) (sa_cons (b := true) (se_var 0) (sa_cons (b := false) (se_var 1) (sa_nil)))) (sa_nil))))))))
theorem ok__law_rule (T : Txt w K mg) : Def P w K mg base "_law_rule" 4 F__law_rule 2 [] :=
  def_ok T.f__law_rule sc__law_rule rfl (fun _ _ _ _ _ _ us hl => match us, hl with | [_, _], _ => rfl) (b__law_rule T)
theorem sc__law_grammar : FnScope ["_law_purse_here", "_law_alphabets", "_law_most", "_law_letters", "_law_rules", "_law_all_of", "_law_turn", "_law_at"] ["_law_purse_here", "_law_alphabets", "_law_most"] (defScope s__law_grammar) := ⟨rfl, rfl, rfl, by decide +kernel, rfl, by decide +kernel, by decide +kernel⟩
theorem b__law_grammar (T : Txt w K mg) (f : Addr) (cdv : Value) (A : Around) (outer : List Env) (s : Shared) (H : Hp) (E : XK) (c : FnCx (cxOf (L2.CX P w) P w K mg base ["_law_purse_here", "_law_alphabets", "_law_most", "_law_letters", "_law_rules", "_law_all_of", "_law_turn", "_law_at"] "_law_grammar" (defScope s__law_grammar) f cdv A outer s H E) 4) :
  SSs (cxOf (L2.CX P w) P w K mg base ["_law_purse_here", "_law_alphabets", "_law_most", "_law_letters", "_law_rules", "_law_all_of", "_law_turn", "_law_at"] "_law_grammar" (defScope s__law_grammar) f cdv A outer s H E) (defBody s__law_grammar) r__law_grammar_1 :=
  ss_cons (ss_set 3 c.g (se_ix ix_seq os_ix (se_var 1) (se_call (dvs := []) (ok__law_coin T) c.g.gu (c.room.mono (by decide)) (sa_cons (b := true) (se_var 0) (sa_cons (b := false) (se_callB (call_len) os_len T.n_len (sa_cons (b := true) (se_var 1) (sa_nil))) (sa_nil)))) (fun _ _ => rfl)))
    (ss_cons (ss_shE [4] (ss_setLc [("_law_turn", 6)] 4 c.g (si_rng1 T.n_range (sa_cons (b := true) (se_op op_addA os_add (se_int) (se_call (dvs := []) (ok__law_coin T) c.g.gu (c.room.mono (by decide)) (sa_cons (b := true) (se_var 0) (sa_cons (b := false) (se_var 2) (sa_nil))))) (sa_nil))) (by kernel_rfl) (fun s1 H1 C1 cl1 fp1 => sg_name 6 (cxg_blk c.g s1 H1 _ _ fp1)) (fun s1 H1 C1 cl1 fp1 => sts_nil) (fun s1 H1 C1 cl1 fp1 => se_call (dvs := []) (ok__law_rule T) c.g.gu (c.room.mono (by decide)) (sa_cons (b := true) (se_var 0) (sa_cons (b := false) (se_var 3) (sa_nil)))) (sw_true rfl rfl rfl (by decide +kernel))))
    (ss_cons (ss_if (st_cmp (op_eqA c.room) cs_eq.os (se_call (dvs := []) (ok__law_coin T) c.g.gu (c.room.mono (by decide)) (sa_cons (b := true) (se_var 0) (sa_cons (b := false) (se_int) (sa_nil)))) (se_int) (nomark _)) (sss_fgE [5] (ss_cons (ss_set 5 c.g (se_sh (se_lst (sa_cons (b := false) (se_tup (sa_cons (b := false) (se_str) (sa_cons (b := false) (se_var 3) (sa_cons (b := false) (se_var 3) (sa_nil))))) (sa_cons (b := false) (se_tup (sa_cons (b := false) (se_str) (sa_cons (b := false) (se_var 3) (sa_nil)))) (sa_cons (b := false) (se_tup (sa_cons (b := false) (se_str) (sa_cons (b := false) (se_var 3) (sa_nil)))) (sa_nil)))))))
    (ss_cons (ss_set 4 c.g (se_sh (se_slL (se_op op_addA os_add (se_var 5) (se_var 4)) (sp_none) (sp_some (se_var 2)))))
    (ss_one (ss_fgB [6, 7] (ss_for c.g (si_rng1 T.n_range (sa_cons (b := true) (se_int) (sa_nil))) (sg_name 6 c.g) (sss_fgE [6, 7] (ss_cons (ss_set 7 c.g (se_call (dvs := []) (ok__law_coin T) c.g.gu (c.room.mono (by decide)) (sa_cons (b := true) (se_var 0) (sa_cons (b := false) (se_callB (call_len) os_len T.n_len (sa_cons (b := true) (se_var 4) (sa_nil))) (sa_nil)))))
    (ss_one (ss_set 4 c.g (se_sh (se_op op_addA os_add (se_slL (se_var 4) (sp_some (se_var 7)) (sp_none)) (se_revL (se_slL (se_var 4) (sp_none) (sp_some (se_var 7)))))))))))))))) (ss_nil))
    (ss_one (ss_ret (se_tup (sa_cons (b := false) (se_var 3) (sa_cons (b := false) (se_var 4) (sa_nil))))))))
theorem ok__law_grammar (T : Txt w K mg) : Def P w K mg base "_law_grammar" 5 F__law_grammar 3 [] :=
  def_ok T.f__law_grammar sc__law_grammar rfl (fun _ _ _ _ _ _ us hl => match us, hl with | [_, _, _], _ => rfl) (b__law_grammar T)
theorem sc__law_word : FnScope ["_law_purse_here", "_law_letters", "_law_most", "_law_turn"] ["_law_purse_here", "_law_letters", "_law_most"] (defScope s__law_word) := ⟨rfl, rfl, rfl, by decide +kernel, rfl, by decide +kernel, by decide +kernel⟩
theorem b__law_word (T : Txt w K mg) (f : Addr) (cdv : Value) (A : Around) (outer : List Env) (s : Shared) (H : Hp) (E : XK) (c : FnCx (cxOf (L2.CX P w) P w K mg base ["_law_purse_here", "_law_letters", "_law_most", "_law_turn"] "_law_word" (defScope s__law_word) f cdv A outer s H E) 1) :
  SSs (cxOf (L2.CX P w) P w K mg base ["_law_purse_here", "_law_letters", "_law_most", "_law_turn"] "_law_word" (defScope s__law_word) f cdv A outer s H E) (defBody s__law_word) r__law_word_1 :=
  ss_one (ss_ret (se_mt PySem.F.plainAttrs_str PySem.F.slot_str_join PySem.F.type_str_join mt_join om_join (se_str) (sa_cons (b := true) (se_lc [("_law_turn", 3)] c.g (si_rng1 T.n_range (sa_cons (b := true) (se_call (dvs := []) (ok__law_coin T) c.g.gu (c.room.mono (by decide)) (sa_cons (b := true) (se_var 0) (sa_cons (b := false) (se_op op_addA os_add (se_var 2) (se_int)) (sa_nil)))) (sa_nil))) (by kernel_rfl) (fun s1 H1 C1 cl1 fp1 => sg_name 3 (cxg_blk c.g s1 H1 _ _ fp1)) (fun s1 H1 C1 cl1 fp1 => sts_nil) (fun s1 H1 C1 cl1 fp1 => se_ix ix_seq os_ix (se_var 1) (se_call (dvs := []) (ok__law_coin T) c.g.gu (c.room.mono (by decide)) (sa_cons (b := true) (se_var 0) (sa_cons (b := false) (se_callB (call_len) os_len T.n_len (sa_cons (b := true) (se_var 1) (sa_nil))) (sa_nil)))) (fun _ _ => rfl))) (sa_nil))))
theorem ok__law_word (T : Txt w K mg) : Def P w K mg base "_law_word" 2 F__law_word 3 [] :=
  def_ok T.f__law_word sc__law_word rfl (fun _ _ _ _ _ _ us hl => match us, hl with | [_, _, _], _ => rfl) (b__law_word T)
theorem sc_is_ascending : FnScope ["text", "one", "other"] ["text"] (defScope s_is_ascending) := ⟨rfl, rfl, rfl, by decide +kernel, rfl, by decide +kernel, by decide +kernel⟩
theorem b_is_ascending (T : Txt w K mg) (f : Addr) (cdv : Value) (A : Around) (outer : List Env) (s : Shared) (H : Hp) (E : XK) (c : FnCx (cxOf (L2.CX P w) P w K mg base ["text", "one", "other"] "is_ascending" (defScope s_is_ascending) f cdv A outer s H E) 0) :
  SSs (cxOf (L2.CX P w) P w K mg base ["text", "one", "other"] "is_ascending" (defScope s_is_ascending) f cdv A outer s H E) (defBody s_is_ascending) r_is_ascending_1 :=
  ss_one (ss_ret (se_callB (cr_all c.g.calm) os_all T.n_all (sa_cons (b := true) (se_lc [("one", 1), ("other", 2)] c.g (si_zipS T.n_zip (sa_cons (b := false) (se_var 0) (sa_cons (b := false) (se_slS (se_var 0) (sp_some (se_int)) (sp_none)) (sa_nil)))) (by kernel_rfl) (fun s1 H1 C1 cl1 fp1 => sg_tup (cxg_blk c.g s1 H1 _ _ fp1) (sgs_cons 1 (cxg_blk c.g s1 H1 _ _ fp1) (sgs_cons 2 (cxg_blk c.g s1 H1 _ _ fp1) (sgs_nil)))) (fun s1 H1 C1 cl1 fp1 => sts_nil) (fun s1 H1 C1 cl1 fp1 => se_cmp op_ltS cs_ltS.os (se_var 1) (se_var 2) (nomark _))) (sa_nil))))
theorem ok_is_ascending (T : Txt w K mg) : Def P w K mg base "is_ascending" 1 F_is_ascending 1 [] :=
  def_ok T.f_is_ascending sc_is_ascending rfl (fun _ _ _ _ _ _ us hl => match us, hl with | [_], _ => rfl) (b_is_ascending T)
theorem sc_is_set : FnScope ["value", "known", "sign"] ["value", "known"] (defScope s_is_set) := ⟨rfl, rfl, rfl, by decide +kernel, rfl, by decide +kernel, by decide +kernel⟩
theorem b_is_set (T : Txt w K mg) (f : Addr) (cdv : Value) (A : Around) (outer : List Env) (s : Shared) (H : Hp) (E : XK) (c : FnCx (cxOf (L2.CX P w) P w K mg base ["value", "known", "sign"] "is_set" (defScope s_is_set) f cdv A outer s H E) 1) :
  SSs (cxOf (L2.CX P w) P w K mg base ["value", "known", "sign"] "is_set" (defScope s_is_set) f cdv A outer s H E) (defBody s_is_set) r_is_set_1 :=
  ss_cons (ss_if (SW.st (sw_or (st_not (st_val (se_isi .str (se_var 0) T.n_isinstance T.n_str))) (sw_or1 (st_cmp (op_eqA c.room) cs_eq.os (se_var 0) (se_str) (nomark _))))) (ss_one (ss_ret (se_bl))) (ss_nil))
    (ss_one (ss_ret (se_and (se_call (dvs := []) (ok_is_ascending T) c.g.gu (c.room.mono (by decide)) (sa_cons (b := false) (se_var 0) (sa_nil))) (se_one (se_callB (cr_all c.g.calm) os_all T.n_all (sa_cons (b := true) (se_lc [("sign", 2)] c.g (si_any (se_var 0)) (by kernel_rfl) (fun s1 H1 C1 cl1 fp1 => sg_name 2 (cxg_blk c.g s1 H1 _ _ fp1)) (fun s1 H1 C1 cl1 fp1 => sts_nil) (fun s1 H1 C1 cl1 fp1 => se_cmp (op_inB c.room) cs_inB.os (se_var 2) (se_var 1) rfl)) (sa_nil)))))))
theorem ok_is_set (T : Txt w K mg) : Def P w K mg base "is_set" 2 F_is_set 2 [] :=
  def_ok T.f_is_set sc_is_set rfl (fun _ _ _ _ _ _ us hl => match us, hl with | [_, _], _ => rfl) (b_is_set T)
theorem sc_is_rule : FnScope ["value", "letters", "kind", "sets", "known", "one"] ["value", "letters"] (defScope s_is_rule) := ⟨rfl, rfl, rfl, by decide +kernel, rfl, by decide +kernel, by decide +kernel⟩
theorem b_is_rule (T : Txt w K mg) (f : Addr) (cdv : Value) (A : Around) (outer : List Env) (s : Shared) (H : Hp) (E : XK) (c : FnCx (cxOf (L2.CX P w) P w K mg base ["value", "letters", "kind", "sets", "known", "one"] "is_rule" (defScope s_is_rule) f cdv A outer s H E) 2) :
  SSs (cxOf (L2.CX P w) P w K mg base ["value", "letters", "kind", "sets", "known", "one"] "is_rule" (defScope s_is_rule) f cdv A outer s H E) (defBody s_is_rule) r_is_rule_1 :=
  ss_cons (ss_if (SW.st (sw_or (st_not (st_val (se_isi .tuple (se_var 0) T.n_isinstance T.n_tuple))) (sw_or (st_cmp op_lt cs_int.os (se_callB (call_len) os_len T.n_len (sa_cons (b := true) (se_var 0) (sa_nil))) (se_int) (nomark _)) (sw_or (st_not (st_val (se_isi .str (se_ix ix_seq os_ix (se_var 0) (se_int) (fun _ _ => rfl)) T.n_isinstance T.n_str))) (sw_or1 (st_ninT T.t_KINDS (se_ix ix_seq os_ix (se_var 0) (se_int) (fun _ _ => rfl)))))))) (ss_one (ss_ret (se_bl))) (ss_nil))
    (ss_cons (ss_star 2 3 c.g (se_var 0))
    (ss_cons (ss_set 4 c.g (se_ifx (st_cmp (op_eqA c.room) cs_eq.os (se_var 2) (se_str) (nomark _)) (se_op op_addA os_add (se_gstr T.c_END) (se_var 1)) (se_sh (se_var 1))))
    (ss_one (ss_shB [3] (ss_ret (se_and (se_cmp (op_eqA c.room) cs_eq.os (se_callB (call_len) os_len T.n_len (sa_cons (b := true) (se_var 3) (sa_nil))) (se_ixT T.t_KINDS (se_var 2) (fun _ _ => rfl)) (nomark _)) (se_one (se_callB (cr_all c.g.calm) os_all T.n_all (sa_cons (b := true) (se_lc [("one", 5)] c.g (si_any (se_var 3)) (by kernel_rfl) (fun s1 H1 C1 cl1 fp1 => sg_name 5 (cxg_blk c.g s1 H1 _ _ fp1)) (fun s1 H1 C1 cl1 fp1 => sts_nil) (fun s1 H1 C1 cl1 fp1 => se_call (dvs := []) (ok_is_set T) c.g.gu (c.room.mono (by decide)) (sa_cons (b := false) (se_var 5) (sa_cons (b := false) (se_var 4) (sa_nil))))) (sa_nil))))))))))
theorem ok_is_rule (T : Txt w K mg) : Def P w K mg base "is_rule" 3 F_is_rule 2 [] :=
  def_ok T.f_is_rule sc_is_rule rfl (fun _ _ _ _ _ _ us hl => match us, hl with | [_, _], _ => rfl) (b_is_rule T)
theorem sc_is_grammar : FnScope ["value", "letters", "rules", "rule"] ["value"] (defScope s_is_grammar) := ⟨rfl, rfl, rfl, by decide +kernel, rfl, by decide +kernel, by decide +kernel⟩
theorem b_is_grammar (T : Txt w K mg) (f : Addr) (cdv : Value) (A : Around) (outer : List Env) (s : Shared) (H : Hp) (E : XK) (c : FnCx (cxOf (L2.CX P w) P w K mg base ["value", "letters", "rules", "rule"] "is_grammar" (defScope s_is_grammar) f cdv A outer s H E) 3) :
  SSs (cxOf (L2.CX P w) P w K mg base ["value", "letters", "rules", "rule"] "is_grammar" (defScope s_is_grammar) f cdv A outer s H E) (defBody s_is_grammar) r_is_grammar_1 :=
  ss_cons (ss_if (SW.st (sw_or (st_not (st_val (se_isi .tuple (se_var 0) T.n_isinstance T.n_tuple))) (sw_or1 (st_cmp (op_neA c.room) cs_ne.os (se_callB (call_len) os_len T.n_len (sa_cons (b := true) (se_var 0) (sa_nil))) (se_int) (nomark _))))) (ss_one (ss_ret (se_bl))) (ss_nil))
    (ss_cons (ss_unp (se_var 0) (sg_tup c.g (sgs_cons 1 c.g (sgs_cons 2 c.g (sgs_nil)))))
    (ss_cons (ss_if (SW.st (sw_or (st_not (st_val (se_call (dvs := []) (ok_is_set T) c.g.gu (c.room.mono (by decide)) (sa_cons (b := false) (se_var 1) (sa_cons (b := false) (se_gstr T.c_LOWERCASE) (sa_nil)))))) (sw_or1 (st_cmp (op_gtA c.room) cs_gtA.os (se_callB (call_len) os_len T.n_len (sa_cons (b := true) (se_var 1) (sa_nil))) (se_gint T.c_MOST_LETTERS) (nomark _))))) (ss_one (ss_ret (se_bl))) (ss_nil))
    (ss_cons (ss_if (SW.st (sw_or (st_not (st_val (se_isi .list (se_var 2) T.n_isinstance T.n_list))) (sw_or1 (st_not (st_chain op_le op_le cs_int cs_int (se_int) (se_callB (call_len) os_len T.n_len (sa_cons (b := true) (se_var 2) (sa_nil))) (se_gint T.c_MOST_RULES)))))) (ss_one (ss_ret (se_bl))) (ss_nil))
    (ss_one (ss_ret (se_callB (cr_all c.g.calm) os_all T.n_all (sa_cons (b := true) (se_lc [("rule", 3)] c.g (si_any (se_var 2)) (by kernel_rfl) (fun s1 H1 C1 cl1 fp1 => sg_name 3 (cxg_blk c.g s1 H1 _ _ fp1)) (fun s1 H1 C1 cl1 fp1 => sts_nil) (fun s1 H1 C1 cl1 fp1 => se_call (dvs := []) (ok_is_rule T) c.g.gu (c.room.mono (by decide)) (sa_cons (b := false) (se_var 3) (sa_cons (b := false) (se_var 1) (sa_nil))))) (sa_nil))))))))
theorem ok_is_grammar (T : Txt w K mg) : Def P w K mg base "is_grammar" 4 F_is_grammar 1 [] :=
  def_ok T.f_is_grammar sc_is_grammar rfl (fun _ _ _ _ _ _ us hl => match us, hl with | [_], _ => rfl) (b_is_grammar T)
theorem sc_need_grammar : FnScope ["value"] ["value"] (defScope s_need_grammar) := ⟨rfl, rfl, rfl, by decide +kernel, rfl, by decide +kernel, by decide +kernel⟩
theorem b_need_grammar (T : Txt w K mg) (f : Addr) (cdv : Value) (A : Around) (outer : List Env) (s : Shared) (H : Hp) (E : XK) (c : FnCx (cxOf (L2.CX P w) P w K mg base ["value"] "need_grammar" (defScope s_need_grammar) f cdv A outer s H E) 4) :
  SSs (cxOf (L2.CX P w) P w K mg base ["value"] "need_grammar" (defScope s_need_grammar) f cdv A outer s H E) (defBody s_need_grammar) r_need_grammar_1 :=
  ss_one (ss_if (st_not (st_val (se_call (dvs := []) (ok_is_grammar T) c.g.gu (c.room.mono (by decide)) (sa_cons (b := false) (se_var 0) (sa_nil))))) (ss_one (ss_never)) (ss_nil))
theorem ok_need_grammar (T : Txt w K mg) : Def P w K mg base "need_grammar" 5 F_need_grammar 1 [] :=
  def_ok T.f_need_grammar sc_need_grammar rfl (fun _ _ _ _ _ _ us hl => match us, hl with | [_], _ => rfl) (b_need_grammar T)
theorem sc_need_word : FnScope ["grammar", "value", "most", "sign"] ["grammar", "value", "most"] (defScope s_need_word) := ⟨rfl, rfl, rfl, by decide +kernel, rfl, by decide +kernel, by decide +kernel⟩
theorem b_need_word (T : Txt w K mg) (f : Addr) (cdv : Value) (A : Around) (outer : List Env) (s : Shared) (H : Hp) (E : XK) (c : FnCx (cxOf (L2.CX P w) P w K mg base ["grammar", "value", "most", "sign"] "need_word" (defScope s_need_word) f cdv A outer s H E) 0) :
  SSs (cxOf (L2.CX P w) P w K mg base ["grammar", "value", "most", "sign"] "need_word" (defScope s_need_word) f cdv A outer s H E) (defBody s_need_word) r_need_word_1 :=
  ss_one (ss_if (SW.st (sw_or (st_not (st_val (se_isi .str (se_var 1) T.n_isinstance T.n_str))) (sw_or (st_cmp (op_gtA c.room) cs_gtA.os (se_callB (call_len) os_len T.n_len (sa_cons (b := true) (se_var 1) (sa_nil))) (se_var 2) (nomark _)) (sw_or1 (st_not (st_val (se_callB (cr_all c.g.calm) os_all T.n_all (sa_cons (b := true) (se_lc [("sign", 3)] c.g (si_any (se_var 1)) (by kernel_rfl) (fun s1 H1 C1 cl1 fp1 => sg_name 3 (cxg_blk c.g s1 H1 _ _ fp1)) (fun s1 H1 C1 cl1 fp1 => sts_nil) (fun s1 H1 C1 cl1 fp1 => se_cmp (op_inB c.room) cs_inB.os (se_var 3) (se_ix ix_seq os_ix (se_var 0) (se_int) (fun _ _ => rfl)) rfl)) (sa_nil))))))))) (ss_one (ss_never)) (ss_nil))
theorem ok_need_word_2 (T : Txt w K mg) : Def P w K mg base "need_word" 1 F_need_word 3 ([.int 10]) :=
  def_okD 2 0 T.f_need_word sc_need_word rfl (by simp) rfl (fun _ _ _ _ _ _ _ us its h1 h2 => match us, h1, its, h2 with | [_, _], _, [_], _ => ⟨_, rfl, rfl⟩) (b_need_word T)
theorem sc_letter_at : FnScope ["word", "place"] ["word", "place"] (defScope s_letter_at) := ⟨rfl, rfl, rfl, by decide +kernel, rfl, by decide +kernel, by decide +kernel⟩
theorem b_letter_at (T : Txt w K mg) (f : Addr) (cdv : Value) (A : Around) (outer : List Env) (s : Shared) (H : Hp) (E : XK) (c : FnCx (cxOf (L2.CX P w) P w K mg base ["word", "place"] "letter_at" (defScope s_letter_at) f cdv A outer s H E) 0) :
  SSs (cxOf (L2.CX P w) P w K mg base ["word", "place"] "letter_at" (defScope s_letter_at) f cdv A outer s H E) (defBody s_letter_at) r_letter_at_1 :=
  ss_one (ss_ret (se_ifx (st_cmp (op_eqA c.room) cs_eq.os (se_op op_mod os_mod (se_var 1) (se_int)) (se_int) (nomark _)) (se_ix ix_seq os_ix (se_var 0) (se_op op_fdivW os_div (se_var 1) (se_int)) (fun _ _ => rfl)) (se_non)))
theorem ok_letter_at (T : Txt w K mg) : Def P w K mg base "letter_at" 1 F_letter_at 2 [] :=
  def_ok T.f_letter_at sc_letter_at rfl (fun _ _ _ _ _ _ us hl => match us, hl with | [_, _], _ => rfl) (b_letter_at T)
theorem sc_kept_steps : FnScope ["grammar", "word", "place"] ["grammar", "word"] (defScope s_kept_steps) := ⟨rfl, rfl, rfl, by decide +kernel, rfl, by decide +kernel, by decide +kernel⟩
theorem b_kept_steps (T : Txt w K mg) (f : Addr) (cdv : Value) (A : Around) (outer : List Env) (s : Shared) (H : Hp) (E : XK) (c : FnCx (cxOf (L2.CX P w) P w K mg base ["grammar", "word", "place"] "kept_steps" (defScope s_kept_steps) f cdv A outer s H E) 5) :
  SSs (cxOf (L2.CX P w) P w K mg base ["grammar", "word", "place"] "kept_steps" (defScope s_kept_steps) f cdv A outer s H E) (defBody s_kept_steps) r_kept_steps_1 :=
  ss_cons (ss_expr (se_call (dvs := []) (ok_need_grammar T) c.g.gu (c.room.mono (by decide)) (sa_cons (b := false) (se_var 0) (sa_nil))))
    (ss_cons (ss_expr (se_call (dvs := [.int 10]) (ok_need_word_2 T) c.g.gu (c.room.mono (by decide)) (sa_cons (b := false) (se_var 0) (sa_cons (b := false) (se_var 1) (sa_nil)))))
    (ss_one (ss_ret (se_lc [("place", 2)] c.g (si_rng1 T.n_range (sa_cons (b := true) (se_op op_addA os_add (se_op op_mulT os_mulT (se_int) (se_callB (call_len) os_len T.n_len (sa_cons (b := true) (se_var 1) (sa_nil)))) (se_int)) (sa_nil))) (by kernel_rfl) (fun s1 H1 C1 cl1 fp1 => sg_name 2 (cxg_blk c.g s1 H1 _ _ fp1)) (fun s1 H1 C1 cl1 fp1 => sts_nil) (fun s1 H1 C1 cl1 fp1 => se_ifx (st_cmp (op_eqA c.room) cs_eq.os (se_op op_mod os_mod (se_var 2) (se_int)) (se_int) (nomark _)) (se_call (dvs := []) (ok_letter_at T) c.g.gu (c.room.mono (by decide)) (sa_cons (b := false) (se_var 1) (sa_cons (b := false) (se_var 2) (sa_nil)))) (se_str))))))
theorem ok_kept_steps (T : Txt w K mg) : Def P w K mg base "kept_steps" 6 F_kept_steps 2 [] :=
  def_ok T.f_kept_steps sc_kept_steps rfl (fun _ _ _ _ _ _ us hl => match us, hl with | [_, _], _ => rfl) (b_kept_steps T)
theorem sc__law_faults : FnScope ["_law_rule_here", "_law_word_here", "_law_steps_here", "_law_output", "_law_kind", "_law_around", "_law_became", "_law_changed", "_law_sign", "_law_one", "_law_two", "_law_item", "_law_letter"] ["_law_rule_here", "_law_word_here", "_law_steps_here"] (defScope s__law_faults) := ⟨rfl, rfl, rfl, by decide +kernel, rfl, by decide +kernel, by decide +kernel⟩
theorem b__law_faults (T : Txt w K mg) (f : Addr) (cdv : Value) (A : Around) (outer : List Env) (s : Shared) (H : Hp) (E : XK) (c : FnCx (cxOf (L2.CX P w) P w K mg base ["_law_rule_here", "_law_word_here", "_law_steps_here", "_law_output", "_law_kind", "_law_around", "_law_became", "_law_changed", "_law_sign", "_law_one", "_law_two", "_law_item", "_law_letter"] "_law_faults" (defScope s__law_faults) f cdv A outer s H E) 0) :
  SSs (cxOf (L2.CX P w) P w K mg base ["_law_rule_here", "_law_word_here", "_law_steps_here", "_law_output", "_law_kind", "_law_around", "_law_became", "_law_changed", "_law_sign", "_law_one", "_law_two", "_law_item", "_law_letter"] "_law_faults" (defScope s__law_faults) f cdv A outer s H E) (defBody s__law_faults) r__law_faults_1 :=
  ss_cons (ss_par 3 4 true true c.g (se_mt PySem.F.plainAttrs_str PySem.F.slot_str_join PySem.F.type_str_join mt_join om_join (se_str) (sa_cons (b := true) (se_var 2) (sa_nil))) (se_ix ix_seq os_ix (se_var 0) (se_int) (fun _ _ => rfl)))
    (ss_cons (ss_if (st_cmp (op_eqA c.room) cs_eq.os (se_var 4) (se_str) (nomark _)) (ss_one (ss_ret (se_callB (call_len) os_len T.n_len (sa_cons (b := true) (se_lc [("_law_sign", 8)] c.g (si_any (se_var 3)) (by kernel_rfl) (fun s1 H1 C1 cl1 fp1 => sg_name 8 (cxg_blk c.g s1 H1 _ _ fp1)) (fun s1 H1 C1 cl1 fp1 => sts_one (st_cmp (op_inB c.room) cs_inB.os (se_var 8) (se_ix ix_seq os_ix (se_var 0) (se_int) (fun _ _ => rfl)) rfl)) (fun s1 H1 C1 cl1 fp1 => se_int)) (sa_nil))))) (ss_nil))
    (ss_cons (ss_if (st_cmp (op_eqA c.room) cs_eq.os (se_var 4) (se_str) (nomark _)) (ss_cons (ss_set 5 c.g (se_op op_addA os_add (se_op op_addA os_add (se_str) (se_var 3)) (se_str)))
    (ss_one (ss_ret (se_callB (call_len) os_len T.n_len (sa_cons (b := true) (se_lc [("_law_one", 9), ("_law_two", 10)] c.g (si_zipS T.n_zip (sa_cons (b := false) (se_var 5) (sa_cons (b := false) (se_slS (se_var 5) (sp_some (se_int)) (sp_none)) (sa_nil)))) (by kernel_rfl) (fun s1 H1 C1 cl1 fp1 => sg_tup (cxg_blk c.g s1 H1 _ _ fp1) (sgs_cons 9 (cxg_blk c.g s1 H1 _ _ fp1) (sgs_cons 10 (cxg_blk c.g s1 H1 _ _ fp1) (sgs_nil)))) (fun s1 H1 C1 cl1 fp1 => sts_one (SW.st (sw_and (st_cmp (op_inB c.room) cs_inB.os (se_var 9) (se_ix ix_seq os_ix (se_var 0) (se_int) (fun _ _ => rfl)) rfl) (sw_and1 (st_cmp (op_inB c.room) cs_inB.os (se_var 10) (se_ix ix_seq os_ix (se_var 0) (se_int) (fun _ _ => rfl)) rfl))))) (fun s1 H1 C1 cl1 fp1 => se_int)) (sa_nil)))))) (ss_nil))
    (ss_cons (ss_if (st_cmp (op_eqA c.room) cs_eq.os (se_var 4) (se_str) (nomark _)) (ss_one (ss_ret (se_callB (call_len) os_len T.n_len (sa_cons (b := true) (se_lc [("_law_item", 11)] c.g (si_any (se_ev2 (se_var 2))) (by kernel_rfl) (fun s1 H1 C1 cl1 fp1 => sg_name 11 (cxg_blk c.g s1 H1 _ _ fp1)) (fun s1 H1 C1 cl1 fp1 => sts_one (SW.st (sw_and (st_cmp (op_neA c.room) cs_ne.os (se_var 11) (se_str) (nomark _)) (sw_and1 (st_cmp (op_inB c.room) cs_inB.os (se_var 11) (se_ix ix_seq os_ix (se_var 0) (se_int) (fun _ _ => rfl)) rfl))))) (fun s1 H1 C1 cl1 fp1 => se_int)) (sa_nil))))) (ss_nil))
    (ss_cons (ss_set 6 c.g (se_sh (se_listZip c.g T.n_zip T.n_list (sa_cons (b := false) (se_var 1) (sa_cons (b := false) (se_od2 (se_var 2)) (sa_nil))))))
    (ss_cons (ss_if (st_cmp (op_eqA c.room) cs_eq.os (se_var 4) (se_str) (nomark _)) (ss_one (ss_ret (se_callB (call_len) os_len T.n_len (sa_cons (b := true) (se_lc [("_law_letter", 12), ("_law_item", 11)] c.g (si_any (se_var 6)) (by kernel_rfl) (fun s1 H1 C1 cl1 fp1 => sg_tup (cxg_blk c.g s1 H1 _ _ fp1) (sgs_cons 12 (cxg_blk c.g s1 H1 _ _ fp1) (sgs_cons 11 (cxg_blk c.g s1 H1 _ _ fp1) (sgs_nil)))) (fun s1 H1 C1 cl1 fp1 => sts_one (SW.st (sw_and (st_cmp (op_eqA c.room) cs_eq.os (se_var 11) (se_str) (nomark _)) (sw_and1 (st_cmp (op_inB c.room) cs_inB.os (se_var 12) (se_ix ix_seq os_ix (se_var 0) (se_int) (fun _ _ => rfl)) rfl))))) (fun s1 H1 C1 cl1 fp1 => se_int)) (sa_nil))))) (ss_nil))
    (ss_cons (ss_shE [7] (ss_setLc [("_law_letter", 12), ("_law_item", 11)] 7 c.g (si_any (se_var 6)) (by kernel_rfl) (fun s1 H1 C1 cl1 fp1 => sg_tup (cxg_blk c.g s1 H1 _ _ fp1) (sgs_cons 12 (cxg_blk c.g s1 H1 _ _ fp1) (sgs_cons 11 (cxg_blk c.g s1 H1 _ _ fp1) (sgs_nil)))) (fun s1 H1 C1 cl1 fp1 => sts_one (SW.st (sw_and (st_cmp (op_neA c.room) cs_ne.os (se_var 11) (se_str) (nomark _)) (sw_and1 (st_cmp (op_neA c.room) cs_ne.os (se_var 11) (se_var 12) (nomark _)))))) (fun s1 H1 C1 cl1 fp1 => se_tup (sa_cons (b := false) (se_var 12) (sa_cons (b := false) (se_var 11) (sa_nil)))) (sw_true rfl rfl rfl (by decide +kernel))))
    (ss_one (ss_ret (se_callB (call_len) os_len T.n_len (sa_cons (b := true) (se_lc [("_law_letter", 12), ("_law_item", 11)] c.g (si_any (se_var 7)) (by kernel_rfl) (fun s1 H1 C1 cl1 fp1 => sg_tup (cxg_blk c.g s1 H1 _ _ fp1) (sgs_cons 12 (cxg_blk c.g s1 H1 _ _ fp1) (sgs_cons 11 (cxg_blk c.g s1 H1 _ _ fp1) (sgs_nil)))) (fun s1 H1 C1 cl1 fp1 => sts_one (SW.st (sw_and (st_cmp (op_inB c.room) cs_inB.os (se_var 12) (se_ix ix_seq os_ix (se_var 0) (se_int) (fun _ _ => rfl)) rfl) (sw_and1 (st_cmp (op_inB c.room) cs_inB.os (se_var 11) (se_ix ix_seq os_ix (se_var 0) (se_int) (fun _ _ => rfl)) rfl))))) (fun s1 H1 C1 cl1 fp1 => se_int)) (sa_nil)))))))))))
theorem ok__law_faults (T : Txt w K mg) : Def P w K mg base "_law_faults" 1 F__law_faults 3 [] :=
  def_ok T.f__law_faults sc__law_faults rfl (fun _ _ _ _ _ _ us hl => match us, hl with | [_, _, _], _ => rfl) (b__law_faults T)
theorem sc_fits : FnScope ["letters", "word", "value", "item"] ["letters", "word", "value"] (defScope s_fits) := ⟨rfl, rfl, rfl, by decide +kernel, rfl, by decide +kernel, by decide +kernel⟩
theorem b_fits (T : Txt w K mg) (f : Addr) (cdv : Value) (A : Around) (outer : List Env) (s : Shared) (H : Hp) (E : XK) (c : FnCx (cxOf (L2.CX P w) P w K mg base ["letters", "word", "value", "item"] "fits" (defScope s_fits) f cdv A outer s H E) 0) :
  SSs (cxOf (L2.CX P w) P w K mg base ["letters", "word", "value", "item"] "fits" (defScope s_fits) f cdv A outer s H E) (defBody s_fits) r_fits_1 :=
  ss_cons (ss_if (SW.st (sw_or (st_not (st_val (se_isi .list (se_var 2) T.n_isinstance T.n_list))) (sw_or1 (st_cmp (op_neA c.room) cs_ne.os (se_callB (call_len) os_len T.n_len (sa_cons (b := true) (se_var 2) (sa_nil))) (se_op op_addA os_add (se_op op_mulT os_mulT (se_int) (se_callB (call_len) os_len T.n_len (sa_cons (b := true) (se_var 1) (sa_nil)))) (se_int)) (nomark _))))) (ss_one (ss_ret (se_bl))) (ss_nil))
    (ss_one (ss_ret (se_callB (cr_all c.g.calm) os_all T.n_all (sa_cons (b := true) (se_lc [("item", 3)] c.g (si_any (se_var 2)) (by kernel_rfl) (fun s1 H1 C1 cl1 fp1 => sg_name 3 (cxg_blk c.g s1 H1 _ _ fp1)) (fun s1 H1 C1 cl1 fp1 => sts_nil) (fun s1 H1 C1 cl1 fp1 => se_and (se_isi .str (se_var 3) T.n_isinstance T.n_str) (se_and (se_cmp op_le cs_int.os (se_callB (call_len) os_len T.n_len (sa_cons (b := true) (se_var 3) (sa_nil))) (se_int) (nomark _)) (se_one (se_cmp (op_inB c.room) cs_inB.os (se_var 3) (se_var 0) rfl))))) (sa_nil)))))
theorem ok_fits (T : Txt w K mg) : Def P w K mg base "fits" 1 F_fits 3 [] :=
  def_ok T.f_fits sc_fits rfl (fun _ _ _ _ _ _ us hl => match us, hl with | [_, _, _], _ => rfl) (b_fits T)
theorem sc_is_steps : FnScope ["grammar", "word", "value"] ["grammar", "word", "value"] (defScope s_is_steps) := ⟨rfl, rfl, rfl, by decide +kernel, rfl, by decide +kernel, by decide +kernel⟩
theorem b_is_steps (T : Txt w K mg) (f : Addr) (cdv : Value) (A : Around) (outer : List Env) (s : Shared) (H : Hp) (E : XK) (c : FnCx (cxOf (L2.CX P w) P w K mg base ["grammar", "word", "value"] "is_steps" (defScope s_is_steps) f cdv A outer s H E) 5) :
  SSs (cxOf (L2.CX P w) P w K mg base ["grammar", "word", "value"] "is_steps" (defScope s_is_steps) f cdv A outer s H E) (defBody s_is_steps) r_is_steps_1 :=
  ss_cons (ss_expr (se_call (dvs := []) (ok_need_grammar T) c.g.gu (c.room.mono (by decide)) (sa_cons (b := false) (se_var 0) (sa_nil))))
    (ss_cons (ss_expr (se_call (dvs := [.int 10]) (ok_need_word_2 T) c.g.gu (c.room.mono (by decide)) (sa_cons (b := false) (se_var 0) (sa_cons (b := false) (se_var 1) (sa_nil)))))
    (ss_one (ss_ret (se_call (dvs := []) (ok_fits T) c.g.gu (c.room.mono (by decide)) (sa_cons (b := false) (se_ix ix_seq os_ix (se_var 0) (se_int) (fun _ _ => rfl)) (sa_cons (b := false) (se_var 1) (sa_cons (b := false) (se_var 2) (sa_nil))))))))
theorem ok_is_steps (T : Txt w K mg) : Def P w K mg base "is_steps" 6 F_is_steps 3 [] :=
  def_ok T.f_is_steps sc_is_steps rfl (fun _ _ _ _ _ _ us hl => match us, hl with | [_, _, _], _ => rfl) (b_is_steps T)
theorem sc_need_steps : FnScope ["grammar", "word", "steps"] ["grammar", "word", "steps"] (defScope s_need_steps) := ⟨rfl, rfl, rfl, by decide +kernel, rfl, by decide +kernel, by decide +kernel⟩
theorem b_need_steps (T : Txt w K mg) (f : Addr) (cdv : Value) (A : Around) (outer : List Env) (s : Shared) (H : Hp) (E : XK) (c : FnCx (cxOf (L2.CX P w) P w K mg base ["grammar", "word", "steps"] "need_steps" (defScope s_need_steps) f cdv A outer s H E) 6) :
  SSs (cxOf (L2.CX P w) P w K mg base ["grammar", "word", "steps"] "need_steps" (defScope s_need_steps) f cdv A outer s H E) (defBody s_need_steps) r_need_steps_1 :=
  ss_one (ss_if (st_not (st_val (se_call (dvs := []) (ok_is_steps T) c.g.gu (c.room.mono (by decide)) (sa_cons (b := false) (se_var 0) (sa_cons (b := false) (se_var 1) (sa_cons (b := false) (se_var 2) (sa_nil))))))) (ss_one (ss_never)) (ss_nil))
theorem ok_need_steps (T : Txt w K mg) : Def P w K mg base "need_steps" 7 F_need_steps 3 [] :=
  def_ok T.f_need_steps sc_need_steps rfl (fun _ _ _ _ _ _ us hl => match us, hl with | [_, _, _], _ => rfl) (b_need_steps T)
theorem sc_item_faults : FnScope ["rule", "letter", "item", "last", "kind"] ["rule", "letter", "item", "last"] (defScope s_item_faults) := ⟨rfl, rfl, rfl, by decide +kernel, rfl, by decide +kernel, by decide +kernel⟩
theorem b_item_faults (T : Txt w K mg) (f : Addr) (cdv : Value) (A : Around) (outer : List Env) (s : Shared) (H : Hp) (E : XK) (c : FnCx (cxOf (L2.CX P w) P w K mg base ["rule", "letter", "item", "last", "kind"] "item_faults" (defScope s_item_faults) f cdv A outer s H E) 0) :
  SSs (cxOf (L2.CX P w) P w K mg base ["rule", "letter", "item", "last", "kind"] "item_faults" (defScope s_item_faults) f cdv A outer s H E) (defBody s_item_faults) r_item_faults_1 :=
  ss_cons (ss_set 4 c.g (se_ix ix_seq os_ix (se_var 0) (se_int) (fun _ _ => rfl)))
    (ss_cons (ss_if (st_cmp (op_eqA c.room) cs_eq.os (se_var 4) (se_str) (nomark _)) (ss_one (ss_ret (se_callTy (call_int1) os_int T.n_int (sa_cons (b := true) (se_and (se_cmp (op_neA c.room) cs_ne.os (se_var 2) (se_str) (nomark _)) (se_and (se_cmp (op_inB c.room) cs_inB.os (se_var 3) (se_ix ix_seq os_ix (se_var 0) (se_int) (fun _ _ => rfl)) rfl) (se_one (se_cmp (op_inB c.room) cs_inB.os (se_var 2) (se_ix ix_seq os_ix (se_var 0) (se_int) (fun _ _ => rfl)) rfl)))) (sa_nil))))) (ss_nil))
    (ss_cons (ss_if (st_cmp (op_eqA c.room) cs_eq.os (se_var 4) (se_str) (nomark _)) (ss_one (ss_ret (se_callTy (call_int1) os_int T.n_int (sa_cons (b := true) (se_and (se_cmp (op_neA c.room) cs_ne.os (se_var 2) (se_str) (nomark _)) (se_one (se_cmp (op_inB c.room) cs_inB.os (se_var 2) (se_ix ix_seq os_ix (se_var 0) (se_int) (fun _ _ => rfl)) rfl))) (sa_nil))))) (ss_nil))
    (ss_cons (ss_if (st_cmp (op_eqA c.room) cs_eq.os (se_var 4) (se_str) (nomark _)) (ss_one (ss_ret (se_callTy (call_int1) os_int T.n_int (sa_cons (b := true) (se_and (se_cmp op_isN cs_isN.os (se_var 1) (se_non) (nomark _)) (se_and (se_cmp (op_neA c.room) cs_ne.os (se_var 2) (se_str) (nomark _)) (se_one (se_cmp (op_inB c.room) cs_inB.os (se_var 2) (se_ix ix_seq os_ix (se_var 0) (se_int) (fun _ _ => rfl)) rfl)))) (sa_nil))))) (ss_nil))
    (ss_cons (ss_if (SW.st (sw_or (st_cmp op_isN cs_isN.os (se_var 1) (se_non) (nomark _)) (sw_or1 (st_cmp (op_notInB c.room) cs_notInB.os (se_var 1) (se_ix ix_seq os_ix (se_var 0) (se_int) (fun _ _ => rfl)) rfl)))) (ss_one (ss_ret (se_int))) (ss_nil))
    (ss_cons (ss_if (st_cmp (op_eqA c.room) cs_eq.os (se_var 4) (se_str) (nomark _)) (ss_one (ss_ret (se_callTy (call_int1) os_int T.n_int (sa_cons (b := true) (se_cmp (op_eqA c.room) cs_eq.os (se_var 2) (se_str) (nomark _)) (sa_nil))))) (ss_nil))
    (ss_one (ss_ret (se_callTy (call_int1) os_int T.n_int (sa_cons (b := true) (se_and (se_cmp (op_neA c.room) cs_ne.os (se_var 2) (se_str) (nomark _)) (se_and (se_cmp (op_neA c.room) cs_ne.os (se_var 2) (se_var 1) (nomark _)) (se_one (se_cmp (op_inB c.room) cs_inB.os (se_var 2) (se_ix ix_seq os_ix (se_var 0) (se_int) (fun _ _ => rfl)) rfl)))) (sa_nil))))))))))
theorem ok_item_faults (T : Txt w K mg) : Def P w K mg base "item_faults" 1 F_item_faults 4 [] :=
  def_ok T.f_item_faults sc_item_faults rfl (fun _ _ _ _ _ _ us hl => match us, hl with | [_, _, _, _], _ => rfl) (b_item_faults T)
theorem sc_end_faults : FnScope ["rule", "last"] ["rule", "last"] (defScope s_end_faults) := ⟨rfl, rfl, rfl, by decide +kernel, rfl, by decide +kernel, by decide +kernel⟩
theorem b_end_faults (T : Txt w K mg) (f : Addr) (cdv : Value) (A : Around) (outer : List Env) (s : Shared) (H : Hp) (E : XK) (c : FnCx (cxOf (L2.CX P w) P w K mg base ["rule", "last"] "end_faults" (defScope s_end_faults) f cdv A outer s H E) 0) :
  SSs (cxOf (L2.CX P w) P w K mg base ["rule", "last"] "end_faults" (defScope s_end_faults) f cdv A outer s H E) (defBody s_end_faults) r_end_faults_1 :=
  ss_one (ss_ret (se_callTy (call_int1) os_int T.n_int (sa_cons (b := true) (se_and (se_cmp (op_eqA c.room) cs_eq.os (se_ix ix_seq os_ix (se_var 0) (se_int) (fun _ _ => rfl)) (se_str) (nomark _)) (se_and (se_cmp (op_inB c.room) cs_inB.os (se_var 1) (se_ix ix_seq os_ix (se_var 0) (se_int) (fun _ _ => rfl)) rfl) (se_one (se_cmp (op_inB c.room) cs_inB.os (se_gstr T.c_END) (se_ix ix_seq os_ix (se_var 0) (se_int) (fun _ _ => rfl)) rfl)))) (sa_nil))))
theorem ok_end_faults (T : Txt w K mg) : Def P w K mg base "end_faults" 1 F_end_faults 2 [] :=
  def_ok T.f_end_faults sc_end_faults rfl (fun _ _ _ _ _ _ us hl => match us, hl with | [_, _], _ => rfl) (b_end_faults T)
theorem sc_rule_faults : FnScope ["rule", "word", "steps", "found", "last", "place", "item"] ["rule", "word", "steps"] (defScope s_rule_faults) := ⟨rfl, rfl, rfl, by decide +kernel, rfl, by decide +kernel, by decide +kernel⟩
theorem b_rule_faults (T : Txt w K mg) (f : Addr) (cdv : Value) (A : Around) (outer : List Env) (s : Shared) (H : Hp) (E : XK) (c : FnCx (cxOf (L2.CX P w) P w K mg base ["rule", "word", "steps", "found", "last", "place", "item"] "rule_faults" (defScope s_rule_faults) f cdv A outer s H E) 1) :
  SSs (cxOf (L2.CX P w) P w K mg base ["rule", "word", "steps", "found", "last", "place", "item"] "rule_faults" (defScope s_rule_faults) f cdv A outer s H E) (defBody s_rule_faults) r_rule_faults_1 :=
  ss_cons (ss_par 3 4 true false c.g (se_int) (se_gstr T.c_END))
    (ss_cons (ss_fgB [5, 6] (ss_for c.g (si_enumA T.n_enumerate (sa_cons (b := false) (se_var 2) (sa_nil))) (sg_tup c.g (sgs_cons 5 c.g (sgs_cons 6 c.g (sgs_nil)))) (sss_fgE [5, 6] (ss_cons (ss_aug 3 c.g iop_add os_Ip (se_call (dvs := []) (ok_item_faults T) c.g.gu (c.room.mono (by decide)) (sa_cons (b := false) (se_var 0) (sa_cons (b := false) (se_call (dvs := []) (ok_letter_at T) c.g.gu (c.room.mono (by decide)) (sa_cons (b := false) (se_var 1) (sa_cons (b := false) (se_var 5) (sa_nil)))) (sa_cons (b := false) (se_var 6) (sa_cons (b := false) (se_var 4) (sa_nil)))))))
    (ss_one (ss_set 4 c.g (se_ifx (st_cmp (op_eqA c.room) cs_eq.os (se_var 6) (se_str) (nomark _)) (se_sh (se_var 4)) (se_sh (se_var 6)))))))))
    (ss_one (ss_ret (se_op op_addA os_add (se_var 3) (se_call (dvs := []) (ok_end_faults T) c.g.gu (c.room.mono (by decide)) (sa_cons (b := false) (se_var 0) (sa_cons (b := false) (se_var 4) (sa_nil))))))))
theorem ok_rule_faults (T : Txt w K mg) : Def P w K mg base "rule_faults" 2 F_rule_faults 3 [] :=
  def_ok T.f_rule_faults sc_rule_faults rfl (fun _ _ _ _ _ _ us hl => match us, hl with | [_, _, _], _ => rfl) (b_rule_faults T)
theorem sc_faults_of : FnScope ["grammar", "word", "steps", "rule"] ["grammar", "word", "steps"] (defScope s_faults_of) := ⟨rfl, rfl, rfl, by decide +kernel, rfl, by decide +kernel, by decide +kernel⟩
theorem b_faults_of (T : Txt w K mg) (f : Addr) (cdv : Value) (A : Around) (outer : List Env) (s : Shared) (H : Hp) (E : XK) (c : FnCx (cxOf (L2.CX P w) P w K mg base ["grammar", "word", "steps", "rule"] "faults_of" (defScope s_faults_of) f cdv A outer s H E) 7) :
  SSs (cxOf (L2.CX P w) P w K mg base ["grammar", "word", "steps", "rule"] "faults_of" (defScope s_faults_of) f cdv A outer s H E) (defBody s_faults_of) r_faults_of_1 :=
  ss_cons (ss_expr (se_call (dvs := []) (ok_need_steps T) c.g.gu (c.room.mono (by decide)) (sa_cons (b := false) (se_var 0) (sa_cons (b := false) (se_var 1) (sa_cons (b := false) (se_var 2) (sa_nil))))))
    (ss_one (ss_ret (se_lc [("rule", 3)] c.g (si_any (se_ix ix_seq os_ix (se_var 0) (se_int) (fun _ _ => rfl))) (by kernel_rfl) (fun s1 H1 C1 cl1 fp1 => sg_name 3 (cxg_blk c.g s1 H1 _ _ fp1)) (fun s1 H1 C1 cl1 fp1 => sts_nil) (fun s1 H1 C1 cl1 fp1 => se_call (dvs := []) (ok_rule_faults T) c.g.gu (c.room.mono (by decide)) (sa_cons (b := false) (se_var 3) (sa_cons (b := false) (se_var 1) (sa_cons (b := false) (se_var 2) (sa_nil))))))))
theorem ok_faults_of (T : Txt w K mg) : Def P w K mg base "faults_of" 8 F_faults_of 3 [] :=
  def_ok T.f_faults_of sc_faults_of rfl (fun _ _ _ _ _ _ us hl => match us, hl with | [_, _, _], _ => rfl) (b_faults_of T)
theorem sc__law_steps : FnScope ["_law_purse_here", "_law_letters", "_law_word_here", "_law_way", "_law_found", "_law_place", "_law_item"] ["_law_purse_here", "_law_letters", "_law_word_here"] (defScope s__law_steps) := ⟨rfl, rfl, rfl, by decide +kernel, rfl, by decide +kernel, by decide +kernel⟩
theorem b__law_steps (T : Txt w K mg) (f : Addr) (cdv : Value) (A : Around) (outer : List Env) (s : Shared) (H : Hp) (E : XK) (c : FnCx (cxOf (L2.CX P w) P w K mg base ["_law_purse_here", "_law_letters", "_law_word_here", "_law_way", "_law_found", "_law_place", "_law_item"] "_law_steps" (defScope s__law_steps) f cdv A outer s H E) 1) :
  SSs (cxOf (L2.CX P w) P w K mg base ["_law_purse_here", "_law_letters", "_law_word_here", "_law_way", "_law_found", "_law_place", "_law_item"] "_law_steps" (defScope s__law_steps) f cdv A outer s H E) (defBody s__law_steps) r__law_steps_1 :=
  ss_cons (ss_par 3 4 true true c.g (se_call (dvs := []) (ok__law_coin T) c.g.gu (c.room.mono (by decide)) (sa_cons (b := true) (se_var 0) (sa_cons (b := false) (se_int) (sa_nil)))) (se_lst (sa_nil)))
    (ss_cons (ss_fgB [5, 6] (ss_for c.g (si_rng1 T.n_range (sa_cons (b := true) (se_op op_addA os_add (se_op op_mulT os_mulT (se_int) (se_callB (call_len) os_len T.n_len (sa_cons (b := true) (se_var 2) (sa_nil)))) (se_int)) (sa_nil))) (sg_name 5 c.g) (sss_fgE [5, 6] (ss_cons (ss_set 6 c.g (se_ix ix_seq os_ix (se_op op_addA os_add (se_lst (sa_cons (b := false) (se_str) (sa_cons (b := false) (se_str) (sa_nil)))) (se_callTy ((call_listS c.g.calm)) os_listS T.n_list (sa_cons (b := true) (se_var 1) (sa_nil)))) (se_call (dvs := []) (ok__law_coin T) c.g.gu (c.room.mono (by decide)) (sa_cons (b := true) (se_var 0) (sa_cons (b := false) (se_op op_addA os_add (se_callB (call_len) os_len T.n_len (sa_cons (b := true) (se_var 1) (sa_nil))) (se_int)) (sa_nil)))) (fun _ _ => rfl)))
    (ss_cons (ss_if (SW.st (sw_and (st_cmp (op_gtA c.room) cs_gtA.os (se_var 3) (se_int) (nomark _)) (sw_and1 (st_cmp (op_gtA c.room) cs_gtA.os (se_call (dvs := []) (ok__law_coin T) c.g.gu (c.room.mono (by decide)) (sa_cons (b := true) (se_var 0) (sa_cons (b := false) (se_int) (sa_nil)))) (se_int) (nomark _))))) (ss_one (ss_set 6 c.g (se_ifx (st_cmp (op_eqA c.room) cs_eq.os (se_op op_mod os_mod (se_var 5) (se_int)) (se_int) (nomark _)) (se_ix ix_seq os_ix (se_var 2) (se_op op_fdivW os_div (se_var 5) (se_int)) (fun _ _ => rfl)) (se_str)))) (ss_nil))
    (ss_one (ss_expr (se_mut 4 PySem.F.slot_list_append PySem.F.type_list_append mt_append ms_append (sa_cons (b := false) (se_var 6) (sa_nil))))))))))
    (ss_one (ss_ret (se_var 4))))
theorem ok__law_steps (T : Txt w K mg) : Def P w K mg base "_law_steps" 2 F__law_steps 3 [] :=
  def_ok T.f__law_steps sc__law_steps rfl (fun _ _ _ _ _ _ us hl => match us, hl with | [_, _, _], _ => rfl) (b__law_steps T)
theorem sc_output_of : FnScope ["grammar", "word", "steps"] ["grammar", "word", "steps"] (defScope s_output_of) := ⟨rfl, rfl, rfl, by decide +kernel, rfl, by decide +kernel, by decide +kernel⟩
theorem b_output_of (T : Txt w K mg) (f : Addr) (cdv : Value) (A : Around) (outer : List Env) (s : Shared) (H : Hp) (E : XK) (c : FnCx (cxOf (L2.CX P w) P w K mg base ["grammar", "word", "steps"] "output_of" (defScope s_output_of) f cdv A outer s H E) 7) :
  SSs (cxOf (L2.CX P w) P w K mg base ["grammar", "word", "steps"] "output_of" (defScope s_output_of) f cdv A outer s H E) (defBody s_output_of) r_output_of_1 :=
  ss_cons (ss_expr (se_call (dvs := []) (ok_need_steps T) c.g.gu (c.room.mono (by decide)) (sa_cons (b := false) (se_var 0) (sa_cons (b := false) (se_var 1) (sa_cons (b := false) (se_var 2) (sa_nil))))))
    (ss_one (ss_ret (se_mt PySem.F.plainAttrs_str PySem.F.slot_str_join PySem.F.type_str_join mt_join om_join (se_str) (sa_cons (b := true) (se_var 2) (sa_nil)))))
theorem ok_output_of (T : Txt w K mg) : Def P w K mg base "output_of" 8 F_output_of 3 [] :=
  def_ok T.f_output_of sc_output_of rfl (fun _ _ _ _ _ _ us hl => match us, hl with | [_, _, _], _ => rfl) (b_output_of T)
theorem sc__law_no_steps : FnScope ["_law_purse_here", "_law_letters", "_law_word_here", "_law_steps_here", "_law_at", "_law_odd", "_law_found", "_law_one"] ["_law_purse_here", "_law_letters", "_law_word_here", "_law_steps_here"] (defScope s__law_no_steps) := ⟨rfl, rfl, rfl, by decide +kernel, rfl, by decide +kernel, by decide +kernel⟩
theorem b__law_no_steps (T : Txt w K mg) (f : Addr) (cdv : Value) (A : Around) (outer : List Env) (s : Shared) (H : Hp) (E : XK) (c : FnCx (cxOf (L2.CX P w) P w K mg base ["_law_purse_here", "_law_letters", "_law_word_here", "_law_steps_here", "_law_at", "_law_odd", "_law_found", "_law_one"] "_law_no_steps" (defScope s__law_no_steps) f cdv A outer s H E) 1) :
  SSs (cxOf (L2.CX P w) P w K mg base ["_law_purse_here", "_law_letters", "_law_word_here", "_law_steps_here", "_law_at", "_law_odd", "_law_found", "_law_one"] "_law_no_steps" (defScope s__law_no_steps) f cdv A outer s H E) (defBody s__law_no_steps) r__law_no_steps_1 :=
  ss_cons (ss_set 4 c.g (se_call (dvs := []) (ok__law_coin T) c.g.gu (c.room.mono (by decide)) (sa_cons (b := true) (se_var 0) (sa_cons (b := false) (se_callB (call_len) os_len T.n_len (sa_cons (b := true) (se_var 3) (sa_nil))) (sa_nil)))))
    (ss_cons (ss_set 5 c.g (se_sh (se_lst (sa_cons (b := false) (se_str) (sa_cons (b := false) (se_op op_mulT os_mulT (se_ix ix_seq os_ix (se_var 1) (se_int) (fun _ _ => rfl)) (se_int)) (sa_cons (b := false) (se_non) (sa_cons (b := false) (se_int) (sa_cons (b := false) (se_str) (sa_cons (b := false) (se_up (se_ix ix_seq os_ix (se_var 1) (se_int) (fun _ _ => rfl))) (sa_cons (b := false) (se_lst (sa_cons (b := false) (se_ix ix_seq os_ix (se_var 1) (se_int) (fun _ _ => rfl)) (sa_nil))) (sa_cons (b := false) (se_op op_addA os_add (se_ix ix_seq os_ix (se_var 1) (se_int) (fun _ _ => rfl)) (se_str)) (sa_cons (b := false) (se_bl) (sa_cons (b := false) (se_str) (sa_nil))))))))))))))
    (ss_cons (ss_if (st_cmp (op_gtA c.room) cs_gtA.os (se_callB (call_len) os_len T.n_len (sa_cons (b := true) (se_var 1) (sa_nil))) (se_int) (nomark _)) (ss_one (ss_set 5 c.g (se_sh (se_op op_addA os_add (se_var 5) (se_lst (sa_cons (b := false) (se_slS (se_var 1) (sp_none) (sp_some (se_int))) (sa_cons (b := false) (se_slS (se_var 1) (sp_some (se_neg (se_int))) (sp_none)) (sa_cons (b := false) (se_var 1) (sa_nil))))))))) (ss_nil))
    (ss_cons (ss_shE [6] (ss_setLc [("_law_one", 7)] 6 c.g (si_any (se_var 5)) (by kernel_rfl) (fun s1 H1 C1 cl1 fp1 => sg_name 7 (cxg_blk c.g s1 H1 _ _ fp1)) (fun s1 H1 C1 cl1 fp1 => sts_nil) (fun s1 H1 C1 cl1 fp1 => se_op op_addA os_add (se_op op_addA os_add (se_slL (se_var 3) (sp_none) (sp_some (se_var 4))) (se_lst (sa_cons (b := false) (se_var 7) (sa_nil)))) (se_slL (se_var 3) (sp_some (se_op op_addA os_add (se_var 4) (se_int))) (sp_none))) (sw_true rfl rfl rfl (by decide +kernel))))
    (ss_cons (ss_set 6 c.g (se_sh (se_op op_addA os_add (se_var 6) (se_lst (sa_cons (b := false) (se_slL (se_var 3) (sp_some (se_int)) (sp_none)) (sa_cons (b := false) (se_op op_addA os_add (se_var 3) (se_lst (sa_cons (b := false) (se_str) (sa_nil)))) (sa_cons (b := false) (se_op op_addA os_add (se_op op_addA os_add (se_slL (se_var 3) (sp_none) (sp_some (se_var 4))) (se_lst (sa_cons (b := false) (se_str) (sa_cons (b := false) (se_str) (sa_nil))))) (se_slL (se_var 3) (sp_some (se_var 4)) (sp_none))) (sa_cons (b := false) (se_callTy (call_tuple_of) os_tupG T.n_tuple (sa_cons (b := true) (se_var 3) (sa_nil))) (sa_cons (b := false) (se_mt PySem.F.plainAttrs_str PySem.F.slot_str_join PySem.F.type_str_join mt_join om_join (se_str) (sa_cons (b := true) (se_var 3) (sa_nil))) (sa_cons (b := false) (se_non) (sa_nil)))))))))))
    (ss_one (ss_ret (se_op op_addA os_add (se_var 6) (se_lst (sa_cons (b := false) (se_dict0) (sa_cons (b := false) (se_lst (sa_nil)) (sa_cons (b := false) (se_lst (sa_cons (b := false) (se_var 3) (sa_nil))) (sa_cons (b := false) (se_int) (sa_cons (b := false) (se_var 2) (sa_nil))))))))))))))
theorem ok__law_no_steps (T : Txt w K mg) : Def P w K mg base "_law_no_steps" 2 F__law_no_steps 4 [] :=
  def_ok T.f__law_no_steps sc__law_no_steps rfl (fun _ _ _ _ _ _ us hl => match us, hl with | [_, _, _, _], _ => rfl) (b__law_no_steps T)
theorem sc__law_right : FnScope ["_law_purse_here", "_law_alphabets", "_law_grammar_here", "_law_letters", "_law_rules", "_law_word_here", "_law_plain", "_law_letter", "_law_told", "_law_due", "_law_turn", "_law_steps_here", "_law_before", "_law_wrong", "_law_rule_here", "_law_value"] ["_law_purse_here", "_law_alphabets"] (defScope s__law_right) := ⟨rfl, rfl, rfl, by decide +kernel, rfl, by decide +kernel, by decide +kernel⟩
theorem b__law_right (T : Txt w K mg) (f : Addr) (cdv : Value) (A : Around) (outer : List Env) (s : Shared) (H : Hp) (E : XK) (c : FnCx (cxOf (L2.CX P w) P w K mg base ["_law_purse_here", "_law_alphabets", "_law_grammar_here", "_law_letters", "_law_rules", "_law_word_here", "_law_plain", "_law_letter", "_law_told", "_law_due", "_law_turn", "_law_steps_here", "_law_before", "_law_wrong", "_law_rule_here", "_law_value"] "_law_right" (defScope s__law_right) f cdv A outer s H E) 8) :
  SSs (cxOf (L2.CX P w) P w K mg base ["_law_purse_here", "_law_alphabets", "_law_grammar_here", "_law_letters", "_law_rules", "_law_word_here", "_law_plain", "_law_letter", "_law_told", "_law_due", "_law_turn", "_law_steps_here", "_law_before", "_law_wrong", "_law_rule_here", "_law_value"] "_law_right" (defScope s__law_right) f cdv A outer s H E) (defBody s__law_right) r__law_right_1 :=
  ss_cons (ss_set 2 c.g (se_call (dvs := []) (ok__law_grammar T) c.g.gu (c.room.mono (by decide)) (sa_cons (b := true) (se_var 0) (sa_cons (b := false) (se_var 1) (sa_cons (b := false) (se_int) (sa_nil))))))
    (ss_cons (ss_unp (se_var 2) (sg_tup c.g (sgs_cons 3 c.g (sgs_cons 4 c.g (sgs_nil)))))
    (ss_cons (ss_set 5 c.g (se_call (dvs := []) (ok__law_word T) c.g.gu (c.room.mono (by decide)) (sa_cons (b := true) (se_var 0) (sa_cons (b := false) (se_var 3) (sa_cons (b := false) (se_int) (sa_nil))))))
    (ss_cons (ss_set 6 c.g (se_sh (se_lst (sa_cons (b := false) (se_str) (sa_nil)))))
    (ss_cons (ss_fgB [7] (ss_for c.g (si_any (se_var 5)) (sg_name 7 c.g) (sss_fgE [7] (ss_one (ss_set 6 c.g (se_sh (se_op op_addA os_add (se_var 6) (se_lst (sa_cons (b := false) (se_var 7) (sa_cons (b := false) (se_str) (sa_nil)))))))))))
    (ss_cons (ss_par 8 9 true true c.g (se_call (dvs := []) (ok_kept_steps T) c.g.gu (c.room.mono (by decide)) (sa_cons (b := false) (se_var 2) (sa_cons (b := false) (se_var 5) (sa_nil)))) (se_sh (se_lc [("_law_rule_here", 14)] c.g (si_any (se_var 4)) (by kernel_rfl) (fun s1 H1 C1 cl1 fp1 => sg_name 14 (cxg_blk c.g s1 H1 _ _ fp1)) (fun s1 H1 C1 cl1 fp1 => sts_nil) (fun s1 H1 C1 cl1 fp1 => se_call (dvs := []) (ok__law_faults T) c.g.gu (c.room.mono (by decide)) (sa_cons (b := false) (se_var 14) (sa_cons (b := false) (se_var 5) (sa_cons (b := false) (se_var 6) (sa_nil))))))))
    (ss_cons (ss_if (SW.st (sw_or (st_cmp (op_neA c.room) cs_ne.os (se_callB ((cr_repG c.g.gu (c.room.mono (by decide)))) os_repG T.n_repr (sa_cons (b := true) (se_var 8) (sa_nil))) (se_callB ((cr_repG c.g.gu (c.room.mono (by decide)))) os_repG T.n_repr (sa_cons (b := true) (se_var 6) (sa_nil))) (nomark _)) (sw_or1 (st_cmp (op_neA c.room) cs_ne.os (se_callB ((cr_repG c.g.gu (c.room.mono (by decide)))) os_repG T.n_repr (sa_cons (b := true) (se_lnd (se_call (dvs := []) (ok_faults_of T) c.g.gu (c.room.mono (by decide)) (sa_cons (b := false) (se_var 2) (sa_cons (b := false) (se_var 5) (sa_cons (b := false) (se_var 8) (sa_nil)))))) (sa_nil))) (se_callB ((cr_repG c.g.gu (c.room.mono (by decide)))) os_repG T.n_repr (sa_cons (b := true) (se_var 9) (sa_nil))) (nomark _))))) (ss_one (ss_ret (se_bl))) (ss_nil))
    (ss_cons (ss_expr (se_mut0 8 PySem.F.slot_list_clear PySem.F.type_list_clear mt_clear ms_clear))
    (ss_cons (ss_fgB [8, 9, 10, 11, 12] (ss_for c.g (si_rng1 T.n_range (sa_cons (b := true) (se_int) (sa_nil))) (sg_name 10 c.g) (sss_fgE [8, 9, 10, 11, 12] (ss_cons (ss_set 11 c.g (se_sh (se_call (dvs := []) (ok__law_steps T) c.g.gu (c.room.mono (by decide)) (sa_cons (b := true) (se_var 0) (sa_cons (b := false) (se_var 3) (sa_cons (b := false) (se_var 5) (sa_nil)))))))
    (ss_cons (ss_par 12 9 true true c.g (se_callB ((cr_repG c.g.gu (c.room.mono (by decide)))) os_repG T.n_repr (sa_cons (b := true) (se_lst (sa_cons (b := false) (se_var 2) (sa_cons (b := false) (se_var 11) (sa_nil)))) (sa_nil))) (se_sh (se_lc [("_law_rule_here", 14)] c.g (si_any (se_var 4)) (by kernel_rfl) (fun s1 H1 C1 cl1 fp1 => sg_name 14 (cxg_blk c.g s1 H1 _ _ fp1)) (fun s1 H1 C1 cl1 fp1 => sts_nil) (fun s1 H1 C1 cl1 fp1 => se_call (dvs := []) (ok__law_faults T) c.g.gu (c.room.mono (by decide)) (sa_cons (b := false) (se_var 14) (sa_cons (b := false) (se_var 5) (sa_cons (b := false) (se_var 11) (sa_nil))))))))
    (ss_cons (ss_if (SW.st (sw_or (st_cmp op_notBl cs_notB.os (se_call (dvs := []) (ok_is_steps T) c.g.gu (c.room.mono (by decide)) (sa_cons (b := false) (se_var 2) (sa_cons (b := false) (se_var 5) (sa_cons (b := false) (se_var 11) (sa_nil))))) (se_bl) (nomark _)) (sw_or1 (st_cmp (op_neA c.room) cs_ne.os (se_call (dvs := []) (ok_output_of T) c.g.gu (c.room.mono (by decide)) (sa_cons (b := false) (se_var 2) (sa_cons (b := false) (se_var 5) (sa_cons (b := false) (se_var 11) (sa_nil))))) (se_mt PySem.F.plainAttrs_str PySem.F.slot_str_join PySem.F.type_str_join mt_join om_join (se_str) (sa_cons (b := true) (se_var 11) (sa_nil))) (nomark _))))) (ss_one (ss_ret (se_bl))) (ss_nil))
    (ss_cons (ss_set 8 c.g (se_call (dvs := []) (ok_faults_of T) c.g.gu (c.room.mono (by decide)) (sa_cons (b := false) (se_var 2) (sa_cons (b := false) (se_var 5) (sa_cons (b := false) (se_var 11) (sa_nil))))))
    (ss_cons (ss_if (st_cmp (op_neA c.room) cs_ne.os (se_callB ((cr_repG c.g.gu (c.room.mono (by decide)))) os_repG T.n_repr (sa_cons (b := true) (se_var 8) (sa_nil))) (se_callB ((cr_repG c.g.gu (c.room.mono (by decide)))) os_repG T.n_repr (sa_cons (b := true) (se_var 9) (sa_nil))) (nomark _)) (ss_one (ss_ret (se_bl))) (ss_nil))
    (ss_cons (ss_expr (se_mut 8 PySem.F.slot_list_append PySem.F.type_list_append mt_append ms_append (sa_cons (b := false) (se_str) (sa_nil))))
    (ss_one (ss_if (SW.st (sw_or (st_cmp (op_neA c.room) cs_ne.os (se_callB ((cr_repG c.g.gu (c.room.mono (by decide)))) os_repG T.n_repr (sa_cons (b := true) (se_call (dvs := []) (ok_faults_of T) c.g.gu (c.room.mono (by decide)) (sa_cons (b := false) (se_var 2) (sa_cons (b := false) (se_var 5) (sa_cons (b := false) (se_var 11) (sa_nil))))) (sa_nil))) (se_callB ((cr_repG c.g.gu (c.room.mono (by decide)))) os_repG T.n_repr (sa_cons (b := true) (se_var 9) (sa_nil))) (nomark _)) (sw_or1 (st_cmp (op_neA c.room) cs_ne.os (se_callB ((cr_repG c.g.gu (c.room.mono (by decide)))) os_repG T.n_repr (sa_cons (b := true) (se_lst (sa_cons (b := false) (se_var 2) (sa_cons (b := false) (se_var 11) (sa_nil)))) (sa_nil))) (se_var 12) (nomark _))))) (ss_one (ss_ret (se_bl))) (ss_nil))))))))))))
    (ss_cons (ss_set 13 c.g (se_sh (se_call (dvs := []) (ok__law_no_steps T) c.g.gu (c.room.mono (by decide)) (sa_cons (b := true) (se_var 0) (sa_cons (b := false) (se_var 3) (sa_cons (b := false) (se_var 5) (sa_cons (b := false) (se_var 6) (sa_nil))))))))
    (ss_one (ss_ret (se_cmp (op_eqA c.room) cs_eq.os (se_lc [("_law_value", 15)] c.g (si_any (se_var 13)) (by kernel_rfl) (fun s1 H1 C1 cl1 fp1 => sg_name 15 (cxg_blk c.g s1 H1 _ _ fp1)) (fun s1 H1 C1 cl1 fp1 => sts_one (st_cmp op_notBl cs_notB.os (se_call (dvs := []) (ok_is_steps T) c.g.gu (c.room.mono (by decide)) (sa_cons (b := false) (se_var 2) (sa_cons (b := false) (se_var 5) (sa_cons (b := false) (se_var 15) (sa_nil))))) (se_bl) (nomark _))) (fun s1 H1 C1 cl1 fp1 => se_var 15)) (se_lst (sa_nil)) (nomark _)))))))))))))
theorem ok__law_right (T : Txt w K mg) : Def P w K mg base "_law_right" 9 F__law_right 2 [] :=
  def_ok T.f__law_right sc__law_right rfl (fun _ _ _ _ _ _ us hl => match us, hl with | [_, _], _ => rfl) (b__law_right T)
theorem sc_law : FnScope ["_law_script", "_law_k", "_law_purse_here", "_law_turn", "_law_rules", "_law_grammar_here", "_law_told"] ["_law_script"] (defScope s_law) := ⟨rfl, rfl, rfl, by decide +kernel, rfl, by decide +kernel, by decide +kernel⟩
theorem b_law (T : Txt w K mg) (f : Addr) (cdv : Value) (A : Around) (outer : List Env) (s : Shared) (H : Hp) (E : XK) (c : FnCx (cxOf (L2.CX P w) P w K mg base ["_law_script", "_law_k", "_law_purse_here", "_law_turn", "_law_rules", "_law_grammar_here", "_law_told"] "law" (defScope s_law) f cdv A outer s H E) 9) :
  SSs (cxOf (L2.CX P w) P w K mg base ["_law_script", "_law_k", "_law_purse_here", "_law_turn", "_law_rules", "_law_grammar_here", "_law_told"] "law" (defScope s_law) f cdv A outer s H E) (defBody s_law) r_law_1 :=
  ss_cons (ss_fgB [1, 2, 3] (ss_for c.g (si_rng1 T.n_range (sa_cons (b := true) (se_callB (call_max2 c.g.calm) os_max T.n_max (sa_cons (b := true) (se_int) (sa_cons (b := true) (se_callB (call_min2 c.g.calm) os_min T.n_min (sa_cons (b := true) (se_int) (sa_cons (b := true) (se_callB (call_len) os_len T.n_len (sa_cons (b := true) (se_var 0) (sa_nil))) (sa_nil)))) (sa_nil)))) (sa_nil))) (sg_name 1 c.g) (sss_fgE [1, 2, 3] (ss_cons (ss_set 2 c.g (se_call (dvs := []) (ok__law_purse T) c.g.gu (c.room.mono (by decide)) (sa_cons (b := false) (se_var 0) (sa_cons (b := false) (se_var 1) (sa_nil)))))
    (ss_one (ss_fgB [3] (ss_for c.g (si_rng1 T.n_range (sa_cons (b := true) (se_int) (sa_nil))) (sg_name 3 c.g) (sss_fgE [3] (ss_one (ss_if (st_not (st_val (se_call (dvs := []) (ok__law_right T) c.g.gu (c.room.mono (by decide)) (sa_cons (b := true) (se_var 2) (sa_cons (b := false) (se_lst (sa_cons (b := false) (se_str) (sa_cons (b := false) (se_str) (sa_cons (b := false) (se_str) (sa_cons (b := false) (se_str) (sa_cons (b := false) (se_str) (sa_cons (b := false) (se_str) (sa_nil)))))))) (sa_nil)))))) (ss_one (ss_ret (se_bl))) (ss_nil)))))))))))
    (ss_cons (ss_set 4 c.g (se_sh (se_lst (sa_cons (b := false) (se_tup (sa_cons (b := false) (se_str) (sa_cons (b := false) (se_str) (sa_cons (b := false) (se_str) (sa_nil))))) (sa_cons (b := false) (se_tup (sa_cons (b := false) (se_str) (sa_cons (b := false) (se_str) (sa_nil)))) (sa_cons (b := false) (se_tup (sa_cons (b := false) (se_str) (sa_cons (b := false) (se_str) (sa_nil)))) (sa_cons (b := false) (se_tup (sa_cons (b := false) (se_str) (sa_cons (b := false) (se_str) (sa_cons (b := false) (se_str) (sa_nil))))) (sa_cons (b := false) (se_tup (sa_cons (b := false) (se_str) (sa_cons (b := false) (se_str) (sa_cons (b := false) (se_str) (sa_nil))))) (sa_nil)))))))))
    (ss_cons (ss_set 5 c.g (se_tup (sa_cons (b := false) (se_str) (sa_cons (b := false) (se_var 4) (sa_nil)))))
    (ss_cons (ss_set 6 c.g (se_sh (se_lst (sa_cons (b := false) (se_call (dvs := []) (ok_faults_of T) c.g.gu (c.room.mono (by decide)) (sa_cons (b := false) (se_var 5) (sa_cons (b := false) (se_str) (sa_cons (b := false) (se_lst (sa_cons (b := false) (se_str) (sa_cons (b := false) (se_str) (sa_cons (b := false) (se_str) (sa_cons (b := false) (se_str) (sa_cons (b := false) (se_str) (sa_nil))))))) (sa_nil))))) (sa_cons (b := false) (se_call (dvs := []) (ok_faults_of T) c.g.gu (c.room.mono (by decide)) (sa_cons (b := false) (se_var 5) (sa_cons (b := false) (se_str) (sa_cons (b := false) (se_lst (sa_cons (b := false) (se_str) (sa_cons (b := false) (se_str) (sa_cons (b := false) (se_str) (sa_nil))))) (sa_nil))))) (sa_nil))))))
    (ss_one (ss_ret (se_and (se_cmp (op_eqA c.room) cs_eq.os (se_var 6) (se_lst (sa_cons (b := false) (se_lst (sa_cons (b := false) (se_int) (sa_cons (b := false) (se_int) (sa_cons (b := false) (se_int) (sa_cons (b := false) (se_int) (sa_cons (b := false) (se_int) (sa_nil))))))) (sa_cons (b := false) (se_lst (sa_cons (b := false) (se_int) (sa_cons (b := false) (se_int) (sa_cons (b := false) (se_int) (sa_cons (b := false) (se_int) (sa_cons (b := false) (se_int) (sa_nil))))))) (sa_nil)))) (nomark _)) (se_one (se_cmp op_isBl cs_isB.os (se_call (dvs := []) (ok_is_steps T) c.g.gu (c.room.mono (by decide)) (sa_cons (b := false) (se_var 5) (sa_cons (b := false) (se_str) (sa_cons (b := false) (se_lst (sa_cons (b := false) (se_str) (sa_nil))) (sa_nil))))) (se_bl) (nomark _)))))))))
end
end Law_strictranks_k41_steps_and_faults
end
section
set_option Elab.async false
set_option linter.all false
set_option maxRecDepth 100000
set_option maxHeartbeats 0
namespace Law_strictranks_k41_steps_and_faults
open PySem PySem.Spec PyProof.Rows L2 L2.VL L2.TX
theorem txt {w : World} {K : PySem.W.Frag} {h : Heap} {mg : Str → Option Value} (X : K.In h) (G : h.Ns mainGlobals mg) (c : He.SaysD fa fn K) (ct : (ts.map fun t => He.dicW K (He.ga K t.1)) = keysT w ts) (cv : (ts.all fun t => tabV K t) = true) : Txt w K mg where
  n_abs := He.free_ok X G (c.fact 28 (f := .free "abs") rfl)
  n_all := He.free_ok X G (c.fact 29 (f := .free "all") rfl)
  n_enumerate := He.free_ok X G (c.fact 30 (f := .free "enumerate") rfl)
  n_int := He.free_ok X G (c.fact 31 (f := .free "int") rfl)
  n_isinstance := He.free_ok X G (c.fact 32 (f := .free "isinstance") rfl)
  n_len := He.free_ok X G (c.fact 33 (f := .free "len") rfl)
  n_list := He.free_ok X G (c.fact 34 (f := .free "list") rfl)
  n_max := He.free_ok X G (c.fact 35 (f := .free "max") rfl)
  n_min := He.free_ok X G (c.fact 36 (f := .free "min") rfl)
  n_range := He.free_ok X G (c.fact 37 (f := .free "range") rfl)
  n_repr := He.free_ok X G (c.fact 38 (f := .free "repr") rfl)
  n_str := He.free_ok X G (c.fact 39 (f := .free "str") rfl)
  n_tuple := He.free_ok X G (c.fact 40 (f := .free "tuple") rfl)
  n_zip := He.free_ok X G (c.fact 41 (f := .free "zip") rfl)
  c_END := He.str_ok X G (c.fact 42 (f := .str "END" "#") rfl)
  c_LOWERCASE := He.str_ok X G (c.fact 43 (f := .str "LOWERCASE" "abcdefghijklmnopqrstuvwxyz") rfl)
  c_MOST_LETTERS := He.int_ok X G (c.fact 44 (f := .int "MOST_LETTERS" 4) rfl)
  c_MOST_RULES := He.int_ok X G (c.fact 45 (f := .int "MOST_RULES" 6) rfl)
  f__law_purse := ⟨_, (c.def_ 0 (d := d__law_purse) rfl).imp fun fd F => ⟨He.glo_ok X G (c.fact 0 (f := .glo "_law_purse") rfl), F⟩⟩
  f__law_coin := ⟨_, (c.def_ 1 (d := d__law_coin) rfl).imp fun fd F => ⟨He.glo_ok X G (c.fact 1 (f := .glo "_law_coin") rfl), F⟩⟩
  f__law_set := ⟨_, (c.def_ 2 (d := d__law_set) rfl).imp fun fd F => ⟨He.glo_ok X G (c.fact 2 (f := .glo "_law_set") rfl), F⟩⟩
  f__law_end_set := ⟨_, (c.def_ 3 (d := d__law_end_set) rfl).imp fun fd F => ⟨He.glo_ok X G (c.fact 3 (f := .glo "_law_end_set") rfl), F⟩⟩
  f__law_rule := ⟨_, (c.def_ 4 (d := d__law_rule) rfl).imp fun fd F => ⟨He.glo_ok X G (c.fact 4 (f := .glo "_law_rule") rfl), F⟩⟩
  f__law_grammar := ⟨_, (c.def_ 5 (d := d__law_grammar) rfl).imp fun fd F => ⟨He.glo_ok X G (c.fact 5 (f := .glo "_law_grammar") rfl), F⟩⟩
  f__law_word := ⟨_, (c.def_ 6 (d := d__law_word) rfl).imp fun fd F => ⟨He.glo_ok X G (c.fact 6 (f := .glo "_law_word") rfl), F⟩⟩
  f_is_ascending := ⟨_, (c.def_ 7 (d := d_is_ascending) rfl).imp fun fd F => ⟨He.glo_ok X G (c.fact 7 (f := .glo "is_ascending") rfl), F⟩⟩
  f_is_set := ⟨_, (c.def_ 8 (d := d_is_set) rfl).imp fun fd F => ⟨He.glo_ok X G (c.fact 8 (f := .glo "is_set") rfl), F⟩⟩
  f_is_rule := ⟨_, (c.def_ 9 (d := d_is_rule) rfl).imp fun fd F => ⟨He.glo_ok X G (c.fact 9 (f := .glo "is_rule") rfl), F⟩⟩
  f_is_grammar := ⟨_, (c.def_ 10 (d := d_is_grammar) rfl).imp fun fd F => ⟨He.glo_ok X G (c.fact 10 (f := .glo "is_grammar") rfl), F⟩⟩
  f_need_grammar := ⟨_, (c.def_ 11 (d := d_need_grammar) rfl).imp fun fd F => ⟨He.glo_ok X G (c.fact 11 (f := .glo "need_grammar") rfl), F⟩⟩
  f_need_word := ⟨_, (c.def_ 12 (d := d_need_word) rfl).imp fun fd F => ⟨He.glo_ok X G (c.fact 12 (f := .glo "need_word") rfl), F⟩⟩
  f_letter_at := ⟨_, (c.def_ 13 (d := d_letter_at) rfl).imp fun fd F => ⟨He.glo_ok X G (c.fact 13 (f := .glo "letter_at") rfl), F⟩⟩
  f_kept_steps := ⟨_, (c.def_ 14 (d := d_kept_steps) rfl).imp fun fd F => ⟨He.glo_ok X G (c.fact 14 (f := .glo "kept_steps") rfl), F⟩⟩
  f__law_faults := ⟨_, (c.def_ 15 (d := d__law_faults) rfl).imp fun fd F => ⟨He.glo_ok X G (c.fact 15 (f := .glo "_law_faults") rfl), F⟩⟩
  f_fits := ⟨_, (c.def_ 16 (d := d_fits) rfl).imp fun fd F => ⟨He.glo_ok X G (c.fact 16 (f := .glo "fits") rfl), F⟩⟩
  f_is_steps := ⟨_, (c.def_ 17 (d := d_is_steps) rfl).imp fun fd F => ⟨He.glo_ok X G (c.fact 17 (f := .glo "is_steps") rfl), F⟩⟩
  f_need_steps := ⟨_, (c.def_ 18 (d := d_need_steps) rfl).imp fun fd F => ⟨He.glo_ok X G (c.fact 18 (f := .glo "need_steps") rfl), F⟩⟩
  f_item_faults := ⟨_, (c.def_ 19 (d := d_item_faults) rfl).imp fun fd F => ⟨He.glo_ok X G (c.fact 19 (f := .glo "item_faults") rfl), F⟩⟩
  f_end_faults := ⟨_, (c.def_ 20 (d := d_end_faults) rfl).imp fun fd F => ⟨He.glo_ok X G (c.fact 20 (f := .glo "end_faults") rfl), F⟩⟩
  f_rule_faults := ⟨_, (c.def_ 21 (d := d_rule_faults) rfl).imp fun fd F => ⟨He.glo_ok X G (c.fact 21 (f := .glo "rule_faults") rfl), F⟩⟩
  f_faults_of := ⟨_, (c.def_ 22 (d := d_faults_of) rfl).imp fun fd F => ⟨He.glo_ok X G (c.fact 22 (f := .glo "faults_of") rfl), F⟩⟩
  f__law_steps := ⟨_, (c.def_ 23 (d := d__law_steps) rfl).imp fun fd F => ⟨He.glo_ok X G (c.fact 23 (f := .glo "_law_steps") rfl), F⟩⟩
  f_output_of := ⟨_, (c.def_ 24 (d := d_output_of) rfl).imp fun fd F => ⟨He.glo_ok X G (c.fact 24 (f := .glo "output_of") rfl), F⟩⟩
  f__law_no_steps := ⟨_, (c.def_ 25 (d := d__law_no_steps) rfl).imp fun fd F => ⟨He.glo_ok X G (c.fact 25 (f := .glo "_law_no_steps") rfl), F⟩⟩
  f__law_right := ⟨_, (c.def_ 26 (d := d__law_right) rfl).imp fun fd F => ⟨He.glo_ok X G (c.fact 26 (f := .glo "_law_right") rfl), F⟩⟩
  f_law := ⟨_, (c.def_ 27 (d := d_law) rfl).imp fun fd F => ⟨He.glo_ok X G (c.fact 27 (f := .glo "law") rfl), F⟩⟩
  t_KINDS := kdT_ok (t := ("KINDS", [("one", 1), ("pair", 2), ("change", 2), ("drop", 1), ("add", 1)])) (He.glo_ok X G (c.fact 46 (f := .glo "KINDS") rfl)) (tab_at ct 0) (tabv_at cv 0)
end Law_strictranks_k41_steps_and_faults
open PySem PySem.W PySem.Calls PyProof.Rows
theorem Law_strictranks_k41_steps_and_faults.holds (hspec : ∀ ns : List Int, ns.length ≤ 63 → L2.VL.FRes.post (Law_strictranks_k41_steps_and_faults.F_law [L2.VL.shA (.lst (ns.map fun n => .con (.int n)))]) (fun d _ _ => d = .bl true) fun _ _ => False) : PySem.Challenge.rw_strictranks_k41_steps_and_faults.Holds := by
  w_on; o_law
  refine HandSHeadRun.head_any (r := OpenLaw.row PySem.Challenge.rw_strictranks_k41_steps_and_faults) (q := view (OpenLaw.row PySem.Challenge.rw_strictranks_k41_steps_and_faults).prog [40]) (H := Law_strictranks_k41_steps_and_faults.hk) (ob := Law_strictranks_k41_steps_and_faults.ob) (M := 2656) (loose := Law_strictranks_k41_steps_and_faults.loose) (d := HandSHeadRun.topDef (OpenLaw.row PySem.Challenge.rw_strictranks_k41_steps_and_faults).prog 40) (kwd := []) Law_strictranks_k41_steps_and_faults.ob_eq
    (by kernel_rfl) (fun s => by kernel_rfl) Law_strictranks_k41_steps_and_faults.run (by kernel_rfl) (by kernel_rfl) (by kernel_rfl) (by rfl) (by first | assumption | decide +kernel) (by decide +kernel) ⟨rfl, rfl, rfl, rfl, rfl, by decide +kernel⟩ ?hw ?hc
  case hw => w_witness2
  case hc =>
    refine L2.VL.walkG (l := PySem.Challenge.rw_strictranks_k41_steps_and_faults) (n := 63) (k := 10) (x := "_law_script") rfl (by decide) (by kernel_rfl) ⟨rfl, by decide, by decide⟩ ?_
    intro w mg fa h Y G hmg0
    obtain ⟨K, KX, c, ct, cv⟩ := Y
    have hmg : mg ("law" : PySem.Str) = some (.ref fa) := by
      have e : (HandSHeadRun.topDef (OpenLaw.row PySem.Challenge.rw_strictranks_k41_steps_and_faults).prog 40).name = ("law" : PySem.Str) := by kernel_rfl
      rw [← e]
      exact hmg0
    have T := Law_strictranks_k41_steps_and_faults.txt KX G c ct cv
    obtain ⟨f, fd, hm, F⟩ := T.f_law.ex
    rw [hmg] at hm
    cases hm
    have b := L2.FunD.bindsA (ps := ["_law_script"]) F fun _ _ _ _ _ _ us hl => match us, hl with | [_], _ => rfl
    refine ⟨K, fd, Law_strictranks_k41_steps_and_faults.F_law, KX, fun s v => b s [v] rfl, fun H a ns hl hS => L2.VL.law_sp hS (hspec ns hl) (fun _ _ h => absurd h (L2.VL.tbk_none rfl)), fun base => ?_⟩
    exact L2.VL.fn_ok F Law_strictranks_k41_steps_and_faults.sc_law (fun cdv A outer s H E c => Law_strictranks_k41_steps_and_faults.b_law T fa cdv A outer s H E c)
end
section
set_option Elab.async false
set_option linter.all false
set_option maxRecDepth 100000
set_option autoImplicit false
noncomputable section
namespace Law_strictranks_k41_steps_and_faults
open PySem PySem.Spec PyProof.Rows L2 L2.VL L2.TX
def g__law_purse (script : (List Int)) (k : Int) : Option ((List Int)) :=
  (if (decide (k < (script.length : Int))) = true then (ixL script k).bind fun x => some x else some 0).bind fun x_1 =>
  (modI (if x_1 < 0 then -x_1 else x_1) (100000000000000000000000000000000000000000 + 37)).bind fun x_2 => some [(if x_1 - 1000000000000000000 > 0 then x_1 - 1000000000000000000 else 0), (x_2 + (90001 * k)) + 17, 0]
def g__law_coin (purse_here : (List Int)) (many : Int) : Option (Int × (List Int)) :=
  (ixL purse_here 0).bind fun x =>
  (if (decide (x > 0)) = true then (ixL purse_here 0).bind fun x_1 =>
  (modI x_1 many).bind fun x_2 =>
  (ixL purse_here 0).bind fun x_3 =>
  (divI x_3 many).bind fun x_4 =>
  (setL purse_here 0 x_4).bind fun purse_here_1 => some (x_2, purse_here_1) else (ixL purse_here 2).bind fun x_5 =>
  (setL purse_here 2 (x_5 + 1)).bind fun purse_here_2 =>
  (ixL purse_here_2 1).bind fun x_6 =>
  (ixL purse_here_2 2).bind fun x_7 =>
  (powN (x_6 + (15485863 * x_7)) 3).bind fun x_8 =>
  (modI x_8 (10000000000000000000000000000000000000000000 + 29)).bind fun x_9 =>
  (ixL purse_here_2 2).bind fun x_10 =>
  (powN (x_9 + (49979687 * x_10)) 3).bind fun x_11 =>
  (modI x_11 (1000000000000000000000000000000000000000000000 + 9)).bind fun x_12 =>
  (modI (x_12 / 524287) many).bind fun x_13 => some (x_13, purse_here_2))
def g__law_set (purse_here : (List Int)) (letters : (List Nat)) : Option ((List Nat) × (List Int)) :=
  (lenS letters).bind fun x =>
  (shlI 1 x).bind fun x_1 =>
  (g__law_coin purse_here (x_1 - 1)).bind fun x_2 =>
  lt (1 + x_2.1 : Int) fun bits =>
  (lcC (fun p =>
  (shrI bits p.1).bind fun x_3 => some (decide (Builtin.bitAnd x_3 1 = 1))) (fun p => some p.2) (enm (chs letters))).bind fun x_4 =>
  (joinS [] x_4).bind fun res => some (res, x_2.2)
def g__law_end_set (purse_here : (List Int)) (letters : (List Nat)) : Option ((List Nat) × (List Int)) :=
  (g__law_coin purse_here 4).bind fun way =>
  (g__law_set way.2 letters).bind fun x =>
  (catS [35] x.1).bind fun x_1 =>
  (g__law_set x.2 letters).bind fun x_2 =>
  (g__law_set x_2.2 letters).bind fun x_3 =>
  (ixL [[35], x_1, x_2.1, x_3.1] way.1).bind fun res => some (res, x_3.2)
def g__law_rule (purse_here : (List Int)) (letters : (List Nat)) : Option (D × (List Int)) :=
  (g__law_coin purse_here 6).bind fun x =>
  (ixL [[111, 110, 101], [112, 97, 105, 114], [112, 97, 105, 114], [99, 104, 97, 110, 103, 101], [100, 114, 111, 112], [97, 100, 100]] x.1).bind fun kind =>
  (if (decide (kind = [112, 97, 105, 114])) = true then (g__law_end_set x.2 letters).bind fun x_1 =>
  (g__law_end_set x_1.2 letters).bind fun x_2 => some ((rP3 rS rS rS) (kind, x_1.1, x_2.1), x_2.2) else (if (decide (kind = [99, 104, 97, 110, 103, 101])) = true then (g__law_set x.2 letters).bind fun x_3 =>
  (g__law_set x_3.2 letters).bind fun x_4 => some ((rP3 rS rS rS) (kind, x_3.1, x_4.1), x_4.2) else (g__law_set x.2 letters).bind fun x_5 => some ((rP rS rS) (kind, x_5.1), x_5.2)))
def g__law_grammar_b2  (s' : ((List Int) × (List D))) (turn_1 : Int) : Option (((List Int) × (List D))) :=
  (g__law_coin s'.1 (s'.2.length : Int)).bind fun at' =>
  (catL (cutL s'.2 (some at'.1) none) ((cutL s'.2 none (some at'.1)).reverse)).bind fun x_6 => some (at'.2, x_6)
def g__law_grammar (purse_here : (List Int)) (alphabets : (List (List Nat))) (most : Int) : Option (((List Nat) × (List D)) × (List Int)) :=
  (g__law_coin purse_here (alphabets.length : Int)).bind fun x =>
  (ixL alphabets x.1).bind fun letters =>
  (g__law_coin x.2 most).bind fun x_1 =>
  (rng 0 (1 + x_1.1)).bind fun r =>
  (lcXC (fun t turn => some (true, t)) (fun t turn =>
  (g__law_rule t letters).bind fun x_3 => some (x_3.1, x_3.2)) r x_1.2).bind fun rules =>
  (g__law_coin rules.2 2).bind fun x_4 =>
  (if (decide (x_4.1 = 0)) = true then lt ([(rP3 rS rS rS) ((([99, 104, 97, 110, 103, 101], letters, letters), ([100, 114, 111, 112], letters), ([97, 100, 100], letters)).1), (rP rS rS) ((([99, 104, 97, 110, 103, 101], letters, letters), ([100, 114, 111, 112], letters), ([97, 100, 100], letters)).2.1), (rP rS rS) ((([99, 104, 97, 110, 103, 101], letters, letters), ([100, 114, 111, 112], letters), ([97, 100, 100], letters)).2.2)] : (List D)) fun all_of =>
  (catL all_of rules.1).bind fun x_5 =>
  lt (cutL x_5 none (some most) : (List D)) fun rules_1 =>
  (rng 0 2).bind fun r_1 =>
  (fo (fun s turn_1 => g__law_grammar_b2 s turn_1) r_1 (x_4.2, rules_1)).bind fun s'_1 => some (s'_1.1, s'_1.2) else some (x_4.2, rules.1)).bind fun s'_2 => some ((letters, s'_2.2), s'_2.1)
def g__law_word (purse_here : (List Int)) (letters : (List Nat)) (most : Int) : Option ((List Nat) × (List Int)) :=
  (g__law_coin purse_here (most + 1)).bind fun x =>
  (rng 0 x.1).bind fun r =>
  (lcXC (fun t turn => some (true, t)) (fun t turn =>
  (lenS letters).bind fun x_4 =>
  (g__law_coin t x_4).bind fun x_5 =>
  (ixS letters x_5.1).bind fun x_6 => some (x_6, x_5.2)) r x.2).bind fun x_7 =>
  (joinS [] x_7.1).bind fun res => some (res, x_7.2)
def g_is_ascending (text : (List Nat)) : Option (Bool) :=
  (cutT text (some 1) none).bind fun x =>
  (lcC (fun p => some true) (fun p => some (ltT p.1 p.2)) ((chs text).zip (chs x))).bind fun x_1 => some (x_1.all id)
def g_is_set (value : D) (known : (List Nat)) : Option (Bool) :=
  (isU .str value).bind fun b =>
  (if (!b) = true then some true else ((eqD value (rS [])).bind fun b_1 => some b_1)).bind fun b_2 =>
  (if b_2 = true then some false else (asS value).bind fun x =>
  (g_is_ascending x).bind fun x_1 =>
  (if x_1 = true then ((anyOf value).bind fun ys =>
  (lcC (fun sign => some true) (fun sign =>
  (asS sign).bind fun x_2 => some (inTx x_2 known)) ys).bind fun x_3 => some (x_3.all id)) else some false).bind fun b_3 => some b_3)
def g_is_rule (value : D) (letters : (List Nat)) : Option (Bool) :=
  (isU .tuple value).bind fun b =>
  (if (!b) = true then some true else ((lenU value).bind fun x =>
  (if (decide (x < 2)) = true then some true else ((ixU value 0).bind fun x_1 =>
  (isU .str x_1).bind fun b_1 =>
  (if (!b_1) = true then some true else ((ixU value 0).bind fun x_2 =>
  (asS x_2).bind fun x_3 => some ((lookTab [("one", 1), ("pair", 2), ("change", 2), ("drop", 1), ("add", 1)] x_3).isSome != true))).bind fun b_2 => some b_2)).bind fun b_3 => some b_3)).bind fun b_4 =>
  (if b_4 = true then some false else (starU value).bind fun p =>
  (eqD p.1 (rS [112, 97, 105, 114])).bind fun b_5 =>
  (if b_5 = true then (catS [35] letters).bind fun x_4 => some x_4 else some letters).bind fun x_5 =>
  (asS p.1).bind fun x_6 =>
  (lookTab [("one", 1), ("pair", 2), ("change", 2), ("drop", 1), ("add", 1)] x_6).bind fun x_7 =>
  (if (decide ((p.2.length : Int) = x_7)) = true then ((lcC (fun one => some true) (fun one =>
  (g_is_set one x_5).bind fun x_8 => some x_8) p.2).bind fun x_9 => some (x_9.all id)) else some false).bind fun b_6 => some b_6)
def g_is_grammar (value : D) : Option (Bool) :=
  (isU .tuple value).bind fun b =>
  (if (!b) = true then some true else ((lenU value).bind fun x => some (!(decide (x = 2))))).bind fun b_1 =>
  (if b_1 = true then some false else ((asP asU asU) value).bind fun x_1 =>
  (g_is_set x_1.1 [97, 98, 99, 100, 101, 102, 103, 104, 105, 106, 107, 108, 109, 110, 111, 112, 113, 114, 115, 116, 117, 118, 119, 120, 121, 122]).bind fun x_2 =>
  (if (!x_2) = true then some true else ((lenU x_1.1).bind fun x_3 => some (decide (x_3 > 4)))).bind fun b_2 =>
  (if b_2 = true then some false else (isU .list x_1.2).bind fun b_3 =>
  (if (!b_3) = true then some true else ((lenU x_1.2).bind fun x_4 => some (!((decide (1 ≤ x_4)) && (decide (x_4 ≤ 6)))))).bind fun b_4 =>
  (if b_4 = true then some false else (anyOf x_1.2).bind fun ys =>
  (lcC (fun rule => some true) (fun rule =>
  (asS x_1.1).bind fun x_5 =>
  (g_is_rule rule x_5).bind fun x_6 => some x_6) ys).bind fun x_7 => some (x_7.all id))))
def g_need_grammar (value : D) : Option (Unit) :=
  (g_is_grammar value).bind fun x =>
  (if (!x) = true then none else some ())
def g_need_word (grammar : ((List Nat) × (List D))) (value : (List Nat)) (most : Int) : Option (Unit) :=
  (if (!true) = true then some true else ((lenS value).bind fun x =>
  (if (decide (x > most)) = true then some true else ((lcC (fun sign => some true) (fun sign => some (inTx sign grammar.1)) (chs value)).bind fun x_1 => some (!(x_1.all id)))).bind fun b => some b)).bind fun b_1 =>
  (if b_1 = true then none else some ())
def g_letter_at (word : (List Nat)) (place : Int) : Option ((Option (List Nat))) :=
  (if (decide (place % 2 = 1)) = true then (ixS word (place / 2)).bind fun x => some (some x) else some none).bind fun x_1 => some x_1
def g_kept_steps (grammar : ((List Nat) × (List D))) (word : (List Nat)) : Option ((List D)) :=
  (g_need_grammar ((rP rS (rL rU)) grammar)).bind fun x =>
  (g_need_word grammar word 10).bind fun x_1 =>
  (lenS word).bind fun x_2 =>
  (rng 0 ((2 * x_2) + 1)).bind fun r =>
  (lcC (fun place => some true) (fun place =>
  (if (decide (place % 2 = 1)) = true then (g_letter_at word place).bind fun x_3 => some x_3 else some (some [])).bind fun x_4 => some x_4) r).bind fun res => some (res.map (rO rS))
def g__law_faults (rule_here : D) (word_here : (List Nat)) (steps_here : (List (List Nat))) : Option (Int) :=
  (joinS [] steps_here).bind fun output =>
  (ixU rule_here 0).bind fun kind =>
  (eqD kind (rS [111, 110, 101])).bind fun b =>
  (if b = true then (lcC (fun sign =>
  (ixU rule_here 1).bind fun x =>
  (asS x).bind fun x_1 => some (inTx sign x_1)) (fun sign => some (1 : Int)) (chs output)).bind fun x_2 => some (x_2.length : Int) else (eqD kind (rS [112, 97, 105, 114])).bind fun b_1 =>
  (if b_1 = true then (catS [35] output).bind fun x_3 =>
  (catS x_3 [35]).bind fun x_4 =>
  (cutT x_4 (some 1) none).bind fun x_5 =>
  (lcC (fun p =>
  (ixU rule_here 1).bind fun x_6 =>
  (asS x_6).bind fun x_7 =>
  (if (inTx p.1 x_7) = true then ((ixU rule_here 2).bind fun x_8 =>
  (asS x_8).bind fun x_9 => some (inTx p.2 x_9)) else some false).bind fun b_2 => some b_2) (fun p => some (1 : Int)) ((chs x_4).zip (chs x_5))).bind fun x_10 => some (x_10.length : Int) else (eqD kind (rS [97, 100, 100])).bind fun b_3 =>
  (if b_3 = true then (lcC (fun item =>
  (if (!(decide (item = []))) = true then ((ixU rule_here 1).bind fun x_11 =>
  (asS x_11).bind fun x_12 => some (inTx item x_12)) else some false).bind fun b_4 => some b_4) (fun item => some (1 : Int)) (ev2 steps_here)).bind fun x_13 => some (x_13.length : Int) else lt ((chs word_here).zip (od2 steps_here) : (List ((List Nat) × (List Nat)))) fun became =>
  (eqD kind (rS [100, 114, 111, 112])).bind fun b_5 =>
  (if b_5 = true then (lcC (fun p_1 =>
  (if (decide (p_1.2 = [])) = true then ((ixU rule_here 1).bind fun x_14 =>
  (asS x_14).bind fun x_15 => some (inTx p_1.1 x_15)) else some false).bind fun b_6 => some b_6) (fun p_1 => some (1 : Int)) became).bind fun x_16 => some (x_16.length : Int) else (lcC (fun p_2 => some ((!(decide (p_2.2 = []))) && (!(decide (p_2.2 = p_2.1))))) (fun p_2 => some (p_2.1, p_2.2)) became).bind fun changed =>
  (lcC (fun p_3 =>
  (ixU rule_here 1).bind fun x_17 =>
  (asS x_17).bind fun x_18 =>
  (if (inTx p_3.1 x_18) = true then ((ixU rule_here 2).bind fun x_19 =>
  (asS x_19).bind fun x_20 => some (inTx p_3.2 x_20)) else some false).bind fun b_7 => some b_7) (fun p_3 => some (1 : Int)) changed).bind fun x_21 => some (x_21.length : Int)))))
def g_fits (letters : (List Nat)) (word : (List Nat)) (value : D) : Option (Bool) :=
  (isU .list value).bind fun b =>
  (if (!b) = true then some true else ((lenU value).bind fun x =>
  (lenS word).bind fun x_1 => some (!(decide (x = (2 * x_1) + 1))))).bind fun b_1 =>
  (if b_1 = true then some false else (anyOf value).bind fun ys =>
  (lcC (fun item => some true) (fun item =>
  (isU .str item).bind fun b_2 =>
  (if b_2 = true then ((lenU item).bind fun x_2 =>
  (if (decide (x_2 ≤ 1)) = true then ((asS item).bind fun x_3 => some (inTx x_3 letters)) else some false).bind fun b_3 => some b_3) else some false).bind fun b_4 => some b_4) ys).bind fun x_4 => some (x_4.all id))
def g_is_steps (grammar : ((List Nat) × (List D))) (word : (List Nat)) (value : D) : Option (Bool) :=
  (g_need_grammar ((rP rS (rL rU)) grammar)).bind fun x =>
  (g_need_word grammar word 10).bind fun x_1 =>
  (g_fits grammar.1 word value).bind fun res => some res
def g_need_steps (grammar : ((List Nat) × (List D))) (word : (List Nat)) (steps : (List D)) : Option (Unit) :=
  (g_is_steps grammar word ((rL rU) steps)).bind fun x =>
  (if (!x) = true then none else some ())
def g_item_faults (rule : D) (letter : (Option (List Nat))) (item : (List Nat)) (last : (List Nat)) : Option (Int) :=
  (ixU rule 0).bind fun kind =>
  (eqD kind (rS [112, 97, 105, 114])).bind fun b =>
  (if b = true then (if (!(decide (item = []))) = true then ((ixU rule 1).bind fun x =>
  (asS x).bind fun x_1 =>
  (if (inTx last x_1) = true then ((ixU rule 2).bind fun x_2 =>
  (asS x_2).bind fun x_3 => some (inTx item x_3)) else some false).bind fun b_1 => some b_1) else some false).bind fun b_2 => some (if b_2 = true then 1 else 0) else (eqD kind (rS [111, 110, 101])).bind fun b_3 =>
  (if b_3 = true then (if (!(decide (item = []))) = true then ((ixU rule 1).bind fun x_4 =>
  (asS x_4).bind fun x_5 => some (inTx item x_5)) else some false).bind fun b_4 => some (if b_4 = true then 1 else 0) else (eqD kind (rS [97, 100, 100])).bind fun b_5 =>
  (if b_5 = true then (if letter.isNone = true then ((if (!(decide (item = []))) = true then ((ixU rule 1).bind fun x_6 =>
  (asS x_6).bind fun x_7 => some (inTx item x_7)) else some false).bind fun b_6 => some b_6) else some false).bind fun b_7 => some (if b_7 = true then 1 else 0) else (if letter.isNone = true then some true else ((ixU rule 1).bind fun x_8 =>
  (letter).bind fun x_9 =>
  (asS x_8).bind fun x_10 => some (!(inTx x_9 x_10)))).bind fun b_8 =>
  (if b_8 = true then some 0 else (eqD kind (rS [100, 114, 111, 112])).bind fun b_9 =>
  (if b_9 = true then some (if (decide (item = [])) = true then 1 else 0) else (if (!(decide (item = []))) = true then ((if (!(decide (some item = letter))) = true then ((ixU rule 2).bind fun x_11 =>
  (asS x_11).bind fun x_12 => some (inTx item x_12)) else some false).bind fun b_10 => some b_10) else some false).bind fun b_11 => some (if b_11 = true then 1 else 0))))))
def g_end_faults (rule : D) (last : (List Nat)) : Option (Int) :=
  (ixU rule 0).bind fun x =>
  (eqD x (rS [112, 97, 105, 114])).bind fun b =>
  (if b = true then ((ixU rule 1).bind fun x_1 =>
  (asS x_1).bind fun x_2 =>
  (if (inTx last x_2) = true then ((ixU rule 2).bind fun x_3 =>
  (asS x_3).bind fun x_4 => some (inTx [35] x_4)) else some false).bind fun b_1 => some b_1) else some false).bind fun b_2 => some (if b_2 = true then 1 else 0)
def g_rule_faults_b1 (rule : D) (word : (List Nat)) (s' : (Int × D)) (p : (Int × D)) : Option ((Int × D)) :=
  (g_letter_at word p.1).bind fun x =>
  (asS p.2).bind fun x_1 =>
  (asS s'.2).bind fun x_2 =>
  (g_item_faults rule x x_1 x_2).bind fun x_3 =>
  lt (s'.1 + x_3 : Int) fun found =>
  (eqD p.2 (rS [])).bind fun b =>
  lt ((if b = true then s'.2 else p.2) : D) fun last_1 => some (found, last_1)
def g_rule_faults (rule : D) (word : (List Nat)) (steps : (List D)) : Option (Int) :=
  lt (rS [35] : D) fun last =>
  (fo (fun s p => g_rule_faults_b1 rule word s p) (enm steps) (0, last)).bind fun s'_1 =>
  (asS s'_1.2).bind fun x_4 =>
  (g_end_faults rule x_4).bind fun x_5 => some (s'_1.1 + x_5)
def g_faults_of (grammar : ((List Nat) × (List D))) (word : (List Nat)) (steps : (List D)) : Option ((List Int)) :=
  (g_need_steps grammar word steps).bind fun x =>
  (lcC (fun rule => some true) (fun rule =>
  (g_rule_faults rule word steps).bind fun x_1 => some x_1) grammar.2).bind fun res => some res
def g__law_steps_b1 (letters : (List Nat)) (word_here : (List Nat)) (way : (Int × (List Int))) (s' : ((List Int) × (List (List Nat)))) (place : Int) : Option (((List Int) × (List (List Nat)))) :=
  (listT letters).bind fun x_1 =>
  (catL [[], []] x_1).bind fun x_2 =>
  (lenS letters).bind fun x_3 =>
  (g__law_coin s'.1 (x_3 + 2)).bind fun x_4 =>
  (ixL x_2 x_4.1).bind fun item =>
  (if (decide (way.1 > 0)) = true then ((g__law_coin x_4.2 4).bind fun x_5 => some (decide (x_5.1 > 0), x_5.2)) else some (false, x_4.2)).bind fun w =>
  (if w.1 = true then (if (decide (place % 2 = 1)) = true then (ixS word_here (place / 2)).bind fun x_6 => some x_6 else some []).bind fun x_7 => some x_7 else some item).bind fun item_1 =>
  (appL s'.2 item_1).bind fun found => some (w.2, found)
def g__law_steps (purse_here : (List Int)) (letters : (List Nat)) (word_here : (List Nat)) : Option ((List (List Nat)) × (List Int)) :=
  (g__law_coin purse_here 3).bind fun way =>
  (lenS word_here).bind fun x =>
  (rng 0 ((2 * x) + 1)).bind fun r =>
  (fo (fun s place => g__law_steps_b1 letters word_here way s place) r (way.2, [])).bind fun s'_1 => some (s'_1.2, s'_1.1)
def g_output_of (grammar : ((List Nat) × (List D))) (word : (List Nat)) (steps : (List (List Nat))) : Option ((List Nat)) :=
  (g_need_steps grammar word (steps.map rS)).bind fun x =>
  (joinS [] steps).bind fun res => some res
def g__law_no_steps (purse_here : (List Int)) (letters : (List Nat)) (word_here : (List Nat)) (steps_here : (List (List Nat))) : Option ((List D) × (List Int)) :=
  (g__law_coin purse_here (steps_here.length : Int)).bind fun at' =>
  (ixS letters 0).bind fun x =>
  (mulS x 2).bind fun x_1 =>
  (ixS letters 0).bind fun x_2 =>
  (upT x_2).bind fun x_3 =>
  (ixS letters 0).bind fun x_4 =>
  (ixS letters 0).bind fun x_5 =>
  (catS x_5 [113]).bind fun x_6 =>
  lt ([rS [113], rS x_1, rN (), rI 0, rS [35], rS x_3, (rL rS) [x_4], rS x_6, rB true, rS [32]] : (List D)) fun odd =>
  (lenS letters).bind fun x_7 =>
  (if (decide (x_7 > 1)) = true then (cutT letters none (some 2)).bind fun x_8 =>
  (cutT letters (some (-2)) none).bind fun x_9 =>
  (catL odd ([x_8, x_9, letters].map rS)).bind fun x_10 => some x_10 else some odd).bind fun odd_1 =>
  (lcC (fun one => some true) (fun one =>
  (catL ((cutL steps_here none (some at'.1)).map rS) [one]).bind fun x_11 =>
  (catL x_11 ((cutL steps_here (some (at'.1 + 1)) none).map rS)).bind fun x_12 => some x_12) odd_1).bind fun found =>
  (catL steps_here [[]]).bind fun x_13 =>
  (catL (cutL steps_here none (some at'.1)) [[], []]).bind fun x_14 =>
  (catL x_14 (cutL steps_here (some at'.1) none)).bind fun x_15 =>
  (joinS [] steps_here).bind fun x_16 =>
  (catL (found.map (rL rU)) [(rL rS) (cutL steps_here (some 1) none), (rL rS) x_13, (rL rS) x_15, (rTu rS) steps_here, rS x_16, rN ()]).bind fun x_17 =>
  (catL x_17 [.dic [], rL rU [], (rL (rL rS)) [steps_here], rI 1, rS word_here]).bind fun x_18 => some (x_18, at'.2)
def g__law_right_b1  (s' : (List (List Nat))) (letter : (List Nat)) : Option ((List (List Nat))) :=
  (catL s' [letter, []]).bind fun x => some x
def g__law_right_b2 (grammar_here : (((List Nat) × (List D)) × (List Int))) (word_here : ((List Nat) × (List Int))) (s'_1 : (List Int)) (turn : Int) : Option (Fw (List Int) (Bool × (List Int))) :=
  (g__law_steps s'_1 grammar_here.1.1 word_here.1).bind fun steps_here =>
  (repG ((rL rU) [(rP rS (rL rU)) grammar_here.1, (rL rS) steps_here.1])).bind fun before =>
  (lcC (fun rule_here_1 => some true) (fun rule_here_1 =>
  (g__law_faults rule_here_1 word_here.1 steps_here.1).bind fun x_7 => some x_7) grammar_here.1.2).bind fun due_1 =>
  (g_is_steps grammar_here.1 word_here.1 ((rL rS) steps_here.1)).bind fun x_8 =>
  (if (!decide (x_8 = true)) = true then some true else ((g_output_of grammar_here.1 word_here.1 steps_here.1).bind fun x_9 =>
  (joinS [] steps_here.1).bind fun x_10 => some (!(decide (x_9 = x_10))))).bind fun b_1 =>
  (if b_1 = true then some (.ret (false, steps_here.2)) else (g_faults_of grammar_here.1 word_here.1 (steps_here.1.map rS)).bind fun told_1 =>
  lt (told_1.map TX.rI : (List D)) fun told_2 =>
  (repG ((rL rU) told_2)).bind fun x_11 =>
  (repG ((rL rI) due_1)).bind fun x_12 =>
  (if (!(decide (x_11 = x_12))) = true then some (.ret (false, steps_here.2)) else (appL told_2 (rS [63])).bind fun told_3 =>
  (g_faults_of grammar_here.1 word_here.1 (steps_here.1.map rS)).bind fun x_13 =>
  (repG ((rL rI) x_13)).bind fun x_14 =>
  (repG ((rL rI) due_1)).bind fun x_15 =>
  (if (!(decide (x_14 = x_15))) = true then some true else ((repG ((rL rU) [(rP rS (rL rU)) grammar_here.1, (rL rS) steps_here.1])).bind fun x_16 => some (!(decide (x_16 = before))))).bind fun b_2 =>
  (if b_2 = true then some (.ret (false, steps_here.2)) else some (.nx steps_here.2))))
def g__law_right (purse_here : (List Int)) (alphabets : (List (List Nat))) : Option (Bool × (List Int)) :=
  (g__law_grammar purse_here alphabets 6).bind fun grammar_here =>
  (g__law_word grammar_here.2 grammar_here.1.1 10).bind fun word_here =>
  lt ([[]] : (List (List Nat))) fun plain =>
  (fo (fun s letter => g__law_right_b1 s letter) (chs word_here.1) plain).bind fun plain_1 =>
  (g_kept_steps grammar_here.1 word_here.1).bind fun told =>
  (lcC (fun rule_here => some true) (fun rule_here =>
  (g__law_faults rule_here word_here.1 plain_1).bind fun x_1 => some x_1) grammar_here.1.2).bind fun due =>
  (repG ((rL rU) told)).bind fun x_2 =>
  (repG ((rL rS) plain_1)).bind fun x_3 =>
  (if (!(decide (x_2 = x_3))) = true then some true else ((g_faults_of grammar_here.1 word_here.1 told).bind fun x_4 =>
  (repG ((rL rI) x_4)).bind fun x_5 =>
  (repG ((rL rI) due)).bind fun x_6 => some (!(decide (x_5 = x_6))))).bind fun b =>
  (if b = true then some (false, word_here.2) else (rng 0 6).bind fun r =>
  (foW (fun s turn => g__law_right_b2 grammar_here word_here s turn) r word_here.2).bind (fwOut (fun purse_here_1 =>
  (g__law_no_steps purse_here_1 grammar_here.1.1 word_here.1 plain_1).bind fun wrong =>
  (lcC (fun value =>
  (g_is_steps grammar_here.1 word_here.1 value).bind fun x_17 => some (!decide (x_17 = false))) (fun value => some value) wrong.1).bind fun x_18 =>
  (eqD ((rL rU) x_18) (rL rU [])).bind fun b_3 => some (b_3, wrong.2)) fun a => some (a)))
def g_law_b2  (s'_1 : (List Int)) (turn : Int) : Option (Fw (List Int) Bool) :=
  (g__law_right s'_1 [[97], [97, 98], [97, 98, 99], [97, 98, 99, 100], [120, 122], [98, 100, 102, 104]]).bind fun x =>
  (if (!x.1) = true then some (.ret false) else some (.nx x.2))
def g_law_b1 (script : (List Int)) (s' : Unit) (k : Int) : Option (Fw Unit Bool) :=
  (g__law_purse script k).bind fun purse_here =>
  (rng 0 4).bind fun r_1 =>
  (foW (fun s turn => g_law_b2 s turn) r_1 purse_here).bind (fwOut (fun purse_here_1 => some (.nx ())) fun a => some (Fw.ret a))
def g_law (script : (List Int)) : Option (Bool) :=
  (rng 0 (if (if (script.length : Int) < 6 then (script.length : Int) else 6) > 1 then (if (script.length : Int) < 6 then (script.length : Int) else 6) else 1)).bind fun r =>
  (foW (fun s k => g_law_b1 script s k) r ()).bind (fwOut (fun _u =>
  lt ([(rP3 rS rS rS) ([112, 97, 105, 114], [98], [35]), (rP rS rS) ([100, 114, 111, 112], [97, 98]), (rP rS rS) ([97, 100, 100], [97, 98]), (rP3 rS rS rS) ([99, 104, 97, 110, 103, 101], [97, 98], [97, 98]), (rP3 rS rS rS) ([112, 97, 105, 114], [35], [35])] : (List D)) fun rules =>
  lt (([97, 98], rules) : ((List Nat) × (List D))) fun grammar_here =>
  (g_faults_of grammar_here [97, 98] ([[], [], [98], [98], [97]].map rS)).bind fun x_1 =>
  (g_faults_of grammar_here [98] ([[], [], []].map rS)).bind fun x_2 =>
  lt ([x_1, x_2] : (List (List Int))) fun told =>
  (if (decide (told = [[0, 1, 2, 0, 0], [0, 1, 0, 0, 1]])) = true then ((g_is_steps grammar_here [] ((rL rS) [[]])).bind fun x_3 => some (decide (x_3 = true))) else some false).bind fun b => some b) fun a => some (a))
end Law_strictranks_k41_steps_and_faults
end
end
section
set_option Elab.async false
set_option linter.all false
set_option maxRecDepth 100000
set_option maxHeartbeats 1000000
namespace Law_strictranks_k41_steps_and_faults
open PySem PySem.Spec PyProof.Rows L2 L2.VL L2.TX
theorem strK0 : ("" : Str) = sx [] := by decide
theorem strK1 : ("#" : Str) = sx [35] := by decide
theorem strK2 : ("one" : Str) = sx [111, 110, 101] := by decide
theorem strK3 : ("pair" : Str) = sx [112, 97, 105, 114] := by decide
theorem strK4 : ("change" : Str) = sx [99, 104, 97, 110, 103, 101] := by decide
theorem strK5 : ("drop" : Str) = sx [100, 114, 111, 112] := by decide
theorem strK6 : ("add" : Str) = sx [97, 100, 100] := by decide
theorem strK7 : ("abcdefghijklmnopqrstuvwxyz" : Str) = sx [97, 98, 99, 100, 101, 102, 103, 104, 105, 106, 107, 108, 109, 110, 111, 112, 113, 114, 115, 116, 117, 118, 119, 120, 121, 122] := by decide
theorem strK8 : ("q" : Str) = sx [113] := by decide
theorem strK9 : (" " : Str) = sx [32] := by decide
theorem strK10 : ("?" : Str) = sx [63] := by decide
theorem strK11 : ("a" : Str) = sx [97] := by decide
theorem strK12 : ("ab" : Str) = sx [97, 98] := by decide
theorem strK13 : ("abc" : Str) = sx [97, 98, 99] := by decide
theorem strK14 : ("abcd" : Str) = sx [97, 98, 99, 100] := by decide
theorem strK15 : ("xz" : Str) = sx [120, 122] := by decide
theorem strK16 : ("bdfh" : Str) = sx [98, 100, 102, 104] := by decide
theorem strK17 : ("b" : Str) = sx [98] := by decide
theorem rf__law_purse (script : (List Int)) (k : Int) : Ref F__law_purse [⟨(rL rI) script, false⟩, ⟨rI k, false⟩] (rL rI) true (g__law_purse script k) := ref_of (ρ := [sl_ (rL rI) script, sl_ rI k, none]) rfl (by
  unfold g__law_purse
  exact bl_last (bl_assoc (bl_bind fun x_1 hx_1 => (bl_setV (ρ2 := [sl_ (rL rI) script, sl_ rI k, sl_ rI x_1]) (q_ifxP (f := rI) (q_dB (q_cmp (q_var rfl) (q_bi (a_T (q_var rfl) a_nil) (cs_cons rfl cs_nil) (g_lenL (f := rI))) rfl rfl g_ltI) rfl) (vs_bind fun x hx => (vs_ret (q_op2 (q_var rfl) (q_var rfl) rfl rfl (g_ixL (f := rI) hx)))) (vs_ret q_con) hx_1) rfl rfl rfl (bl_bind fun x_2 hx_2 => (bl_ret (q_lst (ds := List.map rI [(if x_1 - 1000000000000000000 > 0 then x_1 - 1000000000000000000 else 0), (x_2 + (90001 * k)) + 17, 0]) (a_FN (q_bi (a_T q_con (a_T (q_op2 (q_var rfl) (q_op2 q_con q_con rfl rfl (g_powIk (by decide) (by decide))) rfl rfl g_subI) a_nil)) (cs_cons rfl (cs_cons rfl cs_nil)) g_max2) rfl rfl (a_FN (q_op2 (q_op2 (q_op2 (q_bi (a_T (q_bi (a_T (q_var rfl) a_nil) (cs_cons rfl cs_nil) g_abs) a_nil) (cs_cons rfl cs_nil) g_intI) (q_op2 (q_op2 q_con q_con rfl rfl (g_powIk (by decide) (by decide))) q_con rfl rfl g_addI) rfl rfl (g_modI hx_2)) (q_op2 q_con (q_var rfl) rfl rfl (g_mulIl (by decide))) rfl rfl g_addI) q_con rfl rfl g_addI) rfl rfl (a_FN q_con rfl rfl a_nil))) rfl rfl) rfl rfl ⟨_, rfl⟩))))))
theorem rf__law_coin (purse_here : (List Int)) (many : Int) : RefT F__law_coin [⟨(rL rI) purse_here, true⟩, ⟨rI many, false⟩] rI false (fun tz => [sp_ (rL rI) tz, sl_ rI many]) (g__law_coin purse_here many) := ref_ofT (ρ := [sp_ (rL rI) purse_here, sl_ rI many, none, none]) rfl rfl (by
  unfold g__law_coin
  exact bl_last (bl_assoc (bl_bind fun x hx => (bl_if (q_dB (q_cmp (q_op2 (q_var rfl) q_con rfl rfl (g_ixL (f := rI) hx)) q_con rfl rfl g_gtI) rfl) (fun _ => (bl_assoc (bl_bind fun x_1 hx_1 => (bl_bind fun x_2 hx_2 => (bl_setV (ρ2 := [sp_ (rL rI) purse_here, sl_ rI many, sl_ rI x_2, none]) (q_op2 (q_bi (a_T (q_op2 (q_var rfl) q_con rfl rfl (g_ixL (f := rI) hx_1)) a_nil) (cs_cons rfl cs_nil) g_intI) (q_var rfl) rfl rfl (g_modI hx_2)) rfl rfl rfl (bl_assoc (bl_bind fun x_3 hx_3 => (bl_bind fun x_4 hx_4 => (bl_bind fun purse_here_1 hpurse_here_1 => (bl_seq (ρ1 := [sp_ (rL rI) purse_here_1, sl_ rI many, sl_ rI x_2, none]) (q_setIx (q_op2 (q_op2 (q_var rfl) q_con rfl rfl (g_ixL (f := rI) hx_3)) (q_var rfl) rfl rfl (g_divI hx_4)) rfl rfl rfl q_con rfl rfl (g_setL (f := rI) hpurse_here_1) rfl) (bl_ret (q_shN (q_var rfl) rfl rfl) rfl rfl ⟨_, rfl, rfl⟩))))))))))) (fun _ => (bl_nextS (bl_assoc (bl_bind fun x_5 hx_5 => (bl_bind fun purse_here_2 hpurse_here_2 => (bl_seq (ρ1 := [sp_ (rL rI) purse_here_2, sl_ rI many, none, none]) (q_setIx (q_op2 (q_op2 (q_var rfl) q_con rfl rfl (g_ixL (f := rI) hx_5)) q_con rfl rfl g_addI) rfl rfl rfl q_con rfl rfl (g_setL (f := rI) hpurse_here_2) rfl) (bl_assoc (bl_bind fun x_6 hx_6 => (bl_bind fun x_7 hx_7 => (bl_bind fun x_8 hx_8 => (bl_bind fun x_9 hx_9 => (bl_setV (ρ2 := [sp_ (rL rI) purse_here_2, sl_ rI many, none, sl_ rI x_9]) (q_op2 (q_bi (a_T (q_op2 (q_op2 (q_op2 (q_var rfl) q_con rfl rfl (g_ixL (f := rI) hx_6)) (q_op2 q_con (q_op2 (q_var rfl) q_con rfl rfl (g_ixL (f := rI) hx_7)) rfl rfl (g_mulIl (by decide))) rfl rfl g_addI) q_con rfl rfl (g_powN hx_8)) a_nil) (cs_cons rfl cs_nil) g_intI) (q_op2 (q_op2 q_con q_con rfl rfl (g_powIk (by decide) (by decide))) q_con rfl rfl g_addI) rfl rfl (g_modI hx_9)) rfl rfl rfl (bl_assoc (bl_bind fun x_10 hx_10 => (bl_bind fun x_11 hx_11 => (bl_bind fun x_12 hx_12 => (bl_setV (ρ2 := [sp_ (rL rI) purse_here_2, sl_ rI many, none, sl_ rI x_12]) (q_op2 (q_bi (a_T (q_op2 (q_op2 (q_var rfl) (q_op2 q_con (q_op2 (q_var rfl) q_con rfl rfl (g_ixL (f := rI) hx_10)) rfl rfl (g_mulIl (by decide))) rfl rfl g_addI) q_con rfl rfl (g_powN hx_11)) a_nil) (cs_cons rfl cs_nil) g_intI) (q_op2 (q_op2 q_con q_con rfl rfl (g_powIk (by decide) (by decide))) q_con rfl rfl g_addI) rfl rfl (g_modI hx_12)) rfl rfl rfl (bl_bind fun x_13 hx_13 => (bl_ret (q_op2 (q_bi (a_T (q_op2 (q_var rfl) q_con rfl rfl (g_divIk (by decide))) a_nil) (cs_cons rfl cs_nil) g_intI) (q_var rfl) rfl rfl (g_modI hx_13)) rfl rfl ⟨_, rfl, rfl⟩)))))))))))))))))))))))
theorem rf__law_set (purse_here : (List Int)) (letters : (List Nat)) : RefT F__law_set [⟨(rL rI) purse_here, true⟩, ⟨rS letters, false⟩] rS false (fun tz => [sp_ (rL rI) tz, sl_ rS letters]) (g__law_set purse_here letters) := ref_ofT (ρ := [sp_ (rL rI) purse_here, sl_ rS letters, none, none, none]) rfl rfl (by
  unfold g__law_set
  exact bl_last (bl_assoc (bl_bind fun x hx => (bl_bind fun x_1 hx_1 => (bl_bind fun x_2 hx_2 => (bl_set (f := rI) (S := (fun bits => [sp_ (rL rI) x_2.2, sl_ rS letters, sl_ rI bits, none, none])) (q_op2 q_con (q_callT (ρ2 := [sp_ (rL rI) x_2.2, sl_ rS letters, none, none, none]) (rf__law_coin purse_here (x_1 - 1)) hx_2 (a_T (q_var rfl) (a_FN (q_op2 (q_op2 q_con (q_bi (a_T (q_var rfl) a_nil) (cs_cons rfl cs_nil) (g_lenS hx)) rfl rfl (g_shlI hx_1)) q_con rfl rfl g_subI) rfl rfl a_nil)) rfl rfl rfl rfl) rfl rfl g_addI) rfl rfl (fun _ => rfl) fun bits => (bl_bind fun x_4 hx_4 => (bl_bind fun res hres => (bl_ret (q_mt (q_str strK0) rfl isStr_S (a_T (q_lc (f := rS) (fun p => [sp_ (rL rI) x_2.2, sl_ rS letters, sl_ rI bits, sl_ rI p.1, sl_ rS p.2]) (i_enumS (a_FN (q_var rfl) rfl rfl a_nil) rfl) rfl rfl (fun _ => rfl) (fun _ => rfl) (fun p => (vt_bind fun x_3 hx_3 => (vt_ret (q_dB (q_cmp (q_op2 (q_op2 (q_var rfl) (q_var rfl) rfl rfl (g_shrI hx_3)) q_con rfl rfl g_andI) q_con rfl rfl g_eqI) rfl)))) (fun p => (ve_ret (f := rS) (q_var rfl) rfl rfl)) hx_4) a_nil) rfl (cs_cons rfl cs_nil) (g_join hres)) rfl rfl ⟨_, rfl, rfl⟩)))))))))
theorem rf__law_end_set (purse_here : (List Int)) (letters : (List Nat)) : RefT F__law_end_set [⟨(rL rI) purse_here, true⟩, ⟨rS letters, false⟩] rS false (fun tz => [sp_ (rL rI) tz, sl_ rS letters]) (g__law_end_set purse_here letters) := ref_ofT (ρ := [sp_ (rL rI) purse_here, sl_ rS letters, none]) rfl rfl (by
  unfold g__law_end_set
  exact bl_last (bl_assoc (bl_bind fun way hway => (bl_setV (ρ2 := [sp_ (rL rI) way.2, sl_ rS letters, sl_ rI way.1]) (q_callT (ρ2 := [sp_ (rL rI) way.2, sl_ rS letters, none]) (rf__law_coin purse_here 4) hway (a_T (q_var rfl) (a_FN q_con rfl rfl a_nil)) rfl rfl rfl rfl) rfl rfl rfl (bl_bind fun x hx => (bl_bind fun x_1 hx_1 => (bl_bind fun x_2 hx_2 => (bl_bind fun x_3 hx_3 => (bl_bind fun res hres => (bl_ret (q_op2 (q_lst (ds := List.map rS [[35], x_1, x_2.1, x_3.1]) (a_FN (q_str strK1) rfl rfl (a_FN (q_op2 (q_str strK1) (q_callT (ρ2 := [sp_ (rL rI) x.2, sl_ rS letters, sl_ rI way.1]) (rf__law_set way.2 letters) hx (a_T (q_var rfl) (a_FN (q_var rfl) rfl rfl a_nil)) rfl rfl rfl rfl) rfl rfl (g_addS hx_1)) rfl rfl (a_FN (q_callT (ρ2 := [sp_ (rL rI) x_2.2, sl_ rS letters, sl_ rI way.1]) (rf__law_set x.2 letters) hx_2 (a_T (q_var rfl) (a_FN (q_var rfl) rfl rfl a_nil)) rfl rfl rfl rfl) rfl rfl (a_FN (q_callT (ρ2 := [sp_ (rL rI) x_3.2, sl_ rS letters, sl_ rI way.1]) (rf__law_set x_2.2 letters) hx_3 (a_T (q_var rfl) (a_FN (q_var rfl) rfl rfl a_nil)) rfl rfl rfl rfl) rfl rfl a_nil)))) rfl rfl) (q_var rfl) rfl rfl (g_ixL (f := rS) hres)) rfl rfl ⟨_, rfl, rfl⟩))))))))))
theorem rf__law_rule (purse_here : (List Int)) (letters : (List Nat)) : RefT F__law_rule [⟨(rL rI) purse_here, true⟩, ⟨rS letters, false⟩] rU false (fun tz => [sp_ (rL rI) tz, sl_ rS letters]) (g__law_rule purse_here letters) := ref_ofT (ρ := [sp_ (rL rI) purse_here, sl_ rS letters, none]) rfl rfl (by
  unfold g__law_rule
  exact bl_last (bl_assoc (bl_bind fun x hx => (bl_bind fun kind hkind => (bl_setV (ρ2 := [sp_ (rL rI) x.2, sl_ rS letters, sl_ rS kind]) (q_op2 (q_lst (ds := List.map rS [[111, 110, 101], [112, 97, 105, 114], [112, 97, 105, 114], [99, 104, 97, 110, 103, 101], [100, 114, 111, 112], [97, 100, 100]]) (a_FN (q_str strK2) rfl rfl (a_FN (q_str strK3) rfl rfl (a_FN (q_str strK3) rfl rfl (a_FN (q_str strK4) rfl rfl (a_FN (q_str strK5) rfl rfl (a_FN (q_str strK6) rfl rfl a_nil)))))) rfl rfl) (q_callT (ρ2 := [sp_ (rL rI) x.2, sl_ rS letters, none]) (rf__law_coin purse_here 6) hx (a_T (q_var rfl) (a_FN q_con rfl rfl a_nil)) rfl rfl rfl rfl) rfl rfl (g_ixL (f := rS) hkind)) rfl rfl rfl (bl_assoc (bl_if (q_dB (q_cmp (q_var rfl) (q_str strK3) rfl rfl g_eqS) rfl) (fun _ => (bl_bind fun x_1 hx_1 => (bl_bind fun x_2 hx_2 => (bl_ret (q_tup (ds := [rS kind, rS x_1.1, rS x_2.1]) (a_FN (q_var rfl) rfl rfl (a_FN (q_callT (ρ2 := [sp_ (rL rI) x_1.2, sl_ rS letters, sl_ rS kind]) (rf__law_end_set x.2 letters) hx_1 (a_T (q_var rfl) (a_FN (q_var rfl) rfl rfl a_nil)) rfl rfl rfl rfl) rfl rfl (a_FN (q_callT (ρ2 := [sp_ (rL rI) x_2.2, sl_ rS letters, sl_ rS kind]) (rf__law_end_set x_1.2 letters) hx_2 (a_T (q_var rfl) (a_FN (q_var rfl) rfl rfl a_nil)) rfl rfl rfl rfl) rfl rfl a_nil))) rfl rfl) rfl rfl ⟨_, rfl, rfl⟩)))) (fun _ => (bl_nextS (bl_assoc (bl_if (q_dB (q_cmp (q_var rfl) (q_str strK4) rfl rfl g_eqS) rfl) (fun _ => (bl_bind fun x_3 hx_3 => (bl_bind fun x_4 hx_4 => (bl_ret (q_tup (ds := [rS kind, rS x_3.1, rS x_4.1]) (a_FN (q_var rfl) rfl rfl (a_FN (q_callT (ρ2 := [sp_ (rL rI) x_3.2, sl_ rS letters, sl_ rS kind]) (rf__law_set x.2 letters) hx_3 (a_T (q_var rfl) (a_FN (q_var rfl) rfl rfl a_nil)) rfl rfl rfl rfl) rfl rfl (a_FN (q_callT (ρ2 := [sp_ (rL rI) x_4.2, sl_ rS letters, sl_ rS kind]) (rf__law_set x_3.2 letters) hx_4 (a_T (q_var rfl) (a_FN (q_var rfl) rfl rfl a_nil)) rfl rfl rfl rfl) rfl rfl a_nil))) rfl rfl) rfl rfl ⟨_, rfl, rfl⟩)))) (fun _ => (bl_nextS (bl_bind fun x_5 hx_5 => (bl_ret (q_tup (ds := [rS kind, rS x_5.1]) (a_FN (q_var rfl) rfl rfl (a_FN (q_callT (ρ2 := [sp_ (rL rI) x_5.2, sl_ rS letters, sl_ rS kind]) (rf__law_set x.2 letters) hx_5 (a_T (q_var rfl) (a_FN (q_var rfl) rfl rfl a_nil)) rfl rfl rfl rfl) rfl rfl a_nil)) rfl rfl) rfl rfl ⟨_, rfl, rfl⟩)))))))))))))))
theorem rf__law_grammar_b2 (alphabets : (List (List Nat))) (most : Int) (letters : (List Nat)) (all_of : (List D)) (s' : ((List Int) × (List D))) (turn_1 : Int) : BL (PF [6, 7] (PL (fun (s' : ((List Int) × (List D))) => [sp_ (rL rI) s'.1, sl_ (rL rS) alphabets, sl_ rI most, sl_ rS letters, sl_ (rL rU) s'.2, sl_ (rL rU) all_of, none, none]))) [sp_ (rL rI) s'.1, sl_ (rL rS) alphabets, sl_ rI most, sl_ rS letters, sl_ (rL rU) s'.2, sl_ (rL rU) all_of, sl_ rI turn_1, none] r__law_grammar_3_a_3_l_1 (g__law_grammar_b2 s' turn_1) := by
  unfold g__law_grammar_b2
  exact bl_last (bl_assoc (bl_bind fun at' hat' => (bl_setV (ρ2 := [sp_ (rL rI) at'.2, sl_ (rL rS) alphabets, sl_ rI most, sl_ rS letters, sl_ (rL rU) s'.2, sl_ (rL rU) all_of, sl_ rI turn_1, sl_ rI at'.1]) (q_callT (ρ2 := [sp_ (rL rI) at'.2, sl_ (rL rS) alphabets, sl_ rI most, sl_ rS letters, sl_ (rL rU) s'.2, sl_ (rL rU) all_of, sl_ rI turn_1, none]) (rf__law_coin s'.1 (s'.2.length : Int)) hat' (a_T (q_var rfl) (a_FN (q_bi (a_T (q_var rfl) a_nil) (cs_cons rfl cs_nil) (g_lenL (f := rU))) rfl rfl a_nil)) rfl rfl rfl rfl) rfl rfl rfl (bl_bind fun x_6 hx_6 => (bl_setV (ρ2 := [sp_ (rL rI) at'.2, sl_ (rL rS) alphabets, sl_ rI most, sl_ rS letters, sl_ (rL rU) x_6, sl_ (rL rU) all_of, sl_ rI turn_1, sl_ rI at'.1]) (q_shN (q_op2 (q_slT (q_var rfl) (q_part (q_var rfl) rfl) q_part0 rfl) (q_revL (q_slT (q_var rfl) q_part0 (q_part (q_var rfl) rfl) rfl) rfl) rfl rfl (g_addL (f := rU) hx_6)) rfl rfl) rfl rfl rfl (bl_end (Or.inl rfl)))))))
theorem rf__law_grammar (purse_here : (List Int)) (alphabets : (List (List Nat))) (most : Int) : RefT F__law_grammar [⟨(rL rI) purse_here, true⟩, ⟨(rL rS) alphabets, false⟩, ⟨rI most, false⟩] (rP rS (rL rU)) false (fun tz => [sp_ (rL rI) tz, sl_ (rL rS) alphabets, sl_ rI most]) (g__law_grammar purse_here alphabets most) := ref_ofT (ρ := [sp_ (rL rI) purse_here, sl_ (rL rS) alphabets, sl_ rI most, none, none, none, none, none]) rfl rfl (by
  unfold g__law_grammar
  exact bl_last (bl_assoc (bl_bind fun x hx => (bl_bind fun letters hletters => (bl_setV (ρ2 := [sp_ (rL rI) x.2, sl_ (rL rS) alphabets, sl_ rI most, sl_ rS letters, none, none, none, none]) (q_op2 (q_var rfl) (q_callT (ρ2 := [sp_ (rL rI) x.2, sl_ (rL rS) alphabets, sl_ rI most, none, none, none, none, none]) (rf__law_coin purse_here (alphabets.length : Int)) hx (a_T (q_var rfl) (a_FN (q_bi (a_T (q_var rfl) a_nil) (cs_cons rfl cs_nil) (g_lenL (f := rS))) rfl rfl a_nil)) rfl rfl rfl rfl) rfl rfl (g_ixL (f := rS) hletters)) rfl rfl rfl (bl_assoc (bl_bind fun x_1 hx_1 => (bl_bind fun r hr => (bl_bind fun rules hrules => (bl_seq (ρ1 := [sp_ (rL rI) rules.2, sl_ (rL rS) alphabets, sl_ rI most, sl_ rS letters, sl_ (rL rU) rules.1, none, none, none]) (q_shE (q_set (q_lcX (f := rU) (s := x_1.2) (fun t => [sp_ (rL rI) t, sl_ (rL rS) alphabets, sl_ rI most, sl_ rS letters, none, none, none, none]) (fun t turn => [sp_ (rL rI) t, sl_ (rL rS) alphabets, sl_ rI most, sl_ rS letters, none, none, sl_ rI turn, none]) (i_rng (a_T (q_op2 q_con (q_callT (ρ2 := [sp_ (rL rI) x_1.2, sl_ (rL rS) alphabets, sl_ rI most, sl_ rS letters, none, none, none, none]) (rf__law_coin x.2 most) hx_1 (a_T (q_var rfl) (a_FN (q_var rfl) rfl rfl a_nil)) rfl rfl rfl rfl) rfl rfl g_addI) a_nil) (cs_cons rfl cs_nil) (g_rng1 hr)) rfl rfl (fun _ _ => rfl) (fun _ _ => rfl) (fun t turn => (xt_ret rfl)) (fun t turn => (xe_bind fun x_3 hx_3 => (xe_ret (f := rU) (q_callT (ρ2 := [sp_ (rL rI) x_3.2, sl_ (rL rS) alphabets, sl_ rI most, sl_ rS letters, none, none, sl_ rI turn, none]) (rf__law_rule t letters) hx_3 (a_T (q_var rfl) (a_FN (q_var rfl) rfl rfl a_nil)) rfl rfl rfl rfl) rfl rfl))) hrules) rfl rfl rfl) rfl) (bl_assoc (bl_bind fun x_4 hx_4 => (bl_ifJ (fun (s'_2 : ((List Int) × (List D))) => [sp_ (rL rI) s'_2.1, sl_ (rL rS) alphabets, sl_ rI most, sl_ rS letters, sl_ (rL rU) s'_2.2, none, none, none]) (q_dB (q_cmp (q_callT (ρ2 := [sp_ (rL rI) x_4.2, sl_ (rL rS) alphabets, sl_ rI most, sl_ rS letters, sl_ (rL rU) rules.1, none, none, none]) (rf__law_coin rules.2 2) hx_4 (a_T (q_var rfl) (a_FN q_con rfl rfl a_nil)) rfl rfl rfl rfl) q_con rfl rfl g_eqI) rfl) (fun _ => (bl_fgE (bl_last (bl_assoc (bl_set (f := (rL rU)) (S := (fun all_of => [sp_ (rL rI) x_4.2, sl_ (rL rS) alphabets, sl_ rI most, sl_ rS letters, sl_ (rL rU) rules.1, sl_ (rL rU) all_of, none, none])) (q_shN (q_lst (ds := [(rP3 rS rS rS) ([99, 104, 97, 110, 103, 101], letters, letters), (rP rS rS) ([100, 114, 111, 112], letters), (rP rS rS) ([97, 100, 100], letters)]) (a_FN (q_tup (ds := [rS [99, 104, 97, 110, 103, 101], rS letters, rS letters]) (a_FN (q_str strK4) rfl rfl (a_FN (q_var rfl) rfl rfl (a_FN (q_var rfl) rfl rfl a_nil))) rfl rfl) rfl rfl (a_FN (q_tup (ds := [rS [100, 114, 111, 112], rS letters]) (a_FN (q_str strK5) rfl rfl (a_FN (q_var rfl) rfl rfl a_nil)) rfl rfl) rfl rfl (a_FN (q_tup (ds := [rS [97, 100, 100], rS letters]) (a_FN (q_str strK6) rfl rfl (a_FN (q_var rfl) rfl rfl a_nil)) rfl rfl) rfl rfl a_nil))) rfl rfl) rfl rfl) rfl rfl (fun _ => rfl) fun all_of => (bl_assoc (bl_bind fun x_5 hx_5 => (bl_set (f := (rL rU)) (S := (fun rules_1 => [sp_ (rL rI) x_4.2, sl_ (rL rS) alphabets, sl_ rI most, sl_ rS letters, sl_ (rL rU) rules_1, sl_ (rL rU) all_of, none, none])) (q_shN (q_slT (q_op2 (q_var rfl) (q_var rfl) rfl rfl (g_addL (f := rU) hx_5)) q_part0 (q_part (q_var rfl) rfl) rfl) rfl rfl) rfl rfl (fun _ => rfl) fun rules_1 => (bl_bind fun r_1 hr_1 => (bl_for (fb := rI) (s0 := (x_4.2, rules_1)) (fun (s' : ((List Int) × (List D))) => [sp_ (rL rI) s'.1, sl_ (rL rS) alphabets, sl_ rI most, sl_ rS letters, sl_ (rL rU) s'.2, sl_ (rL rU) all_of, none, none]) (fun (s' : ((List Int) × (List D))) (turn_1 : Int) => [sp_ (rL rI) s'.1, sl_ (rL rS) alphabets, sl_ rI most, sl_ rS letters, sl_ (rL rU) s'.2, sl_ (rL rU) all_of, sl_ rI turn_1, none]) rfl (i_rng (a_T q_con a_nil) (cs_cons rfl cs_nil) (g_rng1 hr_1)) (fun _ _ => rfl) (fun s turn_1 => rf__law_grammar_b2 alphabets most letters all_of s turn_1) fun s'_1 => (bl_end rfl))))))))))) (fun _ => (bl_last (bl_nextS (bl_end rfl)))) fun s'_2 => (bl_ret (q_tup (ds := [rS letters, (rL rU) s'_2.2]) (a_FN (q_var rfl) rfl rfl (a_FN (q_var rfl) rfl rfl a_nil)) rfl rfl) rfl rfl ⟨_, rfl, rfl⟩))))))))))))))
theorem rf__law_word (purse_here : (List Int)) (letters : (List Nat)) (most : Int) : RefT F__law_word [⟨(rL rI) purse_here, true⟩, ⟨rS letters, false⟩, ⟨rI most, false⟩] rS false (fun tz => [sp_ (rL rI) tz, sl_ rS letters, sl_ rI most]) (g__law_word purse_here letters most) := ref_ofT (ρ := [sp_ (rL rI) purse_here, sl_ rS letters, sl_ rI most, none]) rfl rfl (by
  unfold g__law_word
  exact bl_last (bl_bind fun x hx => (bl_bind fun r hr => (bl_bind fun x_7 hx_7 => (bl_bind fun res hres => (bl_ret (q_mt (q_str strK0) rfl isStr_S (a_T (q_lcX (f := rS) (s := x.2) (fun t => [sp_ (rL rI) t, sl_ rS letters, sl_ rI most, none]) (fun t turn => [sp_ (rL rI) t, sl_ rS letters, sl_ rI most, sl_ rI turn]) (i_rng (a_T (q_callT (ρ2 := [sp_ (rL rI) x.2, sl_ rS letters, sl_ rI most, none]) (rf__law_coin purse_here (most + 1)) hx (a_T (q_var rfl) (a_FN (q_op2 (q_var rfl) q_con rfl rfl g_addI) rfl rfl a_nil)) rfl rfl rfl rfl) a_nil) (cs_cons rfl cs_nil) (g_rng1 hr)) rfl rfl (fun _ _ => rfl) (fun _ _ => rfl) (fun t turn => (xt_ret rfl)) (fun t turn => (xe_bind fun x_4 hx_4 => (xe_bind fun x_5 hx_5 => (xe_bind fun x_6 hx_6 => (xe_ret (f := rS) (q_op2 (q_var rfl) (q_callT (ρ2 := [sp_ (rL rI) x_5.2, sl_ rS letters, sl_ rI most, sl_ rI turn]) (rf__law_coin t x_4) hx_5 (a_T (q_var rfl) (a_FN (q_bi (a_T (q_var rfl) a_nil) (cs_cons rfl cs_nil) (g_lenS hx_4)) rfl rfl a_nil)) rfl rfl rfl rfl) rfl rfl (g_ixS hx_6)) rfl rfl))))) hx_7) a_nil) rfl (cs_cons rfl cs_nil) (g_join hres)) rfl rfl ⟨_, rfl, rfl⟩))))))
theorem rf_is_ascending (text : (List Nat)) : Ref F_is_ascending [⟨rS text, false⟩] rB false (g_is_ascending text) := ref_of (ρ := [sl_ rS text, none, none]) rfl (by
  unfold g_is_ascending
  exact bl_last (bl_bind fun x hx => (bl_bind fun x_1 hx_1 => (bl_ret (q_bi (a_T (q_lc (f := rB) (fun p => [sl_ rS text, sl_ rS p.1, sl_ rS p.2]) (i_zipS (a_FN (q_var rfl) rfl rfl (a_FN (q_slS (q_var rfl) (q_part q_con rfl) q_part0 rfl hx) rfl rfl a_nil)) rfl sq_str sq_str) rfl rfl (fun _ => rfl) (fun _ => rfl) (fun p => (vt_ret rfl)) (fun p => (ve_ret (f := rB) (q_cmp (q_var rfl) (q_var rfl) rfl rfl g_ltS) rfl rfl)) hx_1) a_nil) (cs_cons rfl cs_nil) g_all) rfl rfl ⟨_, rfl⟩))))
theorem rf_is_set (value : D) (known : (List Nat)) : Ref F_is_set [⟨rU value, false⟩, ⟨rS known, false⟩] rB false (g_is_set value known) := ref_of (ρ := [sl_ rU value, sl_ rS known, none]) rfl (by
  unfold g_is_set
  exact bl_last (bl_assoc (bl_bind fun b hb => (bl_bind fun b_2 hb_2 => (bl_if (q_orP (q_not (q_dTr (q_isiU (q_var rfl) rfl hb) rfl t_B)) (vt_bind fun b_1 hb_1 => (vt_ret (q_dB (q_cmp (q_var rfl) (q_str strK0) rfl rfl (g_id (h := eqD) hb_1)) rfl))) hb_2) (fun _ => (bl_ret q_con rfl rfl ⟨_, rfl⟩)) (fun _ => (bl_nextS (bl_bind fun x hx => (bl_bind fun x_1 hx_1 => (bl_bind fun b_3 hb_3 => (bl_ret (q_andVP (q_dB (q_callR (rf_is_ascending x) hx_1 (a_FN (q_var rfl) (as_cur as_S hx rfl) rfl a_nil) rfl rfl rfl (fun _ => rfl)) rfl) (vb_bind fun ys hys => (vb_bind fun x_3 hx_3 => (vb_ret (q_bi (a_T (q_lc (f := rB) (fun sign => [sl_ rU value, sl_ rS known, sl_ rU sign]) (i_anyN (q_var rfl) rfl rfl (any_U hys)) rfl rfl (fun _ => rfl) (fun _ => rfl) (fun sign => (vt_ret rfl)) (fun sign => (ve_bind fun x_2 hx_2 => (ve_ret (f := rB) (q_cmp (q_var rfl) (q_var rfl) (as_cur as_S hx_2 rfl) rfl g_inTx) rfl rfl))) hx_3) a_nil) (cs_cons rfl cs_nil) g_all)))) hb_3) rfl rfl ⟨_, rfl⟩)))))))))))
theorem rf_is_rule (value : D) (letters : (List Nat)) : Ref F_is_rule [⟨rU value, false⟩, ⟨rS letters, false⟩] rB false (g_is_rule value letters) := ref_of (ρ := [sl_ rU value, sl_ rS letters, none, none, none, none]) rfl (by
  unfold g_is_rule
  exact bl_last (bl_assoc (bl_bind fun b hb => (bl_bind fun b_4 hb_4 => (bl_if (q_orP (q_not (q_dTr (q_isiU (q_var rfl) rfl hb) rfl t_B)) (vt_bind fun x hx => (vt_bind fun b_3 hb_3 => (vt_ret (q_orP (q_dB (q_cmp (q_bi (a_T (q_var rfl) a_nil) (cs_cons rfl cs_nil) (g_lenU hx)) q_con rfl rfl g_ltI) rfl) (vt_bind fun x_1 hx_1 => (vt_bind fun b_1 hb_1 => (vt_bind fun b_2 hb_2 => (vt_ret (q_orP (q_not (q_dTr (q_isiU (q_op2 (q_var rfl) q_con rfl rfl (g_ixU hx_1)) rfl hb_1) rfl t_B)) (vt_bind fun x_2 hx_2 => (vt_bind fun x_3 hx_3 => (vt_ret (q_dB (q_inT (q_op2 (q_var rfl) q_con rfl rfl (g_ixU hx_2)) (as_cur as_S hx_3 rfl)) rfl)))) hb_2))))) hb_3)))) hb_4) (fun _ => (bl_ret q_con rfl rfl ⟨_, rfl⟩)) (fun _ => (bl_nextS (bl_assoc (bl_bind fun p hp => (bl_seq (ρ1 := [sl_ rU value, sl_ rS letters, sl_ rU p.1, so_ (rL rU) p.2, none, none]) (q_star (q_var rfl) rfl hp rfl rfl rfl) (bl_assoc (bl_bind fun b_5 hb_5 => (bl_bind fun x_5 hx_5 => (bl_setV (ρ2 := [sl_ rU value, sl_ rS letters, sl_ rU p.1, so_ (rL rU) p.2, sl_ rS x_5, none]) (q_ifxP (f := rS) (q_dB (q_cmp (q_var rfl) (q_str strK3) rfl rfl (g_id (h := eqD) hb_5)) rfl) (vs_bind fun x_4 hx_4 => (vs_ret (q_op2 (q_str strK1) (q_var rfl) rfl rfl (g_addS hx_4)))) (vs_ret (q_shN (q_var rfl) rfl rfl)) hx_5) rfl rfl rfl (bl_shB rfl (bl_bind fun x_6 hx_6 => (bl_bind fun x_7 hx_7 => (bl_bind fun b_6 hb_6 => (bl_ret (q_andVP (q_dB (q_cmp (q_bi (a_T (q_var rfl) a_nil) (cs_cons rfl cs_nil) (g_lenL (f := rU))) (q_ixT (q_var rfl) (as_cur as_S hx_6 rfl) hx_7) rfl rfl g_eqI) rfl) (vb_bind fun x_9 hx_9 => (vb_ret (q_bi (a_T (q_lc (f := rB) (fun one => [sl_ rU value, sl_ rS letters, sl_ rU p.1, sl_ (rL rU) p.2, sl_ rS x_5, sl_ rU one]) (i_anyN (q_var rfl) rfl rfl rfl) rfl rfl (fun _ => rfl) (fun _ => rfl) (fun one => (vt_ret rfl)) (fun one => (ve_bind fun x_8 hx_8 => (ve_ret (f := rB) (q_callR (rf_is_set one x_5) hx_8 (a_FN (q_var rfl) rfl rfl (a_FN (q_var rfl) rfl rfl a_nil)) rfl rfl rfl (fun _ => rfl)) rfl rfl))) hx_9) a_nil) (cs_cons rfl cs_nil) g_all))) hb_6) rfl rfl ⟨_, rfl⟩)))))))))))))))))))
theorem rf_is_grammar (value : D) : Ref F_is_grammar [⟨rU value, false⟩] rB false (g_is_grammar value) := ref_of (ρ := [sl_ rU value, none, none, none]) rfl (by
  unfold g_is_grammar
  exact bl_last (bl_assoc (bl_bind fun b hb => (bl_bind fun b_1 hb_1 => (bl_if (q_orP (q_not (q_dTr (q_isiU (q_var rfl) rfl hb) rfl t_B)) (vt_bind fun x hx => (vt_ret (q_dB (q_cmp (q_bi (a_T (q_var rfl) a_nil) (cs_cons rfl cs_nil) (g_lenU hx)) q_con rfl rfl (g_ne g_eqI)) rfl))) hb_1) (fun _ => (bl_ret q_con rfl rfl ⟨_, rfl⟩)) (fun _ => (bl_nextS (bl_assoc (bl_bind fun x_1 hx_1 => (bl_seq (ρ1 := [sl_ rU value, sl_ rU x_1.1, sl_ rU x_1.2, none]) (q_unpN (q_var rfl) (as_cur (as_P as_U as_U) hx_1 rfl) rfl rfl) (bl_assoc (bl_bind fun x_2 hx_2 => (bl_bind fun b_2 hb_2 => (bl_if (q_orP (q_not (q_dTr (q_callR (rf_is_set x_1.1 [97, 98, 99, 100, 101, 102, 103, 104, 105, 106, 107, 108, 109, 110, 111, 112, 113, 114, 115, 116, 117, 118, 119, 120, 121, 122]) hx_2 (a_FN (q_var rfl) rfl rfl (a_FN (q_str strK7) rfl rfl a_nil)) rfl rfl rfl (fun _ => rfl)) rfl t_B)) (vt_bind fun x_3 hx_3 => (vt_ret (q_dB (q_cmp (q_bi (a_T (q_var rfl) a_nil) (cs_cons rfl cs_nil) (g_lenU hx_3)) q_con rfl rfl g_gtI) rfl))) hb_2) (fun _ => (bl_ret q_con rfl rfl ⟨_, rfl⟩)) (fun _ => (bl_nextS (bl_assoc (bl_bind fun b_3 hb_3 => (bl_bind fun b_4 hb_4 => (bl_if (q_orP (q_not (q_dTr (q_isiU (q_var rfl) rfl hb_3) rfl t_B)) (vt_bind fun x_4 hx_4 => (vt_ret (q_not (q_dB (q_chain q_con (q_bi (a_T (q_var rfl) a_nil) (cs_cons rfl cs_nil) (g_lenU hx_4)) q_con rfl rfl rfl g_leI g_leI) rfl)))) hb_4) (fun _ => (bl_ret q_con rfl rfl ⟨_, rfl⟩)) (fun _ => (bl_nextS (bl_bind fun ys hys => (bl_bind fun x_7 hx_7 => (bl_ret (q_bi (a_T (q_lc (f := rB) (fun rule => [sl_ rU value, sl_ rU x_1.1, sl_ rU x_1.2, sl_ rU rule]) (i_anyN (q_var rfl) rfl rfl (any_U hys)) rfl rfl (fun _ => rfl) (fun _ => rfl) (fun rule => (vt_ret rfl)) (fun rule => (ve_bind fun x_5 hx_5 => (ve_bind fun x_6 hx_6 => (ve_ret (f := rB) (q_callR (rf_is_rule rule x_5) hx_6 (a_FN (q_var rfl) rfl rfl (a_FN (q_var rfl) (as_cur as_S hx_5 rfl) rfl a_nil)) rfl rfl rfl (fun _ => rfl)) rfl rfl)))) hx_7) a_nil) (cs_cons rfl cs_nil) g_all) rfl rfl ⟨_, rfl⟩)))))))))))))))))))))))))
theorem rf_need_grammar (value : D) : Ref F_need_grammar [⟨rU value, false⟩] rN false (g_need_grammar value) := ref_ofU (ρ := [sl_ rU value]) rfl (by
  unfold g_need_grammar
  exact bl_last (bl_bind fun x hx => (bl_if (q_not (q_dTr (q_callR (rf_is_grammar value) hx (a_FN (q_var rfl) rfl rfl a_nil) rfl rfl rfl (fun _ => rfl)) rfl t_B)) (fun _ => bl_never) (fun _ => (bl_nextS (bl_end (.inl ⟨_, rfl⟩)))))))
theorem rf_need_word (grammar : ((List Nat) × (List D))) (value : (List Nat)) (most : Int) : Ref F_need_word [⟨(rP rS (rL rU)) grammar, false⟩, ⟨rS value, false⟩, ⟨rI most, false⟩] rN false (g_need_word grammar value most) := ref_ofU (ρ := [sl_ (rP rS (rL rU)) grammar, sl_ rS value, sl_ rI most, none]) rfl (by
  unfold g_need_word
  exact bl_last (bl_bind fun b_1 hb_1 => (bl_if (q_orP (q_not (q_dTr (q_isi (t := .str) (q_var rfl) rfl rfl) rfl t_B)) (vt_bind fun x hx => (vt_bind fun b hb => (vt_ret (q_orP (q_dB (q_cmp (q_bi (a_T (q_var rfl) a_nil) (cs_cons rfl cs_nil) (g_lenS hx)) (q_var rfl) rfl rfl g_gtI) rfl) (vt_bind fun x_1 hx_1 => (vt_ret (q_not (q_dTr (q_bi (a_T (q_lc (f := rB) (fun sign => [sl_ (rP rS (rL rU)) grammar, sl_ rS value, sl_ rI most, sl_ rS sign]) (i_anyN (q_var rfl) rfl rfl (any_S _)) rfl rfl (fun _ => rfl) (fun _ => rfl) (fun sign => (vt_ret rfl)) (fun sign => (ve_ret (f := rB) (q_cmp (q_var rfl) (q_op2 (q_var rfl) q_con rfl rfl rfl) rfl rfl g_inTx) rfl rfl)) hx_1) a_nil) (cs_cons rfl cs_nil) g_all) rfl t_B)))) hb)))) hb_1) (fun _ => bl_never) (fun _ => (bl_nextS (bl_end (.inl ⟨_, rfl⟩)))))))
theorem rf_letter_at (word : (List Nat)) (place : Int) : Ref F_letter_at [⟨rS word, false⟩, ⟨rI place, false⟩] (rO rS) false (g_letter_at word place) := ref_of (ρ := [sl_ rS word, sl_ rI place]) rfl (by
  unfold g_letter_at
  exact bl_last (bl_bind fun x_1 hx_1 => (bl_ret (q_ifxP (f := (rO rS)) (q_dB (q_cmp (q_op2 (q_var rfl) q_con rfl rfl (g_modIr (by decide))) q_con rfl rfl g_eqI) rfl) (vs_bind fun x hx => (vs_ret (q_op2 (q_var rfl) (q_op2 (q_var rfl) q_con rfl rfl (g_divIk (by decide))) rfl rfl (g_ixS hx)))) (vs_ret q_con) hx_1) rfl rfl ⟨_, rfl⟩)))
theorem rf_kept_steps (grammar : ((List Nat) × (List D))) (word : (List Nat)) : Ref F_kept_steps [⟨(rP rS (rL rU)) grammar, false⟩, ⟨rS word, false⟩] (rL rU) true (g_kept_steps grammar word) := ref_of (ρ := [sl_ (rP rS (rL rU)) grammar, sl_ rS word, none]) rfl (by
  unfold g_kept_steps
  exact bl_last (bl_assoc (bl_bind fun x hx => (bl_expr (q_callR (rf_need_grammar ((rP rS (rL rU)) grammar)) hx (a_FN (q_var rfl) rfl rfl a_nil) rfl rfl rfl (fun _ => rfl)) (bl_assoc (bl_bind fun x_1 hx_1 => (bl_expr (q_callR (rf_need_word grammar word 10) hx_1 (a_FN (q_var rfl) rfl rfl (a_FN (q_var rfl) rfl rfl a_nil)) rfl rfl rfl (fun _ => rfl)) (bl_bind fun x_2 hx_2 => (bl_bind fun r hr => (bl_bind fun res hres => (bl_ret (q_lc (f := (rO rS)) (fun place => [sl_ (rP rS (rL rU)) grammar, sl_ rS word, sl_ rI place]) (i_rng (a_T (q_op2 (q_op2 q_con (q_bi (a_T (q_var rfl) a_nil) (cs_cons rfl cs_nil) (g_lenS hx_2)) rfl rfl (g_mulIl (by decide))) q_con rfl rfl g_addI) a_nil) (cs_cons rfl cs_nil) (g_rng1 hr)) rfl rfl (fun _ => rfl) (fun _ => rfl) (fun place => (vt_ret rfl)) (fun place => (ve_bind fun x_4 hx_4 => (ve_ret (f := (rO rS)) (q_ifxP (f := (rO rS)) (q_dB (q_cmp (q_op2 (q_var rfl) q_con rfl rfl (g_modIr (by decide))) q_con rfl rfl g_eqI) rfl) (vs_bind fun x_3 hx_3 => (vs_ret (q_callR (rf_letter_at word place) hx_3 (a_FN (q_var rfl) rfl rfl (a_FN (q_var rfl) rfl rfl a_nil)) rfl rfl rfl (fun _ => rfl)))) (vs_ret (q_str strK0)) hx_4) rfl rfl))) hres) (co_lU (f := (rO rS)) rfl) rfl ⟨_, rfl⟩)))))))))))
theorem rf__law_faults (rule_here : D) (word_here : (List Nat)) (steps_here : (List (List Nat))) : Ref F__law_faults [⟨rU rule_here, false⟩, ⟨rS word_here, false⟩, ⟨(rL rS) steps_here, false⟩] rI false (g__law_faults rule_here word_here steps_here) := ref_of (ρ := [sl_ rU rule_here, sl_ rS word_here, sl_ (rL rS) steps_here, none, none, none, none, none, none, none, none, none, none]) rfl (by
  unfold g__law_faults
  exact bl_last (bl_assoc (bl_bind fun output houtput => (bl_bind fun kind hkind => (bl_seq (q_par (a_T (q_mt (q_str strK0) rfl isStr_S (a_T (q_var rfl) a_nil) rfl (cs_cons rfl cs_nil) (g_join houtput)) (a_T (q_op2 (q_var rfl) q_con rfl rfl (g_ixU hkind)) a_nil)) rfl (q_put rfl rfl rfl) (q_put rfl rfl rfl)) (bl_assoc (bl_bind fun b hb => (bl_if (q_dB (q_cmp (q_var rfl) (q_str strK2) rfl rfl (g_id (h := eqD) hb)) rfl) (fun _ => (bl_bind fun x_2 hx_2 => (bl_ret (q_bi (a_T (q_lc (f := rI) (fun sign => [sl_ rU rule_here, sl_ rS word_here, sl_ (rL rS) steps_here, sl_ rS output, sl_ rU kind, none, none, none, sl_ rS sign, none, none, none, none]) (i_anyN (q_var rfl) rfl rfl (any_S _)) rfl rfl (fun _ => rfl) (fun _ => rfl) (fun sign => (vt_bind fun x hx => (vt_bind fun x_1 hx_1 => (vt_ret (q_dB (q_cmp (q_var rfl) (q_op2 (q_var rfl) q_con rfl rfl (g_ixU hx)) rfl (as_cur as_S hx_1 rfl) g_inTx) rfl))))) (fun sign => (ve_ret (f := rI) q_con rfl rfl)) hx_2) a_nil) (cs_cons rfl cs_nil) (g_lenL (f := rI))) rfl rfl ⟨_, rfl⟩))) (fun _ => (bl_nextS (bl_assoc (bl_bind fun b_1 hb_1 => (bl_if (q_dB (q_cmp (q_var rfl) (q_str strK3) rfl rfl (g_id (h := eqD) hb_1)) rfl) (fun _ => (bl_assoc (bl_bind fun x_3 hx_3 => (bl_bind fun x_4 hx_4 => (bl_setV (ρ2 := [sl_ rU rule_here, sl_ rS word_here, sl_ (rL rS) steps_here, sl_ rS output, sl_ rU kind, sl_ rS x_4, none, none, none, none, none, none, none]) (q_op2 (q_op2 (q_str strK1) (q_var rfl) rfl rfl (g_addS hx_3)) (q_str strK1) rfl rfl (g_addS hx_4)) rfl rfl rfl (bl_bind fun x_5 hx_5 => (bl_bind fun x_10 hx_10 => (bl_ret (q_bi (a_T (q_lc (f := rI) (cq := (fun p : ((List Nat) × (List Nat)) => (ixU rule_here 1).bind fun x_6 => (asS x_6).bind fun x_7 => (if (inTx p.1 x_7) = true then ((ixU rule_here 2).bind fun x_8 => (asS x_8).bind fun x_9 => some (inTx p.2 x_9)) else some false).bind fun b_2 => some b_2)) (ce := (fun p : ((List Nat) × (List Nat)) => some (1 : Int))) (fun p => [sl_ rU rule_here, sl_ rS word_here, sl_ (rL rS) steps_here, sl_ rS output, sl_ rU kind, sl_ rS x_4, none, none, none, sl_ rS p.1, sl_ rS p.2, none, none]) (i_zipS (a_FN (q_var rfl) rfl rfl (a_FN (q_slS (q_var rfl) (q_part q_con rfl) q_part0 rfl hx_5) rfl rfl a_nil)) rfl sq_str sq_str) rfl rfl (fun _ => rfl) (fun _ => rfl) (fun p => (vt_bind fun x_6 hx_6 => (vt_bind fun x_7 hx_7 => (vt_bind fun b_2 hb_2 => (vt_ret (q_andP (q_dB (q_cmp (q_var rfl) (q_op2 (q_var rfl) q_con rfl rfl (g_ixU hx_6)) rfl (as_cur as_S hx_7 rfl) g_inTx) rfl) (vt_bind fun x_8 hx_8 => (vt_bind fun x_9 hx_9 => (vt_ret (q_dB (q_cmp (q_var rfl) (q_op2 (q_var rfl) q_con rfl rfl (g_ixU hx_8)) rfl (as_cur as_S hx_9 rfl) g_inTx) rfl)))) hb_2)))))) (fun p => (ve_ret (f := rI) q_con rfl rfl)) hx_10) a_nil) (cs_cons rfl cs_nil) (g_lenL (f := rI))) rfl rfl ⟨_, rfl⟩)))))))) (fun _ => (bl_nextS (bl_assoc (bl_bind fun b_3 hb_3 => (bl_if (q_dB (q_cmp (q_var rfl) (q_str strK6) rfl rfl (g_id (h := eqD) hb_3)) rfl) (fun _ => (bl_bind fun x_13 hx_13 => (bl_ret (q_bi (a_T (q_lc (f := rI) (fun item => [sl_ rU rule_here, sl_ rS word_here, sl_ (rL rS) steps_here, sl_ rS output, sl_ rU kind, none, none, none, none, none, none, sl_ rS item, none]) (i_anyN (q_ev2 (q_var rfl) rfl) rfl rfl rfl) rfl rfl (fun _ => rfl) (fun _ => rfl) (fun item => (vt_bind fun b_4 hb_4 => (vt_ret (q_andP (q_dB (q_cmp (q_var rfl) (q_str strK0) rfl rfl (g_ne g_eqS)) rfl) (vt_bind fun x_11 hx_11 => (vt_bind fun x_12 hx_12 => (vt_ret (q_dB (q_cmp (q_var rfl) (q_op2 (q_var rfl) q_con rfl rfl (g_ixU hx_11)) rfl (as_cur as_S hx_12 rfl) g_inTx) rfl)))) hb_4)))) (fun item => (ve_ret (f := rI) q_con rfl rfl)) hx_13) a_nil) (cs_cons rfl cs_nil) (g_lenL (f := rI))) rfl rfl ⟨_, rfl⟩))) (fun _ => (bl_nextS (bl_assoc (bl_set (f := (rL (rP rS rS))) (S := (fun became => [sl_ rU rule_here, sl_ rS word_here, sl_ (rL rS) steps_here, sl_ rS output, sl_ rU kind, none, sl_ (rL (rP rS rS)) became, none, none, none, none, none, none])) (q_shN (q_listZip (a_FN (q_var rfl) rfl rfl (a_FN (q_od2 (q_var rfl) rfl) rfl rfl a_nil)) rfl sq_str) rfl rfl) rfl rfl (fun _ => rfl) fun became => (bl_assoc (bl_bind fun b_5 hb_5 => (bl_if (q_dB (q_cmp (q_var rfl) (q_str strK5) rfl rfl (g_id (h := eqD) hb_5)) rfl) (fun _ => (bl_bind fun x_16 hx_16 => (bl_ret (q_bi (a_T (q_lc (f := rI) (cq := (fun p_1 : ((List Nat) × (List Nat)) => (if (decide (p_1.2 = [])) = true then ((ixU rule_here 1).bind fun x_14 => (asS x_14).bind fun x_15 => some (inTx p_1.1 x_15)) else some false).bind fun b_6 => some b_6)) (ce := (fun p_1 : ((List Nat) × (List Nat)) => some (1 : Int))) (fun p_1 => [sl_ rU rule_here, sl_ rS word_here, sl_ (rL rS) steps_here, sl_ rS output, sl_ rU kind, none, sl_ (rL (rP rS rS)) became, none, none, none, none, sl_ rS p_1.2, sl_ rS p_1.1]) (i_anyN (q_var rfl) rfl rfl rfl) rfl rfl (fun _ => rfl) (fun _ => rfl) (fun p_1 => (vt_bind fun b_6 hb_6 => (vt_ret (q_andP (q_dB (q_cmp (q_var rfl) (q_str strK0) rfl rfl g_eqS) rfl) (vt_bind fun x_14 hx_14 => (vt_bind fun x_15 hx_15 => (vt_ret (q_dB (q_cmp (q_var rfl) (q_op2 (q_var rfl) q_con rfl rfl (g_ixU hx_14)) rfl (as_cur as_S hx_15 rfl) g_inTx) rfl)))) hb_6)))) (fun p_1 => (ve_ret (f := rI) q_con rfl rfl)) hx_16) a_nil) (cs_cons rfl cs_nil) (g_lenL (f := rI))) rfl rfl ⟨_, rfl⟩))) (fun _ => (bl_nextS (bl_assoc (bl_bind fun changed hchanged => (bl_seq (ρ1 := [sl_ rU rule_here, sl_ rS word_here, sl_ (rL rS) steps_here, sl_ rS output, sl_ rU kind, none, sl_ (rL (rP rS rS)) became, sl_ (rL (rP rS rS)) changed, none, none, none, none, none]) (q_shE (q_set (q_lc (f := (rP rS rS)) (fun p_2 => [sl_ rU rule_here, sl_ rS word_here, sl_ (rL rS) steps_here, sl_ rS output, sl_ rU kind, none, sl_ (rL (rP rS rS)) became, none, none, none, none, sl_ rS p_2.2, sl_ rS p_2.1]) (i_anyN (q_var rfl) rfl rfl rfl) rfl rfl (fun _ => rfl) (fun _ => rfl) (fun p_2 => (vt_ret (q_and (q_dB (q_cmp (q_var rfl) (q_str strK0) rfl rfl (g_ne g_eqS)) rfl) (q_dB (q_cmp (q_var rfl) (q_var rfl) rfl rfl (g_ne g_eqS)) rfl)))) (fun p_2 => (ve_ret (f := (rP rS rS)) (q_tup (ds := [rS p_2.1, rS p_2.2]) (a_FN (q_var rfl) rfl rfl (a_FN (q_var rfl) rfl rfl a_nil)) rfl rfl) rfl rfl)) hchanged) rfl rfl rfl) rfl) (bl_bind fun x_21 hx_21 => (bl_ret (q_bi (a_T (q_lc (f := rI) (cq := (fun p_3 : ((List Nat) × (List Nat)) => (ixU rule_here 1).bind fun x_17 => (asS x_17).bind fun x_18 => (if (inTx p_3.1 x_18) = true then ((ixU rule_here 2).bind fun x_19 => (asS x_19).bind fun x_20 => some (inTx p_3.2 x_20)) else some false).bind fun b_7 => some b_7)) (ce := (fun p_3 : ((List Nat) × (List Nat)) => some (1 : Int))) (fun p_3 => [sl_ rU rule_here, sl_ rS word_here, sl_ (rL rS) steps_here, sl_ rS output, sl_ rU kind, none, sl_ (rL (rP rS rS)) became, sl_ (rL (rP rS rS)) changed, none, none, none, sl_ rS p_3.2, sl_ rS p_3.1]) (i_anyN (q_var rfl) rfl rfl rfl) rfl rfl (fun _ => rfl) (fun _ => rfl) (fun p_3 => (vt_bind fun x_17 hx_17 => (vt_bind fun x_18 hx_18 => (vt_bind fun b_7 hb_7 => (vt_ret (q_andP (q_dB (q_cmp (q_var rfl) (q_op2 (q_var rfl) q_con rfl rfl (g_ixU hx_17)) rfl (as_cur as_S hx_18 rfl) g_inTx) rfl) (vt_bind fun x_19 hx_19 => (vt_bind fun x_20 hx_20 => (vt_ret (q_dB (q_cmp (q_var rfl) (q_op2 (q_var rfl) q_con rfl rfl (g_ixU hx_19)) rfl (as_cur as_S hx_20 rfl) g_inTx) rfl)))) hb_7)))))) (fun p_3 => (ve_ret (f := rI) q_con rfl rfl)) hx_21) a_nil) (cs_cons rfl cs_nil) (g_lenL (f := rI))) rfl rfl ⟨_, rfl⟩))))))))))))))))))))))))))))))))
theorem rf_fits (letters : (List Nat)) (word : (List Nat)) (value : D) : Ref F_fits [⟨rS letters, false⟩, ⟨rS word, false⟩, ⟨rU value, false⟩] rB false (g_fits letters word value) := ref_of (ρ := [sl_ rS letters, sl_ rS word, sl_ rU value, none]) rfl (by
  unfold g_fits
  exact bl_last (bl_assoc (bl_bind fun b hb => (bl_bind fun b_1 hb_1 => (bl_if (q_orP (q_not (q_dTr (q_isiU (q_var rfl) rfl hb) rfl t_B)) (vt_bind fun x hx => (vt_bind fun x_1 hx_1 => (vt_ret (q_dB (q_cmp (q_bi (a_T (q_var rfl) a_nil) (cs_cons rfl cs_nil) (g_lenU hx)) (q_op2 (q_op2 q_con (q_bi (a_T (q_var rfl) a_nil) (cs_cons rfl cs_nil) (g_lenS hx_1)) rfl rfl (g_mulIl (by decide))) q_con rfl rfl g_addI) rfl rfl (g_ne g_eqI)) rfl)))) hb_1) (fun _ => (bl_ret q_con rfl rfl ⟨_, rfl⟩)) (fun _ => (bl_nextS (bl_bind fun ys hys => (bl_bind fun x_4 hx_4 => (bl_ret (q_bi (a_T (q_lc (f := rB) (fun item => [sl_ rS letters, sl_ rS word, sl_ rU value, sl_ rU item]) (i_anyN (q_var rfl) rfl rfl (any_U hys)) rfl rfl (fun _ => rfl) (fun _ => rfl) (fun item => (vt_ret rfl)) (fun item => (ve_bind fun b_2 hb_2 => (ve_bind fun b_4 hb_4 => (ve_ret (f := rB) (q_andVP (q_dB (q_isiU (q_var rfl) rfl hb_2) rfl) (vb_bind fun x_2 hx_2 => (vb_bind fun b_3 hb_3 => (vb_ret (q_andVP (q_dB (q_cmp (q_bi (a_T (q_var rfl) a_nil) (cs_cons rfl cs_nil) (g_lenU hx_2)) q_con rfl rfl g_leI) rfl) (vb_bind fun x_3 hx_3 => (vb_ret (q_cmp (q_var rfl) (q_var rfl) (as_cur as_S hx_3 rfl) rfl g_inTx))) hb_3)))) hb_4) rfl rfl)))) hx_4) a_nil) (cs_cons rfl cs_nil) g_all) rfl rfl ⟨_, rfl⟩))))))))))
theorem rf_is_steps (grammar : ((List Nat) × (List D))) (word : (List Nat)) (value : D) : Ref F_is_steps [⟨(rP rS (rL rU)) grammar, false⟩, ⟨rS word, false⟩, ⟨rU value, false⟩] rB false (g_is_steps grammar word value) := ref_of (ρ := [sl_ (rP rS (rL rU)) grammar, sl_ rS word, sl_ rU value]) rfl (by
  unfold g_is_steps
  exact bl_last (bl_assoc (bl_bind fun x hx => (bl_expr (q_callR (rf_need_grammar ((rP rS (rL rU)) grammar)) hx (a_FN (q_var rfl) rfl rfl a_nil) rfl rfl rfl (fun _ => rfl)) (bl_assoc (bl_bind fun x_1 hx_1 => (bl_expr (q_callR (rf_need_word grammar word 10) hx_1 (a_FN (q_var rfl) rfl rfl (a_FN (q_var rfl) rfl rfl a_nil)) rfl rfl rfl (fun _ => rfl)) (bl_bind fun res hres => (bl_ret (q_callR (rf_fits grammar.1 word value) hres (a_FN (q_op2 (q_var rfl) q_con rfl rfl rfl) rfl rfl (a_FN (q_var rfl) rfl rfl (a_FN (q_var rfl) rfl rfl a_nil))) rfl rfl rfl (fun _ => rfl)) rfl rfl ⟨_, rfl⟩)))))))))
theorem rf_need_steps (grammar : ((List Nat) × (List D))) (word : (List Nat)) (steps : (List D)) : Ref F_need_steps [⟨(rP rS (rL rU)) grammar, false⟩, ⟨rS word, false⟩, ⟨(rL rU) steps, false⟩] rN false (g_need_steps grammar word steps) := ref_ofU (ρ := [sl_ (rP rS (rL rU)) grammar, sl_ rS word, sl_ (rL rU) steps]) rfl (by
  unfold g_need_steps
  exact bl_last (bl_bind fun x hx => (bl_if (q_not (q_dTr (q_callR (rf_is_steps grammar word ((rL rU) steps)) hx (a_FN (q_var rfl) rfl rfl (a_FN (q_var rfl) rfl rfl (a_FN (q_var rfl) rfl rfl a_nil))) rfl rfl rfl (fun _ => rfl)) rfl t_B)) (fun _ => bl_never) (fun _ => (bl_nextS (bl_end (.inl ⟨_, rfl⟩)))))))
theorem rf_item_faults (rule : D) (letter : (Option (List Nat))) (item : (List Nat)) (last : (List Nat)) : Ref F_item_faults [⟨rU rule, false⟩, ⟨(rO rS) letter, false⟩, ⟨rS item, false⟩, ⟨rS last, false⟩] rI false (g_item_faults rule letter item last) := ref_of (ρ := [sl_ rU rule, sl_ (rO rS) letter, sl_ rS item, sl_ rS last, none]) rfl (by
  unfold g_item_faults
  exact bl_last (bl_assoc (bl_bind fun kind hkind => (bl_setV (ρ2 := [sl_ rU rule, sl_ (rO rS) letter, sl_ rS item, sl_ rS last, sl_ rU kind]) (q_op2 (q_var rfl) q_con rfl rfl (g_ixU hkind)) rfl rfl rfl (bl_assoc (bl_bind fun b hb => (bl_if (q_dB (q_cmp (q_var rfl) (q_str strK3) rfl rfl (g_id (h := eqD) hb)) rfl) (fun _ => (bl_bind fun b_2 hb_2 => (bl_ret (q_bi (a_T (q_andVP (q_dB (q_cmp (q_var rfl) (q_str strK0) rfl rfl (g_ne g_eqS)) rfl) (vb_bind fun x hx => (vb_bind fun x_1 hx_1 => (vb_bind fun b_1 hb_1 => (vb_ret (q_andVP (q_dB (q_cmp (q_var rfl) (q_op2 (q_var rfl) q_con rfl rfl (g_ixU hx)) rfl (as_cur as_S hx_1 rfl) g_inTx) rfl) (vb_bind fun x_2 hx_2 => (vb_bind fun x_3 hx_3 => (vb_ret (q_cmp (q_var rfl) (q_op2 (q_var rfl) q_con rfl rfl (g_ixU hx_2)) rfl (as_cur as_S hx_3 rfl) g_inTx)))) hb_1))))) hb_2) a_nil) (cs_cons rfl cs_nil) g_intB) rfl rfl ⟨_, rfl⟩))) (fun _ => (bl_nextS (bl_assoc (bl_bind fun b_3 hb_3 => (bl_if (q_dB (q_cmp (q_var rfl) (q_str strK2) rfl rfl (g_id (h := eqD) hb_3)) rfl) (fun _ => (bl_bind fun b_4 hb_4 => (bl_ret (q_bi (a_T (q_andVP (q_dB (q_cmp (q_var rfl) (q_str strK0) rfl rfl (g_ne g_eqS)) rfl) (vb_bind fun x_4 hx_4 => (vb_bind fun x_5 hx_5 => (vb_ret (q_cmp (q_var rfl) (q_op2 (q_var rfl) q_con rfl rfl (g_ixU hx_4)) rfl (as_cur as_S hx_5 rfl) g_inTx)))) hb_4) a_nil) (cs_cons rfl cs_nil) g_intB) rfl rfl ⟨_, rfl⟩))) (fun _ => (bl_nextS (bl_assoc (bl_bind fun b_5 hb_5 => (bl_if (q_dB (q_cmp (q_var rfl) (q_str strK6) rfl rfl (g_id (h := eqD) hb_5)) rfl) (fun _ => (bl_bind fun b_7 hb_7 => (bl_ret (q_bi (a_T (q_andVP (q_dB (q_cmp (q_var rfl) q_con rfl rfl (g_isN (f := rS) nn_S)) rfl) (vb_bind fun b_6 hb_6 => (vb_ret (q_andVP (q_dB (q_cmp (q_var rfl) (q_str strK0) rfl rfl (g_ne g_eqS)) rfl) (vb_bind fun x_6 hx_6 => (vb_bind fun x_7 hx_7 => (vb_ret (q_cmp (q_var rfl) (q_op2 (q_var rfl) q_con rfl rfl (g_ixU hx_6)) rfl (as_cur as_S hx_7 rfl) g_inTx)))) hb_6))) hb_7) a_nil) (cs_cons rfl cs_nil) g_intB) rfl rfl ⟨_, rfl⟩))) (fun _ => (bl_nextS (bl_assoc (bl_bind fun b_8 hb_8 => (bl_if (q_orP (q_dB (q_cmp (q_var rfl) q_con rfl rfl (g_isN (f := rS) nn_S)) rfl) (vt_bind fun x_8 hx_8 => (vt_bind fun x_9 hx_9 => (vt_bind fun x_10 hx_10 => (vt_ret (q_dB (q_cmp (q_var rfl) (q_op2 (q_var rfl) q_con rfl rfl (g_ixU hx_8)) (co_cur (f := rS) hx_9 rfl) (as_cur as_S hx_10 rfl) (g_nin g_inTx)) rfl))))) hb_8) (fun _ => (bl_ret q_con rfl rfl ⟨_, rfl⟩)) (fun _ => (bl_nextS (bl_assoc (bl_bind fun b_9 hb_9 => (bl_if (q_dB (q_cmp (q_var rfl) (q_str strK5) rfl rfl (g_id (h := eqD) hb_9)) rfl) (fun _ => (bl_ret (q_bi (a_T (q_cmp (q_var rfl) (q_str strK0) rfl rfl g_eqS) a_nil) (cs_cons rfl cs_nil) g_intB) rfl rfl ⟨_, rfl⟩)) (fun _ => (bl_nextS (bl_bind fun b_11 hb_11 => (bl_ret (q_bi (a_T (q_andVP (q_dB (q_cmp (q_var rfl) (q_str strK0) rfl rfl (g_ne g_eqS)) rfl) (vb_bind fun b_10 hb_10 => (vb_ret (q_andVP (q_dB (q_cmp (q_var rfl) (q_var rfl) rfl rfl (g_ne (g_eqOS (x := some item) (y := letter)))) rfl) (vb_bind fun x_11 hx_11 => (vb_bind fun x_12 hx_12 => (vb_ret (q_cmp (q_var rfl) (q_op2 (q_var rfl) q_con rfl rfl (g_ixU hx_11)) rfl (as_cur as_S hx_12 rfl) g_inTx)))) hb_10))) hb_11) a_nil) (cs_cons rfl cs_nil) g_intB) rfl rfl ⟨_, rfl⟩)))))))))))))))))))))))))))))))
theorem rf_end_faults (rule : D) (last : (List Nat)) : Ref F_end_faults [⟨rU rule, false⟩, ⟨rS last, false⟩] rI false (g_end_faults rule last) := ref_of (ρ := [sl_ rU rule, sl_ rS last]) rfl (by
  unfold g_end_faults
  exact bl_last (bl_bind fun x hx => (bl_bind fun b hb => (bl_bind fun b_2 hb_2 => (bl_ret (q_bi (a_T (q_andVP (q_dB (q_cmp (q_op2 (q_var rfl) q_con rfl rfl (g_ixU hx)) (q_str strK3) rfl rfl (g_id (h := eqD) hb)) rfl) (vb_bind fun x_1 hx_1 => (vb_bind fun x_2 hx_2 => (vb_bind fun b_1 hb_1 => (vb_ret (q_andVP (q_dB (q_cmp (q_var rfl) (q_op2 (q_var rfl) q_con rfl rfl (g_ixU hx_1)) rfl (as_cur as_S hx_2 rfl) g_inTx) rfl) (vb_bind fun x_3 hx_3 => (vb_bind fun x_4 hx_4 => (vb_ret (q_cmp (q_str strK1) (q_op2 (q_var rfl) q_con rfl rfl (g_ixU hx_3)) rfl (as_cur as_S hx_4 rfl) g_inTx)))) hb_1))))) hb_2) a_nil) (cs_cons rfl cs_nil) g_intB) rfl rfl ⟨_, rfl⟩)))))
theorem rf_rule_faults_b1 (rule : D) (word : (List Nat)) (steps : (List D)) (s' : (Int × D)) (p : (Int × D)) : BL (PF [5, 6] (PL (fun (s' : (Int × D)) => [sl_ rU rule, sl_ rS word, sl_ (rL rU) steps, sl_ rI s'.1, sl_ rU s'.2, none, none]))) [sl_ rU rule, sl_ rS word, sl_ (rL rU) steps, sl_ rI s'.1, sl_ rU s'.2, sl_ rI p.1, sl_ rU p.2] r_rule_faults_2_l_1 (g_rule_faults_b1 rule word s' p) := by
  unfold g_rule_faults_b1
  exact bl_last (bl_assoc (bl_bind fun x hx => (bl_bind fun x_1 hx_1 => (bl_bind fun x_2 hx_2 => (bl_bind fun x_3 hx_3 => (bl_set (f := rI) (S := (fun found => [sl_ rU rule, sl_ rS word, sl_ (rL rU) steps, sl_ rI found, sl_ rU s'.2, sl_ rI p.1, sl_ rU p.2])) (q_op2 (q_var rfl) (q_callR (rf_item_faults rule x x_1 x_2) hx_3 (a_FN (q_var rfl) rfl rfl (a_FN (q_callR (rf_letter_at word p.1) hx (a_FN (q_var rfl) rfl rfl (a_FN (q_var rfl) rfl rfl a_nil)) rfl rfl rfl (fun _ => rfl)) rfl rfl (a_FN (q_var rfl) (as_cur as_S hx_1 rfl) rfl (a_FN (q_var rfl) (as_cur as_S hx_2 rfl) rfl a_nil)))) rfl rfl rfl (fun _ => rfl)) rfl rfl g_augAdd) rfl rfl (fun _ => rfl) fun found => (bl_bind fun b hb => (bl_set (f := rU) (S := (fun last_1 => [sl_ rU rule, sl_ rS word, sl_ (rL rU) steps, sl_ rI found, sl_ rU last_1, sl_ rI p.1, sl_ rU p.2])) (q_ifx (f := rU) (x := s'.2) (y := p.2) (q_dB (q_cmp (q_var rfl) (q_str strK0) rfl rfl (g_id (h := eqD) hb)) rfl) (q_shN (q_var rfl) rfl rfl) (q_shN (q_var rfl) rfl rfl)) rfl rfl (fun _ => rfl) fun last_1 => (bl_end (Or.inl rfl))))))))))
theorem rf_rule_faults (rule : D) (word : (List Nat)) (steps : (List D)) : Ref F_rule_faults [⟨rU rule, false⟩, ⟨rS word, false⟩, ⟨(rL rU) steps, false⟩] rI false (g_rule_faults rule word steps) := ref_of (ρ := [sl_ rU rule, sl_ rS word, sl_ (rL rU) steps, none, none, none, none]) rfl (by
  unfold g_rule_faults
  exact bl_last (bl_assoc (bl_seq (q_par (a_T q_con (a_FN (q_str strK1) rfl rfl a_nil)) rfl (q_put rfl rfl rfl) (q_put rfl rfl rfl)) (bl_lt (S := (fun last => [sl_ rU rule, sl_ rS word, sl_ (rL rU) steps, sl_ rI 0, sl_ rU last, none, none])) rfl fun last => (bl_assoc (bl_for (fb := (rP rI rU)) (s0 := (0, last)) (fun (s' : (Int × D)) => [sl_ rU rule, sl_ rS word, sl_ (rL rU) steps, sl_ rI s'.1, sl_ rU s'.2, none, none]) (fun (s' : (Int × D)) (p : (Int × D)) => [sl_ rU rule, sl_ rS word, sl_ (rL rU) steps, sl_ rI s'.1, sl_ rU s'.2, sl_ rI p.1, sl_ rU p.2]) rfl (i_enumL (a_FN (q_var rfl) rfl rfl a_nil) rfl) (fun _ _ => rfl) (fun s p => rf_rule_faults_b1 rule word steps s p) fun s'_1 => (bl_bind fun x_4 hx_4 => (bl_bind fun x_5 hx_5 => (bl_ret (q_op2 (q_var rfl) (q_callR (rf_end_faults rule x_4) hx_5 (a_FN (q_var rfl) rfl rfl (a_FN (q_var rfl) (as_cur as_S hx_4 rfl) rfl a_nil)) rfl rfl rfl (fun _ => rfl)) rfl rfl g_addI) rfl rfl ⟨_, rfl⟩)))))))))
theorem rf_faults_of (grammar : ((List Nat) × (List D))) (word : (List Nat)) (steps : (List D)) : Ref F_faults_of [⟨(rP rS (rL rU)) grammar, false⟩, ⟨rS word, false⟩, ⟨(rL rU) steps, false⟩] (rL rI) true (g_faults_of grammar word steps) := ref_of (ρ := [sl_ (rP rS (rL rU)) grammar, sl_ rS word, sl_ (rL rU) steps, none]) rfl (by
  unfold g_faults_of
  exact bl_last (bl_assoc (bl_bind fun x hx => (bl_expr (q_callR (rf_need_steps grammar word steps) hx (a_FN (q_var rfl) rfl rfl (a_FN (q_var rfl) rfl rfl (a_FN (q_var rfl) rfl rfl a_nil))) rfl rfl rfl (fun _ => rfl)) (bl_bind fun res hres => (bl_ret (q_lc (f := rI) (fun rule => [sl_ (rP rS (rL rU)) grammar, sl_ rS word, sl_ (rL rU) steps, sl_ rU rule]) (i_anyN (q_op2 (q_var rfl) q_con rfl rfl rfl) rfl rfl rfl) rfl rfl (fun _ => rfl) (fun _ => rfl) (fun rule => (vt_ret rfl)) (fun rule => (ve_bind fun x_1 hx_1 => (ve_ret (f := rI) (q_callR (rf_rule_faults rule word steps) hx_1 (a_FN (q_var rfl) rfl rfl (a_FN (q_var rfl) rfl rfl (a_FN (q_var rfl) rfl rfl a_nil))) rfl rfl rfl (fun _ => rfl)) rfl rfl))) hres) rfl rfl ⟨_, rfl⟩))))))
theorem rf__law_steps_b1 (letters : (List Nat)) (word_here : (List Nat)) (way : (Int × (List Int))) (s' : ((List Int) × (List (List Nat)))) (place : Int) : BL (PF [5, 6] (PL (fun (s' : ((List Int) × (List (List Nat)))) => [sp_ (rL rI) s'.1, sl_ rS letters, sl_ rS word_here, sl_ rI way.1, so_ (rL rS) s'.2, none, none]))) [sp_ (rL rI) s'.1, sl_ rS letters, sl_ rS word_here, sl_ rI way.1, so_ (rL rS) s'.2, sl_ rI place, none] r__law_steps_2_l_1 (g__law_steps_b1 letters word_here way s' place) := by
  unfold g__law_steps_b1
  exact bl_last (bl_assoc (bl_bind fun x_1 hx_1 => (bl_bind fun x_2 hx_2 => (bl_bind fun x_3 hx_3 => (bl_bind fun x_4 hx_4 => (bl_bind fun item hitem => (bl_setV (ρ2 := [sp_ (rL rI) x_4.2, sl_ rS letters, sl_ rS word_here, sl_ rI way.1, so_ (rL rS) s'.2, sl_ rI place, sl_ rS item]) (q_op2 (q_op2 (q_lst (ds := List.map rS [[], []]) (a_FN (q_str strK0) rfl rfl (a_FN (q_str strK0) rfl rfl a_nil)) rfl rfl) (q_bi (a_T (q_var rfl) a_nil) (cs_cons rfl cs_nil) (g_listS hx_1)) rfl rfl (g_addL (f := rS) hx_2)) (q_callT (ρ2 := [sp_ (rL rI) x_4.2, sl_ rS letters, sl_ rS word_here, sl_ rI way.1, so_ (rL rS) s'.2, sl_ rI place, none]) (rf__law_coin s'.1 (x_3 + 2)) hx_4 (a_T (q_var rfl) (a_FN (q_op2 (q_bi (a_T (q_var rfl) a_nil) (cs_cons rfl cs_nil) (g_lenS hx_3)) q_con rfl rfl g_addI) rfl rfl a_nil)) rfl rfl rfl rfl) rfl rfl (g_ixL (f := rS) hitem)) rfl rfl rfl (bl_assoc (bl_bind fun w hw => (bl_ifJ (fun (item_1 : (List Nat)) => [sp_ (rL rI) w.2, sl_ rS letters, sl_ rS word_here, sl_ rI way.1, so_ (rL rS) s'.2, sl_ rI place, sl_ rS item_1]) (q_andX (S := (fun z => [sp_ (rL rI) z, sl_ rS letters, sl_ rS word_here, sl_ rI way.1, so_ (rL rS) s'.2, sl_ rI place, sl_ rS item])) (t0 := x_4.2) (q_dB (q_cmp (q_var rfl) q_con rfl rfl g_gtI) rfl) (xt_bind fun x_5 hx_5 => (xt_ret (q_dB (q_cmp (q_callT (ρ2 := [sp_ (rL rI) x_5.2, sl_ rS letters, sl_ rS word_here, sl_ rI way.1, so_ (rL rS) s'.2, sl_ rI place, sl_ rS item]) (rf__law_coin x_4.2 4) hx_5 (a_T (q_var rfl) (a_FN q_con rfl rfl a_nil)) rfl rfl rfl rfl) q_con rfl rfl g_gtI) rfl))) hw) (fun _ => (bl_last (bl_bind fun x_7 hx_7 => (bl_setV (ρ2 := [sp_ (rL rI) w.2, sl_ rS letters, sl_ rS word_here, sl_ rI way.1, so_ (rL rS) s'.2, sl_ rI place, sl_ rS x_7]) (q_ifxP (f := rS) (q_dB (q_cmp (q_op2 (q_var rfl) q_con rfl rfl (g_modIr (by decide))) q_con rfl rfl g_eqI) rfl) (vs_bind fun x_6 hx_6 => (vs_ret (q_op2 (q_var rfl) (q_op2 (q_var rfl) q_con rfl rfl (g_divIk (by decide))) rfl rfl (g_ixS hx_6)))) (vs_ret (q_str strK0)) hx_7) rfl rfl rfl (bl_end rfl))))) (fun _ => (bl_last (bl_nextS (bl_end rfl)))) fun item_1 => (bl_bind fun found hfound => (bl_expr (q_mut (ρ2 := [sp_ (rL rI) w.2, sl_ rS letters, sl_ rS word_here, sl_ rI way.1, so_ (rL rS) found, sl_ rI place, sl_ rS item_1]) rfl (a_FN (q_var rfl) rfl rfl a_nil) rfl rfl (g_app (f := rS) hfound) rfl) (bl_end (Or.inl rfl))))))))))))))
theorem rf__law_steps (purse_here : (List Int)) (letters : (List Nat)) (word_here : (List Nat)) : RefT F__law_steps [⟨(rL rI) purse_here, true⟩, ⟨rS letters, false⟩, ⟨rS word_here, false⟩] (rL rS) true (fun tz => [sp_ (rL rI) tz, sl_ rS letters, sl_ rS word_here]) (g__law_steps purse_here letters word_here) := ref_ofT (ρ := [sp_ (rL rI) purse_here, sl_ rS letters, sl_ rS word_here, none, none, none, none]) rfl rfl (by
  unfold g__law_steps
  exact bl_last (bl_assoc (bl_bind fun way hway => (bl_seq (q_par (a_T (q_callT (ρ2 := [sp_ (rL rI) way.2, sl_ rS letters, sl_ rS word_here, none, none, none, none]) (rf__law_coin purse_here 3) hway (a_T (q_var rfl) (a_FN q_con rfl rfl a_nil)) rfl rfl rfl rfl) (a_T (q_lst (ds := List.map rS []) a_nil rfl rfl) a_nil)) rfl (q_put rfl rfl rfl) (q_put rfl rfl rfl)) (bl_assoc (bl_bind fun x hx => (bl_bind fun r hr => (bl_for (fb := rI) (s0 := (way.2, [])) (fun (s' : ((List Int) × (List (List Nat)))) => [sp_ (rL rI) s'.1, sl_ rS letters, sl_ rS word_here, sl_ rI way.1, so_ (rL rS) s'.2, none, none]) (fun (s' : ((List Int) × (List (List Nat)))) (place : Int) => [sp_ (rL rI) s'.1, sl_ rS letters, sl_ rS word_here, sl_ rI way.1, so_ (rL rS) s'.2, sl_ rI place, none]) rfl (i_rng (a_T (q_op2 (q_op2 q_con (q_bi (a_T (q_var rfl) a_nil) (cs_cons rfl cs_nil) (g_lenS hx)) rfl rfl (g_mulIl (by decide))) q_con rfl rfl g_addI) a_nil) (cs_cons rfl cs_nil) (g_rng1 hr)) (fun _ _ => rfl) (fun s place => rf__law_steps_b1 letters word_here way s place) fun s'_1 => (bl_ret (q_var rfl) rfl rfl ⟨_, rfl, rfl⟩)))))))))
theorem rf_output_of (grammar : ((List Nat) × (List D))) (word : (List Nat)) (steps : (List (List Nat))) : Ref F_output_of [⟨(rP rS (rL rU)) grammar, false⟩, ⟨rS word, false⟩, ⟨(rL rS) steps, false⟩] rS false (g_output_of grammar word steps) := ref_of (ρ := [sl_ (rP rS (rL rU)) grammar, sl_ rS word, sl_ (rL rS) steps]) rfl (by
  unfold g_output_of
  exact bl_last (bl_assoc (bl_bind fun x hx => (bl_expr (q_callR (rf_need_steps grammar word (steps.map rS)) hx (a_FN (q_var rfl) rfl rfl (a_FN (q_var rfl) rfl rfl (a_FN (q_var rfl) (co_lU (f := rS) rfl) rfl a_nil))) rfl rfl rfl (fun _ => rfl)) (bl_bind fun res hres => (bl_ret (q_mt (q_str strK0) rfl isStr_S (a_T (q_var rfl) a_nil) rfl (cs_cons rfl cs_nil) (g_join hres)) rfl rfl ⟨_, rfl⟩))))))
theorem rf__law_no_steps (purse_here : (List Int)) (letters : (List Nat)) (word_here : (List Nat)) (steps_here : (List (List Nat))) : RefT F__law_no_steps [⟨(rL rI) purse_here, true⟩, ⟨rS letters, false⟩, ⟨rS word_here, false⟩, ⟨(rL rS) steps_here, false⟩] (rL rU) true (fun tz => [sp_ (rL rI) tz, sl_ rS letters, sl_ rS word_here, sl_ (rL rS) steps_here]) (g__law_no_steps purse_here letters word_here steps_here) := ref_ofT (ρ := [sp_ (rL rI) purse_here, sl_ rS letters, sl_ rS word_here, sl_ (rL rS) steps_here, none, none, none, none]) rfl rfl (by
  unfold g__law_no_steps
  exact bl_last (bl_assoc (bl_bind fun at' hat' => (bl_setV (ρ2 := [sp_ (rL rI) at'.2, sl_ rS letters, sl_ rS word_here, sl_ (rL rS) steps_here, sl_ rI at'.1, none, none, none]) (q_callT (ρ2 := [sp_ (rL rI) at'.2, sl_ rS letters, sl_ rS word_here, sl_ (rL rS) steps_here, none, none, none, none]) (rf__law_coin purse_here (steps_here.length : Int)) hat' (a_T (q_var rfl) (a_FN (q_bi (a_T (q_var rfl) a_nil) (cs_cons rfl cs_nil) (g_lenL (f := rS))) rfl rfl a_nil)) rfl rfl rfl rfl) rfl rfl rfl (bl_assoc (bl_bind fun x hx => (bl_bind fun x_1 hx_1 => (bl_bind fun x_2 hx_2 => (bl_bind fun x_3 hx_3 => (bl_bind fun x_4 hx_4 => (bl_bind fun x_5 hx_5 => (bl_bind fun x_6 hx_6 => (bl_set (f := (rL rU)) (S := (fun odd => [sp_ (rL rI) at'.2, sl_ rS letters, sl_ rS word_here, sl_ (rL rS) steps_here, sl_ rI at'.1, sl_ (rL rU) odd, none, none])) (q_shN (q_lst (ds := List.map rU [rS [113], rS x_1, rN (), rI 0, rS [35], rS x_3, (rL rS) [x_4], rS x_6, rB true, rS [32]]) (a_FN (q_str strK8) rfl rfl (a_FN (q_op2 (q_op2 (q_var rfl) q_con rfl rfl (g_ixS hx)) q_con rfl rfl (g_mulS hx_1)) rfl rfl (a_FN q_con rfl rfl (a_FN q_con rfl rfl (a_FN (q_str strK1) rfl rfl (a_FN (q_up (q_op2 (q_var rfl) q_con rfl rfl (g_ixS hx_2)) rfl hx_3) rfl rfl (a_FN (q_lst (ds := List.map rS [x_4]) (a_FN (q_op2 (q_var rfl) q_con rfl rfl (g_ixS hx_4)) rfl rfl a_nil) rfl rfl) rfl rfl (a_FN (q_op2 (q_op2 (q_var rfl) q_con rfl rfl (g_ixS hx_5)) (q_str strK8) rfl rfl (g_addS hx_6)) rfl rfl (a_FN q_con rfl rfl (a_FN (q_str strK9) rfl rfl a_nil)))))))))) rfl rfl) rfl rfl) rfl rfl (fun _ => rfl) fun odd => (bl_assoc (bl_bind fun x_7 hx_7 => (bl_ifJ (fun (odd_1 : (List D)) => [sp_ (rL rI) at'.2, sl_ rS letters, sl_ rS word_here, sl_ (rL rS) steps_here, sl_ rI at'.1, sl_ (rL rU) odd_1, none, none]) (q_dB (q_cmp (q_bi (a_T (q_var rfl) a_nil) (cs_cons rfl cs_nil) (g_lenS hx_7)) q_con rfl rfl g_gtI) rfl) (fun _ => (bl_last (bl_bind fun x_8 hx_8 => (bl_bind fun x_9 hx_9 => (bl_bind fun x_10 hx_10 => (bl_setV (ρ2 := [sp_ (rL rI) at'.2, sl_ rS letters, sl_ rS word_here, sl_ (rL rS) steps_here, sl_ rI at'.1, sl_ (rL rU) x_10, none, none]) (q_shN (q_op2 (q_var rfl) (q_lst (ds := List.map rS [x_8, x_9, letters]) (a_FN (q_slS (q_var rfl) q_part0 (q_part q_con rfl) rfl hx_8) rfl rfl (a_FN (q_slS (q_var rfl) (q_part (q_op1 q_con rfl g_negI) rfl) q_part0 rfl hx_9) rfl rfl (a_FN (q_var rfl) rfl rfl a_nil))) rfl rfl) rfl (co_lU (f := rS) rfl) (g_addL (f := rU) hx_10)) rfl rfl) rfl rfl rfl (bl_end rfl))))))) (fun _ => (bl_last (bl_nextS (bl_end rfl)))) fun odd_1 => (bl_assoc (bl_bind fun found hfound => (bl_seq (ρ1 := [sp_ (rL rI) at'.2, sl_ rS letters, sl_ rS word_here, sl_ (rL rS) steps_here, sl_ rI at'.1, sl_ (rL rU) odd_1, sl_ (rL rU) (found.map (rL rU)), none]) (q_shE (q_set (q_lc (f := (rL rU)) (fun one => [sp_ (rL rI) at'.2, sl_ rS letters, sl_ rS word_here, sl_ (rL rS) steps_here, sl_ rI at'.1, sl_ (rL rU) odd_1, none, sl_ rU one]) (i_anyN (q_var rfl) rfl rfl rfl) rfl rfl (fun _ => rfl) (fun _ => rfl) (fun one => (vt_ret rfl)) (fun one => (ve_bind fun x_11 hx_11 => (ve_bind fun x_12 hx_12 => (ve_ret (f := (rL rU)) (q_op2 (q_op2 (q_slT (q_var rfl) q_part0 (q_part (q_var rfl) rfl) rfl) (q_lst (ds := List.map rU [one]) (a_FN (q_var rfl) rfl rfl a_nil) rfl rfl) (co_lU (f := rS) rfl) rfl (g_addL (f := rU) hx_11)) (q_slT (q_var rfl) (q_part (q_op2 (q_var rfl) q_con rfl rfl g_addI) rfl) q_part0 rfl) rfl (co_lU (f := rS) rfl) (g_addL (f := rU) hx_12)) rfl rfl)))) hfound) (co_lU (f := (rL rU)) rfl) rfl rfl) rfl) (bl_assoc (bl_bind fun x_13 hx_13 => (bl_bind fun x_14 hx_14 => (bl_bind fun x_15 hx_15 => (bl_bind fun x_16 hx_16 => (bl_bind fun x_17 hx_17 => (bl_setV (ρ2 := [sp_ (rL rI) at'.2, sl_ rS letters, sl_ rS word_here, sl_ (rL rS) steps_here, sl_ rI at'.1, sl_ (rL rU) odd_1, sl_ (rL rU) x_17, none]) (q_shN (q_op2 (q_var rfl) (q_lst (ds := List.map rU [(rL rS) (cutL steps_here (some 1) none), (rL rS) x_13, (rL rS) x_15, (rTu rS) steps_here, rS x_16, rN ()]) (a_FN (q_slT (q_var rfl) (q_part q_con rfl) q_part0 rfl) rfl rfl (a_FN (q_op2 (q_var rfl) (q_lst (ds := List.map rS [[]]) (a_FN (q_str strK0) rfl rfl a_nil) rfl rfl) rfl rfl (g_addL (f := rS) hx_13)) rfl rfl (a_FN (q_op2 (q_op2 (q_slT (q_var rfl) q_part0 (q_part (q_var rfl) rfl) rfl) (q_lst (ds := List.map rS [[], []]) (a_FN (q_str strK0) rfl rfl (a_FN (q_str strK0) rfl rfl a_nil)) rfl rfl) rfl rfl (g_addL (f := rS) hx_14)) (q_slT (q_var rfl) (q_part (q_var rfl) rfl) q_part0 rfl) rfl rfl (g_addL (f := rS) hx_15)) rfl rfl (a_FN (q_bi (a_T (q_var rfl) a_nil) (cs_cons rfl cs_nil) g_tupG) rfl rfl (a_FN (q_mt (q_str strK0) rfl isStr_S (a_T (q_var rfl) a_nil) rfl (cs_cons rfl cs_nil) (g_join hx_16)) rfl rfl (a_FN q_con rfl rfl a_nil)))))) rfl rfl) rfl rfl (g_addL (f := rU) hx_17)) rfl rfl) rfl rfl rfl (bl_bind fun x_18 hx_18 => (bl_ret (q_op2 (q_var rfl) (q_lst (ds := List.map rU [.dic [], rL rU [], (rL (rL rS)) [steps_here], rI 1, rS word_here]) (a_FN (q_dis rfl) rfl rfl (a_FN (q_lst (ds := List.map rU []) a_nil rfl rfl) rfl rfl (a_FN (q_lst (ds := List.map (rL rS) [steps_here]) (a_FN (q_var rfl) rfl rfl a_nil) rfl rfl) rfl rfl (a_FN q_con rfl rfl (a_FN (q_var rfl) rfl rfl a_nil))))) rfl rfl) rfl rfl (g_addL (f := rU) hx_18)) rfl rfl ⟨_, rfl, rfl⟩))))))))))))))))))))))))))))
theorem rf__law_right_b1 (alphabets : (List (List Nat))) (grammar_here : (((List Nat) × (List D)) × (List Int))) (word_here : ((List Nat) × (List Int))) (s' : (List (List Nat))) (letter : (List Nat)) : BL (PF [7] (PL (fun (s' : (List (List Nat))) => [sp_ (rL rI) word_here.2, sl_ (rL rS) alphabets, sl_ (rP rS (rL rU)) grammar_here.1, sl_ rS grammar_here.1.1, sl_ (rL rU) grammar_here.1.2, sl_ rS word_here.1, sl_ (rL rS) s', none, none, none, none, none, none, none, none, none]))) [sp_ (rL rI) word_here.2, sl_ (rL rS) alphabets, sl_ (rP rS (rL rU)) grammar_here.1, sl_ rS grammar_here.1.1, sl_ (rL rU) grammar_here.1.2, sl_ rS word_here.1, sl_ (rL rS) s', sl_ rS letter, none, none, none, none, none, none, none, none] r__law_right_5_l_1 (g__law_right_b1 s' letter) := by
  unfold g__law_right_b1
  exact bl_last (bl_bind fun x hx => (bl_setV (ρ2 := [sp_ (rL rI) word_here.2, sl_ (rL rS) alphabets, sl_ (rP rS (rL rU)) grammar_here.1, sl_ rS grammar_here.1.1, sl_ (rL rU) grammar_here.1.2, sl_ rS word_here.1, sl_ (rL rS) x, sl_ rS letter, none, none, none, none, none, none, none, none]) (q_shN (q_op2 (q_var rfl) (q_lst (ds := List.map rS [letter, []]) (a_FN (q_var rfl) rfl rfl (a_FN (q_str strK0) rfl rfl a_nil)) rfl rfl) rfl rfl (g_addL (f := rS) hx)) rfl rfl) rfl rfl rfl (bl_end (Or.inl rfl))))
theorem rf__law_right_b2 (alphabets : (List (List Nat))) (grammar_here : (((List Nat) × (List D)) × (List Int))) (word_here : ((List Nat) × (List Int))) (plain_1 : (List (List Nat))) (s'_1 : (List Int)) (turn : Int) : BL (PF [8, 9, 10, 11, 12] (PW (fun (s'_1 : (List Int)) => [sp_ (rL rI) s'_1, sl_ (rL rS) alphabets, sl_ (rP rS (rL rU)) grammar_here.1, sl_ rS grammar_here.1.1, sl_ (rL rU) grammar_here.1.2, sl_ rS word_here.1, sl_ (rL rS) plain_1, none, none, none, none, none, none, none, none, none]) (PRt rB false 2 (fun tz => [sp_ (rL rI) tz, sl_ (rL rS) alphabets])))) [sp_ (rL rI) s'_1, sl_ (rL rS) alphabets, sl_ (rP rS (rL rU)) grammar_here.1, sl_ rS grammar_here.1.1, sl_ (rL rU) grammar_here.1.2, sl_ rS word_here.1, sl_ (rL rS) plain_1, none, none, none, sl_ rI turn, none, none, none, none, none] r__law_right_9_l_1 (g__law_right_b2 grammar_here word_here s'_1 turn) := by
  unfold g__law_right_b2
  exact bl_last (bl_assoc (bl_bind fun steps_here hsteps_here => (bl_setV (ρ2 := [sp_ (rL rI) steps_here.2, sl_ (rL rS) alphabets, sl_ (rP rS (rL rU)) grammar_here.1, sl_ rS grammar_here.1.1, sl_ (rL rU) grammar_here.1.2, sl_ rS word_here.1, sl_ (rL rS) plain_1, none, none, none, sl_ rI turn, sl_ (rL rS) steps_here.1, none, none, none, none]) (q_shN (q_callT (ρ2 := [sp_ (rL rI) steps_here.2, sl_ (rL rS) alphabets, sl_ (rP rS (rL rU)) grammar_here.1, sl_ rS grammar_here.1.1, sl_ (rL rU) grammar_here.1.2, sl_ rS word_here.1, sl_ (rL rS) plain_1, none, none, none, sl_ rI turn, none, none, none, none, none]) (rf__law_steps s'_1 grammar_here.1.1 word_here.1) hsteps_here (a_T (q_var rfl) (a_FN (q_var rfl) rfl rfl (a_FN (q_var rfl) rfl rfl a_nil))) rfl rfl rfl rfl) rfl rfl) rfl rfl rfl (bl_assoc (bl_bind fun before hbefore => (bl_bind fun due_1 hdue_1 => (bl_seq (q_par (a_T (q_bi (a_T (q_lst (ds := List.map rU [(rP rS (rL rU)) grammar_here.1, (rL rS) steps_here.1]) (a_FN (q_var rfl) rfl rfl (a_FN (q_var rfl) rfl rfl a_nil)) rfl rfl) a_nil) (cs_cons rfl cs_nil) (g_repG hbefore)) (a_T (q_shN (q_lc (f := rI) (fun rule_here_1 => [sp_ (rL rI) steps_here.2, sl_ (rL rS) alphabets, sl_ (rP rS (rL rU)) grammar_here.1, sl_ rS grammar_here.1.1, sl_ (rL rU) grammar_here.1.2, sl_ rS word_here.1, sl_ (rL rS) plain_1, none, none, none, sl_ rI turn, sl_ (rL rS) steps_here.1, none, none, sl_ rU rule_here_1, none]) (i_anyN (q_var rfl) rfl rfl rfl) rfl rfl (fun _ => rfl) (fun _ => rfl) (fun rule_here_1 => (vt_ret rfl)) (fun rule_here_1 => (ve_bind fun x_7 hx_7 => (ve_ret (f := rI) (q_callR (rf__law_faults rule_here_1 word_here.1 steps_here.1) hx_7 (a_FN (q_var rfl) rfl rfl (a_FN (q_var rfl) rfl rfl (a_FN (q_var rfl) rfl rfl a_nil))) rfl rfl rfl (fun _ => rfl)) rfl rfl))) hdue_1) rfl rfl) a_nil)) rfl (q_put rfl rfl rfl) (q_put rfl rfl rfl)) (bl_assoc (bl_bind fun x_8 hx_8 => (bl_bind fun b_1 hb_1 => (bl_if (q_orP (q_dB (q_cmp (q_callR (rf_is_steps grammar_here.1 word_here.1 ((rL rS) steps_here.1)) hx_8 (a_FN (q_var rfl) rfl rfl (a_FN (q_var rfl) rfl rfl (a_FN (q_var rfl) rfl rfl a_nil))) rfl rfl rfl (fun _ => rfl)) q_con rfl rfl g_notBl) rfl) (vt_bind fun x_9 hx_9 => (vt_bind fun x_10 hx_10 => (vt_ret (q_dB (q_cmp (q_callR (rf_output_of grammar_here.1 word_here.1 steps_here.1) hx_9 (a_FN (q_var rfl) rfl rfl (a_FN (q_var rfl) rfl rfl (a_FN (q_var rfl) rfl rfl a_nil))) rfl rfl rfl (fun _ => rfl)) (q_mt (q_str strK0) rfl isStr_S (a_T (q_var rfl) a_nil) rfl (cs_cons rfl cs_nil) (g_join hx_10)) rfl rfl (g_ne g_eqS)) rfl)))) hb_1) (fun _ => (bl_ret q_con rfl rfl ⟨⟨_, _, _, rfl⟩, ⟨_, rfl, rfl⟩⟩)) (fun _ => (bl_nextS (bl_assoc (bl_bind fun told_1 htold_1 => (bl_set (f := (rL rU)) (S := (fun told_2 => [sp_ (rL rI) steps_here.2, sl_ (rL rS) alphabets, sl_ (rP rS (rL rU)) grammar_here.1, sl_ rS grammar_here.1.1, sl_ (rL rU) grammar_here.1.2, sl_ rS word_here.1, sl_ (rL rS) plain_1, none, so_ (rL rU) told_2, sl_ (rL rI) due_1, sl_ rI turn, sl_ (rL rS) steps_here.1, sl_ rS before, none, none, none])) (q_callR (rf_faults_of grammar_here.1 word_here.1 (steps_here.1.map rS)) htold_1 (a_FN (q_var rfl) rfl rfl (a_FN (q_var rfl) rfl rfl (a_FN (q_var rfl) (co_lU (f := rS) rfl) rfl a_nil))) rfl rfl rfl (fun _ => rfl)) (co_lU (f := rI) rfl) rfl (fun _ => rfl) fun told_2 => (bl_assoc (bl_bind fun x_11 hx_11 => (bl_bind fun x_12 hx_12 => (bl_if (q_dB (q_cmp (q_bi (a_T (q_var rfl) a_nil) (cs_cons rfl cs_nil) (g_repG hx_11)) (q_bi (a_T (q_var rfl) a_nil) (cs_cons rfl cs_nil) (g_repG hx_12)) rfl rfl (g_ne g_eqS)) rfl) (fun _ => (bl_ret q_con rfl rfl ⟨⟨_, _, _, rfl⟩, ⟨_, rfl, rfl⟩⟩)) (fun _ => (bl_nextS (bl_assoc (bl_bind fun told_3 htold_3 => (bl_expr (q_mut (ρ2 := [sp_ (rL rI) steps_here.2, sl_ (rL rS) alphabets, sl_ (rP rS (rL rU)) grammar_here.1, sl_ rS grammar_here.1.1, sl_ (rL rU) grammar_here.1.2, sl_ rS word_here.1, sl_ (rL rS) plain_1, none, so_ (rL rU) told_3, sl_ (rL rI) due_1, sl_ rI turn, sl_ (rL rS) steps_here.1, sl_ rS before, none, none, none]) rfl (a_FN (q_str strK10) rfl rfl a_nil) rfl rfl (g_app (f := rU) htold_3) rfl) (bl_bind fun x_13 hx_13 => (bl_bind fun x_14 hx_14 => (bl_bind fun x_15 hx_15 => (bl_bind fun b_2 hb_2 => (bl_if (q_orP (q_dB (q_cmp (q_bi (a_T (q_callR (rf_faults_of grammar_here.1 word_here.1 (steps_here.1.map rS)) hx_13 (a_FN (q_var rfl) rfl rfl (a_FN (q_var rfl) rfl rfl (a_FN (q_var rfl) (co_lU (f := rS) rfl) rfl a_nil))) rfl rfl rfl (fun _ => rfl)) a_nil) (cs_cons rfl cs_nil) (g_repG hx_14)) (q_bi (a_T (q_var rfl) a_nil) (cs_cons rfl cs_nil) (g_repG hx_15)) rfl rfl (g_ne g_eqS)) rfl) (vt_bind fun x_16 hx_16 => (vt_ret (q_dB (q_cmp (q_bi (a_T (q_lst (ds := List.map rU [(rP rS (rL rU)) grammar_here.1, (rL rS) steps_here.1]) (a_FN (q_var rfl) rfl rfl (a_FN (q_var rfl) rfl rfl a_nil)) rfl rfl) a_nil) (cs_cons rfl cs_nil) (g_repG hx_16)) (q_var rfl) rfl rfl (g_ne g_eqS)) rfl))) hb_2) (fun _ => (bl_ret q_con rfl rfl ⟨⟨_, _, _, rfl⟩, ⟨_, rfl, rfl⟩⟩)) (fun _ => (bl_nextS (bl_end (Or.inl rfl))))))))))))))))))))))))))))))))))
theorem rf__law_right (purse_here : (List Int)) (alphabets : (List (List Nat))) : RefT F__law_right [⟨(rL rI) purse_here, true⟩, ⟨(rL rS) alphabets, false⟩] rB false (fun tz => [sp_ (rL rI) tz, sl_ (rL rS) alphabets]) (g__law_right purse_here alphabets) := ref_ofT (ρ := [sp_ (rL rI) purse_here, sl_ (rL rS) alphabets, none, none, none, none, none, none, none, none, none, none, none, none, none, none]) rfl rfl (by
  unfold g__law_right
  exact bl_last (bl_assoc (bl_bind fun grammar_here hgrammar_here => (bl_setV (ρ2 := [sp_ (rL rI) grammar_here.2, sl_ (rL rS) alphabets, sl_ (rP rS (rL rU)) grammar_here.1, none, none, none, none, none, none, none, none, none, none, none, none, none]) (q_callT (ρ2 := [sp_ (rL rI) grammar_here.2, sl_ (rL rS) alphabets, none, none, none, none, none, none, none, none, none, none, none, none, none, none]) (rf__law_grammar purse_here alphabets 6) hgrammar_here (a_T (q_var rfl) (a_FN (q_var rfl) rfl rfl (a_FN q_con rfl rfl a_nil))) rfl rfl rfl rfl) rfl rfl rfl (bl_assoc (bl_seq (ρ1 := [sp_ (rL rI) grammar_here.2, sl_ (rL rS) alphabets, sl_ (rP rS (rL rU)) grammar_here.1, sl_ rS grammar_here.1.1, sl_ (rL rU) grammar_here.1.2, none, none, none, none, none, none, none, none, none, none, none]) (q_unpN (q_var rfl) rfl rfl rfl) (bl_assoc (bl_bind fun word_here hword_here => (bl_setV (ρ2 := [sp_ (rL rI) word_here.2, sl_ (rL rS) alphabets, sl_ (rP rS (rL rU)) grammar_here.1, sl_ rS grammar_here.1.1, sl_ (rL rU) grammar_here.1.2, sl_ rS word_here.1, none, none, none, none, none, none, none, none, none, none]) (q_callT (ρ2 := [sp_ (rL rI) word_here.2, sl_ (rL rS) alphabets, sl_ (rP rS (rL rU)) grammar_here.1, sl_ rS grammar_here.1.1, sl_ (rL rU) grammar_here.1.2, none, none, none, none, none, none, none, none, none, none, none]) (rf__law_word grammar_here.2 grammar_here.1.1 10) hword_here (a_T (q_var rfl) (a_FN (q_var rfl) rfl rfl (a_FN q_con rfl rfl a_nil))) rfl rfl rfl rfl) rfl rfl rfl (bl_assoc (bl_set (f := (rL rS)) (S := (fun plain => [sp_ (rL rI) word_here.2, sl_ (rL rS) alphabets, sl_ (rP rS (rL rU)) grammar_here.1, sl_ rS grammar_here.1.1, sl_ (rL rU) grammar_here.1.2, sl_ rS word_here.1, sl_ (rL rS) plain, none, none, none, none, none, none, none, none, none])) (q_shN (q_lst (ds := List.map rS [[]]) (a_FN (q_str strK0) rfl rfl a_nil) rfl rfl) rfl rfl) rfl rfl (fun _ => rfl) fun plain => (bl_assoc (bl_for (fb := rS) (s0 := plain) (fun (s' : (List (List Nat))) => [sp_ (rL rI) word_here.2, sl_ (rL rS) alphabets, sl_ (rP rS (rL rU)) grammar_here.1, sl_ rS grammar_here.1.1, sl_ (rL rU) grammar_here.1.2, sl_ rS word_here.1, sl_ (rL rS) s', none, none, none, none, none, none, none, none, none]) (fun (s' : (List (List Nat))) (letter : (List Nat)) => [sp_ (rL rI) word_here.2, sl_ (rL rS) alphabets, sl_ (rP rS (rL rU)) grammar_here.1, sl_ rS grammar_here.1.1, sl_ (rL rU) grammar_here.1.2, sl_ rS word_here.1, sl_ (rL rS) s', sl_ rS letter, none, none, none, none, none, none, none, none]) rfl (i_anyN (q_var rfl) rfl rfl (any_S _)) (fun _ _ => rfl) (fun s letter => rf__law_right_b1 alphabets grammar_here word_here s letter) fun plain_1 => (bl_assoc (bl_bind fun told htold => (bl_bind fun due hdue => (bl_seq (q_par (a_T (q_callR (rf_kept_steps grammar_here.1 word_here.1) htold (a_FN (q_var rfl) rfl rfl (a_FN (q_var rfl) rfl rfl a_nil)) rfl rfl rfl (fun _ => rfl)) (a_T (q_shN (q_lc (f := rI) (fun rule_here => [sp_ (rL rI) word_here.2, sl_ (rL rS) alphabets, sl_ (rP rS (rL rU)) grammar_here.1, sl_ rS grammar_here.1.1, sl_ (rL rU) grammar_here.1.2, sl_ rS word_here.1, sl_ (rL rS) plain_1, none, none, none, none, none, none, none, sl_ rU rule_here, none]) (i_anyN (q_var rfl) rfl rfl rfl) rfl rfl (fun _ => rfl) (fun _ => rfl) (fun rule_here => (vt_ret rfl)) (fun rule_here => (ve_bind fun x_1 hx_1 => (ve_ret (f := rI) (q_callR (rf__law_faults rule_here word_here.1 plain_1) hx_1 (a_FN (q_var rfl) rfl rfl (a_FN (q_var rfl) rfl rfl (a_FN (q_var rfl) rfl rfl a_nil))) rfl rfl rfl (fun _ => rfl)) rfl rfl))) hdue) rfl rfl) a_nil)) rfl (q_put rfl rfl rfl) (q_put rfl rfl rfl)) (bl_assoc (bl_bind fun x_2 hx_2 => (bl_bind fun x_3 hx_3 => (bl_bind fun b hb => (bl_if (q_orP (q_dB (q_cmp (q_bi (a_T (q_var rfl) a_nil) (cs_cons rfl cs_nil) (g_repG hx_2)) (q_bi (a_T (q_var rfl) a_nil) (cs_cons rfl cs_nil) (g_repG hx_3)) rfl rfl (g_ne g_eqS)) rfl) (vt_bind fun x_4 hx_4 => (vt_bind fun x_5 hx_5 => (vt_bind fun x_6 hx_6 => (vt_ret (q_dB (q_cmp (q_bi (a_T (q_lnd (q_callR (rf_faults_of grammar_here.1 word_here.1 told) hx_4 (a_FN (q_var rfl) rfl rfl (a_FN (q_var rfl) rfl rfl (a_FN (q_var rfl) rfl rfl a_nil))) rfl rfl rfl (fun _ => rfl)) (conL_map _ _)) a_nil) (cs_cons rfl cs_nil) (g_repG hx_5)) (q_bi (a_T (q_var rfl) a_nil) (cs_cons rfl cs_nil) (g_repG hx_6)) rfl rfl (g_ne g_eqS)) rfl))))) hb) (fun _ => (bl_ret q_con rfl rfl ⟨_, rfl, rfl⟩)) (fun _ => (bl_nextS (bl_assoc (bl_expr (q_mut (ρ2 := [sp_ (rL rI) word_here.2, sl_ (rL rS) alphabets, sl_ (rP rS (rL rU)) grammar_here.1, sl_ rS grammar_here.1.1, sl_ (rL rU) grammar_here.1.2, sl_ rS word_here.1, sl_ (rL rS) plain_1, none, so_ (rL rU) [], sl_ (rL rI) due, none, none, none, none, none, none]) rfl a_nil rfl rfl (g_clear (xs := told) (f := rU)) rfl) (bl_assoc (bl_bind fun r hr => (bl_forW (fb := rI) (s0 := word_here.2) (Q := (PRt rB false 2 (fun tz => [sp_ (rL rI) tz, sl_ (rL rS) alphabets]))) (rt := fun a => a) (fun (s'_1 : (List Int)) => [sp_ (rL rI) s'_1, sl_ (rL rS) alphabets, sl_ (rP rS (rL rU)) grammar_here.1, sl_ rS grammar_here.1.1, sl_ (rL rU) grammar_here.1.2, sl_ rS word_here.1, sl_ (rL rS) plain_1, none, none, none, none, none, none, none, none, none]) (fun (s'_1 : (List Int)) (turn : Int) => [sp_ (rL rI) s'_1, sl_ (rL rS) alphabets, sl_ (rP rS (rL rU)) grammar_here.1, sl_ rS grammar_here.1.1, sl_ (rL rU) grammar_here.1.2, sl_ rS word_here.1, sl_ (rL rS) plain_1, none, none, none, sl_ rI turn, none, none, none, none, none]) rfl (i_rng (a_T q_con a_nil) (cs_cons rfl cs_nil) (g_rng1 hr)) (fun _ _ => rfl) (fun s turn => rf__law_right_b2 alphabets grammar_here word_here plain_1 s turn) out_R fun purse_here_1 => (bl_assoc (bl_bind fun wrong hwrong => (bl_setV (ρ2 := [sp_ (rL rI) wrong.2, sl_ (rL rS) alphabets, sl_ (rP rS (rL rU)) grammar_here.1, sl_ rS grammar_here.1.1, sl_ (rL rU) grammar_here.1.2, sl_ rS word_here.1, sl_ (rL rS) plain_1, none, none, none, none, none, none, sl_ (rL rU) wrong.1, none, none]) (q_shN (q_callT (ρ2 := [sp_ (rL rI) wrong.2, sl_ (rL rS) alphabets, sl_ (rP rS (rL rU)) grammar_here.1, sl_ rS grammar_here.1.1, sl_ (rL rU) grammar_here.1.2, sl_ rS word_here.1, sl_ (rL rS) plain_1, none, none, none, none, none, none, none, none, none]) (rf__law_no_steps purse_here_1 grammar_here.1.1 word_here.1 plain_1) hwrong (a_T (q_var rfl) (a_FN (q_var rfl) rfl rfl (a_FN (q_var rfl) rfl rfl (a_FN (q_var rfl) rfl rfl a_nil)))) rfl rfl rfl rfl) rfl rfl) rfl rfl rfl (bl_bind fun x_18 hx_18 => (bl_bind fun b_3 hb_3 => (bl_ret (q_cmp (q_lc (f := rU) (fun value => [sp_ (rL rI) wrong.2, sl_ (rL rS) alphabets, sl_ (rP rS (rL rU)) grammar_here.1, sl_ rS grammar_here.1.1, sl_ (rL rU) grammar_here.1.2, sl_ rS word_here.1, sl_ (rL rS) plain_1, none, none, none, none, none, none, sl_ (rL rU) wrong.1, none, sl_ rU value]) (i_anyN (q_var rfl) rfl rfl rfl) rfl rfl (fun _ => rfl) (fun _ => rfl) (fun value => (vt_bind fun x_17 hx_17 => (vt_ret (q_dB (q_cmp (q_callR (rf_is_steps grammar_here.1 word_here.1 value) hx_17 (a_FN (q_var rfl) rfl rfl (a_FN (q_var rfl) rfl rfl (a_FN (q_var rfl) rfl rfl a_nil))) rfl rfl rfl (fun _ => rfl)) q_con rfl rfl g_notBl) rfl)))) (fun value => (ve_ret (f := rU) (q_var rfl) rfl rfl)) hx_18) (q_lst (ds := List.map rU []) a_nil rfl rfl) rfl rfl (g_id (h := eqD) hb_3)) rfl rfl ⟨_, rfl, rfl⟩)))))))))))))))))))))))))))))))))))
theorem rf_law_b2 (script : (List Int)) (k : Int) (s'_1 : (List Int)) (turn : Int) : BL (PF [3] (PW (fun (s'_1 : (List Int)) => [sl_ (rL rI) script, sl_ rI k, so_ (rL rI) s'_1, none, none, none, none]) (PR rB false))) [sl_ (rL rI) script, sl_ rI k, so_ (rL rI) s'_1, sl_ rI turn, none, none, none] r_law_1_l_2_l_1 (g_law_b2 s'_1 turn) := by
  unfold g_law_b2
  exact bl_last (bl_bind fun x hx => (bl_if (q_not (q_dTr (q_callT (ρ2 := [sl_ (rL rI) script, sl_ rI k, so_ (rL rI) x.2, sl_ rI turn, none, none, none]) (rf__law_right s'_1 [[97], [97, 98], [97, 98, 99], [97, 98, 99, 100], [120, 122], [98, 100, 102, 104]]) hx (a_T (q_var rfl) (a_FN (q_lst (ds := List.map rS [[97], [97, 98], [97, 98, 99], [97, 98, 99, 100], [120, 122], [98, 100, 102, 104]]) (a_FN (q_str strK11) rfl rfl (a_FN (q_str strK12) rfl rfl (a_FN (q_str strK13) rfl rfl (a_FN (q_str strK14) rfl rfl (a_FN (q_str strK15) rfl rfl (a_FN (q_str strK16) rfl rfl a_nil)))))) rfl rfl) rfl rfl a_nil)) rfl rfl rfl rfl) rfl t_B)) (fun _ => (bl_ret q_con rfl rfl ⟨⟨_, _, _, rfl⟩, ⟨_, rfl⟩⟩)) (fun _ => (bl_nextS (bl_end (Or.inl rfl))))))
theorem rf_law_b1 (script : (List Int)) (s' : Unit) (k : Int) : BL (PF [1, 2, 3] (PW (fun (s' : Unit) => [sl_ (rL rI) script, none, none, none, none, none, none]) (PR rB false))) [sl_ (rL rI) script, sl_ rI k, none, none, none, none, none] r_law_1_l_1 (g_law_b1 script s' k) := by
  unfold g_law_b1
  exact bl_last (bl_assoc (bl_bind fun purse_here hpurse_here => (bl_setV (ρ2 := [sl_ (rL rI) script, sl_ rI k, so_ (rL rI) purse_here, none, none, none, none]) (q_callR (rf__law_purse script k) hpurse_here (a_FN (q_var rfl) rfl rfl (a_FN (q_var rfl) rfl rfl a_nil)) rfl rfl rfl (fun _ => rfl)) rfl rfl rfl (bl_bind fun r_1 hr_1 => (bl_forW (fb := rI) (s0 := purse_here) (Q := (PR rB false)) (rt := fun a => Fw.ret a) (fun (s'_1 : (List Int)) => [sl_ (rL rI) script, sl_ rI k, so_ (rL rI) s'_1, none, none, none, none]) (fun (s'_1 : (List Int)) (turn : Int) => [sl_ (rL rI) script, sl_ rI k, so_ (rL rI) s'_1, sl_ rI turn, none, none, none]) rfl (i_rng (a_T q_con a_nil) (cs_cons rfl cs_nil) (g_rng1 hr_1)) (fun _ _ => rfl) (fun s turn => rf_law_b2 script k s turn) (out_F out_W fg_PR) fun purse_here_1 => (bl_end (Or.inl rfl)))))))
theorem rf_law (script : (List Int)) : Ref F_law [⟨(rL rI) script, false⟩] rB false (g_law script) := ref_of (ρ := [sl_ (rL rI) script, none, none, none, none, none, none]) rfl (by
  unfold g_law
  exact bl_last (bl_assoc (bl_bind fun r hr => (bl_forW (fb := rI) (s0 := ()) (Q := (PR rB false)) (rt := fun a => a) (fun (s' : Unit) => [sl_ (rL rI) script, none, none, none, none, none, none]) (fun (s' : Unit) (k : Int) => [sl_ (rL rI) script, sl_ rI k, none, none, none, none, none]) rfl (i_rng (a_T (q_bi (a_T q_con (a_T (q_bi (a_T q_con (a_T (q_bi (a_T (q_var rfl) a_nil) (cs_cons rfl cs_nil) (g_lenL (f := rI))) a_nil)) (cs_cons rfl (cs_cons rfl cs_nil)) g_min2) a_nil)) (cs_cons rfl (cs_cons rfl cs_nil)) g_max2) a_nil) (cs_cons rfl cs_nil) (g_rng1 hr)) (fun _ _ => rfl) (fun s k => rf_law_b1 script s k) out_R fun _u => (bl_assoc (bl_set (f := (rL rU)) (S := (fun rules => [sl_ (rL rI) script, none, none, none, sl_ (rL rU) rules, none, none])) (q_shN (q_lst (ds := List.map rU [(rP3 rS rS rS) ([112, 97, 105, 114], [98], [35]), (rP rS rS) ([100, 114, 111, 112], [97, 98]), (rP rS rS) ([97, 100, 100], [97, 98]), (rP3 rS rS rS) ([99, 104, 97, 110, 103, 101], [97, 98], [97, 98]), (rP3 rS rS rS) ([112, 97, 105, 114], [35], [35])]) (a_FN (q_tup (ds := [rS [112, 97, 105, 114], rS [98], rS [35]]) (a_FN (q_str strK3) rfl rfl (a_FN (q_str strK17) rfl rfl (a_FN (q_str strK1) rfl rfl a_nil))) rfl rfl) rfl rfl (a_FN (q_tup (ds := [rS [100, 114, 111, 112], rS [97, 98]]) (a_FN (q_str strK5) rfl rfl (a_FN (q_str strK12) rfl rfl a_nil)) rfl rfl) rfl rfl (a_FN (q_tup (ds := [rS [97, 100, 100], rS [97, 98]]) (a_FN (q_str strK6) rfl rfl (a_FN (q_str strK12) rfl rfl a_nil)) rfl rfl) rfl rfl (a_FN (q_tup (ds := [rS [99, 104, 97, 110, 103, 101], rS [97, 98], rS [97, 98]]) (a_FN (q_str strK4) rfl rfl (a_FN (q_str strK12) rfl rfl (a_FN (q_str strK12) rfl rfl a_nil))) rfl rfl) rfl rfl (a_FN (q_tup (ds := [rS [112, 97, 105, 114], rS [35], rS [35]]) (a_FN (q_str strK3) rfl rfl (a_FN (q_str strK1) rfl rfl (a_FN (q_str strK1) rfl rfl a_nil))) rfl rfl) rfl rfl a_nil))))) rfl rfl) rfl rfl) rfl rfl (fun _ => rfl) fun rules => (bl_assoc (bl_set (f := (rP rS (rL rU))) (S := (fun grammar_here => [sl_ (rL rI) script, none, none, none, sl_ (rL rU) rules, sl_ (rP rS (rL rU)) grammar_here, none])) (q_tup (ds := [rS [97, 98], (rL rU) rules]) (a_FN (q_str strK12) rfl rfl (a_FN (q_var rfl) rfl rfl a_nil)) rfl rfl) rfl rfl (fun _ => rfl) fun grammar_here => (bl_assoc (bl_bind fun x_1 hx_1 => (bl_bind fun x_2 hx_2 => (bl_set (f := (rL (rL rI))) (S := (fun told => [sl_ (rL rI) script, none, none, none, sl_ (rL rU) rules, sl_ (rP rS (rL rU)) grammar_here, sl_ (rL (rL rI)) told])) (q_shN (q_lst (ds := List.map (rL rI) [x_1, x_2]) (a_FN (q_callR (rf_faults_of grammar_here [97, 98] ([[], [], [98], [98], [97]].map rS)) hx_1 (a_FN (q_var rfl) rfl rfl (a_FN (q_str strK12) rfl rfl (a_FN (q_lst (ds := List.map rS [[], [], [98], [98], [97]]) (a_FN (q_str strK0) rfl rfl (a_FN (q_str strK0) rfl rfl (a_FN (q_str strK17) rfl rfl (a_FN (q_str strK17) rfl rfl (a_FN (q_str strK11) rfl rfl a_nil))))) rfl rfl) (co_lU (f := rS) rfl) rfl a_nil))) rfl rfl rfl (fun _ => rfl)) rfl rfl (a_FN (q_callR (rf_faults_of grammar_here [98] ([[], [], []].map rS)) hx_2 (a_FN (q_var rfl) rfl rfl (a_FN (q_str strK17) rfl rfl (a_FN (q_lst (ds := List.map rS [[], [], []]) (a_FN (q_str strK0) rfl rfl (a_FN (q_str strK0) rfl rfl (a_FN (q_str strK0) rfl rfl a_nil))) rfl rfl) (co_lU (f := rS) rfl) rfl a_nil))) rfl rfl rfl (fun _ => rfl)) rfl rfl a_nil)) rfl rfl) rfl rfl) rfl rfl (fun _ => rfl) fun told => (bl_bind fun b hb => (bl_ret (q_andVP (q_dB (q_cmp (q_var rfl) (q_lst (ds := List.map (rL rI) [[0, 1, 2, 0, 0], [0, 1, 0, 0, 1]]) (a_FN (q_lst (ds := List.map rI [0, 1, 2, 0, 0]) (a_FN q_con rfl rfl (a_FN q_con rfl rfl (a_FN q_con rfl rfl (a_FN q_con rfl rfl (a_FN q_con rfl rfl a_nil))))) rfl rfl) rfl rfl (a_FN (q_lst (ds := List.map rI [0, 1, 0, 0, 1]) (a_FN q_con rfl rfl (a_FN q_con rfl rfl (a_FN q_con rfl rfl (a_FN q_con rfl rfl (a_FN q_con rfl rfl a_nil))))) rfl rfl) rfl rfl a_nil)) rfl rfl) rfl rfl (g_eqT (f := (rL (rL rI))) (et_L (et_L et_I)) rfl)) rfl) (vb_bind fun x_3 hx_3 => (vb_ret (q_cmp (q_callR (rf_is_steps grammar_here [] ((rL rS) [[]])) hx_3 (a_FN (q_var rfl) rfl rfl (a_FN (q_str strK0) rfl rfl (a_FN (q_lst (ds := List.map rS [[]]) (a_FN (q_str strK0) rfl rfl a_nil) rfl rfl) rfl rfl a_nil))) rfl rfl rfl (fun _ => rfl)) q_con rfl rfl g_isBl))) hb) rfl rfl ⟨_, rfl⟩))))))))))))))
end Law_strictranks_k41_steps_and_faults
end
section
set_option Elab.async false
set_option linter.all false
set_option maxRecDepth 100000
set_option maxHeartbeats 4000000
namespace L2.PM
open PySem PySem.Spec PyProof.Rows L2 L2.VL L2.TX
def InB (n : Nat) (xs : List Int) : Prop := ∀ x ∈ xs, 0 ≤ x ∧ x < n
def rg (n : Nat) : List Int := (List.range n).map fun (k : Nat) => (k : Int)
def Ord (n : Nat) (os : List Int) : Prop := os.Perm (rg n)
theorem Ord.len {n : Nat} {os : List Int} (h : Ord n os) : os.length = n := by
  have := List.Perm.length_eq h
  simpa [rg] using this
theorem Ord.inb {n : Nat} {os : List Int} (h : Ord n os) : InB n os := fun x hx => by
  obtain ⟨k, hk, rfl⟩ := List.mem_map.mp ((List.Perm.mem_iff h).mp hx)
  rw [List.mem_range] at hk
  omega
abbrev fs (cs : List Nat) : Str := ⟨cs.toArray⟩
def Sg (c : Nat) : Prop := c = 87 ∨ c = 76 ∨ c = 46
def FOk (n : Nat) (cs : List Nat) : Prop := cs.length = n ∧ ∀ c ∈ cs, Sg c
abbrev fl (fss : List (List Nat)) : D := .lst (fss.map fun cs => .con (.str (fs cs)))
def LOk (n : Nat) (ls : List Int) : Prop := ls.length = n ∧ ∀ x ∈ ls, 0 ≤ x ∧ x ≤ 59
/-- the rules by their layers -/
def lp (ls : List Int) : List (Int × Int) := ls.zipIdx.map fun p => (p.1, (p.2 : Int))
theorem LOk.at {n : Nat} {ls : List Int} (h : LOk n ls) {r : Nat} (hr : r < n) : 0 ≤ ls.getD r 0 ∧ ls.getD r 0 ≤ 59 := by
  have e : ls.getD r 0 = ls[r]'(by rw [h.1]; exact hr) := by simp [h.1, hr]
  rw [e]
  exact h.2 _ (List.getElem_mem _)
/-- the first sign along an order that is no point; W if there is none -/
def fsgn (os : List Int) (cs : List Nat) : Nat := ((os.map fun r => cs.getD r.toNat 46).find? fun c => decide (c ≠ 46)).getD 87
def turnC (c : Nat) : Nat := if c = 87 then 76 else if c = 76 then 87 else c
theorem FOk.map {n : Nat} {cs : List Nat} (hf : FOk n cs) : FOk n (cs.map turnC) := ⟨by rw [List.length_map]; exact hf.1, fun c hc => by
  obtain ⟨a, ha, rfl⟩ := List.mem_map.mp hc
  rcases hf.2 a ha with rfl | rfl | rfl
  · exact .inr (.inl rfl)
  · exact .inl rfl
  · exact .inr (.inr rfl)⟩
def bm (p : Nat → Bool) : Nat → Nat
  | 0 => 0
  | n + 1 => (if p n = true then 2 ^ n else 0) + bm p n
theorem bm_lt (p : Nat → Bool) : ∀ n, bm p n < 2 ^ n
  | 0 => by simp [bm]
  | n + 1 => by
    have := bm_lt p n
    unfold bm
    rw [Nat.pow_succ]
    split <;> omega
theorem bm_test (p : Nat → Bool) : ∀ n r, (bm p n).testBit r = (decide (r < n) && p r)
  | 0, r => by simp [bm]
  | n + 1, r => by
    have ih := bm_test p n r
    have lt := bm_lt p n
    unfold bm
    by_cases h : p n = true
    · rw [if_pos h]
      rcases Nat.lt_trichotomy r n with q | q | q
      · rw [Nat.testBit_two_pow_add_gt q, ih]
        simp [q, show r < n + 1 by omega]
      · subst q
        rw [Nat.testBit_two_pow_add_eq, Nat.testBit_lt_two_pow lt]
        simp [h]
      · rw [Nat.testBit_lt_two_pow]
        · simp [show ¬ r < n + 1 by omega]
        · have : 2 ^ (n + 1) ≤ 2 ^ r := Nat.pow_le_pow_right (by omega) (by omega)
          rw [Nat.pow_succ] at this
          omega
    · rw [if_neg h, Nat.zero_add, ih]
      by_cases q : r = n
      · subst q; simp [h]
      · simp [show (r < n + 1) = (r < n) by simp; omega]
theorem zipIdx_range {α : Type} (d : α) (xs : List α) : xs.zipIdx = (List.range xs.length).map fun k => (xs.getD k d, k) := by
  refine List.ext_getElem (by simp) fun i h1 h2 => ?_
  simp at h1
  simp [h1]
/-- the rules with a sign, as bits -/
def mks (cs : List Nat) (c : Nat) : Nat := bm (fun k => decide (cs.getD k 46 = c)) cs.length
theorem mk_test {cs : List Nat} {c r : Nat} (h : c ≠ 46) : (mks cs c).testBit r = decide (cs.getD r 46 = c) := by
  unfold mks
  rw [bm_test]
  by_cases q : r < cs.length
  · simp [q]
  · have : cs.getD r 46 = 46 := by simp [List.getD_eq_getElem?_getD, List.getElem?_eq_none (Nat.le_of_not_lt q)]
    rw [this]
    simp [q, Ne.symm h]
def LEq (n : Nat) (fss : List (List Nat)) (ly : Nat → Nat) : Prop :=
  (∀ r, r < n → ∀ f ∈ fss, f.getD r 46 = 76 → ∃ w, w < n ∧ f.getD w 46 = 87 ∧ ly w < ly r) ∧
  ∀ r, r < n → 0 < ly r → ∃ f ∈ fss, f.getD r 46 = 76 ∧ ∀ w, w < n → f.getD w 46 = 87 → ly r ≤ ly w + 1
def Bar (n : Nat) (gs : List (List Nat)) : Prop :=
  gs ≠ [] ∧ (∀ f ∈ gs, ∃ r, r < n ∧ f.getD r 46 ≠ 46) ∧ ∀ f ∈ gs, ∀ w, w < n → f.getD w 46 = 87 → ∃ g ∈ gs, g.getD w 46 = 76
def nsl (f : List Nat) : Bool := f.any fun c => decide (c ≠ 46)
theorem nsl_iff {f : List Nat} : nsl f = true ↔ ∃ r, r < f.length ∧ f.getD r 46 ≠ 46 := by
  unfold nsl
  rw [List.any_eq_true]
  constructor
  · rintro ⟨c, hc, h⟩
    obtain ⟨r, hr, rfl⟩ := List.mem_iff_getElem.mp hc
    exact ⟨r, hr, by simpa [hr] using h⟩
  · rintro ⟨r, hr, h⟩
    exact ⟨f[r], List.getElem_mem _, by simpa [hr] using h⟩
theorem sgn_lt {f : List Nat} {r c : Nat} (h : f.getD r 46 = c) (hc : c ≠ 46) : r < f.length := by
  by_cases q : r < f.length
  · exact q
  · have : f.getD r 46 = 46 := by simp [List.getD_eq_getElem?_getD, List.getElem?_eq_none (Nat.le_of_not_lt q)]
    omega
/-- the facts that are left ahead of a front -/
def lf (fss : List (List Nat)) (F : Nat) : List (List Nat × Nat) := fss.zipIdx.filter fun p => nsl p.1 && decide (mks p.1 87 &&& F = 0)
theorem lf_mem {fss : List (List Nat)} {F : Nat} {f : List Nat} (hf : f ∈ fss) (h1 : nsl f = true) (h2 : mks f 87 &&& F = 0) : ∃ i, (f, i) ∈ lf fss F := by
  obtain ⟨i, hi, rfl⟩ := List.mem_iff_getElem.mp hf
  refine ⟨i, List.mem_filter.mpr ⟨?_, by simp [h1, h2]⟩⟩
  rw [List.mem_zipIdx_iff_getElem?]
  simp [hi]
theorem lf_in {fss : List (List Nat)} {F : Nat} {p : List Nat × Nat} (h : p ∈ lf fss F) : p.1 ∈ fss ∧ nsl p.1 = true ∧ mks p.1 87 &&& F = 0 := by
  obtain ⟨h1, h2⟩ := List.mem_filter.mp h
  rw [Bool.and_eq_true, decide_eq_true_eq] at h2
  refine ⟨?_, h2.1, h2.2⟩
  rw [List.mem_zipIdx_iff_getElem?] at h1
  exact List.mem_of_getElem? h1
theorem and_test {a F r : Nat} (h : a &&& F = 0) (h1 : a.testBit r = true) : F.testBit r = false := by
  have := congrArg (fun x => Nat.testBit x r) h
  simp only [Nat.testBit_and, h1, Bool.true_and, Nat.zero_testBit] at this
  exact this
theorem and_ne {a F : Nat} (h : a &&& F ≠ 0) : ∃ r, a.testBit r = true ∧ F.testBit r = true := by
  obtain ⟨r, hr⟩ := Nat.exists_testBit_of_ne_zero h
  rw [Nat.testBit_and, Bool.and_eq_true] at hr
  exact ⟨r, hr.1, hr.2⟩
def clo (F : Nat) (L : List (List Nat × Nat)) : Nat := L.foldl (fun a p => a ||| mks p.1 76) F
theorem clo_test (L : List (List Nat × Nat)) : ∀ (F r : Nat), (clo F L).testBit r = (F.testBit r || L.any fun p => (mks p.1 76).testBit r) := by
  unfold clo
  induction L with
  | nil => intro F r; simp
  | cons p L ih =>
    intro F r
    rw [List.foldl_cons, ih, List.any_cons, Nat.testBit_or, Bool.or_assoc]
theorem whole_test (n r : Nat) : (2 ^ n - 1).testBit r = decide (r < n) := Nat.testBit_two_pow_sub_one n r
structure LInv (n : Nat) (fss : List (List Nat)) (F t : Nat) (ly : Nat → Nat) (P : List Nat) : Prop where
  lt : ∀ r, F.testBit r = true → r < n
  nd : P.Nodup
  mem : ∀ r, r ∈ P ↔ F.testBit r = true
  tm : ∀ r, F.testBit r = true → ly r < t
  a : ∀ r, F.testBit r = true → ∀ f ∈ fss, f.getD r 46 = 76 → ∃ w, F.testBit w = true ∧ f.getD w 46 = 87 ∧ ly w < ly r
  b : ∀ r, F.testBit r = true → 0 < ly r → ∃ f ∈ fss, f.getD r 46 = 76 ∧ ∀ w, F.testBit w = true → f.getD w 46 = 87 → ly r ≤ ly w + 1
  c : 0 < t → ∀ r, r < n → F.testBit r = false → ∃ f ∈ fss, f.getD r 46 = 76 ∧ ∀ w, F.testBit w = true → f.getD w 46 = 87 → t ≤ ly w + 1
def fre (n F : Nat) (fss : List (List Nat)) : Nat := (2 ^ n - 1) ^^^ clo F (lf fss F)
section
variable {n : Nat} {fss : List (List Nat)} {F t : Nat} {ly : Nat → Nat} {P : List Nat}
theorem fre_test (hF : ∀ r, F.testBit r = true → r < n) (hf : ∀ f ∈ fss, f.length = n) (r : Nat) : (fre n F fss).testBit r = true ↔ r < n ∧ F.testBit r = false ∧ ∀ p ∈ lf fss F, p.1.getD r 46 ≠ 76 := by
  unfold fre
  rw [Nat.testBit_xor, whole_test, clo_test]
  have e : ((lf fss F).any fun p => (mks p.1 76).testBit r) = true ↔ ∃ p ∈ lf fss F, p.1.getD r 46 = 76 := by
    rw [List.any_eq_true]
    constructor
    · rintro ⟨p, hp, h⟩
      rw [mk_test (by decide), decide_eq_true_eq] at h
      exact ⟨p, hp, h⟩
    · rintro ⟨p, hp, h⟩
      exact ⟨p, hp, by rw [mk_test (by decide), decide_eq_true_eq]; exact h⟩
  have lt : ∀ p ∈ lf fss F, p.1.getD r 46 = 76 → r < n := fun p hp h => by
    have := sgn_lt h (by decide)
    rw [hf _ (lf_in hp).1] at this
    exact this
  by_cases hr : r < n
  · cases h1 : F.testBit r with
    | true => simp [hr]
    | false =>
      cases h2 : (lf fss F).any fun p => (mks p.1 76).testBit r with
      | true =>
        obtain ⟨p, hp, h⟩ := e.mp h2
        simp only [hr, decide_true, Bool.or_true, bne_self_eq_false, Bool.false_eq_true, true_and, false_iff]
        exact fun z => z p hp h
      | false =>
        simp only [hr, decide_true, Bool.or_false, true_and]
        refine ⟨fun _ p hp h => ?_, fun _ => by rfl⟩
        have := e.mpr ⟨p, hp, h⟩
        rw [h2] at this
        cases this
  · have h1 : F.testBit r = false := by
      cases q : F.testBit r with
      | true => exact absurd (hF r q) hr
      | false => rfl
    have h2 : ((lf fss F).any fun p => (mks p.1 76).testBit r) = false := by
      cases q : (lf fss F).any fun p => (mks p.1 76).testBit r with
      | true =>
        obtain ⟨p, hp, h⟩ := e.mp q
        exact absurd (lt p hp h) hr
      | false => rfl
    simp [hr, h1, h2]
theorem LInv.step (I : LInv n fss F t ly P) (hf : ∀ f ∈ fss, f.length = n) :
    LInv n fss (F ||| fre n F fss) (t + 1) (fun r => if F.testBit r = true then ly r else t) (P ++ (List.range n).filter fun r => (fre n F fss).testBit r) := by
  have fr := fre_test I.lt hf
  have or : ∀ r, (F ||| fre n F fss).testBit r = true ↔ F.testBit r = true ∨ (fre n F fss).testBit r = true := fun r => by rw [Nat.testBit_or, Bool.or_eq_true]
  have old : ∀ r, F.testBit r = true → (if F.testBit r = true then ly r else t) = ly r := fun r h => if_pos h
  have new : ∀ r, (fre n F fss).testBit r = true → (if F.testBit r = true then ly r else t) = t := fun r h => if_neg (by rw [((fr r).mp h).2.1]; decide)
  refine ⟨fun r h => ?_, ?_, fun r => ?_, fun r h => ?_, fun r h f hff hl => ?_, fun r h hp => ?_, fun _ r hr h => ?_⟩
  · rcases (or r).mp h with q | q
    · exact I.lt r q
    · exact ((fr r).mp q).1
  · rw [List.nodup_append]
    refine ⟨I.nd, List.Pairwise.filter _ List.nodup_range, fun a ha b hb e => ?_⟩
    subst e
    have h1 := (I.mem a).mp ha
    have h2 := (List.mem_filter.mp hb).2
    rw [((fr a).mp h2).2.1] at h1
    cases h1
  · rw [List.mem_append, or, I.mem, List.mem_filter, List.mem_range]
    constructor
    · rintro (q | q)
      · exact .inl q
      · exact .inr q.2
    · rintro (q | q)
      · exact .inl q
      · exact .inr ⟨((fr r).mp q).1, q⟩
  · rcases (or r).mp h with q | q
    · have := I.tm r q
      simp only [old r q]; omega
    · simp only [new r q]; omega
  · rcases (or r).mp h with q | q
    · obtain ⟨w, h1, h2, h3⟩ := I.a r q f hff hl
      exact ⟨w, (or w).mpr (.inl h1), h2, by simp only [old r q, old w h1]; exact h3⟩
    · have nf : mks f 87 &&& F ≠ 0 := fun z => by
        obtain ⟨i, hi⟩ := lf_mem hff (nsl_iff.mpr ⟨r, sgn_lt hl (by decide), by omega⟩) z
        exact ((fr r).mp q).2.2 _ hi hl
      obtain ⟨w, h1, h2⟩ := and_ne nf
      rw [mk_test (by decide), decide_eq_true_eq] at h1
      exact ⟨w, (or w).mpr (.inl h2), h1, by simp only [new r q, old w h2]; exact I.tm w h2⟩
  · rcases (or r).mp h with q | q
    · simp only [old r q] at hp ⊢
      obtain ⟨f, h1, h2, h3⟩ := I.b r q hp
      refine ⟨f, h1, h2, fun w hw hs => ?_⟩
      rcases (or w).mp hw with z | z
      · simp only [old w z]; exact h3 w z hs
      · have := I.tm r q
        simp only [new w z]; omega
    · simp only [new r q] at hp ⊢
      obtain ⟨f, h1, h2, h3⟩ := I.c hp r ((fr r).mp q).1 ((fr r).mp q).2.1
      refine ⟨f, h1, h2, fun w hw hs => ?_⟩
      rcases (or w).mp hw with z | z
      · simp only [old w z]; exact h3 w z hs
      · simp only [new w z]; omega
  · have h1 : F.testBit r = false := by
      cases q : F.testBit r with
      | true => rw [(or r).mpr (.inl q)] at h; cases h
      | false => rfl
    have h2 : ¬ (fre n F fss).testBit r = true := fun q => by rw [(or r).mpr (.inr q)] at h; cases h
    rw [fr] at h2
    have h3 : ∃ p ∈ lf fss F, p.1.getD r 46 = 76 := by
      refine Classical.byContradiction fun z => h2 ⟨hr, h1, fun p hp e => z ⟨p, hp, e⟩⟩
    obtain ⟨p, hp, e⟩ := h3
    obtain ⟨h4, h5, h6⟩ := lf_in hp
    refine ⟨p.1, h4, e, fun w hw hs => ?_⟩
    rcases (or w).mp hw with z | z
    · have := and_test h6 (r := w) (by rw [mk_test (by decide), decide_eq_true_eq]; exact hs)
      rw [this] at z
      cases z
    · simp only [new w z]; omega
theorem LInv.done (I : LInv n fss F t ly P) (h : F = 2 ^ n - 1) : LEq n fss ly ∧ P.Perm (List.range n) := by
  subst h
  have w : ∀ r, (2 ^ n - 1).testBit r = true ↔ r < n := fun r => by rw [whole_test, decide_eq_true_eq]
  refine ⟨⟨fun r hr f hf hl => ?_, fun r hr hp => ?_⟩, ?_⟩
  · obtain ⟨w1, h1, h2, h3⟩ := I.a r ((w r).mpr hr) f hf hl
    exact ⟨w1, (w w1).mp h1, h2, h3⟩
  · obtain ⟨f, h1, h2, h3⟩ := I.b r ((w r).mpr hr) hp
    exact ⟨f, h1, h2, fun w1 hw hs => h3 w1 ((w w1).mpr hw) hs⟩
  · rw [List.perm_ext_iff_of_nodup I.nd List.nodup_range]
    intro r
    rw [I.mem, w, List.mem_range]
end
def pl (ly : Nat → Nat) (P : List Nat) : List (Int × Int) := P.map fun (k : Nat) => ((k : Int), ((ly k : Nat) : Int))
theorem LInv.len {n : Nat} {fss : List (List Nat)} {F t : Nat} {ly : Nat → Nat} {P : List Nat} (I : LInv n fss F t ly P) : P.length ≤ n := by
  have : P.Perm ((List.range n).filter fun r => F.testBit r) := by
    rw [List.perm_ext_iff_of_nodup I.nd (List.Pairwise.filter _ List.nodup_range)]
    intro r
    rw [I.mem, List.mem_filter, List.mem_range]
    exact ⟨fun h => ⟨I.lt r h, h⟩, fun h => h.2⟩
  rw [this.length_eq]
  refine Nat.le_trans (List.length_filter_le _ _) ?_
  simp
theorem first_at {n : Nat} {os : List Int} {f : List Nat} (ho : Ord n os) (hf : FOk n f) (h : fsgn os f ≠ 76) (hs : ∃ r, r < n ∧ f.getD r 46 ≠ 46) :
    ∃ k w : Nat, os[k]? = some (w : Int) ∧ w < n ∧ f.getD w 46 = 87 ∧ ∀ j u, j < k → os[j]? = some u → f.getD u.toNat 46 = 46 := by
  unfold fsgn at h
  have inb := ho.inb
  cases q : (os.map fun r => f.getD r.toNat 46).find? fun c => decide (c ≠ 46) with
  | none =>
    obtain ⟨r, hr, e⟩ := hs
    rw [List.find?_eq_none] at q
    have : (r : Int) ∈ os := ho.mem_iff.mpr (by unfold rg; exact List.mem_map.mpr ⟨r, List.mem_range.mpr hr, rfl⟩)
    have := q _ (List.mem_map.mpr ⟨(r : Int), this, rfl⟩)
    simp at this
    exact absurd this (by simpa using e)
  | some c =>
    rw [q] at h
    replace h : c ≠ 76 := h
    obtain ⟨h1, as, bs, e, h2⟩ := List.find?_eq_some_iff_append.mp q
    have hk : (os.map fun r => f.getD r.toNat 46)[as.length]? = some c := by rw [e]; simp
    rw [List.getElem?_map] at hk
    obtain ⟨u, hu, eu⟩ := Option.map_eq_some_iff.mp hk
    have hb := inb u (List.mem_of_getElem? hu)
    obtain ⟨w, rfl⟩ : ∃ w : Nat, u = w := ⟨u.toNat, by omega⟩
    have hw : w < n := by omega
    have hg : f.getD w 46 = c := eu
    have hc : c ∈ f := by
      rw [← hg, List.getD_eq_getElem?_getD, List.getElem?_eq_getElem (by rw [hf.1]; exact hw)]
      exact List.getElem_mem _
    refine ⟨as.length, w, hu, hw, ?_, fun j v hj hv => ?_⟩
    · rw [hg]
      rcases hf.2 c hc with q | q | q
      · exact q
      · exact absurd q h
      · rw [q] at h1; simp at h1
    · have hm : (os.map fun r => f.getD r.toNat 46)[j]? = some (f.getD v.toNat 46) := by rw [List.getElem?_map, hv]; rfl
      rw [e, List.getElem?_append_left hj] at hm
      have := h2 _ (List.mem_of_getElem? hm)
      simpa using this
theorem LEq.mono {n : Nat} {fss gss : List (List Nat)} {la lb : Nat → Nat} (a : LEq n fss la) (b : LEq n gss lb) (h : ∀ f ∈ fss, f ∈ gss) : ∀ r, r < n → la r ≤ lb r := by
  have key : ∀ m, ∀ r, r < n → lb r = m → la r ≤ lb r := by
    intro m
    induction m using Nat.strongRecOn with
    | _ m ih =>
      intro r hr e
      by_cases h0 : 0 < la r
      · obtain ⟨f, f1, f2, f3⟩ := a.2 r hr h0
        obtain ⟨w, w1, w2, w3⟩ := b.1 r hr f (h f f1) f2
        have i := ih (lb w) (by omega) w w1 rfl
        have := f3 w w1 w2
        omega
      · omega
  exact fun r hr => key _ r hr rfl
theorem LEq.down {n : Nat} {fss : List (List Nat)} {ly : Nat → Nat} (a : LEq n fss ly) {r : Nat} (hr : r < n) (h : 0 < ly r) : ∃ w, w < n ∧ ly w + 1 = ly r := by
  obtain ⟨f, f1, f2, f3⟩ := a.2 r hr h
  obtain ⟨w, w1, w2, w3⟩ := a.1 r hr f f1 f2
  have := f3 w w1 w2
  exact ⟨w, w1, by omega⟩
theorem LEq.all {n : Nat} {fss : List (List Nat)} {ly : Nat → Nat} (a : LEq n fss ly) : ∀ m r, r < n → ly r = m → ∀ v, v ≤ m → ∃ w, w < n ∧ ly w = v := by
  intro m
  induction m with
  | zero => intro r hr e v hv; exact ⟨r, hr, by omega⟩
  | succ m ih =>
    intro r hr e v hv
    obtain ⟨w, w1, w2⟩ := a.down hr (by omega)
    by_cases q : v = m + 1
    · exact ⟨r, hr, by omega⟩
    · exact ih w w1 (by omega) v (by omega)
/-- the layers stay below the number of the rules -/
theorem LEq.lt {n : Nat} {fss : List (List Nat)} {ly : Nat → Nat} (a : LEq n fss ly) {r : Nat} (hr : r < n) : ly r < n := by
  refine Classical.byContradiction fun z => ?_
  have sub : (List.range (ly r + 1)).Subset ((List.range n).map ly) := fun v hv => by
    obtain ⟨w, w1, w2⟩ := a.all (ly r) r hr rfl v (by have := List.mem_range.mp hv; omega)
    exact List.mem_map.mpr ⟨w, List.mem_range.mpr w1, w2⟩
  have := List.Nodup.length_le_of_subset List.nodup_range sub
  simp at this
  omega
/-- the masks of a rule: what stands ahead of it, by each fact with L there -/
def mk0 (fss : List (List Nat)) (k : Nat) : List Int := (fss.filter fun f => decide (f.getD k 46 = 76)).map fun f => ((mks f 87 : Nat) : Int)
def msk (fss : List (List Nat)) (k : Nat) : List Int := sortU (mk0 fss k)
/-- whether a rule can stand behind a front -/
def canS (fss : List (List Nat)) (F r : Nat) : Bool := fss.all fun f => !decide (f.getD r 46 = 76) || !decide (mks f 87 &&& F = 0)
/-- the rules that can be the next -/
def plc (n : Nat) (fss : List (List Nat)) (F : Nat) : List Nat := (List.range n).filter fun r => !F.testBit r && canS fss F r
/-- the rules of a list as bits -/
def bitsOf (os : List Nat) : Nat := os.foldl (fun F r => F ||| 2 ^ r) 0
/-- the least order, place by place -/
def lo (n : Nat) (fss : List (List Nat)) : Nat → List Nat
  | 0 => []
  | k + 1 => lo n fss k ++ [(plc n fss (bitsOf (lo n fss k))).headD 0]
theorem bitsOf_snoc (os : List Nat) (r : Nat) : bitsOf (os ++ [r]) = bitsOf os ||| 2 ^ r := by
  unfold bitsOf
  rw [List.foldl_append]
  rfl
theorem bits_mem (os : List Nat) (r : Nat) : (bitsOf os).testBit r = decide (r ∈ os) := by
  refine snoc_ind (P := fun os => (bitsOf os).testBit r = decide (r ∈ os)) (by simp [bitsOf]) (fun l a ih => ?_) os
  rw [bitsOf_snoc, Nat.testBit_or, ih, Nat.testBit_two_pow, Bool.eq_iff_iff]
  simp only [Bool.or_eq_true, decide_eq_true_eq, List.mem_append, List.mem_singleton]
  constructor
  · rintro (h | h)
    · exact .inl h
    · exact .inr h.symm
  · rintro (h | h)
    · exact .inl h
    · exact .inr h.symm
theorem canS_iff {fss : List (List Nat)} {os : List Nat} {r : Nat} : canS fss (bitsOf os) r = true ↔ ∀ f ∈ fss, f.getD r 46 = 76 → ∃ w ∈ os, f.getD w 46 = 87 := by
  unfold canS
  rw [List.all_eq_true]
  constructor
  · intro h f hf e
    have := h f hf
    rw [decide_eq_true e] at this
    simp only [Bool.not_true, Bool.false_or, Bool.not_eq_true', decide_eq_false_iff_not] at this
    obtain ⟨w, w1, w2⟩ := and_ne this
    rw [mk_test (by decide), decide_eq_true_eq] at w1
    rw [bits_mem, decide_eq_true_eq] at w2
    exact ⟨w, w2, w1⟩
  · intro h f hf
    by_cases e : f.getD r 46 = 76
    · obtain ⟨w, w1, w2⟩ := h f hf e
      rw [decide_eq_true e]
      simp only [Bool.not_true, Bool.false_or, Bool.not_eq_true', decide_eq_false_iff_not]
      intro z
      have := and_test z (r := w) (by rw [mk_test (by decide), decide_eq_true_eq]; exact w2)
      rw [bits_mem, decide_eq_false_iff_not] at this
      exact this w1
    · rw [decide_eq_false e]; rfl
theorem mem_plc {n : Nat} {fss : List (List Nat)} {os : List Nat} {r : Nat} : r ∈ plc n fss (bitsOf os) ↔ r < n ∧ r ∉ os ∧ ∀ f ∈ fss, f.getD r 46 = 76 → ∃ w ∈ os, f.getD w 46 = 87 := by
  unfold plc
  rw [List.mem_filter, List.mem_range, Bool.and_eq_true, canS_iff, bits_mem, Bool.not_eq_true', decide_eq_false_iff_not]
theorem least_nat {P : Nat → Prop} : ∀ m, P m → ∃ k, P k ∧ ∀ j, j < k → ¬ P j := by
  intro m
  induction m using Nat.strongRecOn with
  | _ m ih =>
    intro hm
    by_cases z : ∃ j, j < m ∧ P j
    · obtain ⟨j, h1, h2⟩ := z
      exact ih j h1 h2
    · exact ⟨m, hm, fun j hj hp => z ⟨j, hj, hp⟩⟩
abbrev NB (n : Nat) (os : List Int) (fss : List (List Nat)) : Prop := ∀ cs ∈ fss, FOk n cs ∧ fsgn os cs ≠ 76
/-- the first rule of an order that is not in front can stand there -/
theorem first_plc {n : Nat} {os : List Int} {fss : List (List Nat)} {pre : List Nat} {i r : Nat} (ho : Ord n os) (h : NB n os fss) (hi : os[i]? = some (r : Int)) (hr : r ∉ pre) (hb : ∀ j u, j < i → os[j]? = some u → u.toNat ∈ pre) : r ∈ plc n fss (bitsOf pre) := by
  rw [mem_plc]
  have hrn := ho.inb _ (List.mem_of_getElem? hi)
  refine ⟨by omega, hr, fun f hf e => ?_⟩
  obtain ⟨k, w, a1, a2, a3, a4⟩ := first_at ho (h f hf).1 (h f hf).2 ⟨r, by omega, by rw [e]; decide⟩
  rcases Nat.lt_trichotomy k i with z | z | z
  · have := hb k w z a1
    rw [Int.toNat_natCast] at this
    exact ⟨w, this, a3⟩
  · subst z
    rw [a1] at hi
    have : w = r := by have := Option.some.inj hi; omega
    subst this
    rw [a3] at e
    cases e
  · have := a4 i r z hi
    rw [Int.toNat_natCast, e] at this
    cases this
theorem plc_ne {n : Nat} {os : List Int} {fss : List (List Nat)} {pre : List Nat} (ho : Ord n os) (h : NB n os fss) (hl : pre.length < n) : ∃ i r : Nat, os[i]? = some (r : Int) ∧ r ∈ plc n fss (bitsOf pre) ∧ ∀ j u, j < i → os[j]? = some u → u.toNat ∈ pre := by
  have ex : ∃ i : Nat, ∃ r : Nat, os[i]? = some (r : Int) ∧ r ∉ pre := by
    refine Classical.byContradiction fun z => ?_
    have sub : (List.range n).Subset pre := fun r hr => by
      have hr := List.mem_range.mp hr
      have : (r : Int) ∈ os := ho.mem_iff.mpr (by unfold rg; exact List.mem_map.mpr ⟨r, List.mem_range.mpr hr, rfl⟩)
      obtain ⟨i, hi, e⟩ := List.mem_iff_getElem.mp this
      refine Classical.byContradiction fun q => z ⟨i, r, by rw [List.getElem?_eq_getElem hi, e], q⟩
    have := List.Nodup.length_le_of_subset List.nodup_range sub
    simp at this
    omega
  obtain ⟨i0, h0⟩ := ex
  obtain ⟨i, ⟨r, h1, h2⟩, h3⟩ := least_nat (P := fun i : Nat => ∃ r : Nat, os[i]? = some (r : Int) ∧ r ∉ pre) i0 h0
  have hb : ∀ (j : Nat) u, j < i → os[j]? = some u → u.toNat ∈ pre := fun j u hj hu => by
    refine Classical.byContradiction fun q => h3 j hj ⟨u.toNat, ?_, q⟩
    have := ho.inb u (List.mem_of_getElem? hu)
    rw [hu]
    congr 1
    omega
  exact ⟨i, r, h1, first_plc ho h h1 h2 hb, hb⟩
/-- no order in which all facts hold -/
def BarF (n : Nat) (fss : List (List Nat)) : Prop := ∀ os, Ord n os → ¬ ∀ f ∈ fss, fsgn os f ≠ 76
def FrS (n : Nat) (fss : List (List Nat)) (pre : List Nat) : Prop := ∀ a r b, pre = a ++ r :: b → r ∈ plc n fss (bitsOf a)
theorem FrS.nil {n : Nat} {fss : List (List Nat)} : FrS n fss [] := fun a r b e => by cases a <;> cases e
theorem FrS.snoc {n : Nat} {fss : List (List Nat)} {pre : List Nat} {r : Nat} (h : FrS n fss pre) (hr : r ∈ plc n fss (bitsOf pre)) : FrS n fss (pre ++ [r]) := fun a s b e => by
  rcases List.eq_nil_or_concat b with rfl | ⟨b', x, rfl⟩
  · obtain ⟨e1, e2⟩ := List.append_inj' e rfl
    subst e1
    cases e2
    exact hr
  · rw [List.concat_eq_append, ← List.cons_append, ← List.append_assoc] at e
    obtain ⟨e1, _⟩ := List.append_inj' e rfl
    exact h a s b' e1
theorem FrS.init {n : Nat} {fss : List (List Nat)} {a b : List Nat} (h : FrS n fss (a ++ b)) : FrS n fss a := fun c r d e => h c r (d ++ b) (by rw [e]; simp)
theorem FrS.ok {n : Nat} {fss : List (List Nat)} {pre : List Nat} : FrS n fss pre → pre.Nodup ∧ ∀ r ∈ pre, r < n := by
  refine snoc_ind (P := fun pre => FrS n fss pre → pre.Nodup ∧ ∀ r ∈ pre, r < n) (fun _ => ⟨List.nodup_nil, fun r hr => by cases hr⟩) (fun pre x ih h => ?_) pre
  obtain ⟨i1, i2⟩ := ih h.init
  obtain ⟨h1, h2, _⟩ := mem_plc.mp (h pre x [] rfl)
  refine ⟨?_, fun r hr => ?_⟩
  · rw [List.nodup_append]
    refine ⟨i1, by simp, fun a ha b hb e => ?_⟩
    rw [List.mem_singleton] at hb
    subst hb; subst e
    exact h2 ha
  · rcases List.mem_append.mp hr with z | z
    · exact i2 r z
    · rw [List.mem_singleton.mp z]; exact h1
theorem FrS.len {n : Nat} {fss : List (List Nat)} {pre : List Nat} (h : FrS n fss pre) : pre.length ≤ n := by
  have := List.Nodup.length_le_of_subset h.ok.1 (l₂ := List.range n) fun r hr => List.mem_range.mpr (h.ok.2 r hr)
  simpa using this
/-- each front can be made an order -/
theorem FrS.ext {n : Nat} {fss : List (List Nat)} {os : List Int} (ho : Ord n os) (hN : NB n os fss) : ∀ d (pre : List Nat), pre.length + d = n → FrS n fss pre → ∃ post, (pre ++ post).length = n ∧ FrS n fss (pre ++ post)
  | 0, pre, e, h => ⟨[], by simpa using e, by simpa using h⟩
  | d + 1, pre, e, h => by
    obtain ⟨i, r, _, h2, _⟩ := plc_ne (pre := pre) ho hN (by omega)
    obtain ⟨post, p1, p2⟩ := FrS.ext ho hN d (pre ++ [r]) (by simp; omega) (h.snoc h2)
    exact ⟨r :: post, by simpa using p1, by simpa using p2⟩
theorem cutL_drop {α : Type} (as : List α) (j : Nat) : cutL as (some (j : Int)) none = as.drop j := by
  unfold cutL
  rw [HT.sIx_nat, HT.sIx_none]
  by_cases h : j ≤ as.length
  · rw [Nat.min_eq_left h, List.take_of_length_le (by simp)]
  · rw [Nat.min_eq_right (by omega), List.drop_of_length_le (Nat.le_refl _), List.drop_of_length_le (by omega)]
    simp
theorem cutL_take {α : Type} (as : List α) (j : Nat) : cutL as none (some (j : Int)) = as.take j := by
  unfold cutL
  rw [HT.sIx_nat, HT.sIx_none, List.drop_zero, Nat.sub_zero]
  by_cases h : j ≤ as.length
  · rw [Nat.min_eq_left h]
  · rw [Nat.min_eq_right (by omega), List.take_of_length_le (Nat.le_refl _), List.take_of_length_le (by omega)]
/-- rising indices -/
def Asc (m : Nat) (ks : List Nat) : Prop := ks.Pairwise (· < ·) ∧ ∀ i ∈ ks, i < m
theorem Asc.nodup {m : Nat} {ks : List Nat} (h : Asc m ks) : ks.Nodup := h.1.imp fun h => Nat.ne_of_lt h
theorem Asc.len {m : Nat} {ks : List Nat} (h : Asc m ks) : ks.length ≤ m := by
  have := List.Nodup.length_le_of_subset h.nodup (l₂ := List.range m) fun r hr => List.mem_range.mpr (h.2 r hr)
  simpa using this
/-- fewer facts bar less -/
theorem BarF.mono {n : Nat} {fss gss : List (List Nat)} (h : BarF n fss) (hs : ∀ f ∈ fss, f ∈ gss) : BarF n gss := fun os ho hN => h os ho fun f hf => hN f (hs f hf)
def ovA (gs : List (List Nat)) (r : Nat) : Nat := if 76 ∈ gs.map (fun f => f.getD r 46) then 76 else if 87 ∈ gs.map (fun f => f.getD r 46) then 87 else 46
def oc (n : Nat) (g : Nat → Nat) : List Nat := (List.range n).map g
def ov (n : Nat) (gs : List (List Nat)) : List Nat := oc n (ovA gs)
def Shw (n : Nat) (gs : List (List Nat)) (f : List Nat) : Prop := (∀ r, r < n → f.getD r 46 ≠ 76) ∨
  (gs ≠ [] ∧ (∀ r, r < n → ovA gs r = 87 → f.getD r 46 = 87) ∧ (((∃ r, r < n ∧ ovA gs r = 76) ∧ ∀ r, r < n → ovA gs r ≠ 87) ∨ ∀ r, r < n → f.getD r 46 = 76 → ovA gs r = 76))
end L2.PM
end
section
set_option Elab.async false
set_option linter.all false
set_option maxRecDepth 100000
namespace L2.TX
open PySem PySem.Spec PyProof.Rows L2 L2.VL L2.PM
/-- o is there, and Q holds of it -/
def WP {α : Type} (o : Option α) (Q : α → Prop) : Prop := ∃ a, o = some a ∧ Q a
section
variable {α β γ σ τ : Type} {o : Option α} {Q Q' : α → Prop} {R : β → Prop} {a : α}
theorem wp_some (h : Q a) : WP (some a) Q := ⟨a, rfl, h⟩
theorem wp_of (e : o = some a) (h : Q a) : WP o Q := ⟨a, e, h⟩
theorem WP.mono (h : WP o Q) (i : ∀ a, Q a → Q' a) : WP o Q' := let ⟨a, e, q⟩ := h; ⟨a, e, i a q⟩
theorem WP.bind {p : Option β} {h : β → Option α} (hp : WP p R) (hk : ∀ b, R b → WP (h b) Q) : WP (p.bind h) Q := by
  obtain ⟨b, e, r⟩ := hp
  rw [e]
  exact hk b r
theorem wp_eq {p : Option β} {b : β} {h : β → Option α} (e : p = some b) (hk : WP (h b) Q) : WP (p.bind h) Q := by
  rw [e]; exact hk
theorem wp_lt {v : β} {h : β → Option α} (hk : WP (h v) Q) : WP (lt v h) Q := by rw [lt_eq]; exact hk
theorem wp_bs {b : β} {h : β → Option α} (hk : WP (h b) Q) : WP ((some b).bind h) Q := hk
theorem wp_if {c : Bool} {o1 o2 : Option α} (h1 : c = true → WP o1 Q) (h2 : c = false → WP o2 Q) : WP (if c = true then o1 else o2) Q := by
  cases c with
  | true => exact h1 rfl
  | false => exact h2 rfl
theorem wp_ifd {p : Prop} [Decidable p] {o1 o2 : Option α} (h1 : p → WP o1 Q) (h2 : ¬ p → WP o2 Q) : WP (if decide p = true then o1 else o2) Q := by
  by_cases h : p
  · rw [if_pos (decide_eq_true h)]; exact h1 h
  · rw [if_neg (fun z => h (of_decide_eq_true z))]; exact h2 h
theorem WP.eq (h : WP o fun r => r = a) : o = some a := by
  obtain ⟨b, e, rfl⟩ := h
  exact e
theorem wp_assoc {p : Option β} {h : β → Option γ} {k : γ → Option α} (w : WP (p.bind fun b => (h b).bind k) Q) : WP ((p.bind h).bind k) Q := by
  rwa [Option.bind_assoc]
theorem bind_id (o : Option α) : (o.bind fun x => some x) = o := by cases o <;> rfl
theorem wp_id (w : WP o Q) : WP (o.bind fun x => some x) Q := by rwa [bind_id]
theorem wp_fo {b : σ → β → Option σ} {xs : List β} {s0 : σ} {Q : σ → Prop} (I : List β → σ → Prop) (h0 : I [] s0) (hs : ∀ pre x post s, xs = pre ++ x :: post → I pre s → WP (b s x) (I (pre ++ [x]))) (he : ∀ s, I xs s → Q s) : WP (fo b xs s0) Q := by
  have go : ∀ (post pre : List β) (s : σ), xs = pre ++ post → I pre s → WP (fo b post s) Q := by
    intro post
    induction post with
    | nil => intro pre s e h; exact wp_some (he s (by rw [e, List.append_nil]; exact h))
    | cons x post ih =>
      intro pre s e h
      exact (hs pre x post s e h).bind fun s' h' => ih (pre ++ [x]) s' (by rw [e]; simp) h'
  exact go xs [] s0 rfl h0
/-- a loop over range(i, j) -/
theorem wp_foN {b : σ → Int → Option σ} {n : Nat} {s0 : σ} {Q : σ → Prop} (I : Nat → σ → Prop) (h0 : I 0 s0) (hs : ∀ k s, k < n → I k s → WP (b s (k : Int)) (I (k + 1))) (he : ∀ s, I n s → Q s) : WP (fo b ((List.range n).map fun (k : Nat) => (k : Int)) s0) Q := by
  refine wp_fo (fun pre s => I pre.length s) h0 (fun pre x post s e h => ?_) fun s h => he s (by simpa using h)
  have hx : ((List.range n).map fun (k : Nat) => (k : Int))[pre.length]? = some x := by rw [e]; simp
  rw [List.getElem?_map] at hx
  obtain ⟨k, hk, rfl⟩ := Option.map_eq_some_iff.mp hx
  have h2 := List.getElem?_eq_some_iff.mp hk
  obtain ⟨h3, h4⟩ := h2
  rw [List.length_range] at h3
  rw [List.getElem_range] at h4
  subst h4
  rw [List.length_append]
  exact hs _ s h3 h
/-- a loop that may be left -/
theorem wp_foW {b : σ → β → Option (Fw σ γ)} {xs : List β} {s0 : σ} {Q : Fw σ γ → Prop} (I : List β → σ → Prop) (h0 : I [] s0)
    (hs : ∀ pre x post s, xs = pre ++ x :: post → I pre s → WP (b s x) fun w => match w with | .nx s' => I (pre ++ [x]) s' | .brk s' => Q (.nx s') | .ret a => Q (.ret a)) (he : ∀ s, I xs s → Q (.nx s)) : WP (foW b xs s0) Q := by
  have go : ∀ (post pre : List β) (s : σ), xs = pre ++ post → I pre s → WP (foW b post s) Q := by
    intro post
    induction post with
    | nil => intro pre s e h; exact wp_some (he s (by rw [e, List.append_nil]; exact h))
    | cons x post ih =>
      intro pre s e h
      refine (hs pre x post s e h).bind fun w h' => ?_
      cases w with
      | nx s' => exact ih (pre ++ [x]) s' (by rw [e]; simp) h'
      | brk s' => exact wp_some h'
      | ret a => exact wp_some h'
  exact go xs [] s0 rfl h0
theorem wp_foWN {b : σ → Int → Option (Fw σ γ)} {n : Nat} {s0 : σ} {Q : Fw σ γ → Prop} (I : Nat → σ → Prop) (h0 : I 0 s0)
    (hs : ∀ k s, k < n → I k s → WP (b s (k : Int)) fun w => match w with | .nx s' => I (k + 1) s' | .brk s' => Q (.nx s') | .ret a => Q (.ret a)) (he : ∀ s, I n s → Q (.nx s)) : WP (foW b ((List.range n).map fun (k : Nat) => (k : Int)) s0) Q := by
  refine wp_foW (fun pre s => I pre.length s) h0 (fun pre x post s e h => ?_) fun s h => he s (by simpa using h)
  have hx : ((List.range n).map fun (k : Nat) => (k : Int))[pre.length]? = some x := by rw [e]; simp
  rw [List.getElem?_map] at hx
  obtain ⟨k, hk, rfl⟩ := Option.map_eq_some_iff.mp hx
  obtain ⟨h3, h4⟩ := List.getElem?_eq_some_iff.mp hk
  rw [List.length_range] at h3
  rw [List.getElem_range] at h4
  subst h4
  rw [List.length_append]
  exact hs _ s h3 h
theorem wp_out {o : Option (Fw σ γ)} {k : σ → Option α} {r : γ → Option α} (h : WP o fun w => match w with | .nx s => WP (k s) Q | .brk s => WP (k s) Q | .ret a => WP (r a) Q) : WP (o.bind (fwOut k r)) Q := WP.bind h fun w hw => by
  cases w <;> exact hw
theorem lc_of {q : β → Option Bool} {e : β → Option γ} (q' : β → Bool) (e' : β → γ) : ∀ (xs : List β), (∀ x ∈ xs, q x = some (q' x)) → (∀ x ∈ xs, q' x = true → e x = some (e' x)) → lc q e xs = some ((xs.filter q').map e')
  | [], _, _ => rfl
  | x :: xs, h1, h2 => by
    unfold lc
    rw [h1 x List.mem_cons_self]
    have ih := lc_of q' e' xs (fun y hy => h1 y (List.mem_cons_of_mem _ hy)) (fun y hy => h2 y (List.mem_cons_of_mem _ hy))
    cases hq : q' x with
    | false =>
      rw [List.filter_cons_of_neg (by rw [hq]; exact Bool.false_ne_true)]
      exact ih
    | true =>
      rw [List.filter_cons_of_pos hq]
      show (e x).bind _ = _
      rw [h2 x List.mem_cons_self hq]
      show (lc q e xs).bind _ = _
      rw [ih]; rfl
theorem lcC_of {q : β → Option Bool} {e : β → Option γ} {xs : List β} (q' : β → Bool) (e' : β → γ) (hl : (xs.filter q').length ≤ cap) (h1 : ∀ x ∈ xs, q x = some (q' x)) (h2 : ∀ x ∈ xs, q' x = true → e x = some (e' x)) : lcC q e xs = some ((xs.filter q').map e') := by
  unfold lcC
  rw [lc_of q' e' xs h1 h2]
  show chk _ = _
  unfold chk
  rw [List.length_map]
  exact if_pos hl
theorem lcC_map {q : β → Option Bool} {e : β → Option γ} {xs : List β} (e' : β → γ) (hl : xs.length ≤ cap) (h1 : ∀ x ∈ xs, q x = some true) (h2 : ∀ x ∈ xs, e x = some (e' x)) : lcC q e xs = some (xs.map e') := by
  have := lcC_of (q := q) (e := e) (xs := xs) (fun _ => true) e' (Nat.le_trans (List.length_filter_le _ _) hl) h1 (fun x hx _ => h2 x hx)
  rwa [List.filter_eq_self.mpr (fun _ _ => rfl)] at this
theorem wp_lcX {q : τ → β → Option (Bool × τ)} {e : τ → β → Option (γ × τ)} {xs : List β} {t0 : τ} {Q : List γ × τ → Prop} (hl : xs.length ≤ cap) (I : List β → List γ → τ → Prop) (h0 : I [] [] t0)
    (hs : ∀ pre x post ys t, xs = pre ++ x :: post → I pre ys t → WP (q t x) fun c => if c.1 = true then WP (e c.2 x) fun y => I (pre ++ [x]) (ys ++ [y.1]) y.2 else I (pre ++ [x]) ys c.2) (he : ∀ ys t, I xs ys t → Q (ys, t)) : WP (lcXC q e xs t0) Q := by
  have go : ∀ (post pre : List β) (ys : List γ) (t : τ), xs = pre ++ post → I pre ys t → WP (lcX q e post t) fun zs => zs.1.length ≤ post.length ∧ I xs (ys ++ zs.1) zs.2 := by
    intro post
    induction post with
    | nil => intro pre ys t e h; exact wp_some ⟨Nat.le_refl _, by rw [List.append_nil]; rwa [e, List.append_nil]⟩
    | cons x post ih =>
      intro pre ys t ex h
      unfold lcX
      refine (hs pre x post ys t ex h).bind fun c hc => ?_
      obtain ⟨c1, c2⟩ := c
      cases c1 with
      | false => exact (ih (pre ++ [x]) ys c2 (by rw [ex]; simp) hc).mono fun zs hz => ⟨Nat.le_succ_of_le hz.1, hz.2⟩
      | true =>
        refine WP.bind (R := _) hc fun y hy => ?_
        refine (ih (pre ++ [x]) (ys ++ [y.1]) y.2 (by rw [ex]; simp) hy).bind fun zs hz => wp_some ⟨Nat.succ_le_succ hz.1, ?_⟩
        have := hz.2
        rwa [List.append_assoc] at this
  obtain ⟨zs, e1, h1, h2⟩ := go xs [] [] t0 rfl h0
  refine ⟨zs, ?_, he zs.1 zs.2 h2⟩
  unfold lcXC
  rw [e1]
  exact if_pos (Nat.le_trans h1 hl)
theorem rng0 {n : Nat} (h : n < 4611686018427387904) : rng 0 (n : Int) = some ((List.range n).map fun (k : Nat) => (k : Int)) := by
  unfold rng
  rw [if_pos (by unfold small62; simp; omega)]
  simp
theorem ixL_nat {xs : List α} {k : Nat} (d : α) (h : k < xs.length) : ixL xs (k : Int) = some (xs.getD k d) := by
  unfold ixL atI ixN
  rw [if_pos (by omega), if_pos (by simp; omega)]
  simp [h]
theorem ixL_lt {xs : List α} {k : Nat} (h : k < xs.length) : ixL xs (k : Int) = some xs[k] := by
  unfold ixL atI ixN
  rw [if_pos (by omega), if_pos (by simp; omega)]
  simp [h]
theorem ixS_nat {cs : List Nat} {k : Nat} (h : k < cs.length) (hc : cs.length ≤ cap) : ixS cs (k : Int) = some [cs.getD k 46] := by
  unfold ixS
  rw [if_pos hc, show atI cs (k : Int) = some (cs.getD k 46) from ixL_nat 46 h]
  rfl
theorem lenS_eq {cs : List Nat} (hc : cs.length ≤ cap) : lenS cs = some (cs.length : Int) := if_pos hc
theorem appL_eq {xs : List α} {x : α} (h : xs.length < cap) : appL xs x = some (xs ++ [x]) := if_pos h
theorem catL_eq {xs ys : List α} (h : xs.length + ys.length ≤ cap) : catL xs ys = some (xs ++ ys) := if_pos h
theorem catS_eq {xs ys : List Nat} (h : xs.length + ys.length ≤ cap) : catS xs ys = some (xs ++ ys) := if_pos h
theorem setL_nat {xs : List α} {k : Nat} {x : α} (h : k < xs.length) : setL xs (k : Int) x = some (xs.set k x) := by
  unfold setL ixN
  rw [if_pos (by omega), if_pos (by simp; omega)]
  simp
theorem divI_eq {i j : Int} (h : 0 < j ∧ j < 1606938044258990275541962092341162602522202993782792835301376) : divI i j = some (i / j) := if_pos (by unfold CDivB; simpa using h)
theorem modI_eq {i j : Int} (h : 0 < j) : modI i j = some (i % j) := if_pos h
theorem shlI_eq {i j : Int} (h : 0 ≤ j ∧ j ≤ 1000 ∧ i.natAbs < 18446744073709551616) : shlI i j = some (i * 2 ^ j.toNat) := if_pos (by unfold CPowB; simpa using h)
theorem shlI_nat {k : Nat} (h : k ≤ 1000) : shlI 1 (k : Int) = some ((2 ^ k : Nat) : Int) := by
  rw [shlI_eq ⟨by omega, by omega, by decide⟩]
  simp
theorem shrI_nat {i k : Nat} : shrI (i : Int) (k : Int) = some ((i >>> k : Nat) : Int) := by
  unfold shrI
  rw [if_pos (by omega), Nat.shiftRight_eq_div_pow]
  simp
theorem joinS_eq {s : List Nat} {ts : List (List Nat)} (h : (ts.map List.length).sum + ts.length * s.length ≤ 16777216) : joinS s ts = some (joinT s ts) := if_pos h
/-- signs put together -/
theorem joinS_chars {cs : List Nat} (h : cs.length ≤ cap) : joinS [] (cs.map fun c => [c]) = some cs := by
  have e1 : ((cs.map fun c => [c]).map List.length).sum = cs.length := by
    clear h
    induction cs with
    | nil => rfl
    | cons c cs ih => simp only [List.map_cons, List.sum_cons, ih, List.length_cons, List.length_nil]; omega
  rw [joinS_eq (by rw [e1]; simp only [cap] at h; simp; omega), joinT_nil]
  congr 1
  clear h e1
  induction cs with
  | nil => rfl
  | cons c cs ih => simp [ih]
theorem mulS_eq {s : List Nat} {n : Nat} (h : n ≤ 1000) (hl : s.length ≤ 1000) : mulS s (n : Int) = some (List.replicate n s).flatten := by
  unfold mulS
  rw [if_pos ⟨by omega, by omega, hl⟩]
  rfl
theorem inTx_one (c : Nat) (cs : List Nat) : inTx [c] cs = decide (c ∈ cs) := by
  show strIn ⟨#[c]⟩ ⟨cs.toArray⟩ = _
  unfold strIn
  rw [PySem.StrLaws.found_one]
theorem chs_len (cs : List Nat) : (chs cs).length = cs.length := by simp [chs]
end
end L2.TX
end
section
set_option Elab.async false
set_option linter.all false
set_option maxRecDepth 100000
namespace L2.TX
open PySem PySem.Spec PyProof.Rows L2 L2.VL L2.PM
/-- d has a text of at most B signs, at most n deep -/
structure RB (n B : Nat) (d : D) : Prop where
  ex : ∃ p, toPyN n d = some p ∧ p.showable = true ∧ p.shown.length ≤ B ∧ p.depth ≤ n + 1
theorem RB.mono {n B B' : Nat} {d : D} (h : RB n B d) (hB : B ≤ B') : RB n B' d := let ⟨p, e, s, l, k⟩ := h.ex; ⟨p, e, s, Nat.le_trans l hB, k⟩
theorem RB.int {n : Nat} {i : Int} (h : i.natAbs.log2 < 1920) : RB n 1921 (rI i) := ⟨.int i, (by cases n <;> rfl), by simpa [PyData.showable] using h, by
  simp only [PyData.shown]
  exact PyProof.Rows.int_text_len_1921 h, by simp [PyData.depth]⟩
theorem RB.bool {n : Nat} {b : Bool} : RB n 5 (rB b) := ⟨.bool b, (by cases n <;> rfl), rfl, by cases b <;> (simp only [PyData.shown]; decide), by simp [PyData.depth]⟩
theorem RB.non {n : Nat} : RB n 4 (.con .non) := ⟨.none, (by cases n <;> rfl), rfl, by simp only [PyData.shown]; decide, by simp [PyData.depth]⟩
theorem RB.str {n : Nat} {cs : List Nat} (h : ∀ c ∈ cs, c < 16 ^ 8) : RB n (10 * cs.length + 2) (rS cs) := ⟨.str (sx cs), (by cases n <;> rfl), rfl, by
  simp only [PyData.shown]
  have := StrLaws.reprText_len (sx cs) (by simpa using h)
  rwa [sx_len] at this, by simp [PyData.depth]⟩
theorem RB.all {n B : Nat} : ∀ {ds : List D}, (∀ d ∈ ds, RB n B d) → ∃ ps, optAll (toPyN n) ds = some ps ∧ PyData.showableAll ps = true ∧ ((PyData.shownAll ps).map (·.length)).sum ≤ ds.length * B ∧ (PyData.shownAll ps).length = ds.length ∧ PyData.depthAll ps ≤ n + 1
  | [], _ => ⟨[], rfl, by simp [PyData.showableAll], by simp [PyData.shownAll], by simp [PyData.shownAll], by simp [PyData.depthAll]⟩
  | d :: ds, h => by
    obtain ⟨p, e, s, l, k⟩ := (h d (by simp)).ex
    obtain ⟨ps, e2, s2, l2, l3, k2⟩ := RB.all (ds := ds) fun x hx => h x (by simp [hx])
    refine ⟨p :: ps, ?_, ?_, ?_, ?_, ?_⟩
    · unfold optAll
      rw [e, e2]; rfl
    · simp only [PyData.showableAll, s, s2, Bool.and_self]
    · simp only [PyData.shownAll, List.map_cons, List.sum_cons, List.length_cons, Nat.add_mul]; omega
    · simp only [PyData.shownAll, List.length_cons, l3]
    · simp only [PyData.depthAll]; exact Nat.max_le.mpr ⟨k, k2⟩
theorem RB.lst {n B : Nat} {ds : List D} (h : ∀ d ∈ ds, RB n B d) : RB (n + 1) (ds.length * (B + 2) + 3) (.lst ds) := by
  obtain ⟨ps, e, s, l, l2, k⟩ := RB.all h
  refine ⟨.list ps, ?_, by simpa [PyData.showable] using s, ?_, by simp only [PyData.depth]; omega⟩
  · show (optAll (toPyN n) ds).map _ = _
    rw [e]; rfl
  · simp only [PyData.shown]
    have := listText_len_le (PyData.shownAll ps)
    rw [Nat.mul_add]
    omega
theorem RB.tup {n B : Nat} {ds : List D} (h : ∀ d ∈ ds, RB n B d) : RB (n + 1) (ds.length * (B + 2) + 3) (.tup ds) := by
  obtain ⟨ps, e, s, l, l2, k⟩ := RB.all h
  refine ⟨.tuple ps, ?_, by simpa [PyData.showable] using s, ?_, by simp only [PyData.depth]; omega⟩
  · show (optAll (toPyN n) ds).map _ = _
    rw [e]; rfl
  · simp only [PyData.shown]
    have := tupleText_len_le (PyData.shownAll ps)
    rw [Nat.mul_add]
    omega
theorem RB.dic0 {n : Nat} : RB (n + 1) 3 (.dic []) := ⟨.dict [], rfl, by simp [PyData.showable, PyData.showableKv], by simp only [PyData.shown, PyData.shownKv]; exact dictText_len_le [], by simp [PyData.depth, PyData.depthKv]⟩
theorem isDic_lst {ds : List D} {n : Nat} {p : PyData} (h : toPyN n (.lst ds) = some p) : isDic p = false := by
  cases n with
  | zero => cases h
  | succ n =>
    obtain ⟨ps, _, rfl⟩ := Option.map_eq_some_iff.mp (show (optAll (toPyN n) ds).map PyData.list = some p from h)
    rfl
theorem repG_lst {B : Nat} {ds : List D} (h : RB 60 B (.lst ds)) (hB : B ≤ 16777216) : ∃ t, repG (.lst ds) = some t := by
  obtain ⟨p, e, s, l, k⟩ := h.ex
  refine ⟨(p.shown).cps.toList, ?_⟩
  have : reprOf (.lst ds) = some p.shown := by
    unfold reprOf
    rw [e]
    exact if_pos ⟨s, by rw [sizeLine_eq]; omega, by omega, isDic_lst e⟩
  unfold repG
  rw [this]
  rfl
theorem lc_mapC {α β γ : Type} {q : β → Option Bool} {e : β → Option γ} (f : α → β) : ∀ xs : List α, lc q e (xs.map f) = lc (fun x => q (f x)) (fun x => e (f x)) xs
  | [] => rfl
  | x :: xs => by
    show (q (f x)).bind (fun c => if c then (e (f x)).bind fun y => (lc q e (xs.map f)).bind fun ys => some (y :: ys) else lc q e (xs.map f)) = _
    rw [lc_mapC f xs]
    rfl
theorem lcC_comp {α β γ : Type} {q : β → Option Bool} {e : β → Option γ} (f : α → β) (xs : List α) : lcC q e (xs.map f) = lcC (fun x => q (f x)) (fun x => e (f x)) xs := by
  unfold lcC
  rw [lc_mapC]
theorem ix_draw {α : Type} {xs : List α} {r : Int} {P : α → Prop} (hr : 0 ≤ r ∧ r < xs.length) (h : ∀ x ∈ xs, P x) : WP (ixL xs r) P := by
  obtain ⟨k, rfl⟩ : ∃ k : Nat, r = k := ⟨r.toNat, by omega⟩
  exact wp_of (ixL_lt (by omega)) (h _ (List.getElem_mem _))
def Sm (i : Int) : Prop := i.natAbs.log2 < 1920
theorem sm_of {i : Int} (h : -1000000000000000000000000000000 ≤ i ∧ i ≤ 1000000000000000000000000000000) : Sm i := by
  unfold Sm
  have h2 : i.natAbs < 2 ^ 101 := Nat.lt_of_le_of_lt (show i.natAbs ≤ 1000000000000000000000000000000 by omega) (by decide)
  by_cases z : i.natAbs = 0
  · rw [z]; decide
  · exact Nat.lt_of_lt_of_le ((Nat.log2_lt z).mpr h2) (by decide)
end L2.TX
end
section
set_option Elab.async false
set_option linter.all false
set_option maxRecDepth 100000
set_option maxHeartbeats 2000000
namespace L2.TX
open PySem PySem.Spec PyProof.Rows L2 L2.VL L2.PM
local macro_rules | `(tactic| walk_at "w") => `(tactic| (repeat (first | with_reducible refine wp_some ?_ | with_reducible refine wp_lt ?_ | with_reducible refine wp_bs ?_ | with_reducible refine wp_id ?_ | with_reducible refine wp_assoc ?_); try dsimp only))
/-- signs, one text for each -/
def SgL (n : Nat) (ss : List (List Nat)) : Prop := ∃ cs, ss = chs cs ∧ FOk n cs
theorem SgL.set {n k : Nat} {ss : List (List Nat)} {c : Nat} (h : SgL n ss) (hk : k < n) (hc : Sg c) : WP (setL ss (k : Int) [c]) (SgL n) := by
  obtain ⟨cs, rfl, h1, h2⟩ := h
  refine wp_of (setL_nat (by rw [chs_len]; omega)) ⟨cs.set k c, ?_, by simp [h1], fun x hx => ?_⟩
  · unfold chs; rw [List.map_set]
  · rcases List.mem_or_eq_of_mem_set hx with h | h
    · exact h2 x h
    · rw [h]; exact hc
theorem SgL.join {n : Nat} {ss : List (List Nat)} (hn : n ≤ 60) (h : SgL n ss) : WP (joinS [] ss) (FOk n) := by
  obtain ⟨cs, rfl, h1, h2⟩ := h
  exact wp_of (joinS_chars (by simp only [cap]; omega)) ⟨h1, h2⟩
theorem enm_chs (f : List Nat) : enm (chs f) = (List.range f.length).map fun (k : Nat) => ((k : Int), [f.getD k 46]) := by
  unfold enm chs
  rw [zipIdx_range (d := []), List.map_map, List.length_map]
  refine List.map_congr_left fun k hk => ?_
  have hk := List.mem_range.mp hk
  show ((k : Int), (f.map fun c => [c]).getD k []) = _
  rw [List.getD_eq_getElem?_getD, List.getElem?_map, List.getElem?_eq_getElem hk, List.getD_eq_getElem?_getD, List.getElem?_eq_getElem hk]
  rfl
theorem Bar.ne {n : Nat} {gs : List (List Nat)} (h : Bar n gs) : gs ≠ [] := h.1
end L2.TX
end
section
set_option Elab.async false
set_option linter.all false
set_option maxRecDepth 100000
set_option maxHeartbeats 2000000
namespace L2.TX
open PySem PySem.Spec PyProof.Rows L2 L2.VL L2.PM
theorem frs_tail {n : Nat} {fss : List (List Nat)} {pre : List Nat} {r : Nat} (h : FrS n fss (pre ++ [r])) : r ∈ plc n fss (bitsOf pre) := h pre r [] rfl
end L2.TX
end
section
set_option Elab.async false
set_option linter.all false
set_option maxRecDepth 100000
set_option maxHeartbeats 2000000
namespace L2.TX
open PySem PySem.Spec PyProof.Rows L2 L2.VL L2.PM
def kc (n : Nat) (key : Nat → Nat) (F r : Nat) : Nat := ((List.range n).filter fun q => !F.testBit q && decide (key q < key r)).length
def minN : List Nat → Nat
  | [] => 0
  | [x] => x
  | x :: y :: r => min x (minN (y :: r))
def bm (n : Nat) (fss : List (List Nat)) (key : Nat → Nat) : Nat → Nat → Nat
  | 0, _ => 0
  | k + 1, F => minN ((plc n fss F).map fun r => kc n key F r + bm n fss key k (F ||| 2 ^ r))
end L2.TX
end
section
set_option Elab.async false
set_option linter.all false
set_option maxRecDepth 100000
set_option maxHeartbeats 2000000
namespace L2.TX
open PySem PySem.Spec PyProof.Rows L2 L2.VL L2.PM
def ps : List Int → Int → Nat
  | [], _ => 0
  | a :: r, x => if a = x then 0 else ps r x + 1
theorem ps_get : ∀ {w : List Int} {x : Int}, x ∈ w → w[ps w x]? = some x
  | a :: r, x, h => by
    unfold ps
    by_cases e : a = x
    · rw [if_pos e, e]; rfl
    · rw [if_neg e]
      simpa using ps_get ((List.mem_cons.mp h).resolve_left fun z => e z.symm)
theorem ps_inj {w : List Int} {x y : Int} (hx : x ∈ w) (hy : y ∈ w) (e : ps w x = ps w y) : x = y := by
  have h1 := ps_get hx
  rw [e, ps_get hy] at h1
  exact (Option.some.inj h1).symm
theorem ps_at : ∀ {w : List Int} {i : Nat} {x : Int}, w.Nodup → w[i]? = some x → ps w x = i
  | a :: r, i, x, nd, h => by
    rw [List.nodup_cons] at nd
    unfold ps
    cases i with
    | zero =>
      have : a = x := by simpa using h
      rw [if_pos this]
    | succ i =>
      have h : r[i]? = some x := by simpa using h
      have hx : x ∈ r := List.mem_of_getElem? h
      rw [if_neg (fun e => nd.1 (by rw [e]; exact hx)), ps_at nd.2 h]
def tn (key : Int → Nat) : List Int → Nat
  | [] => 0
  | r :: c => (c.filter fun q => decide (key q < key r)).length + tn key c
theorem tn_zero {key : Int → Nat} : ∀ {c : List Int}, tn key c = 0 → c.Pairwise fun a b => key a ≤ key b
  | [], _ => .nil
  | r :: c, h => by
    unfold tn at h
    have h1 : (c.filter fun q => decide (key q < key r)) = [] := List.length_eq_zero_iff.mp (by omega)
    refine .cons (fun q hq => ?_) (tn_zero (by omega))
    have := List.filter_eq_nil_iff.mp h1 q hq
    simp only [decide_eq_true_eq] at this
    omega
theorem tn_own : ∀ {c : List Int} {key : Int → Nat}, (c.Pairwise fun a b => key a ≤ key b) → tn key c = 0
  | [], _, _ => rfl
  | r :: c, key, h => by
    rw [List.pairwise_cons] at h
    unfold tn
    rw [tn_own h.2, List.filter_eq_nil_iff.mpr fun q hq => by have := h.1 q hq; rw [decide_eq_true_eq]; omega]
    rfl
theorem ps_pw {w : List Int} (nd : w.Nodup) : w.Pairwise fun a b => ps w a < ps w b := by
  rw [List.pairwise_iff_getElem]
  intro i j hi hj hij
  rw [ps_at nd (List.getElem?_eq_getElem hi), ps_at nd (List.getElem?_eq_getElem hj)]
  exact hij
theorem tn_self {w : List Int} (nd : w.Nodup) : tn (ps w) w = 0 := tn_own ((ps_pw nd).imp fun h => Nat.le_of_lt h)
theorem tn_eq {w o : List Int} (nd : w.Nodup) (p : o.Perm w) (h : tn (ps w) o = 0) : o = w :=
  List.Perm.eq_of_pairwise (le := fun a b => ps w a ≤ ps w b) (fun a b ha hb h1 h2 => ps_inj (p.mem_iff.mp ha) hb (Nat.le_antisymm h1 h2)) (tn_zero h) ((ps_pw nd).imp fun h => Nat.le_of_lt h) p
abbrev Hld (n : Nat) (fss : List (List Nat)) (os : List Int) : Prop := Ord n os ∧ ∀ f ∈ fss, fsgn os f ≠ 76
def NearP (n : Nat) (fss : List (List Nat)) (w N : List Int) : Prop := Hld n fss N ∧ ∀ os, Hld n fss os → tn (ps w) N ≤ tn (ps w) os ∧ (tn (ps w) os = tn (ps w) N → lexI os N = false)
theorem ord_nd {n : Nat} {os : List Int} (h : Ord n os) : os.Nodup := h.nodup_iff.mpr (by
  unfold rg
  exact List.Pairwise.map _ (fun a b h z => h (Int.ofNat.inj z)) List.nodup_range)
theorem ord_pm {n : Nat} {os w : List Int} (h : Ord n os) (hw : Ord n w) : os.Perm w := List.Perm.trans h (List.Perm.symm hw)
theorem lexI_conn' : ∀ a b : List Int, lexI a b = false → lexI b a = false → a = b
  | [], [], _, _ => rfl
  | [], _ :: _, h, _ => nomatch h
  | _ :: _, [], _, h => nomatch h
  | a :: r, b :: s, h1, h2 => by
    unfold lexI at h1 h2
    by_cases h : a = b
    · subst h
      rw [if_pos rfl] at h1 h2
      rw [lexI_conn' r s h1 h2]
    · rw [if_neg h] at h1
      rw [if_neg fun z => h z.symm] at h2
      have := of_decide_eq_false h1
      have := of_decide_eq_false h2
      omega
theorem NearP.own {n : Nat} {fss : List (List Nat)} {w N : List Int} (a : NearP n fss w N) (h : Hld n fss w) : N = w := by
  have h1 := (a.2 w h).1
  rw [tn_self (ord_nd h.1)] at h1
  exact tn_eq (ord_nd h.1) (ord_pm a.1.1 h.1) (by omega)
theorem NearP.more {n : Nat} {fss gss : List (List Nat)} {w N M : List Int} (a : NearP n fss w N) (b : NearP n gss w M) (hs : ∀ f ∈ fss, f ∈ gss) : tn (ps w) N ≤ tn (ps w) M ∧ ((∀ f ∈ gss, fsgn N f ≠ 76) → M = N) := by
  have hM : Hld n fss M := ⟨b.1.1, fun f hf => b.1.2 f (hs f hf)⟩
  have h1 := a.2 M hM
  refine ⟨h1.1, fun h => ?_⟩
  have h2 := b.2 N ⟨a.1.1, h⟩
  have e : tn (ps w) N = tn (ps w) M := Nat.le_antisymm h1.1 h2.1
  exact (lexI_conn' N M (h2.2 e) (h1.2 e.symm)).symm
end L2.TX
end
section
set_option Elab.async false
set_option linter.all false
set_option maxRecDepth 100000
set_option maxHeartbeats 2000000
namespace L2.TX
open PySem PySem.Spec PyProof.Rows L2 L2.VL L2.PM
theorem bits_lt {n : Nat} {pre : List Nat} (h : ∀ x ∈ pre, x < n) : bitsOf pre < 2 ^ n := Nat.lt_pow_two_of_testBit _ fun i hi => by
  rw [bits_mem, decide_eq_false_iff_not]
  exact fun z => by have := h i z; omega
theorem frs_lt {n : Nat} {fss : List (List Nat)} {pre : List Nat} (h : FrS n fss pre) : bitsOf pre < 2 ^ n := bits_lt h.ok.2
/-- the fronts of a size -/
def Lv (n : Nat) (fss : List (List Nat)) (i : Nat) (l : List Int) : Prop := l.Nodup ∧ ∀ x, x ∈ l ↔ ∃ pre, FrS n fss pre ∧ pre.length = i ∧ x = ((bitsOf pre : Nat) : Int)
theorem nodup_lt {m : Nat} {l : List Int} (nd : l.Nodup) (h : ∀ x ∈ l, ∃ k : Nat, x = k ∧ k < m) : l.length ≤ m := by
  have := List.Nodup.length_le_of_subset nd (l₂ := (List.range m).map fun (k : Nat) => (k : Int)) fun x hx => by
    obtain ⟨k, rfl, hk⟩ := h x hx
    exact List.mem_map.mpr ⟨k, List.mem_range.mpr hk, rfl⟩
  simpa using this
theorem Lv.len {n i : Nat} {fss : List (List Nat)} {l : List Int} (h : Lv n fss i l) : l.length ≤ 2 ^ n := nodup_lt h.1 fun x hx => by
  obtain ⟨pre, h1, _, rfl⟩ := (h.2 x).mp hx
  exact ⟨_, rfl, frs_lt h1⟩
/-- the next level -/
theorem Lv.next {n i : Nat} {fss : List (List Nat)} {l ks : List Int} (h : Lv n fss i l) (nd : ks.Nodup) (hk : ∀ x, x ∈ ks ↔ ∃ F : Nat, (F : Int) ∈ l ∧ ∃ r ∈ plc n fss F, x = ((F ||| 2 ^ r : Nat) : Int)) : Lv n fss (i + 1) ks := ⟨nd, fun x => by
  rw [hk]
  constructor
  · rintro ⟨F, hF, r, hr, rfl⟩
    obtain ⟨pre, h1, h2, e⟩ := (h.2 _).mp hF
    have e : F = bitsOf pre := by omega
    subst e
    exact ⟨pre ++ [r], h1.snoc hr, by simp [h2], by rw [bitsOf_snoc]⟩
  · rintro ⟨pre, h1, h2, rfl⟩
    obtain ⟨as, a, rfl⟩ : ∃ as a, pre = as ++ [a] := by
      have : pre ≠ [] := fun z => by rw [z] at h2; cases h2
      exact ⟨_, _, (List.dropLast_concat_getLast this).symm⟩
    refine ⟨bitsOf as, (h.2 _).mpr ⟨as, h1.init, by simpa using h2, rfl⟩, a, frs_tail h1, by rw [bitsOf_snoc]⟩⟩
end L2.TX
end
section
set_option Elab.async false
set_option linter.all false
set_option maxRecDepth 100000
set_option maxHeartbeats 2000000
open PySem PySem.Spec PyProof.Rows L2 L2.VL L2.PM L2.TX
local macro_rules | `(tactic| walk_at "w") => `(tactic| (repeat (first | with_reducible refine wp_some ?_ | with_reducible refine wp_lt ?_ | with_reducible refine wp_bs ?_ | with_reducible refine wp_id ?_ | with_reducible refine wp_assoc ?_); try dsimp only))
namespace Law_strictranks_k41_steps_and_faults
def Prs (k : Nat) (t : List Int) : Prop := ∃ a b c : Int, t = [a, b, c] ∧ 0 ≤ a ∧ (0 ≤ b ∧ b < 1000000000000000000000000000000000000000000) ∧ (0 ≤ c ∧ c ≤ k)
theorem Prs.mono {k m : Nat} {t : List Int} (h : Prs k t) (hk : k ≤ m) : Prs m t := let ⟨a, b, c, e, h1, h2, h3⟩ := h; ⟨a, b, c, e, h1, h2, by omega⟩
theorem powN_eq {i j : Int} (h : 0 ≤ j ∧ j ≤ 1000 ∧ i.natAbs < 1606938044258990275541962092341162602522202993782792835301376) : powN i j = some (i ^ j.toNat) := if_pos (by unfold CPwB; simpa using h)
theorem sp_coin {k : Nat} {t : List Int} (ht : Prs k t) (hk : k ≤ 100000) {n : Int} (hn : 0 < n ∧ n < 1000000000000000000000000000000000000000000000000) : WP (g__law_coin t n) fun p => (0 ≤ p.1 ∧ p.1 < n) ∧ Prs (k + 1) p.2 := by
  obtain ⟨a, b, c, rfl, ha, hb, hc⟩ := ht
  unfold g__law_coin
  refine wp_eq (b := a) rfl (wp_ifd (fun h => ?_) fun h => ?_)
  · refine wp_eq (b := a) rfl (wp_eq (modI_eq hn.1) (wp_eq (b := a) rfl (wp_eq (divI_eq ⟨hn.1, by omega⟩) (wp_eq (b := [_, b, c]) rfl (wp_some ?_)))))
    exact ⟨⟨Int.emod_nonneg _ (by omega), Int.emod_lt_of_pos _ hn.1⟩, _, _, _, rfl, Int.ediv_nonneg ha (by omega), hb, by omega⟩
  · refine wp_eq (b := c) rfl (wp_eq (b := [a, b, c + 1]) rfl (wp_eq (b := b) rfl (wp_eq (b := c + 1) rfl (wp_eq (powN_eq (by omega)) (wp_eq (modI_eq (by decide)) ?_)))))
    generalize (b + 15485863 * (c + 1)) ^ (3 : Int).toNat = X
    have x1 := Int.emod_nonneg X (show ((10000000000000000000000000000000000000000000 : Int) + 29) ≠ 0 by decide)
    have x2 := Int.emod_lt_of_pos X (show (0 : Int) < (10000000000000000000000000000000000000000000 : Int) + 29 by decide)
    generalize X % (10000000000000000000000000000000000000000000 + 29) = Y at x1 x2 ⊢
    refine wp_eq (b := c + 1) rfl (wp_eq (powN_eq (by omega)) (wp_eq (modI_eq (by decide)) (wp_eq (modI_eq hn.1) (wp_some ?_))))
    exact ⟨⟨Int.emod_nonneg _ (by omega), Int.emod_lt_of_pos _ hn.1⟩, _, _, _, rfl, ha, hb, by omega⟩
theorem sp_purse {ns : List Int} (hn : ns.length ≤ 63) {k : Nat} (hk : k < 10) : WP (g__law_purse ns (k : Int)) (Prs 0) := by
  unfold g__law_purse
  refine WP.bind (R := fun _ => True) ?_ fun x _ => ?_
  · exact wp_ifd (fun h => wp_eq (ixL_nat 0 (by omega)) (wp_some trivial)) fun _ => wp_some trivial
  · refine wp_eq (modI_eq (by decide)) (wp_some ⟨_, _, _, rfl, ?_, ?_, by omega⟩)
    · split <;> omega
    · have h1 := Int.emod_nonneg (if x < 0 then -x else x) (show ((100000000000000000000000000000000000000000 : Int) + 37) ≠ 0 by decide)
      have h2 := Int.emod_lt_of_pos (if x < 0 then -x else x) (show (0 : Int) < (100000000000000000000000000000000000000000 : Int) + 37 by decide)
      omega
end Law_strictranks_k41_steps_and_faults
end
section
set_option Elab.async false
set_option linter.all false
set_option maxRecDepth 100000
set_option maxHeartbeats 2000000
open PySem PySem.Spec PyProof.Rows L2 L2.VL L2.PM L2.TX
local macro_rules | `(tactic| walk_at "w") => `(tactic| (repeat (first | with_reducible refine wp_some ?_ | with_reducible refine wp_lt ?_ | with_reducible refine wp_bs ?_ | with_reducible refine wp_id ?_ | with_reducible refine wp_assoc ?_); try dsimp only))
namespace Law_strictranks_k41_steps_and_faults
def rises (w : List Nat) : Bool := ((chs w).zip (chs (w.drop 1))).all fun p => ltT p.1 p.2
def setS (known w : List Nat) : Bool := (!decide (w = []) && rises w) && w.all fun c => decide (c ∈ known)
def setD (known : List Nat) (d : D) : Bool := match d with
  | .con (.str z) => setS known z.cps.toList
  | _ => false
abbrev kinds : List (Str × Int) := [("one", 1), ("pair", 2), ("change", 2), ("drop", 1), ("add", 1)]
def ruleB (letters : List Nat) (d : D) : Bool := match d with
  | .tup (.con (.str k) :: y :: ys) => (match kinds.lookup k with
    | some n => decide (((y :: ys).length : Int) = n) && (y :: ys).all (setD (if k.cps.toList = [112, 97, 105, 114] then 35 :: letters else letters))
    | none => false)
  | _ => false
abbrev lower : List Nat := [97, 98, 99, 100, 101, 102, 103, 104, 105, 106, 107, 108, 109, 110, 111, 112, 113, 114, 115, 116, 117, 118, 119, 120, 121, 122]
def gramB (d : D) : Bool := match d with
  | .tup [.con (.str z), .lst rs] => (setS lower z.cps.toList && decide (z.cps.toList.length ≤ 4)) && ((decide (1 ≤ (rs.length : Int)) && decide ((rs.length : Int) ≤ 6)) && rs.all (ruleB z.cps.toList))
  | _ => false
def ht (d : D) : Bool := (tyOf d).isSome
/-- of known types, not too long, so deep -/
def szd : Nat → D → Bool
  | n + 1, .lst ds => decide (ds.length ≤ 1000) && ds.all (szd n)
  | n + 1, .tup ds => decide (ds.length ≤ 1000) && ds.all (szd n)
  | _, .con (.str z) => decide (z.cps.toList.length ≤ 1000)
  | _, d => ht d
theorem szd_str {n : Nat} {z : Str} (h : szd n (.con (.str z)) = true) : z.cps.toList.length ≤ 1000 := by
  cases n <;> exact of_decide_eq_true h
theorem szd_ht {n : Nat} {d : D} (h : szd n d = true) : ht d = true := by
  cases d with
  | con v =>
    cases v with
    | str z => rfl
    | _ => cases n <;> exact h
  | lst ds => rfl
  | tup ds => rfl
  | _ => cases n <;> exact h
theorem szd_lst {n : Nat} {ds : List D} (h : szd (n + 1) (.lst ds) = true) : ds.length ≤ 1000 ∧ ∀ x ∈ ds, szd n x = true := by
  have h : (decide (ds.length ≤ 1000) && ds.all (szd n)) = true := h
  rw [Bool.and_eq_true, decide_eq_true_eq, List.all_eq_true] at h
  exact h
theorem szd_tup {n : Nat} {ds : List D} (h : szd (n + 1) (.tup ds) = true) : ds.length ≤ 1000 ∧ ∀ x ∈ ds, szd n x = true := by
  have h : (decide (ds.length ≤ 1000) && ds.all (szd n)) = true := h
  rw [Bool.and_eq_true, decide_eq_true_eq, List.all_eq_true] at h
  exact h
theorem all_chs {w : List Nat} {f : List Nat → Bool} {g : Nat → Bool} (h : ∀ c, f [c] = g c) : ((chs w).map f).all id = w.all g := by
  unfold chs
  rw [List.map_map, List.all_map]
  exact congrArg (fun k => List.all w k) (funext fun c => h c)
theorem str_rS (z : Str) : D.con (.str z) = rS z.cps.toList := by
  show _ = D.con (.str (sx z.cps.toList))
  rw [sx_cps]
theorem sp_asc {w : List Nat} (hw : w.length ≤ 1000) : g_is_ascending w = some (rises w) := by
  have e : cutT w (some 1) none = some (w.drop 1) := by
    unfold cutT
    rw [if_pos (by simp only [cap] at *; omega)]
    exact congrArg some (cutL_drop w 1)
  refine WP.eq ?_
  unfold g_is_ascending
  refine wp_eq e (wp_eq (lcC_map (fun p => ltT p.1 p.2) (by rw [List.length_zip, chs_len, chs_len]; simp only [cap]; omega) (fun _ _ => rfl) fun _ _ => rfl) (wp_some ?_))
  rw [List.all_map]
  rfl
theorem sp_isset {n : Nat} {d : D} {known : List Nat} (h : szd n d = true) : g_is_set d known = some (setD known d) := by
  refine WP.eq ?_
  unfold g_is_set
  have hh := szd_ht h
  cases d with
  | con v =>
    cases v with
    | str z =>
      have hl := szd_str h
      refine wp_eq (b := true) rfl (WP.bind (R := fun b => b = decide (z.cps.toList = [])) (wp_if (fun y => nomatch y) fun _ => wp_id ?_) fun b hb => ?_)
      · exact wp_of (a := decide (z.cps.toList = [])) (by rw [str_rS z]; exact g_eqS) rfl
      · subst hb
        show WP _ fun r => r = setS known z.cps.toList
        refine wp_ifd (fun y => wp_some ?_) fun y => wp_eq (b := z.cps.toList) rfl (wp_eq (sp_asc hl) (wp_id (wp_if (fun y2 => ?_) fun y2 => wp_some ?_)))
        · unfold setS
          rw [decide_eq_true y]; rfl
        · have ea : anyOf (.con (.str z)) = some ((chs z.cps.toList).map rS) := by
            have := any_S z.cps.toList
            rwa [← str_rS z] at this
          refine wp_eq ea ?_
          rw [lcC_comp]
          refine wp_eq (lcC_map (fun s => inTx s known) (by rw [chs_len]; simp only [cap]; omega) (fun _ _ => rfl) fun s _ => rfl) (wp_some ?_)
          rw [all_chs (g := fun c => decide (c ∈ known)) fun c => inTx_one c known]
          unfold setS
          rw [decide_eq_false y, y2]; rfl
        · unfold setS
          rw [y2, Bool.and_false, Bool.false_and]
    | _ => first | (cases hh; done) | exact wp_some rfl
  | lst ds => exact wp_some rfl
  | tup ds => exact wp_some rfl
  | dic ds => exact wp_some rfl
  | _ => cases hh
end Law_strictranks_k41_steps_and_faults
end
section
set_option Elab.async false
set_option linter.all false
set_option maxRecDepth 100000
set_option maxHeartbeats 2000000
open PySem PySem.Spec PyProof.Rows L2 L2.VL L2.PM L2.TX
local macro_rules | `(tactic| walk_at "w") => `(tactic| (repeat (first | with_reducible refine wp_some ?_ | with_reducible refine wp_lt ?_ | with_reducible refine wp_bs ?_ | with_reducible refine wp_id ?_ | with_reducible refine wp_assoc ?_); try dsimp only))
namespace Law_strictranks_k41_steps_and_faults
theorem isU_str {x : D} (h : ht x = true) : (∃ k, x = .con (.str k)) ∨ (isU .str x = some false ∧ ∀ k, x ≠ .con (.str k)) := by
  cases x with
  | con v =>
    cases v with
    | str k => exact .inl ⟨k, rfl⟩
    | _ => first | (cases h; done) | exact .inr ⟨rfl, fun _ e => nomatch e⟩
  | lst ds => exact .inr ⟨rfl, fun _ e => nomatch e⟩
  | tup ds => exact .inr ⟨rfl, fun _ e => nomatch e⟩
  | dic ds => exact .inr ⟨rfl, fun _ e => nomatch e⟩
  | _ => cases h
theorem ruleB_ns {letters : List Nat} {x y : D} {ys : List D} (h : ∀ k, x ≠ .con (.str k)) : ruleB letters (.tup (x :: y :: ys)) = false := by
  cases x with
  | con v =>
    cases v with
    | str k => exact absurd rfl (h k)
    | _ => rfl
  | _ => rfl
theorem ruleB_1 {letters : List Nat} {x : D} : ruleB letters (.tup [x]) = false := by
  cases x with
  | con v => cases v <;> rfl
  | _ => rfl
theorem ix0 {x : D} {xs : List D} : ixU (.tup (x :: xs)) 0 = some x := by
  show atI (x :: xs) 0 = some x
  have i1 : ixN (x :: xs).length 0 = some 0 := by
    unfold ixN
    rw [if_pos (by decide), if_pos (by simp)]
    rfl
  unfold atI
  rw [i1]
  rfl
theorem look_cps (k : Str) : lookTab kinds k.cps.toList = kinds.lookup k := by
  unfold lookTab
  rw [sx_cps]
theorem sp_isrule {d : D} {letters : List Nat} (h : szd 2 d = true) (hl : letters.length ≤ 100) : g_is_rule d letters = some (ruleB letters d) := by
  refine WP.eq ?_
  unfold g_is_rule
  have hh := szd_ht h
  have fin : ∀ b : Bool, b = true → ∀ o : Option Bool, WP (if b = true then some false else o) fun r => r = false := fun b hb o => by
    subst hb
    exact wp_if (fun _ => wp_some rfl) fun y => nomatch y
  cases d with
  | tup ds =>
    obtain ⟨hl2, hi⟩ := szd_tup h
    refine wp_eq (b := true) rfl ?_
    match ds, hl2, hi with
    | [], _, _ => exact WP.bind (R := fun b => b = true) (wp_if (fun y => nomatch y) fun _ => wp_eq (b := (0 : Int)) rfl (wp_id (wp_if (fun _ => wp_some rfl) fun y => by cases y))) fun b hb => fin b hb _
    | [x], _, _ =>
      rw [ruleB_1]
      exact WP.bind (R := fun b => b = true) (wp_if (fun y => nomatch y) fun _ => wp_eq (b := (1 : Int)) rfl (wp_id (wp_if (fun _ => wp_some rfl) fun y => by cases y))) fun b hb => fin b hb _
    | x :: y :: ys, hl2, hi =>
      have hx := hi x List.mem_cons_self
      have l2 : decide (((x :: y :: ys).length : Int) < 2) = false := decide_eq_false (by simp only [List.length_cons]; omega)
      rcases isU_str (szd_ht hx) with ⟨k, rfl⟩ | ⟨e1, ns⟩
      · have kl := szd_str hx
        refine WP.bind (R := fun b => b = !(kinds.lookup k).isSome) (wp_if (fun y => nomatch y) fun _ => wp_eq (b := ((D.con (.str k) :: y :: ys).length : Int)) rfl (wp_id ?_)) fun b hb => ?_
        · rw [l2]
          refine wp_if (fun y => nomatch y) fun _ => wp_eq ix0 (wp_eq (b := true) rfl (wp_id (wp_if (fun y => nomatch y) fun _ => wp_eq ix0 (wp_eq (b := k.cps.toList) rfl (wp_some ?_)))))
          rw [look_cps]
          cases (kinds.lookup k).isSome <;> rfl
        · subst hb
          cases e : kinds.lookup k with
          | none =>
            have : ruleB letters (.tup (D.con (.str k) :: y :: ys)) = false := by
              show (match kinds.lookup k with | some n => _ | none => false) = false
              rw [e]
            rw [this]
            exact wp_if (fun _ => wp_some rfl) fun y => nomatch y
          | some n =>
            have er : ruleB letters (.tup (D.con (.str k) :: y :: ys)) = (decide (((y :: ys).length : Int) = n) && (y :: ys).all (setD (if k.cps.toList = [112, 97, 105, 114] then 35 :: letters else letters))) := by
              show (match kinds.lookup k with | some n => _ | none => false) = _
              rw [e]
            rw [er]
            refine wp_if (fun y => nomatch y) fun _ => wp_eq (b := (D.con (.str k), y :: ys)) rfl (wp_eq (b := decide (k.cps.toList = [112, 97, 105, 114])) (by rw [str_rS k]; exact g_eqS) ?_)
            refine WP.bind (R := fun w => w = if k.cps.toList = [112, 97, 105, 114] then 35 :: letters else letters) ?_ fun w hw => ?_
            · refine wp_ifd (fun c => wp_id ?_) fun c => wp_some ?_
              · exact wp_of (catS_eq (by simp only [List.length_cons, List.length_nil, cap]; omega)) (by rw [if_pos c]; rfl)
              · rw [if_neg c]
            · subst hw
              refine wp_eq (b := k.cps.toList) rfl (wp_eq (b := n) (by rw [look_cps, e]) ?_)
              have hl3 : (y :: ys).length ≤ 1000 := by simp only [List.length_cons] at hl2 ⊢; omega
              refine wp_id (wp_ifd (fun c => wp_eq (lcC_map (setD (if k.cps.toList = [112, 97, 105, 114] then 35 :: letters else letters)) (by show (y :: ys).length ≤ _; simp only [cap]; omega) (fun _ _ => rfl) fun q hq => ?_) (wp_some ?_)) fun c => wp_some ?_)
              · rw [sp_isset (hi q (List.mem_cons_of_mem _ hq))]; rfl
              · rw [List.all_map, decide_eq_true c]; rfl
              · rw [decide_eq_false c]; rfl
      · rw [ruleB_ns ns]
        refine WP.bind (R := fun b => b = true) (wp_if (fun y => nomatch y) fun _ => wp_eq (b := ((x :: y :: ys).length : Int)) rfl (wp_id ?_)) fun b hb => fin b hb _
        rw [l2]
        exact wp_if (fun y => nomatch y) fun _ => wp_eq ix0 (wp_eq e1 (wp_id (wp_if (fun _ => wp_some rfl) fun y => by cases y)))
  | con v => cases v <;> first | (cases hh; done) | exact wp_some rfl
  | lst ds => exact wp_some rfl
  | dic ds => exact wp_some rfl
  | _ => cases hh
end Law_strictranks_k41_steps_and_faults
end
section
set_option Elab.async false
set_option linter.all false
set_option maxRecDepth 100000
set_option maxHeartbeats 2000000
open PySem PySem.Spec PyProof.Rows L2 L2.VL L2.PM L2.TX
local macro_rules | `(tactic| walk_at "w") => `(tactic| (repeat (first | with_reducible refine wp_some ?_ | with_reducible refine wp_lt ?_ | with_reducible refine wp_bs ?_ | with_reducible refine wp_id ?_ | with_reducible refine wp_assoc ?_); try dsimp only))
namespace Law_strictranks_k41_steps_and_faults
theorem gramB_len {ds : List D} (h : ds.length ≠ 2) : gramB (.tup ds) = false := by
  unfold gramB
  split
  · rename_i e
    cases e
    exact absurd rfl h
  · rfl
theorem gramB_l {l r : D} (h : setD lower l = false) : gramB (.tup [l, r]) = false := by
  unfold gramB
  split
  · rename_i z rs e
    cases e
    rw [show setS lower z.cps.toList = false from h]
    rfl
  · rfl
theorem gramB_eq {z : Str} {rs : List D} : gramB (.tup [.con (.str z), .lst rs]) = ((setS lower z.cps.toList && decide (z.cps.toList.length ≤ 4)) && ((decide (1 ≤ (rs.length : Int)) && decide ((rs.length : Int) ≤ 6)) && rs.all (ruleB z.cps.toList))) := rfl
theorem setD_str {known : List Nat} {l : D} (h : setD known l = true) : ∃ z, l = .con (.str z) := by
  cases l with
  | con v =>
    cases v with
    | str z => exact ⟨z, rfl⟩
    | _ => cases h
  | _ => cases h
theorem sp_isgram {d : D} (h : szd 4 d = true) : g_is_grammar d = some (gramB d) := by
  refine WP.eq ?_
  unfold g_is_grammar
  have hh := szd_ht h
  have fin : ∀ b : Bool, b = true → ∀ o : Option Bool, WP (if b = true then some false else o) fun r => r = false := fun b hb o => by
    subst hb
    exact wp_if (fun _ => wp_some rfl) fun y => nomatch y
  cases d with
  | tup ds =>
    obtain ⟨hl2, hi⟩ := szd_tup h
    refine wp_eq (b := true) rfl ?_
    by_cases c2 : ds.length = 2
    case neg =>
      rw [gramB_len c2]
      exact WP.bind (R := fun b => b = true) (wp_if (fun y => nomatch y) fun _ => wp_eq (b := (ds.length : Int)) rfl (wp_some (by rw [decide_eq_false (by omega)]; rfl))) fun b hb => fin b hb _
    obtain ⟨l, r, rfl⟩ : ∃ l r, ds = [l, r] := by
      match ds, c2 with
      | [l, r], _ => exact ⟨l, r, rfl⟩
    have hl := hi l (by simp)
    have hr := hi r (by simp)
    refine WP.bind (R := fun b => b = false) (wp_if (fun y => nomatch y) fun _ => wp_eq (b := (2 : Int)) rfl (wp_some rfl)) fun b hb => ?_
    subst hb
    refine wp_if (fun y => nomatch y) fun _ => wp_eq (b := (l, r)) rfl (wp_eq (sp_isset (n := 3) hl) ?_)
    cases e : setD lower l with
    | false =>
      rw [gramB_l e]
      exact WP.bind (R := fun b => b = true) (wp_if (fun _ => wp_some rfl) fun y => nomatch y) fun b hb => fin b hb _
    | true =>
      obtain ⟨z, rfl⟩ := setD_str e
      have zl := szd_str hl
      have zs : z.length = z.cps.toList.length := (Array.length_toList).symm
      refine WP.bind (R := fun b => b = decide ((z.cps.toList.length : Int) > 4)) (wp_if (fun y => nomatch y) fun _ => wp_eq (b := (z.cps.toList.length : Int)) ?_ (wp_some rfl)) fun b hb => ?_
      · show (if z.length ≤ cap then some (z.length : Int) else none) = _
        rw [zs, if_pos (by simp only [cap]; omega)]
      · subst hb
        refine wp_ifd (fun c => wp_some ?_) fun c => ?_
        · cases r with
          | lst rs =>
            rw [gramB_eq, decide_eq_false (show ¬ z.cps.toList.length ≤ 4 by omega), Bool.and_false, Bool.false_and]
          | _ => rfl
        · have z4 : z.cps.toList.length ≤ 4 := by omega
          cases r with
          | lst rs =>
            obtain ⟨rl, ri⟩ := szd_lst hr
            rw [gramB_eq, show setS lower z.cps.toList = true from e, decide_eq_true z4, Bool.true_and]
            refine wp_eq (b := true) rfl (WP.bind (R := fun b => b = !(decide (1 ≤ (rs.length : Int)) && decide ((rs.length : Int) ≤ 6))) (wp_if (fun y => nomatch y) fun _ => wp_eq (b := (rs.length : Int)) rfl (wp_some rfl)) fun b hb => ?_)
            subst hb
            cases e2 : (decide (1 ≤ (rs.length : Int)) && decide ((rs.length : Int) ≤ 6)) with
            | false => exact wp_if (fun _ => wp_some rfl) fun y => nomatch y
            | true =>
              refine wp_if (fun y => nomatch y) fun _ => wp_eq (b := rs) rfl (wp_eq (lcC_map (ruleB z.cps.toList) (by simp only [cap]; omega) (fun _ _ => rfl) fun q hq => ?_) (wp_some ?_))
              · refine WP.eq (wp_eq (b := z.cps.toList) rfl (wp_id (wp_of (sp_isrule (ri q hq) (by omega)) rfl)))
              · rw [List.all_map]; rfl
          | con v =>
            have hv := szd_ht hr
            cases v <;> first | (cases hv; done) | exact wp_eq (b := false) rfl (WP.bind (R := fun b => b = true) (wp_if (fun _ => wp_some rfl) fun y => nomatch y) fun b hb => fin b hb _)
          | tup rs => exact wp_eq (b := false) rfl (WP.bind (R := fun b => b = true) (wp_if (fun _ => wp_some rfl) fun y => nomatch y) fun b hb => fin b hb _)
          | dic rs => exact wp_eq (b := false) rfl (WP.bind (R := fun b => b = true) (wp_if (fun _ => wp_some rfl) fun y => nomatch y) fun b hb => fin b hb _)
          | _ => cases szd_ht hr
  | con v => cases v <;> first | (cases hh; done) | exact wp_some rfl
  | lst ds => exact wp_some rfl
  | dic ds => exact wp_some rfl
  | _ => cases hh
end Law_strictranks_k41_steps_and_faults
end
section
set_option Elab.async false
set_option linter.all false
set_option maxRecDepth 100000
set_option maxHeartbeats 2000000
open PySem PySem.Spec PyProof.Rows L2 L2.VL L2.PM L2.TX
local macro_rules | `(tactic| walk_at "w") => `(tactic| (repeat (first | with_reducible refine wp_some ?_ | with_reducible refine wp_lt ?_ | with_reducible refine wp_bs ?_ | with_reducible refine wp_id ?_ | with_reducible refine wp_assoc ?_); try dsimp only))
namespace Law_strictranks_k41_steps_and_faults
def okT (w : List Nat) : Bool := decide (w.length ≤ 8) && w.all fun c => decide (c < 200)
def ok : Nat → D → Bool
  | _, .con .non => true
  | _, .con (.bl _) => true
  | _, .con (.int i) => decide (0 ≤ i) && decide (i < 10)
  | _, .con (.str z) => okT z.cps.toList
  | n + 1, .lst ds => decide (ds.length ≤ 8) && ds.all (ok n)
  | n + 1, .tup ds => decide (ds.length ≤ 8) && ds.all (ok n)
  | _ + 1, .dic [] => true
  | n + 1, .dic [(.inr k, d)] => okT k.cps.toList && ok n d
  | _, _ => false
theorem ok_all {n : Nat} {ds : List D} (h : (decide (ds.length ≤ 8) && ds.all (ok n)) = true) : ds.length ≤ 8 ∧ ∀ d ∈ ds, ok n d = true := by
  rw [Bool.and_eq_true, decide_eq_true_eq, List.all_eq_true] at h
  exact h
theorem ok0_dic {ds : List (Key × D)} : ok 0 (.dic ds) = false := by
  cases ds with
  | nil => rfl
  | cons a r =>
    obtain ⟨k, d⟩ := a
    cases k <;> cases r <;> rfl
theorem ok_szd : ∀ {n : Nat} {d : D}, ok n d = true → szd n d = true
  | n, .con v, h => by
    have st : ∀ z : Str, okT z.cps.toList = true → decide (z.cps.toList.length ≤ 1000) = true := fun z hz => by
      unfold okT at hz
      rw [Bool.and_eq_true, decide_eq_true_eq] at hz
      exact decide_eq_true (by omega)
    cases v with
    | str z => cases n <;> exact st z h
    | non => cases n <;> rfl
    | bl b => cases n <;> rfl
    | int i => cases n <;> rfl
    | _ => cases n <;> cases h
  | n + 1, .lst ds, h => by
    obtain ⟨h1, h2⟩ := ok_all h
    show (decide (ds.length ≤ 1000) && ds.all (szd n)) = true
    rw [decide_eq_true (by omega), Bool.true_and, List.all_eq_true]
    exact fun d hd => ok_szd (h2 d hd)
  | n + 1, .tup ds, h => by
    obtain ⟨h1, h2⟩ := ok_all h
    show (decide (ds.length ≤ 1000) && ds.all (szd n)) = true
    rw [decide_eq_true (by omega), Bool.true_and, List.all_eq_true]
    exact fun d hd => ok_szd (h2 d hd)
  | n + 1, .dic kvs, _ => rfl
  | 0, .lst ds, h => by cases h
  | 0, .tup ds, h => by cases h
  | 0, .dic ds, h => by rw [ok0_dic] at h; cases h
  | 0, .dit _, h => by cases h
  | 0, .own _, h => by cases h
  | 0, .exv _, h => by cases h
  | 0, .fnv _ _ _, h => by cases h
  | 0, .dix _, h => by cases h
  | n + 1, .dit _, h => by cases h
  | n + 1, .own _, h => by cases h
  | n + 1, .exv _, h => by cases h
  | n + 1, .fnv _ _ _, h => by cases h
  | n + 1, .dix _, h => by cases h
def BB : Nat → Nat
  | 0 => 100
  | n + 1 => 8 * (BB n + 2) + 3 + 200
theorem BB_le : ∀ n, 100 ≤ BB n
  | 0 => Nat.le_refl _
  | n + 1 => by have := BB_le n; show 100 ≤ 8 * (BB n + 2) + 3 + 200; omega
theorem RB.dic1 {n B : Nat} {d : D} {k : Str} (h : RB n B d) : RB (n + 1) (B + (PyData.str k).shown.length + 10) (.dic [(.inr k, d)]) := by
  obtain ⟨p, e, s, l, q⟩ := h.ex
  refine ⟨.dict [(.str k, p)], ?_, ?_, ?_, ?_⟩
  · show (optAll (entPy (toPyN n)) [(Sum.inr k, d)]).map PyData.dict = _
    unfold optAll optAll entPy
    rw [e]
    rfl
  · simp only [PyData.showable, PyData.showableKv, s, Bool.and_self]
  · simp only [PyData.shown, PyData.shownKv]
    have := dictText_len_le [PyData.shown (PyData.str k) ++ ": " ++ p.shown]
    have e2 : (PyData.shown (PyData.str k) ++ ": " ++ p.shown : Str).length = (PyData.str k).shown.length + 2 + p.shown.length := by
      rw [strLen_append, strLen_append]; rfl
    simp only [PyData.shown, List.map_cons, List.map_nil, List.sum_cons, List.sum_nil, List.length_cons, List.length_nil] at this e2 ⊢
    omega
  · simp only [PyData.depth, PyData.depthKv]
    omega
theorem ok_rb {m : Nat} : ∀ {n : Nat} {d : D}, ok n d = true → RB (m + n) (BB n) d
  | n, .con v, h => by
    have b := BB_le n
    have st : ∀ z : Str, okT z.cps.toList = true → RB (m + n) (BB n) (.con (.str z)) := fun z hz => by
      unfold okT at hz
      rw [Bool.and_eq_true, decide_eq_true_eq, List.all_eq_true] at hz
      rw [str_rS z]
      exact (RB.str fun c hc => Nat.lt_trans (of_decide_eq_true (hz.2 c hc)) (by decide)).mono (by have := hz.1; omega)
    cases v with
    | str z => cases n <;> exact st z h
    | non => exact RB.non.mono (by omega)
    | bl b => exact RB.bool.mono (by omega)
    | int i =>
      have hi : 0 ≤ i ∧ i < 10 := by
        have h : (decide (0 ≤ i) && decide (i < 10)) = true := by cases n <;> exact h
        rw [Bool.and_eq_true, decide_eq_true_eq, decide_eq_true_eq] at h
        exact h
      exact ⟨.int i, (by cases (m + n) <;> rfl), by
        have hl : Sm i := sm_of (by omega)
        have hl : i.natAbs.log2 < 1920 := hl
        simpa [PyData.showable] using hl, by
        simp only [PyData.shown]
        exact Nat.le_trans (toString_length_le (k := 2) hi.1 (by decide) (by show i < 100; omega)) (by omega), by simp [PyData.depth]⟩
    | _ => cases n <;> cases h
  | n + 1, .lst ds, h => by
    obtain ⟨h1, h2⟩ := ok_all h
    exact (RB.lst (n := m + n) (B := BB n) fun d hd => ok_rb (h2 d hd)).mono (by
      have := Nat.mul_le_mul_right (BB n + 2) h1
      show _ ≤ 8 * (BB n + 2) + 3 + 200
      omega)
  | n + 1, .tup ds, h => by
    obtain ⟨h1, h2⟩ := ok_all h
    exact (RB.tup (n := m + n) (B := BB n) fun d hd => ok_rb (h2 d hd)).mono (by
      have := Nat.mul_le_mul_right (BB n + 2) h1
      show _ ≤ 8 * (BB n + 2) + 3 + 200
      omega)
  | n + 1, .dic [], _ => RB.dic0.mono (by have := BB_le (n + 1); omega)
  | n + 1, .dic [(.inr k, d)], h => by
    have h : (okT k.cps.toList && ok n d) = true := h
    rw [Bool.and_eq_true] at h
    have kl : (PyData.str k).shown.length ≤ 100 := by
      have hz := h.1
      unfold okT at hz
      rw [Bool.and_eq_true, decide_eq_true_eq, List.all_eq_true] at hz
      obtain ⟨p, e, _, l, _⟩ := (RB.str (n := 0) (cs := k.cps.toList) fun c hc => Nat.lt_trans (of_decide_eq_true (hz.2 c hc)) (by decide)).ex
      rw [← str_rS k] at e
      have e : some (PyData.str k) = some p := e
      cases e
      have := hz.1
      omega
    exact (RB.dic1 (n := m + n) (ok_rb h.2)).mono (by show _ ≤ 8 * (BB n + 2) + 3 + 200; omega)
  | n + 1, .dic [(.inl _, _)], h => by cases h
  | n + 1, .dic ((.inl _, _) :: _ :: _), h => by cases h
  | n + 1, .dic ((.inr _, _) :: _ :: _), h => by cases h
  | 0, .lst ds, h => by cases h
  | 0, .tup ds, h => by cases h
  | 0, .dic ds, h => by rw [ok0_dic] at h; cases h
  | 0, .dit _, h => by cases h
  | 0, .own _, h => by cases h
  | 0, .exv _, h => by cases h
  | 0, .fnv _ _ _, h => by cases h
  | 0, .dix _, h => by cases h
  | n + 1, .dit _, h => by cases h
  | n + 1, .own _, h => by cases h
  | n + 1, .exv _, h => by cases h
  | n + 1, .fnv _ _ _, h => by cases h
  | n + 1, .dix _, h => by cases h
end Law_strictranks_k41_steps_and_faults
end
section
set_option Elab.async false
set_option linter.all false
set_option maxRecDepth 100000
set_option maxHeartbeats 2000000
open PySem PySem.Spec PyProof.Rows L2 L2.VL L2.PM L2.TX
local macro_rules | `(tactic| walk_at "w") => `(tactic| (repeat (first | with_reducible refine wp_some ?_ | with_reducible refine wp_lt ?_ | with_reducible refine wp_bs ?_ | with_reducible refine wp_id ?_ | with_reducible refine wp_assoc ?_); try dsimp only))
namespace Law_strictranks_k41_steps_and_faults
abbrev A6 : List (List Nat) := [[97], [97, 98], [97, 98, 99], [97, 98, 99, 100], [120, 122], [98, 100, 102, 104]]
theorem a6 {w : List Nat} (h : w ∈ A6) : (1 ≤ w.length ∧ w.length ≤ 4) ∧ w.Pairwise (· < ·) ∧ ∀ c ∈ w, 97 ≤ c ∧ c ≤ 122 := by
  simp only [List.mem_cons, List.not_mem_nil, or_false] at h
  rcases h with rfl | rfl | rfl | rfl | rfl | rfl <;> decide
theorem ltT_one {a b : Nat} : ltT [a] [b] = decide (a < b) := by
  unfold ltT
  refine decide_eq_decide.mpr ⟨fun h => ?_, fun h => List.Lex.rel h⟩
  cases h with
  | rel h => exact h
  | cons h => cases h
theorem rises_of {w : List Nat} (h : w.Pairwise (· < ·)) : rises w = true := by
  unfold rises
  rw [List.all_eq_true]
  intro p hp
  obtain ⟨k, hk, rfl⟩ := List.mem_iff_getElem.mp hp
  rw [List.length_zip, chs_len, chs_len, List.length_drop] at hk
  rw [List.getElem_zip]
  unfold chs
  rw [List.getElem_map, List.getElem_map, List.getElem_drop, ltT_one, decide_eq_true_eq]
  exact List.pairwise_iff_getElem.mp h k (1 + k) (by omega) (by omega) (by omega)
theorem setS_of {w known : List Nat} (ne : w ≠ []) (pw : w.Pairwise (· < ·)) (sub : ∀ c ∈ w, c ∈ known) : setS known w = true := by
  unfold setS
  rw [decide_eq_false ne, rises_of pw, Bool.and_eq_true, List.all_eq_true]
  exact ⟨rfl, fun c hc => decide_eq_true (sub c hc)⟩
/-- a set of letters -/
structure Fine (l w : List Nat) : Prop where
  ne : w ≠ []
  sub : w.Sublist l
theorem Fine.pw {l w : List Nat} (hl : l ∈ A6) (h : Fine l w) : w.Pairwise (· < ·) := List.Pairwise.sublist h.sub (a6 hl).2.1
theorem Fine.set {l w : List Nat} (hl : l ∈ A6) (h : Fine l w) : setS l w = true := setS_of h.ne (h.pw hl) fun c hc => h.sub.subset hc
theorem Fine.setE {l w : List Nat} (hl : l ∈ A6) (h : Fine l w) : setS (35 :: l) w = true := setS_of h.ne (h.pw hl) fun c hc => List.mem_cons_of_mem _ (h.sub.subset hc)
theorem Fine.rg {l w : List Nat} (hl : l ∈ A6) (h : Fine l w) : ∀ c ∈ w, 97 ≤ c ∧ c ≤ 122 := fun c hc => (a6 hl).2.2 c (h.sub.subset hc)
theorem Fine.len {l w : List Nat} (hl : l ∈ A6) (h : Fine l w) : w.length ≤ 4 := Nat.le_trans h.sub.length_le (a6 hl).1.2
theorem Fine.okw {l w : List Nat} (hl : l ∈ A6) (h : Fine l w) : okT w = true := by
  have := h.len hl
  unfold okT
  rw [Bool.and_eq_true, decide_eq_true_eq, List.all_eq_true]
  exact ⟨by omega, fun c hc => decide_eq_true (by have := h.rg hl c hc; omega)⟩
theorem sp_lawset {k : Nat} {t : List Int} {l : List Nat} (ht : Prs k t) (hk : k ≤ 90000) (hl : l ∈ A6) : WP (g__law_set t l) fun p => Fine l p.1 ∧ Prs (k + 1) p.2 := by
  obtain ⟨⟨l1, l4⟩, _, _⟩ := a6 hl
  unfold g__law_set
  have p1 : 2 ^ 1 ≤ 2 ^ l.length := Nat.pow_le_pow_right (by decide) l1
  have p4 : 2 ^ l.length ≤ 2 ^ 4 := Nat.pow_le_pow_right (by decide) l4
  refine wp_eq (lenS_eq (by simp only [cap]; omega)) (wp_eq (shlI_nat (by omega)) ?_)
  refine (sp_coin ht (by omega) ⟨by omega, by omega⟩).bind fun c hc => ?_
  obtain ⟨c1, t2⟩ := c
  obtain ⟨⟨h0, h1⟩, ht2⟩ := hc
  dsimp only at h0 h1 ht2 ⊢
  obtain ⟨m, rfl⟩ : ∃ m : Nat, c1 = m := ⟨c1.toNat, by omega⟩
  refine wp_lt ?_
  have eb : (1 : Int) + m = ((m + 1 : Nat) : Int) := by omega
  rw [eb, enm_chs, lcC_comp]
  refine wp_eq (lcC_of (fun k : Nat => (m + 1).testBit k) (fun k => [l.getD k 46]) (Nat.le_trans (List.length_filter_le _ _) (by rw [List.length_range]; simp only [cap]; omega)) (fun k hk => ?_) (fun _ _ _ => rfl)) ?_
  · show ((shrI ((m + 1 : Nat) : Int) (k : Int)).bind fun x_3 => some (decide (Builtin.bitAnd x_3 1 = 1))) = some ((m + 1).testBit k)
    rw [shrI_nat]
    show some (decide (Builtin.bitAnd (((m + 1) >>> k : Nat) : Int) ((1 : Nat) : Int) = 1)) = _
    rw [bitAnd_nat, Nat.and_one_is_mod, Nat.shiftRight_eq_div_pow, Nat.testBit_eq_decide_div_mod_eq]
    congr 1
    exact decide_eq_decide.mpr (by omega)
  · have ej : ((List.range l.length).filter fun k => (m + 1).testBit k).map (fun k => [l.getD k 46]) = (((List.range l.length).filter fun k => (m + 1).testBit k).map fun k => l.getD k 46).map fun c => [c] := by rw [List.map_map]; rfl
    rw [ej]
    refine wp_eq (joinS_chars (by rw [List.length_map]; exact Nat.le_trans (List.length_filter_le _ _) (by rw [List.length_range]; simp only [cap]; omega))) (wp_some ⟨⟨fun z => ?_, ?_⟩, ht2⟩)
    · have z := List.map_eq_nil_iff.mp z
      have : m + 1 = 0 := Nat.eq_of_testBit_eq fun i => by
        rw [Nat.zero_testBit]
        by_cases c : i < l.length
        · have := List.filter_eq_nil_iff.mp z i (List.mem_range.mpr c)
          simpa using this
        · exact Nat.testBit_lt_two_pow (Nat.lt_of_lt_of_le (by omega) (Nat.pow_le_pow_right (by decide) (Nat.le_of_not_lt c)))
      omega
    · have el : (List.range l.length).map (fun k => l.getD k 46) = l := List.ext_getElem (by simp) fun i a b => by
        rw [List.getElem_map, List.getElem_range, List.getD_eq_getElem?_getD, List.getElem?_eq_getElem b]
        rfl
      conv => rhs; rw [← el]
      exact List.Sublist.map _ List.filter_sublist
end Law_strictranks_k41_steps_and_faults
end
section
set_option Elab.async false
set_option linter.all false
set_option maxRecDepth 100000
set_option maxHeartbeats 2000000
open PySem PySem.Spec PyProof.Rows L2 L2.VL L2.PM L2.TX
local macro_rules | `(tactic| walk_at "w") => `(tactic| (repeat (first | with_reducible refine wp_some ?_ | with_reducible refine wp_lt ?_ | with_reducible refine wp_bs ?_ | with_reducible refine wp_id ?_ | with_reducible refine wp_assoc ?_); try dsimp only))
namespace Law_strictranks_k41_steps_and_faults
theorem ok_s {n : Nat} {w : List Nat} (h : okT w = true) : ok n (rS w) = true := by cases n <;> exact h
theorem ok_tup {n : Nat} {ds : List D} (hl : ds.length ≤ 8) (h : ∀ d ∈ ds, ok n d = true) : ok (n + 1) (.tup ds) = true := by
  show (decide (ds.length ≤ 8) && ds.all (ok n)) = true
  rw [decide_eq_true hl, Bool.true_and, List.all_eq_true]
  exact h
theorem ok_lst {n : Nat} {ds : List D} (hl : ds.length ≤ 8) (h : ∀ d ∈ ds, ok n d = true) : ok (n + 1) (.lst ds) = true := by
  show (decide (ds.length ≤ 8) && ds.all (ok n)) = true
  rw [decide_eq_true hl, Bool.true_and, List.all_eq_true]
  exact h
theorem ok_2 {n : Nat} {x y : D} (hx : ok n x = true) (hy : ok n y = true) : ok (n + 1) (.tup [x, y]) = true := ok_tup (by show 2 ≤ 8; decide) fun d hd => by
  simp only [List.mem_cons, List.not_mem_nil, or_false] at hd
  rcases hd with rfl | rfl
  · exact hx
  · exact hy
theorem ok_3 {n : Nat} {x y z : D} (hx : ok n x = true) (hy : ok n y = true) (hz : ok n z = true) : ok (n + 1) (.tup [x, y, z]) = true := ok_tup (by show 3 ≤ 8; decide) fun d hd => by
  simp only [List.mem_cons, List.not_mem_nil, or_false] at hd
  rcases hd with rfl | rfl | rfl
  · exact hx
  · exact hy
  · exact hz
theorem ruleB_at {l w : List Nat} {y : D} {ys : List D} {n : Int} (hk : kinds.lookup (sx w) = some n) : ruleB l (.tup (rS w :: y :: ys)) = (decide (((y :: ys).length : Int) = n) && (y :: ys).all (setD (if w = [112, 97, 105, 114] then 35 :: l else l))) := by
  show (match kinds.lookup (sx w) with | some n => (decide (((y :: ys).length : Int) = n) && (y :: ys).all (setD (if w = [112, 97, 105, 114] then 35 :: l else l))) | none => false) = _
  rw [hk]
theorem k_pair : kinds.lookup (sx [112, 97, 105, 114]) = some 2 := by decide
theorem k_change : kinds.lookup (sx [99, 104, 97, 110, 103, 101]) = some 2 := by decide
/-- a set with an end -/
structure EndS (l w : List Nat) : Prop where
  set : setS (35 :: l) w = true
  okw : okT w = true
structure RuleOK (l : List Nat) (d : D) : Prop where
  rule : ruleB l d = true
  okd : ok 1 d = true
theorem end_set {l w : List Nat} (hl : l ∈ A6) (h : Fine l w) : EndS l (35 :: w) := by
  have := h.len hl
  refine ⟨setS_of (by simp) (List.pairwise_cons.mpr ⟨fun c hc => by have := h.rg hl c hc; omega, h.pw hl⟩) fun c hc => ?_, ?_⟩
  · rcases List.mem_cons.mp hc with rfl | z
    · exact List.mem_cons_self
    · exact List.mem_cons_of_mem _ (h.sub.subset z)
  · unfold okT
    rw [Bool.and_eq_true, decide_eq_true_eq, List.all_eq_true]
    refine ⟨by rw [List.length_cons]; omega, fun c hc => decide_eq_true ?_⟩
    rcases List.mem_cons.mp hc with rfl | z
    · decide
    · have := h.rg hl c z; omega
theorem sp_lawend {k : Nat} {t : List Int} {l : List Nat} (ht : Prs k t) (hk : k ≤ 80000) (hl : l ∈ A6) : WP (g__law_end_set t l) fun p => EndS l p.1 ∧ Prs (k + 4) p.2 := by
  unfold g__law_end_set
  refine (sp_coin ht (by omega) ⟨by omega, by omega⟩).bind fun c hc => (sp_lawset hc.2 (by omega) hl).bind fun a ha => wp_eq (catS_eq (by have := ha.1.len hl; simp only [List.length_cons, List.length_nil, cap]; omega)) ((sp_lawset ha.2 (by omega) hl).bind fun b hb => (sp_lawset hb.2 (by omega) hl).bind fun d hd => ?_)
  refine (ix_draw (P := fun w : List Nat => EndS l w) (by show 0 ≤ c.1 ∧ c.1 < 4; exact hc.1) fun w hw => ?_).bind fun w hw => wp_some ⟨hw, hd.2⟩
  simp only [List.mem_cons, List.not_mem_nil, or_false] at hw
  rcases hw with rfl | rfl | rfl | rfl
  · exact ⟨setS_of (by simp) (List.pairwise_singleton _ _) (by simp), by decide⟩
  · exact end_set hl ha.1
  · exact ⟨hb.1.setE hl, hb.1.okw hl⟩
  · exact ⟨hd.1.setE hl, hd.1.okw hl⟩
theorem rule_pair {l a b : List Nat} (ha : EndS l a) (hb : EndS l b) : RuleOK l (.tup [rS [112, 97, 105, 114], rS a, rS b]) := by
  refine ⟨?_, ok_3 (ok_s (by decide)) (ok_s ha.okw) (ok_s hb.okw)⟩
  rw [ruleB_at k_pair, if_pos rfl]
  show (true && (setS (35 :: l) a && (setS (35 :: l) b && true))) = true
  rw [ha.set, hb.set]; rfl
theorem rule_change {l a b : List Nat} (ha : setS l a = true ∧ okT a = true) (hb : setS l b = true ∧ okT b = true) : RuleOK l (.tup [rS [99, 104, 97, 110, 103, 101], rS a, rS b]) := by
  refine ⟨?_, ok_3 (ok_s (by decide)) (ok_s ha.2) (ok_s hb.2)⟩
  rw [ruleB_at k_change, if_neg (by decide)]
  show (true && (setS l a && (setS l b && true))) = true
  rw [ha.1, hb.1]; rfl
theorem rule_one {l a w : List Nat} (hw : w = [111, 110, 101] ∨ w = [100, 114, 111, 112] ∨ w = [97, 100, 100]) (ha : setS l a = true ∧ okT a = true) : RuleOK l (.tup [rS w, rS a]) := by
  have hk : kinds.lookup (sx w) = some 1 := by rcases hw with rfl | rfl | rfl <;> decide
  have np : w ≠ [112, 97, 105, 114] := by rcases hw with rfl | rfl | rfl <;> decide
  have ow : okT w = true := by rcases hw with rfl | rfl | rfl <;> decide
  refine ⟨?_, ok_2 (ok_s ow) (ok_s ha.2)⟩
  rw [ruleB_at hk, if_neg np]
  show (true && (setS l a && true)) = true
  rw [ha.1]; rfl
theorem sp_lawrule {k : Nat} {t : List Int} {l : List Nat} (ht : Prs k t) (hk : k ≤ 70000) (hl : l ∈ A6) : WP (g__law_rule t l) fun p => RuleOK l p.1 ∧ Prs (k + 9) p.2 := by
  unfold g__law_rule
  refine (sp_coin ht (by omega) ⟨by omega, by omega⟩).bind fun c hc => (ix_draw (P := fun w : List Nat => w ∈ [[111, 110, 101], [112, 97, 105, 114], [112, 97, 105, 114], [99, 104, 97, 110, 103, 101], [100, 114, 111, 112], [97, 100, 100]]) (by show 0 ≤ c.1 ∧ c.1 < 6; exact hc.1) fun w hw => hw).bind fun w hw => ?_
  refine wp_ifd (fun e => ?_) fun e1 => wp_ifd (fun e => ?_) fun e2 => ?_
  · subst e
    exact (sp_lawend hc.2 (by omega) hl).bind fun a ha => (sp_lawend ha.2 (by omega) hl).bind fun b hb => wp_some ⟨rule_pair ha.1 hb.1, hb.2.mono (by omega)⟩
  · subst e
    exact (sp_lawset hc.2 (by omega) hl).bind fun a ha => (sp_lawset ha.2 (by omega) hl).bind fun b hb => wp_some ⟨rule_change ⟨ha.1.set hl, ha.1.okw hl⟩ ⟨hb.1.set hl, hb.1.okw hl⟩, hb.2.mono (by omega)⟩
  · refine (sp_lawset hc.2 (by omega) hl).bind fun a ha => wp_some ⟨rule_one ?_ ⟨ha.1.set hl, ha.1.okw hl⟩, ha.2.mono (by omega)⟩
    simp only [List.mem_cons, List.not_mem_nil, or_false] at hw
    rcases hw with h | h | h | h | h | h
    · exact .inl h
    · exact absurd h e1
    · exact absurd h e1
    · exact absurd h e2
    · exact .inr (.inl h)
    · exact .inr (.inr h)
theorem whole_fine {l : List Nat} (hl : l ∈ A6) : Fine l l := ⟨fun z => by have := (a6 hl).1.1; rw [z] at this; exact absurd this (by decide), List.Sublist.refl _⟩
structure RulesOK (l : List Nat) (ds : List D) : Prop where
  len : 1 ≤ ds.length ∧ ds.length ≤ 6
  all : ∀ d ∈ ds, RuleOK l d
theorem sp_lawgrammar {t : List Int} {k : Nat} (ht : Prs k t) (hk : k ≤ 60000) : WP (g__law_grammar t A6 6) fun p => (p.1.1 ∈ A6 ∧ RulesOK p.1.1 p.1.2) ∧ Prs (k + 100) p.2 := by
  unfold g__law_grammar
  refine (sp_coin ht (by omega) (by decide)).bind fun c hc => (ix_draw (P := fun w : List Nat => w ∈ A6) hc.1 fun w hw => hw).bind fun l hl => (sp_coin hc.2 (by omega) ⟨by omega, by omega⟩).bind fun n hn => ?_
  obtain ⟨n1, t3⟩ := n
  obtain ⟨⟨n0, n6⟩, ht3⟩ := hn
  dsimp only at n0 n6 ht3 ⊢
  obtain ⟨m, rfl⟩ : ∃ m : Nat, n1 = m := ⟨n1.toNat, by omega⟩
  have em : (1 : Int) + m = ((m + 1 : Nat) : Int) := by omega
  rw [em]
  refine wp_eq (rng0 (by omega)) (WP.bind (R := fun a : List D × List Int => RulesOK l a.1 ∧ Prs (k + 60) a.2) ?_ fun a ha => ?_)
  · refine wp_lcX (by simp only [List.length_map, List.length_range, cap]; omega) (fun pre ys t => Prs (k + 2 + 9 * pre.length) t ∧ ys.length = pre.length ∧ pre.length ≤ 6 ∧ ∀ d ∈ ys, RuleOK l d) ⟨ht3, rfl, Nat.zero_le _, fun _ z => nomatch z⟩ (fun pre x post ys t e hI => wp_some ?_) fun ys t hI => ?_
    · obtain ⟨h1, h2, h3, h4⟩ := hI
      have pl : pre.length + 1 ≤ 6 := by
        have := congrArg List.length e
        simp at this; omega
      rw [if_pos rfl]
      refine (sp_lawrule h1 (by omega) hl).bind fun d hd => wp_some ⟨hd.2.mono (by rw [List.length_append, List.length_singleton]; omega), by rw [List.length_append, List.length_append, h2]; rfl, by rw [List.length_append, List.length_singleton]; omega, fun q hq => ?_⟩
      rcases List.mem_append.mp hq with z | z
      · exact h4 q z
      · rw [List.mem_singleton.mp z]; exact hd.1
    · obtain ⟨h1, h2, h3, h4⟩ := hI
      have e : ((List.range (m + 1)).map fun (k : Nat) => (k : Int)).length = m + 1 := by simp
      rw [e] at h1 h2 h3
      exact ⟨⟨⟨by show 1 ≤ ys.length; omega, by show ys.length ≤ 6; omega⟩, h4⟩, h1.mono (by omega)⟩
  · obtain ⟨hR, hp⟩ := ha
    refine (sp_coin hp (by omega) ⟨by omega, by omega⟩).bind fun x hx => WP.bind (R := fun s : List Int × List D => RulesOK l s.2 ∧ Prs (k + 99) s.1) (wp_ifd (fun _ => ?_) fun _ => wp_some ⟨hR, hx.2.mono (by omega)⟩) fun s hs => wp_some ⟨⟨hl, hs.1⟩, hs.2.mono (by omega)⟩
    have wf := whole_fine hl
    have ws : setS l l = true ∧ okT l = true := ⟨wf.set hl, wf.okw hl⟩
    refine wp_lt (wp_eq (catL_eq (by have := hR.len; simp only [List.length_cons, List.length_nil, cap]; omega)) (wp_lt (wp_eq (rng0 (n := 2) (by decide)) (WP.bind (R := fun s : List Int × List D => RulesOK l s.2 ∧ Prs (k + 70) s.1) ?_ fun s hs => wp_some ⟨hs.1, hs.2.mono (by omega)⟩))))
    refine wp_foN (fun j s => RulesOK l s.2 ∧ Prs (k + 61 + j) s.1) ⟨⟨?_, fun d hd => ?_⟩, hx.2⟩ (fun j s hj hs => ?_) fun s hs => ⟨hs.1, hs.2.mono (by omega)⟩
    · show 1 ≤ (cutL _ none (some 6)).length ∧ (cutL _ none (some 6)).length ≤ 6
      rw [show ∀ xs : List D, cutL xs none (some 6) = xs.take 6 from fun xs => cutL_take xs 6, List.length_take]
      simp only [List.length_append, List.length_cons, List.length_nil]
      omega
    · have hd := cutL_mem hd
      rcases List.mem_append.mp hd with z | z
      · simp only [List.mem_cons, List.not_mem_nil, or_false] at z
        rcases z with rfl | rfl | rfl
        · exact rule_change ws ws
        · exact rule_one (.inr (.inl rfl)) ws
        · exact rule_one (.inr (.inr rfl)) ws
      · exact hR.all d z
    · obtain ⟨⟨l1, l6⟩, hall⟩ := hs.1
      unfold g__law_grammar_b2
      refine (sp_coin hs.2 (by omega) ⟨by omega, by omega⟩).bind fun p hp => ?_
      obtain ⟨p1, t4⟩ := p
      obtain ⟨⟨p0, p1'⟩, ht4⟩ := hp
      dsimp only at p0 p1' ht4 ⊢
      obtain ⟨i, rfl⟩ : ∃ i : Nat, p1 = i := ⟨p1.toNat, by omega⟩
      rw [cutL_drop, cutL_take]
      refine wp_eq (catL_eq (by rw [List.length_drop, List.length_reverse, List.length_take]; simp only [cap]; omega)) (wp_some ⟨⟨?_, fun d hd => ?_⟩, ht4.mono (by omega)⟩)
      · show 1 ≤ (List.drop i s.2 ++ (List.take i s.2).reverse).length ∧ _ ≤ 6
        rw [List.length_append, List.length_drop, List.length_reverse, List.length_take]
        omega
      · rcases List.mem_append.mp hd with z | z
        · exact hall d (List.mem_of_mem_drop z)
        · exact hall d (List.mem_of_mem_take (List.mem_reverse.mp z))
end Law_strictranks_k41_steps_and_faults
end
section
set_option Elab.async false
set_option linter.all false
set_option maxRecDepth 100000
set_option maxHeartbeats 2000000
open PySem PySem.Spec PyProof.Rows L2 L2.VL L2.PM L2.TX
local macro_rules | `(tactic| walk_at "w") => `(tactic| (repeat (first | with_reducible refine wp_some ?_ | with_reducible refine wp_lt ?_ | with_reducible refine wp_bs ?_ | with_reducible refine wp_id ?_ | with_reducible refine wp_assoc ?_); try dsimp only))
namespace Law_strictranks_k41_steps_and_faults
theorem ok_up : ∀ {n : Nat} {d : D}, ok n d = true → ok (n + 1) d = true
  | n, .con v, h => by
    cases v <;> (cases n <;> exact h)
  | n + 1, .lst ds, h => by
    obtain ⟨h1, h2⟩ := ok_all h
    exact ok_lst h1 fun d hd => ok_up (h2 d hd)
  | n + 1, .tup ds, h => by
    obtain ⟨h1, h2⟩ := ok_all h
    exact ok_tup h1 fun d hd => ok_up (h2 d hd)
  | n + 1, .dic [], _ => rfl
  | n + 1, .dic [(.inr k, d)], h => by
    have h : (okT k.cps.toList && ok n d) = true := h
    rw [Bool.and_eq_true] at h
    show (okT k.cps.toList && ok (n + 1) d) = true
    rw [h.1, ok_up h.2]; rfl
  | n + 1, .dic [(.inl _, _)], h => by cases h
  | n + 1, .dic ((.inl _, _) :: _ :: _), h => by cases h
  | n + 1, .dic ((.inr _, _) :: _ :: _), h => by cases h
  | 0, .lst ds, h => by cases h
  | 0, .tup ds, h => by cases h
  | 0, .dic ds, h => by rw [ok0_dic] at h; cases h
  | 0, .dit _, h => by cases h
  | 0, .own _, h => by cases h
  | 0, .exv _, h => by cases h
  | 0, .fnv _ _ _, h => by cases h
  | 0, .dix _, h => by cases h
  | n + 1, .dit _, h => by cases h
  | n + 1, .own _, h => by cases h
  | n + 1, .exv _, h => by cases h
  | n + 1, .fnv _ _ _, h => by cases h
  | n + 1, .dix _, h => by cases h
end Law_strictranks_k41_steps_and_faults
end
section
set_option Elab.async false
set_option linter.all false
set_option maxRecDepth 100000
set_option maxHeartbeats 2000000
open PySem PySem.Spec PyProof.Rows L2 L2.VL L2.PM L2.TX
local macro_rules | `(tactic| walk_at "w") => `(tactic| (repeat (first | with_reducible refine wp_some ?_ | with_reducible refine wp_lt ?_ | with_reducible refine wp_bs ?_ | with_reducible refine wp_id ?_ | with_reducible refine wp_assoc ?_); try dsimp only))
namespace Law_strictranks_k41_steps_and_faults
theorem sr_two (n : Nat) : sliceRange 0 (n : Int) 2 = (List.range ((n + 1) / 2)).map fun k => 2 * k := by
  unfold sliceRange
  have e : (if (2 : Int) > 0 then (if (0 : Int) < (n : Int) then ((n : Int) - 0 + 2 - 1) / 2 else 0) else (if (0 : Int) > (n : Int) then ((0 : Int) - n - 2 - 1) / (-2) else 0)).toNat = (n + 1) / 2 := by
    rw [if_pos (by decide)]
    split
    · omega
    · omega
  dsimp only
  rw [e]
  refine List.map_congr_left fun k _ => ?_
  omega
theorem ev2_cons {α : Type} (a b : α) (r : List α) : ev2 (a :: b :: r) = a :: ev2 r := by
  unfold ev2
  rw [sr_two, sr_two]
  have e : ((a :: b :: r).length + 1) / 2 = (r.length + 1) / 2 + 1 := by
    simp only [List.length_cons]
    omega
  rw [e, List.range_succ_eq_map, List.map_cons, List.filterMap_cons]
  show a :: _ = _
  congr 1
  rw [List.map_map, List.filterMap_map, List.filterMap_map]
  refine congrArg (fun g => List.filterMap g _) (funext fun k => ?_)
  show (a :: b :: r)[2 * (k + 1)]? = r[2 * k]?
  rw [show 2 * (k + 1) = 2 * k + 1 + 1 by omega]
  rfl
theorem sr_odd (n : Nat) : sliceRange 1 ((n + 1 : Nat) : Int) 2 = (List.range ((n + 1) / 2)).map fun k => 2 * k + 1 := by
  unfold sliceRange
  have e : (if (2 : Int) > 0 then (if (1 : Int) < ((n + 1 : Nat) : Int) then (((n + 1 : Nat) : Int) - 1 + 2 - 1) / 2 else 0) else (if (1 : Int) > ((n + 1 : Nat) : Int) then (1 - ((n + 1 : Nat) : Int) - 2 - 1) / (-2) else 0)).toNat = (n + 1) / 2 := by
    rw [if_pos (by decide)]
    split
    · omega
    · omega
  dsimp only
  rw [e]
  refine List.map_congr_left fun k _ => ?_
  omega
theorem od2_ev2 {α : Type} (x : α) (r : List α) : od2 (x :: r) = ev2 r := by
  unfold od2 ev2
  have e1 : max 0 (min 1 ((x :: r).length : Int)) = 1 := by
    simp only [List.length_cons]
    omega
  rw [e1, show ((x :: r).length : Int) = ((r.length + 1 : Nat) : Int) from rfl, sr_odd, sr_two, List.filterMap_map, List.filterMap_map]
  rfl
theorem ev2_nil {α : Type} : ev2 ([] : List α) = [] := by
  unfold ev2
  rfl
theorem ev2_one {α : Type} (a : α) : ev2 [a] = [a] := by
  unfold ev2
  rw [sr_two]
  simp [List.range_succ]
theorem od2_nil {α : Type} : od2 ([] : List α) = [] := by
  unfold od2
  have h : sliceRange (max 0 (min 1 (0 : Int))) (0 : Int) 2 = [] := by decide +kernel
  show (sliceRange (max 0 (min 1 (0 : Int))) (0 : Int) 2).filterMap _ = []
  rw [h]
  rfl
theorem od2_cons {α : Type} (a b : α) (r : List α) : od2 (a :: b :: r) = b :: od2 r := by
  rw [od2_ev2]
  cases r with
  | nil => rw [ev2_one, od2_nil]
  | cons c r => rw [od2_ev2, ev2_cons]
theorem od2_one {α : Type} (a : α) : od2 [a] = [] := by
  rw [od2_ev2, ev2_nil]
end Law_strictranks_k41_steps_and_faults
end
section
set_option Elab.async false
set_option linter.all false
set_option maxRecDepth 100000
set_option maxHeartbeats 2000000
open PySem PySem.Spec PyProof.Rows L2 L2.VL L2.PM L2.TX
local macro_rules | `(tactic| walk_at "w") => `(tactic| (repeat (first | with_reducible refine wp_some ?_ | with_reducible refine wp_lt ?_ | with_reducible refine wp_bs ?_ | with_reducible refine wp_id ?_ | with_reducible refine wp_assoc ?_); try dsimp only))
namespace Law_strictranks_k41_steps_and_faults
def cnt (f : Nat → List Nat → List Nat → Nat) : Nat → List Nat → List (List Nat) → Nat
  | _, _, [] => 0
  | j, l, x :: xs => f j x l + cnt f (j + 1) (if x = [] then l else x) xs
def lastS : List Nat → List (List Nat) → List Nat
  | l, [] => l
  | l, x :: xs => lastS (if x = [] then l else x) xs
def sgl (x : List Nat) : Prop := x = [] ∨ ∃ c, x = [c]
def oneF (a : List Nat) (_ : Nat) (x _l : List Nat) : Nat := match x with
  | [c] => if c ∈ a then 1 else 0
  | _ => 0
def pairF (a b : List Nat) (_ : Nat) (x l : List Nat) : Nat := match l, x with
  | [c], [d] => if c ∈ a ∧ d ∈ b then 1 else 0
  | _, _ => 0
def addF (a : List Nat) (j : Nat) (x l : List Nat) : Nat := if j % 2 = 0 then oneF a j x l else 0
def dropF (w a : List Nat) (j : Nat) (x _l : List Nat) : Nat := if j % 2 = 1 ∧ x = [] ∧ w.getD (j / 2) 46 ∈ a then 1 else 0
def chgF (w a b : List Nat) (j : Nat) (x _l : List Nat) : Nat := if j % 2 = 1 ∧ x ≠ [] ∧ x ≠ [w.getD (j / 2) 46] ∧ w.getD (j / 2) 46 ∈ a ∧ (∀ c ∈ x, c ∈ b) then 1 else 0
def endF (a b : List Nat) (l : List Nat) : Nat := match l with
  | [c] => if c ∈ a ∧ 35 ∈ b then 1 else 0
  | _ => 0
def pc (a b : List Nat) : Nat → List Nat → Nat
  | _, [] => 0
  | c, d :: w => (if c ∈ a ∧ d ∈ b then 1 else 0) + pc a b d w
theorem flen_cons {α : Type} {p : α → Bool} {x : α} {xs : List α} : ((x :: xs).filter p).length = (if p x = true then 1 else 0) + (xs.filter p).length := by
  rw [List.filter_cons]
  split <;> simp <;> omega
theorem one_cnt {a : List Nat} : ∀ (xs : List (List Nat)) (j : Nat) (l : List Nat), (∀ x ∈ xs, sgl x) → ((chs xs.flatten).filter fun s => inTx s a).length = cnt (oneF a) j l xs
  | [], _, _, _ => rfl
  | x :: xs, j, l, h => by
    have ih := fun l => one_cnt (a := a) xs (j + 1) l fun y hy => h y (List.mem_cons_of_mem _ hy)
    rcases h x List.mem_cons_self with rfl | ⟨c, rfl⟩
    · show ((chs xs.flatten).filter fun s => inTx s a).length = 0 + cnt (oneF a) (j + 1) l xs
      rw [ih l, Nat.zero_add]
    · show (([c] :: chs xs.flatten).filter fun s => inTx s a).length = (if c ∈ a then 1 else 0) + cnt (oneF a) (j + 1) [c] xs
      rw [flen_cons, ih [c], inTx_one]
      simp only [decide_eq_true_eq]
theorem pair_zip {a b : List Nat} : ∀ (w : List Nat) (c : Nat), (((chs (c :: w)).zip (chs w)).filter fun p => inTx p.1 a && inTx p.2 b).length = pc a b c w
  | [], _ => rfl
  | d :: w, c => by
    show ((([c], [d]) :: (chs (d :: w)).zip (chs w)).filter fun p => inTx p.1 a && inTx p.2 b).length = _
    rw [flen_cons, pair_zip w d, inTx_one, inTx_one]
    show _ = (if c ∈ a ∧ d ∈ b then 1 else 0) + pc a b d w
    simp only [Bool.and_eq_true, decide_eq_true_eq]
theorem pair_cnt {a b : List Nat} : ∀ (xs : List (List Nat)) (j c : Nat), (∀ x ∈ xs, sgl x) → pc a b c (xs.flatten ++ [35]) = cnt (pairF a b) j [c] xs + endF a b (lastS [c] xs)
  | [], _, c, _ => by
    show (if c ∈ a ∧ 35 ∈ b then 1 else 0) + 0 = 0 + (if c ∈ a ∧ 35 ∈ b then 1 else 0)
    omega
  | x :: xs, j, c, h => by
    have ih := fun c => pair_cnt (a := a) (b := b) xs (j + 1) c fun y hy => h y (List.mem_cons_of_mem _ hy)
    rcases h x List.mem_cons_self with rfl | ⟨d, rfl⟩
    · show pc a b c (xs.flatten ++ [35]) = (0 + cnt (pairF a b) (j + 1) [c] xs) + endF a b (lastS [c] xs)
      rw [ih c, Nat.zero_add]
    · show (if c ∈ a ∧ d ∈ b then 1 else 0) + pc a b d (xs.flatten ++ [35]) = ((if c ∈ a ∧ d ∈ b then 1 else 0) + cnt (pairF a b) (j + 1) [d] xs) + endF a b (lastS [d] xs)
      rw [ih d, Nat.add_assoc]
theorem add_cnt {a : List Nat} : ∀ (xs : List (List Nat)) (j : Nat) (l : List Nat), j % 2 = 0 → (∀ x ∈ xs, sgl x) → ((ev2 xs).filter fun x => !decide (x = []) && inTx x a).length = cnt (addF a) j l xs
  | [], _, _, _, _ => by rw [ev2_nil]; rfl
  | [x], j, l, hj, h => by
    rw [ev2_one, flen_cons]
    show _ = addF a j x l + 0
    unfold addF
    rw [if_pos hj]
    rcases h x List.mem_cons_self with rfl | ⟨c, rfl⟩
    · rfl
    · show (if (true && inTx [c] a) = true then 1 else 0) + 0 = (if c ∈ a then 1 else 0) + 0
      rw [inTx_one, Bool.true_and]
      simp only [decide_eq_true_eq]
  | x :: y :: r, j, l, hj, h => by
    have ih := fun l => add_cnt (a := a) r (j + 2) l (by omega) fun z hz => h z (List.mem_cons_of_mem _ (List.mem_cons_of_mem _ hz))
    rw [ev2_cons, flen_cons]
    show _ = addF a j x l + (addF a (j + 1) y _ + cnt (addF a) (j + 2) _ r)
    rw [ih (if y = [] then (if x = [] then l else x) else y)]
    have e1 : addF a (j + 1) y (if x = [] then l else x) = 0 := by
      unfold addF
      rw [if_neg (by omega)]
    rw [e1, Nat.zero_add]
    congr 1
    unfold addF
    rw [if_pos hj]
    rcases h x List.mem_cons_self with rfl | ⟨c, rfl⟩
    · rfl
    · show (if (true && inTx [c] a) = true then 1 else 0) = (if c ∈ a then 1 else 0)
      rw [inTx_one, Bool.true_and]
      simp only [decide_eq_true_eq]
theorem drop_at {w : List Nat} {k n : Nat} (h : 2 * n + 3 = 2 * (w.length - k) + 1) : w.drop k = w.getD k 46 :: w.drop (k + 1) := by
  have hk : k < w.length := by omega
  rw [List.drop_eq_getElem_cons hk, List.getD_eq_getElem?_getD, List.getElem?_eq_getElem hk]
  rfl
theorem drop_cnt {w a : List Nat} : ∀ (xs : List (List Nat)) (k : Nat) (l : List Nat), xs.length = 2 * (w.length - k) + 1 → (∀ x ∈ xs, sgl x) → (((chs (w.drop k)).zip (od2 xs)).filter fun p => decide (p.2 = []) && inTx p.1 a).length = cnt (dropF w a) (2 * k) l xs
  | [], k, _, h, _ => by simp at h
  | [x], k, l, h, _ => by
    rw [od2_one, List.zip_nil_right]
    show 0 = dropF w a (2 * k) x l + 0
    unfold dropF
    rw [if_neg (by omega)]
  | x :: y :: r, k, l, h, hs => by
    simp only [List.length_cons] at h
    obtain ⟨n, hn⟩ : ∃ n, r.length = 2 * n + 1 := ⟨w.length - k - 1, by omega⟩
    have ih := fun l => drop_cnt (w := w) (a := a) r (k + 1) l (by omega) fun z hz => hs z (List.mem_cons_of_mem _ (List.mem_cons_of_mem _ hz))
    rw [drop_at (n := n) (by omega), od2_cons]
    show ((([w.getD k 46], y) :: (chs (w.drop (k + 1))).zip (od2 r)).filter fun p => decide (p.2 = []) && inTx p.1 a).length = dropF w a (2 * k) x l + (dropF w a (2 * k + 1) y _ + cnt (dropF w a) (2 * k + 1 + 1) _ r)
    rw [flen_cons, ih (if y = [] then (if x = [] then l else x) else y)]
    have e0 : dropF w a (2 * k) x l = 0 := by
      unfold dropF
      rw [if_neg (by omega)]
    have e2 : 2 * (k + 1) = 2 * k + 1 + 1 := by omega
    rw [e0, Nat.zero_add, e2]
    congr 1
    unfold dropF
    have e3 : (2 * k + 1) / 2 = k := by omega
    rw [e3, inTx_one]
    simp only [Bool.and_eq_true, decide_eq_true_eq]
    by_cases c : y = [] ∧ w.getD k 46 ∈ a
    · rw [if_pos c, if_pos ⟨by omega, c⟩]
    · rw [if_neg c, if_neg fun z => c z.2]
theorem chg_cnt {w a b : List Nat} : ∀ (xs : List (List Nat)) (k : Nat) (l : List Nat), xs.length = 2 * (w.length - k) + 1 → (∀ x ∈ xs, sgl x) → (((chs (w.drop k)).zip (od2 xs)).filter fun p => (!decide (p.2 = []) && !decide (p.2 = p.1)) && (inTx p.1 a && inTx p.2 b)).length = cnt (chgF w a b) (2 * k) l xs
  | [], k, _, h, _ => by simp at h
  | [x], k, l, h, _ => by
    rw [od2_one, List.zip_nil_right]
    show 0 = chgF w a b (2 * k) x l + 0
    unfold chgF
    rw [if_neg (by omega)]
  | x :: y :: r, k, l, h, hs => by
    simp only [List.length_cons] at h
    obtain ⟨n, hn⟩ : ∃ n, r.length = 2 * n + 1 := ⟨w.length - k - 1, by omega⟩
    have ih := fun l => chg_cnt (w := w) (a := a) (b := b) r (k + 1) l (by omega) fun z hz => hs z (List.mem_cons_of_mem _ (List.mem_cons_of_mem _ hz))
    rw [drop_at (n := n) (by omega), od2_cons]
    show ((([w.getD k 46], y) :: (chs (w.drop (k + 1))).zip (od2 r)).filter fun p => (!decide (p.2 = []) && !decide (p.2 = p.1)) && (inTx p.1 a && inTx p.2 b)).length = chgF w a b (2 * k) x l + (chgF w a b (2 * k + 1) y _ + cnt (chgF w a b) (2 * k + 1 + 1) _ r)
    rw [flen_cons, ih (if y = [] then (if x = [] then l else x) else y)]
    have e0 : chgF w a b (2 * k) x l = 0 := by
      unfold chgF
      rw [if_neg (by omega)]
    have e2 : 2 * (k + 1) = 2 * k + 1 + 1 := by omega
    rw [e0, Nat.zero_add, e2]
    congr 1
    unfold chgF
    have e3 : (2 * k + 1) / 2 = k := by omega
    rw [e3, inTx_one]
    rcases hs y (by simp) with rfl | ⟨d, rfl⟩
    · rw [if_neg (by simp), if_neg (by simp)]
    · rw [inTx_one]
      simp only [Bool.and_eq_true, decide_eq_true_eq, Bool.not_eq_true', decide_eq_false_iff_not]
      by_cases c : ([d] ≠ [w.getD k 46]) ∧ w.getD k 46 ∈ a ∧ d ∈ b
      · rw [if_pos ⟨⟨by simp, c.1⟩, c.2⟩, if_pos ⟨by omega, by simp, c.1, c.2.1, fun x hx => by rw [List.mem_singleton.mp hx]; exact c.2.2⟩]
      · rw [if_neg fun z => c ⟨z.1.2, z.2⟩, if_neg fun z => c ⟨z.2.2.1, z.2.2.2.1, z.2.2.2.2 d (by simp)⟩]
end Law_strictranks_k41_steps_and_faults
end
section
set_option Elab.async false
set_option linter.all false
set_option maxRecDepth 100000
set_option maxHeartbeats 2000000
open PySem PySem.Spec PyProof.Rows L2 L2.VL L2.PM L2.TX
local macro_rules | `(tactic| walk_at "w") => `(tactic| (repeat (first | with_reducible refine wp_some ?_ | with_reducible refine wp_lt ?_ | with_reducible refine wp_bs ?_ | with_reducible refine wp_id ?_ | with_reducible refine wp_assoc ?_); try dsimp only))
namespace Law_strictranks_k41_steps_and_faults
theorem kq {v w : List Nat} : eqD (rS v) (rS w) = some (decide (v = w)) := g_eqS
theorem ix1 {x y : D} {xs : List D} : ixU (.tup (x :: y :: xs)) 1 = some y := by
  show atI (x :: y :: xs) 1 = some y
  have i1 : ixN (x :: y :: xs).length 1 = some 1 := by
    unfold ixN
    rw [if_pos (by decide), if_pos (by simp; omega)]
    rfl
  unfold atI
  rw [i1]
  rfl
theorem ix2 {x y z : D} {xs : List D} : ixU (.tup (x :: y :: z :: xs)) 2 = some z := by
  show atI (x :: y :: z :: xs) 2 = some z
  have i1 : ixN (x :: y :: z :: xs).length 2 = some 2 := by
    unfold ixN
    rw [if_pos (by decide), if_pos (by simp; omega)]
    rfl
  unfold atI
  rw [i1]
  rfl
abbrev kOne : List Nat := [111, 110, 101]
abbrev kPair : List Nat := [112, 97, 105, 114]
abbrev kChg : List Nat := [99, 104, 97, 110, 103, 101]
abbrev kDrop : List Nat := [100, 114, 111, 112]
abbrev kAdd : List Nat := [97, 100, 100]
/-- the letter that an item stands for -/
def ltr (w : List Nat) (j : Nat) : Option (List Nat) := if j % 2 = 1 then some [w.getD (j / 2) 46] else none
theorem no_ {b : Bool} {o1 o2 : Option α} {Q : α → Prop} (h : b = false) (w : WP o2 Q) : WP (if b = true then o1 else o2) Q := wp_if (fun z => by rw [h] at z; cases z) fun _ => w
theorem yes_ {b : Bool} {o1 o2 : Option α} {Q : α → Prop} (h : b = true) (w : WP o1 Q) : WP (if b = true then o1 else o2) Q := wp_if (fun _ => w) fun z => by rw [h] at z; cases z
theorem ifn {p : Prop} [Decidable p] : ((if p then 1 else 0 : Nat) : Int) = if p then 1 else 0 := by split <;> rfl
theorem ifb {p : Prop} [Decidable p] : (if decide p = true then (1 : Int) else 0) = if p then 1 else 0 := by
  by_cases h : p
  · rw [if_pos h, if_pos (decide_eq_true h)]
  · rw [if_neg h, if_neg (by rw [decide_eq_false h]; decide)]
theorem in1 {x a : List Nat} {d : D} {k : Int} {r : D} (hx : sgl x) (h : ixU d k = some (rS a)) : ((if (!(decide (x = []))) = true then ((ixU d k).bind fun x_4 => (asS x_4).bind fun x_5 => some (inTx x x_5)) else some false).bind fun b_4 => some (if b_4 = true then (1 : Int) else 0)) = some (oneF a 0 x [] : Int) := by
  rcases hx with rfl | ⟨c, rfl⟩
  · rfl
  · rw [h]
    show some (if inTx [c] a = true then (1 : Int) else 0) = some ((if c ∈ a then 1 else 0 : Nat) : Int)
    rw [inTx_one, ifb, ifn]
theorem it_one {a x l : List Nat} {w : Option (List Nat)} {j : Nat} (hx : sgl x) : g_item_faults (.tup [rS kOne, rS a]) w x l = some (oneF a j x l : Int) := by
  refine WP.eq ?_
  unfold g_item_faults
  refine wp_eq ix0 (wp_eq kq (no_ (by decide) (wp_eq kq (yes_ (by decide) ?_))))
  exact wp_of (in1 (r := .con .non) hx ix1) rfl
theorem it_add {a x l w : List Nat} {j : Nat} (hx : sgl x) : g_item_faults (.tup [rS kAdd, rS a]) (ltr w j) x l = some (addF a j x l : Int) := by
  refine WP.eq ?_
  unfold g_item_faults
  refine wp_eq ix0 (wp_eq kq (no_ (by decide) (wp_eq kq (no_ (by decide) (wp_eq kq (yes_ (by decide) ?_))))))
  by_cases c : j % 2 = 1
  · have e1 : ltr w j = some [w.getD (j / 2) 46] := if_pos c
    have e2 : addF a j x l = 0 := if_neg (by omega)
    rw [e1, e2]
    exact wp_some rfl
  · have e1 : ltr w j = none := if_neg c
    have e2 : addF a j x l = oneF a j x l := if_pos (by omega)
    rw [e1, e2]
    rcases hx with rfl | ⟨d, rfl⟩
    · exact wp_some rfl
    · refine wp_eq (b := inTx [d] a) rfl (wp_some ?_)
      show (if inTx [d] a = true then (1 : Int) else 0) = ((if d ∈ a then 1 else 0 : Nat) : Int)
      rw [inTx_one, ifb, ifn]
theorem it_pair {a b x : List Nat} {w : Option (List Nat)} {j c : Nat} (hx : sgl x) : g_item_faults (.tup [rS kPair, rS a, rS b]) w x [c] = some (pairF a b j x [c] : Int) := by
  refine WP.eq ?_
  unfold g_item_faults
  refine wp_eq ix0 (wp_eq kq (yes_ (by decide) ?_))
  rcases hx with rfl | ⟨d, rfl⟩
  · exact wp_some rfl
  · refine WP.bind (R := fun r => r = decide (c ∈ a ∧ d ∈ b)) (yes_ rfl (wp_eq ix1 (wp_eq (b := a) rfl (wp_id (wp_if (fun z => ?_) fun z => ?_))))) fun r hr => ?_
    · refine wp_eq ix2 (wp_eq (b := b) rfl (wp_some ?_))
      rw [inTx_one] at z ⊢
      simp [of_decide_eq_true z]
    · rw [inTx_one] at z
      exact wp_some (by simp [of_decide_eq_false z])
    · subst hr
      refine wp_some ?_
      show _ = ((if c ∈ a ∧ d ∈ b then 1 else 0 : Nat) : Int)
      rw [ifb, ifn]
theorem it_drop {a x l w : List Nat} {j : Nat} : g_item_faults (.tup [rS kDrop, rS a]) (ltr w j) x l = some (dropF w a j x l : Int) := by
  refine WP.eq ?_
  unfold g_item_faults
  refine wp_eq ix0 (wp_eq kq (no_ (by decide) (wp_eq kq (no_ (by decide) (wp_eq kq (no_ (by decide) ?_))))))
  by_cases c : j % 2 = 1
  · have e1 : ltr w j = some [w.getD (j / 2) 46] := if_pos c
    rw [e1]
    unfold dropF
    refine WP.bind (R := fun r => r = !decide (w.getD (j / 2) 46 ∈ a)) (no_ rfl (wp_eq ix1 (wp_eq (b := [w.getD (j / 2) 46]) rfl (wp_eq (b := a) rfl (wp_some (by rw [inTx_one])))))) fun r hr => ?_
    subst hr
    by_cases m : w.getD (j / 2) 46 ∈ a
    · refine no_ (by rw [decide_eq_true m]; rfl) (wp_eq kq (yes_ (by decide) (wp_some ?_)))
      rw [ifb, ifn]
      by_cases e : x = []
      · rw [if_pos e, if_pos ⟨c, e, m⟩]
      · rw [if_neg e, if_neg fun z => e z.2.1]
    · refine yes_ (by rw [decide_eq_false m]; rfl) (wp_some ?_)
      rw [if_neg fun z => m z.2.2]; rfl
  · have e1 : ltr w j = none := if_neg c
    have e2 : dropF w a j x l = 0 := if_neg fun z => c z.1
    rw [e1, e2]
    exact wp_some rfl
theorem it_chg {a b x l w : List Nat} {j : Nat} (hx : sgl x) : g_item_faults (.tup [rS kChg, rS a, rS b]) (ltr w j) x l = some (chgF w a b j x l : Int) := by
  refine WP.eq ?_
  unfold g_item_faults
  refine wp_eq ix0 (wp_eq kq (no_ (by decide) (wp_eq kq (no_ (by decide) (wp_eq kq (no_ (by decide) ?_))))))
  by_cases c : j % 2 = 1
  · have e1 : ltr w j = some [w.getD (j / 2) 46] := if_pos c
    rw [e1]
    unfold chgF
    refine WP.bind (R := fun r => r = !decide (w.getD (j / 2) 46 ∈ a)) (no_ rfl (wp_eq ix1 (wp_eq (b := [w.getD (j / 2) 46]) rfl (wp_eq (b := a) rfl (wp_some (by rw [inTx_one])))))) fun r hr => ?_
    subst hr
    by_cases m : w.getD (j / 2) 46 ∈ a
    · refine no_ (by rw [decide_eq_true m]; rfl) (wp_eq kq (no_ (by decide) ?_))
      rcases hx with rfl | ⟨d, rfl⟩
      · refine wp_some (Eq.symm ?_)
        rw [if_neg fun z => z.2.1 rfl]; rfl
      · refine WP.bind (R := fun r => r = decide (([d] ≠ [w.getD (j / 2) 46]) ∧ d ∈ b)) (yes_ rfl (wp_id (wp_if (fun z => ?_) fun z => ?_))) fun r hr => ?_
        · refine wp_eq ix2 (wp_eq (b := b) rfl (wp_id (wp_some ?_)))
          rw [inTx_one]
          have z : [d] ≠ [w.getD (j / 2) 46] := fun e => by
            rw [e] at z
            simp at z
          by_cases q : d ∈ b
          · rw [decide_eq_true q, decide_eq_true ⟨z, q⟩]
          · rw [decide_eq_false q, decide_eq_false fun y => q y.2]
        · refine wp_some ?_
          have z : [d] = [w.getD (j / 2) 46] := by
            have : decide (some [d] = some [w.getD (j / 2) 46]) = true := by
              cases q : decide (some [d] = some [w.getD (j / 2) 46]) with
              | true => rfl
              | false => rw [q] at z; cases z
            exact Option.some.inj (of_decide_eq_true this)
          rw [decide_eq_false fun y => y.1 z]
        · subst hr
          refine wp_some ?_
          rw [ifb, ifn]
          by_cases q : ([d] ≠ [w.getD (j / 2) 46]) ∧ d ∈ b
          · rw [if_pos q, if_pos ⟨c, by simp, q.1, m, fun y hy => by rw [List.mem_singleton.mp hy]; exact q.2⟩]
          · rw [if_neg q, if_neg fun z => q ⟨z.2.2.1, z.2.2.2.2 d (by simp)⟩]
    · refine yes_ (by rw [decide_eq_false m]; rfl) (wp_some ?_)
      rw [if_neg fun z => m z.2.2.2.1]; rfl
  · have e1 : ltr w j = none := if_neg c
    have e2 : chgF w a b j x l = 0 := if_neg fun z => c z.1
    rw [e1, e2]
    exact wp_some rfl
theorem end_pair {a b : List Nat} {c : Nat} : g_end_faults (.tup [rS kPair, rS a, rS b]) [c] = some (endF a b [c] : Int) := by
  refine WP.eq ?_
  unfold g_end_faults
  refine wp_eq ix0 (wp_eq kq (WP.bind (R := fun r => r = decide (c ∈ a ∧ 35 ∈ b)) (yes_ (by decide) (wp_eq ix1 (wp_eq (b := a) rfl (wp_id (wp_if (fun z => ?_) fun z => ?_))))) fun r hr => ?_))
  · refine wp_eq ix2 (wp_eq (b := b) rfl (wp_some ?_))
    rw [inTx_one] at z ⊢
    simp [of_decide_eq_true z]
  · rw [inTx_one] at z
    exact wp_some (by simp [of_decide_eq_false z])
  · subst hr
    refine wp_some ?_
    show _ = ((if c ∈ a ∧ 35 ∈ b then 1 else 0 : Nat) : Int)
    rw [ifb, ifn]
theorem end_not {v l : List Nat} {ds : List D} (h : v ≠ kPair) : g_end_faults (.tup (rS v :: ds)) l = some 0 := by
  refine WP.eq ?_
  unfold g_end_faults
  exact wp_eq ix0 (wp_eq kq (WP.bind (R := fun r => r = false) (no_ (decide_eq_false h) (wp_some rfl)) fun r hr => by subst hr; exact wp_some rfl))
theorem sp_ltr {w : List Nat} {j : Nat} (hj : j ≤ 2 * w.length) (hw : w.length ≤ 1000) : g_letter_at w (j : Int) = some (ltr w j) := by
  refine WP.eq ?_
  unfold g_letter_at ltr
  refine wp_id (wp_ifd (fun c => ?_) fun c => wp_some ?_)
  · have e : (j : Int) / 2 = ((j / 2 : Nat) : Int) := by omega
    rw [e, if_pos (by omega)]
    exact wp_eq (ixS_nat (by omega) (by simp only [cap]; omega)) (wp_some rfl)
  · rw [if_neg (by omega)]
end Law_strictranks_k41_steps_and_faults
end
section
set_option Elab.async false
set_option linter.all false
set_option maxRecDepth 100000
set_option maxHeartbeats 2000000
open PySem PySem.Spec PyProof.Rows L2 L2.VL L2.PM L2.TX
local macro_rules | `(tactic| walk_at "w") => `(tactic| (repeat (first | with_reducible refine wp_some ?_ | with_reducible refine wp_lt ?_ | with_reducible refine wp_bs ?_ | with_reducible refine wp_id ?_ | with_reducible refine wp_assoc ?_); try dsimp only))
namespace Law_strictranks_k41_steps_and_faults
/-- a rule, its faults item by item, those at the end -/
inductive RK (w : List Nat) : D → (Nat → List Nat → List Nat → Nat) → (List Nat → Nat) → Prop
  | one (a : List Nat) : RK w (.tup [rS kOne, rS a]) (oneF a) fun _ => 0
  | add (a : List Nat) : RK w (.tup [rS kAdd, rS a]) (addF a) fun _ => 0
  | drop (a : List Nat) : RK w (.tup [rS kDrop, rS a]) (dropF w a) fun _ => 0
  | pair (a b : List Nat) : RK w (.tup [rS kPair, rS a, rS b]) (pairF a b) (endF a b)
  | chg (a b : List Nat) : RK w (.tup [rS kChg, rS a, rS b]) (chgF w a b) fun _ => 0
section
variable {w : List Nat} {d : D} {f : Nat → List Nat → List Nat → Nat} {e : List Nat → Nat}
theorem RK.item (h : RK w d f e) {j c : Nat} {x : List Nat} (hx : sgl x) : g_item_faults d (ltr w j) x [c] = some (f j x [c] : Int) := by
  cases h with
  | one a => exact it_one hx
  | add a => exact it_add hx
  | drop a => exact it_drop
  | pair a b => exact it_pair hx
  | chg a b => exact it_chg hx
theorem RK.fin (h : RK w d f e) {c : Nat} : g_end_faults d [c] = some (e [c] : Int) := by
  cases h with
  | one a => exact end_not (by decide)
  | add a => exact end_not (by decide)
  | drop a => exact end_not (by decide)
  | pair a b => exact end_pair
  | chg a b => exact end_not (by decide)
theorem lastS_one : ∀ (xs : List (List Nat)) (c : Nat), (∀ x ∈ xs, sgl x) → ∃ c', lastS [c] xs = [c']
  | [], c, _ => ⟨c, rfl⟩
  | x :: xs, c, h => by
    rcases h x List.mem_cons_self with rfl | ⟨d, rfl⟩
    · exact lastS_one xs c fun y hy => h y (List.mem_cons_of_mem _ hy)
    · exact lastS_one xs d fun y hy => h y (List.mem_cons_of_mem _ hy)
theorem RK.all (h : RK w d f e) (hw : w.length ≤ 1000) : ∀ (xs : List (List Nat)) (j c : Nat) (n : Int), j + xs.length ≤ 2 * w.length + 1 → (∀ x ∈ xs, sgl x) →
    fo (fun s p => g_rule_faults_b1 d w s p) (((xs.map rS).zipIdx j).map fun p => ((p.2 : Int), p.1)) (n, rS [c]) = some (n + cnt f j [c] xs, rS (lastS [c] xs))
  | [], _, c, n, _, _ => by show some (n, rS [c]) = some (n + ((0 : Nat) : Int), rS [c]); simp
  | x :: xs, j, c, n, hl, hs => by
    simp only [List.length_cons] at hl
    have hx := hs x List.mem_cons_self
    have hr := fun y hy => hs y (List.mem_cons_of_mem x hy)
    have step : g_rule_faults_b1 d w (n, rS [c]) ((j : Int), rS x) = some (n + (f j x [c] : Int), rS (if x = [] then [c] else x)) := by
      refine WP.eq ?_
      unfold g_rule_faults_b1
      refine wp_eq (sp_ltr (by omega) hw) (wp_eq (b := x) rfl (wp_eq (b := [c]) rfl (wp_eq (h.item hx) (wp_lt (wp_eq (b := decide (x = [])) kq (wp_lt (wp_some ?_)))))))
      by_cases z : x = []
      · rw [if_pos z, if_pos (decide_eq_true z)]
      · rw [if_neg z, if_neg (by rw [decide_eq_false z]; decide)]
    show (g_rule_faults_b1 d w (n, rS [c]) ((j : Int), rS x)).bind (fun s => fo (fun s p => g_rule_faults_b1 d w s p) (((xs.map rS).zipIdx (j + 1)).map fun p => ((p.2 : Int), p.1)) s) = _
    rw [step]
    show fo (fun s p => g_rule_faults_b1 d w s p) (((xs.map rS).zipIdx (j + 1)).map fun p => ((p.2 : Int), p.1)) (n + (f j x [c] : Int), rS (if x = [] then [c] else x)) = _
    rcases hx with rfl | ⟨c', rfl⟩
    · have := RK.all h hw xs (j + 1) c (n + (f j [] [c] : Int)) (by omega) hr
      rw [if_pos rfl, this]
      show _ = some (n + ((f j [] [c] + cnt f (j + 1) [c] xs : Nat) : Int), rS (lastS [c] xs))
      congr 2
      omega
    · have := RK.all h hw xs (j + 1) c' (n + (f j [c'] [c] : Int)) (by omega) hr
      rw [if_neg (by simp), this]
      show _ = some (n + ((f j [c'] [c] + cnt f (j + 1) [c'] xs : Nat) : Int), rS (lastS [c'] xs))
      congr 2
      omega
theorem sp_rule (h : RK w d f e) (hw : w.length ≤ 1000) {xs : List (List Nat)} (hl : xs.length = 2 * w.length + 1) (hs : ∀ x ∈ xs, sgl x) : g_rule_faults d w (xs.map rS) = some ((cnt f 0 [35] xs + e (lastS [35] xs) : Nat) : Int) := by
  refine WP.eq ?_
  unfold g_rule_faults
  refine wp_lt (wp_eq (b := (0 + (cnt f 0 [35] xs : Int), rS (lastS [35] xs))) (h.all hw xs 0 35 0 (by omega) hs) ?_)
  obtain ⟨c, ec⟩ := lastS_one xs 35 hs
  rw [ec]
  refine wp_eq (b := [c]) rfl (wp_eq h.fin (wp_some ?_))
  show 0 + (cnt f 0 [35] xs : Int) + (e [c] : Int) = _
  omega
theorem join_flat {xs : List (List Nat)} (hs : ∀ x ∈ xs, sgl x) (hl : xs.length ≤ 1000) : joinS [] xs = some xs.flatten ∧ xs.flatten.length ≤ xs.length := by
  have e : (xs.map List.length).sum ≤ xs.length := by
    clear hl
    induction xs with
    | nil => exact Nat.le_refl _
    | cons x xs ih =>
      have := ih fun y hy => hs y (List.mem_cons_of_mem _ hy)
      simp only [List.map_cons, List.sum_cons, List.length_cons]
      rcases hs x List.mem_cons_self with rfl | ⟨c, rfl⟩
      · simp only [List.length_nil]; omega
      · simp only [List.length_cons, List.length_nil]; omega
  refine ⟨?_, by rw [List.length_flatten]; exact e⟩
  rw [joinS_eq (by simp only [List.length_nil, Nat.mul_zero]; omega), joinT_nil]
theorem lenC {β : Type} {q : β → Option Bool} {xs : List β} {p : β → Bool} (hl : xs.length ≤ 10000) (h : ∀ x ∈ xs, q x = some (p x)) : (lcC q (fun _ => some (1 : Int)) xs).bind (fun x => some (x.length : Int)) = some ((xs.filter p).length : Int) := by
  rw [lcC_of p (fun _ => (1 : Int)) (by have := List.length_filter_le p xs; simp only [cap]; omega) h fun _ _ _ => rfl]
  show some (((xs.filter p).map fun _ => (1 : Int)).length : Int) = _
  rw [List.length_map]
theorem and_ {b c : Bool} {o : Option Bool} (h : o = some c) : ((if b = true then o else some false).bind fun x => some x) = some (b && c) := by
  subst h
  cases b <;> rfl
theorem sp_lfaults (h : RK w d f e) (hw : w.length ≤ 1000) {xs : List (List Nat)} (hl : xs.length = 2 * w.length + 1) (h1 : xs.length ≤ 1000) (hs : ∀ x ∈ xs, sgl x) : g__law_faults d w xs = some ((cnt f 0 [35] xs + e (lastS [35] xs) : Nat) : Int) := by
  obtain ⟨ej, lj⟩ := join_flat hs h1
  have zl : ((chs w).zip (od2 xs)).length ≤ 1000 := by rw [List.length_zip, chs_len]; omega
  refine WP.eq ?_
  unfold g__law_faults
  refine wp_eq ej ?_
  cases h with
  | one a =>
    refine wp_eq ix0 (wp_eq kq (yes_ (by decide) (wp_of (lenC (p := fun s => inTx s a) (by rw [chs_len]; omega) fun s _ => ?_) ?_)))
    · exact WP.eq (wp_eq ix1 (wp_eq (b := a) rfl (wp_some rfl)))
    · rw [one_cnt xs 0 [35] hs]; rfl
  | pair a b =>
    refine wp_eq ix0 (wp_eq kq (no_ (by decide) (wp_eq kq (yes_ (by decide) ?_))))
    have e1 : catS [35] xs.flatten = some (35 :: xs.flatten) := catS_eq (by simp only [List.length_cons, List.length_nil, cap]; omega)
    have e2 : catS (35 :: xs.flatten) [35] = some (35 :: (xs.flatten ++ [35])) := catS_eq (by simp only [List.length_cons, List.length_nil, cap]; omega)
    have e3 : cutT (35 :: (xs.flatten ++ [35])) (some 1) none = some (xs.flatten ++ [35]) := by
      unfold cutT
      rw [if_pos (by simp only [List.length_cons, List.length_append, List.length_nil, cap]; omega)]
      exact congrArg some (cutL_drop (35 :: (xs.flatten ++ [35])) 1)
    refine wp_eq e1 (wp_eq e2 (wp_eq e3 (wp_of (lenC (p := fun p => inTx p.1 a && inTx p.2 b) (by rw [List.length_zip, chs_len, chs_len, List.length_append, List.length_singleton]; omega) fun p _ => ?_) ?_)))
    · exact WP.eq (wp_eq ix1 (wp_eq (b := a) rfl (wp_of (and_ (c := inTx p.2 b) (WP.eq (wp_eq ix2 (wp_eq (b := b) rfl (wp_some rfl))))) rfl)))
    · rw [pair_zip, pair_cnt xs 0 35 hs]
  | add a =>
    refine wp_eq ix0 (wp_eq kq (no_ (by decide) (wp_eq kq (no_ (by decide) (wp_eq kq (yes_ (by decide) (wp_of (lenC (p := fun x => !decide (x = []) && inTx x a) (by have := ev2_len xs; omega) fun x _ => ?_) ?_)))))))
    · exact and_ (c := inTx x a) (WP.eq (wp_eq ix1 (wp_eq (b := a) rfl (wp_some rfl))))
    · rw [add_cnt xs 0 [35] rfl hs]; rfl
  | drop a =>
    refine wp_eq ix0 (wp_eq kq (no_ (by decide) (wp_eq kq (no_ (by decide) (wp_eq kq (no_ (by decide) (wp_lt (wp_eq kq (yes_ (by decide) (wp_of (lenC (p := fun p => decide (p.2 = []) && inTx p.1 a) (by omega) fun p _ => ?_) ?_))))))))))
    · exact and_ (c := inTx p.1 a) (WP.eq (wp_eq ix1 (wp_eq (b := a) rfl (wp_some rfl))))
    · have := drop_cnt (w := w) (a := a) xs 0 [35] (by omega) hs
      rw [List.drop_zero] at this
      rw [this]; rfl
  | chg a b =>
    refine wp_eq ix0 (wp_eq kq (no_ (by decide) (wp_eq kq (no_ (by decide) (wp_eq kq (no_ (by decide) (wp_lt (wp_eq kq (no_ (by decide) ?_)))))))))
    refine wp_eq (lcC_of (fun p : List Nat × List Nat => !decide (p.2 = []) && !decide (p.2 = p.1)) (fun p => (p.1, p.2)) (by have := List.length_filter_le (fun p : List Nat × List Nat => !decide (p.2 = []) && !decide (p.2 = p.1)) ((chs w).zip (od2 xs)); simp only [cap]; omega) (fun _ _ => rfl) fun _ _ _ => rfl) ?_
    have em : ((((chs w).zip (od2 xs)).filter fun p : List Nat × List Nat => !decide (p.2 = []) && !decide (p.2 = p.1)).map fun p => (p.1, p.2)) = (((chs w).zip (od2 xs)).filter fun p : List Nat × List Nat => !decide (p.2 = []) && !decide (p.2 = p.1)) := List.map_id _
    rw [em]
    refine wp_of (lenC (p := fun p => inTx p.1 a && inTx p.2 b) (by have := List.length_filter_le (fun p : List Nat × List Nat => !decide (p.2 = []) && !decide (p.2 = p.1)) ((chs w).zip (od2 xs)); omega) fun p _ => ?_) ?_
    · exact WP.eq (wp_eq ix1 (wp_eq (b := a) rfl (wp_of (and_ (c := inTx p.2 b) (WP.eq (wp_eq ix2 (wp_eq (b := b) rfl (wp_some rfl))))) rfl)))
    · have := chg_cnt (w := w) (a := a) (b := b) xs 0 [35] (by omega) hs
      rw [List.drop_zero] at this
      rw [List.filter_filter]
      have e : ((chs w).zip (od2 xs)).filter (fun p => (inTx p.1 a && inTx p.2 b) && (!decide (p.2 = []) && !decide (p.2 = p.1))) = ((chs w).zip (od2 xs)).filter fun p => (!decide (p.2 = []) && !decide (p.2 = p.1)) && (inTx p.1 a && inTx p.2 b) := List.filter_congr fun p _ => Bool.and_comm _ _
      rw [e, this]; rfl
end
end Law_strictranks_k41_steps_and_faults
end
section
set_option Elab.async false
set_option linter.all false
set_option maxRecDepth 100000
set_option maxHeartbeats 2000000
open PySem PySem.Spec PyProof.Rows L2 L2.VL L2.PM L2.TX
local macro_rules | `(tactic| walk_at "w") => `(tactic| (repeat (first | with_reducible refine wp_some ?_ | with_reducible refine wp_lt ?_ | with_reducible refine wp_bs ?_ | with_reducible refine wp_id ?_ | with_reducible refine wp_assoc ?_); try dsimp only))
namespace Law_strictranks_k41_steps_and_faults
theorem lenU_S {z : Str} (h : z.cps.toList.length ≤ 1000) : lenU (.con (.str z)) = some (z.cps.toList.length : Int) := by
  have e : z.length = z.cps.toList.length := by show z.cps.size = _; rw [Array.length_toList]
  show (if z.length ≤ cap then some (z.length : Int) else none) = _
  rw [e, if_pos (by simp only [cap]; omega)]
def itemB (l : List Nat) (d : D) : Bool := match d with
  | .con (.str z) => decide ((z.cps.toList.length : Int) ≤ 1) && inTx z.cps.toList l
  | _ => false
def fitB (l w : List Nat) (d : D) : Bool := match d with
  | .lst ds => decide ((ds.length : Int) = 2 * w.length + 1) && ds.all (itemB l)
  | _ => false
theorem itemB_ns {l : List Nat} {x : D} (h : ∀ k, x ≠ .con (.str k)) : itemB l x = false := by
  cases x with
  | con v =>
    cases v with
    | str k => exact absurd rfl (h k)
    | _ => rfl
  | _ => rfl
theorem sp_fits {l w : List Nat} {d : D} (h : szd 4 d = true) (hw : w.length ≤ 1000) : g_fits l w d = some (fitB l w d) := by
  refine WP.eq ?_
  unfold g_fits
  have hh := szd_ht h
  cases d with
  | lst ds =>
    obtain ⟨hl, hi⟩ := szd_lst h
    refine wp_eq (b := true) rfl (WP.bind (R := fun b => b = !decide ((ds.length : Int) = 2 * w.length + 1)) (no_ rfl (wp_eq (b := (ds.length : Int)) rfl (wp_eq (lenS_eq (by simp only [cap]; omega)) (wp_some rfl)))) fun b hb => ?_)
    subst hb
    have ef : fitB l w (.lst ds) = (decide ((ds.length : Int) = 2 * w.length + 1) && ds.all (itemB l)) := rfl
    rw [ef]
    by_cases c : (ds.length : Int) = 2 * w.length + 1
    · refine no_ (by rw [decide_eq_true c]; rfl) (wp_eq (b := ds) rfl (wp_eq (lcC_map (itemB l) (by simp only [cap]; omega) (fun _ _ => rfl) fun q hq => ?_) (wp_some ?_)))
      · refine WP.eq ?_
        rcases isU_str (szd_ht (hi q hq)) with ⟨k, rfl⟩ | ⟨e1, ns⟩
        · refine wp_eq (b := true) rfl (wp_id (yes_ rfl (wp_eq (lenU_S (szd_str (hi _ hq))) (wp_id (wp_ifd (fun z => ?_) fun z => wp_some ?_)))))
          · refine wp_eq (b := k.cps.toList) rfl (wp_some ?_)
            show _ = (decide _ && _)
            rw [decide_eq_true z, Bool.true_and]
          · show _ = (decide _ && _)
            rw [decide_eq_false z, Bool.false_and]
        · refine wp_eq e1 (wp_id (no_ rfl (wp_some ?_)))
          exact (itemB_ns ns).symm
      · rw [decide_eq_true c, List.all_map]; rfl
    · refine yes_ (by rw [decide_eq_false c]; rfl) (wp_some ?_)
      rw [decide_eq_false c]; rfl
  | con v =>
    refine WP.bind (R := fun b => b = false) ?_ fun b hb => ?_
    · cases v <;> first | (cases hh; done) | exact wp_some rfl
    · subst hb
      exact WP.bind (R := fun b => b = true) (yes_ rfl (wp_some rfl)) fun b hb => by subst hb; exact yes_ rfl (wp_some rfl)
  | tup ds => exact wp_eq (b := false) rfl (WP.bind (R := fun b => b = true) (yes_ rfl (wp_some rfl)) fun b hb => by subst hb; exact yes_ rfl (wp_some rfl))
  | dic ds => exact wp_eq (b := false) rfl (WP.bind (R := fun b => b = true) (yes_ rfl (wp_some rfl)) fun b hb => by subst hb; exact yes_ rfl (wp_some rfl))
  | _ => cases hh
/-- a grammar, with its rules' faults -/
structure GOK (l : List Nat) (rules : List D) : Prop where
  sz : szd 4 (.tup [rS l, .lst rules]) = true
  gram : gramB (.tup [rS l, .lst rules]) = true
  len : 1 ≤ rules.length ∧ rules.length ≤ 6
  form : ∀ d ∈ rules, ∀ w, ∃ f e, RK w d f e
/-- a word -/
structure WOK (l w : List Nat) : Prop where
  len : w.length ≤ 10
  sub : ∀ c ∈ w, c ∈ l
section
variable {l w : List Nat} {rules : List D}
theorem ev_gram : (rP rS (rL rU)) (l, rules) = .tup [rS l, .lst rules] := by
  show D.tup [rS l, .lst (rules.map rU)] = _
  rw [map_rU]
theorem GOK.need (g : GOK l rules) : g_need_grammar ((rP rS (rL rU)) (l, rules)) = some () := by
  refine WP.eq ?_
  unfold g_need_grammar
  rw [ev_gram]
  exact wp_eq (sp_isgram g.sz) (no_ (by rw [g.gram]; rfl) (wp_some rfl))
theorem WOK.need (h : WOK l w) : g_need_word (l, rules) w 10 = some () := by
  refine WP.eq ?_
  unfold g_need_word
  have hl := h.len
  refine WP.bind (R := fun b => b = false) (no_ rfl (wp_eq (lenS_eq (by simp only [cap]; omega)) (wp_id (wp_ifd (fun z => absurd z (by omega)) fun _ => ?_)))) fun b hb => by subst hb; exact no_ rfl (wp_some rfl)
  refine wp_eq (lcC_map (fun s => inTx s l) (by rw [chs_len]; simp only [cap]; omega) (fun _ _ => rfl) fun _ _ => rfl) (wp_some ?_)
  rw [all_chs (g := fun c => decide (c ∈ l)) fun c => inTx_one c l]
  have : (w.all fun c => decide (c ∈ l)) = true := List.all_eq_true.mpr fun c hc => decide_eq_true (h.sub c hc)
  rw [this]; rfl
theorem sp_issteps (g : GOK l rules) (h : WOK l w) {d : D} (hd : szd 4 d = true) : g_is_steps (l, rules) w d = some (fitB l w d) := by
  refine WP.eq ?_
  unfold g_is_steps
  have := h.len
  exact wp_eq g.need (wp_eq h.need (wp_eq (sp_fits hd (by omega)) (wp_some rfl)))
/-- steps -/
structure SOK (l w : List Nat) (xs : List (List Nat)) : Prop where
  len : xs.length = 2 * w.length + 1
  its : ∀ x ∈ xs, x = [] ∨ ∃ c ∈ l, x = [c]
theorem SOK.sg {xs : List (List Nat)} (s : SOK l w xs) : ∀ x ∈ xs, sgl x := fun x hx => (s.its x hx).elim .inl fun ⟨c, _, e⟩ => .inr ⟨c, e⟩
theorem in_nil (hl : l ∈ A6) : inTx [] l = true := by
  have all : (A6.all fun l => inTx [] l) = true := by decide +kernel
  exact List.all_eq_true.mp all l hl
theorem it_ok (hl : l ∈ A6) {x : List Nat} (h : x = [] ∨ ∃ c ∈ l, x = [c]) : itemB l (rS x) = true := by
  rcases h with rfl | ⟨c, hc, rfl⟩
  · show (true && inTx [] l) = true
    rw [in_nil hl]; rfl
  · show (true && inTx [c] l) = true
    rw [inTx_one, decide_eq_true hc]; rfl
theorem SOK.fit {xs : List (List Nat)} (hl : l ∈ A6) (s : SOK l w xs) : fitB l w (.lst (xs.map rS)) = true := by
  show (decide (((xs.map rS).length : Int) = 2 * w.length + 1) && (xs.map rS).all (itemB l)) = true
  rw [Bool.and_eq_true, decide_eq_true_eq, List.all_eq_true, List.length_map, s.len]
  refine ⟨by omega, fun d hd => ?_⟩
  obtain ⟨x, hx, rfl⟩ := List.mem_map.mp hd
  exact it_ok hl (s.its x hx)
theorem SOK.sz {xs : List (List Nat)} (h : WOK l w) (s : SOK l w xs) : szd 4 (.lst (xs.map rS)) = true := by
  have := s.len
  have := h.len
  show (decide ((xs.map rS).length ≤ 1000) && (xs.map rS).all (szd 3)) = true
  rw [Bool.and_eq_true, decide_eq_true_eq, List.all_eq_true, List.length_map]
  refine ⟨by omega, fun d hd => ?_⟩
  obtain ⟨x, hx, rfl⟩ := List.mem_map.mp hd
  rcases s.its x hx with rfl | ⟨c, _, rfl⟩ <;> rfl
theorem rLS {xs : List (List Nat)} : rL rS xs = .lst (xs.map rS) := rfl
theorem rLU {ds : List D} : rL rU ds = .lst ds := by
  show D.lst (ds.map rU) = _
  rw [map_rU]
theorem sp_needsteps (hl : l ∈ A6) (g : GOK l rules) (h : WOK l w) {xs : List (List Nat)} (s : SOK l w xs) : g_need_steps (l, rules) w (xs.map rS) = some () := by
  refine WP.eq ?_
  unfold g_need_steps
  rw [rLU]
  exact wp_eq (sp_issteps g h (s.sz h)) (no_ (by rw [s.fit hl]; rfl) (wp_some rfl))
theorem sp_output (hl : l ∈ A6) (g : GOK l rules) (h : WOK l w) {xs : List (List Nat)} (s : SOK l w xs) : g_output_of (l, rules) w xs = some xs.flatten := by
  refine WP.eq ?_
  unfold g_output_of
  have := s.len
  have := h.len
  exact wp_eq (sp_needsteps hl g h s) (wp_eq (join_flat s.sg (by omega)).1 (wp_some rfl))
/-- the faults under one rule -/
def totF (w : List Nat) (xs : List (List Nat)) (d : D) : Int := (g__law_faults d w xs).getD 0
theorem cnt_le {f : Nat → List Nat → List Nat → Nat} (hf : ∀ j x l, f j x l ≤ 1) : ∀ (xs : List (List Nat)) (j : Nat) (l : List Nat), cnt f j l xs ≤ xs.length
  | [], _, _ => Nat.le_refl _
  | x :: xs, j, l => by
    have := hf j x l
    have := cnt_le hf xs (j + 1) (if x = [] then l else x)
    show f j x l + cnt f (j + 1) (if x = [] then l else x) xs ≤ xs.length + 1
    omega
theorem RK.le {d : D} {f : Nat → List Nat → List Nat → Nat} {e : List Nat → Nat} (h : RK w d f e) : (∀ j x l, f j x l ≤ 1) ∧ ∀ l, e l ≤ 1 := by
  have o : ∀ a j x l, oneF a j x l ≤ 1 := fun a j x l => by unfold oneF; split <;> (try split) <;> omega
  cases h with
  | one a => exact ⟨o a, fun _ => Nat.zero_le _⟩
  | add a => exact ⟨fun j x l => by unfold addF; split; exact o a j x l; omega, fun _ => Nat.zero_le _⟩
  | drop a => exact ⟨fun j x l => by unfold dropF; split <;> omega, fun _ => Nat.zero_le _⟩
  | pair a b => exact ⟨fun j x l => by unfold pairF; split <;> (try split) <;> omega, fun l => by unfold endF; split <;> (try split) <;> omega⟩
  | chg a b => exact ⟨fun j x l => by unfold chgF; split <;> omega, fun _ => Nat.zero_le _⟩
theorem sp_tot (g : GOK l rules) (h : WOK l w) {xs : List (List Nat)} (s : SOK l w xs) {d : D} (hd : d ∈ rules) : g__law_faults d w xs = some (totF w xs d) ∧ g_rule_faults d w (xs.map rS) = some (totF w xs d) ∧ 0 ≤ totF w xs d ∧ totF w xs d ≤ 22 := by
  obtain ⟨f, e, k⟩ := g.form d hd w
  have := s.len
  have := h.len
  have e1 := sp_lfaults k (by omega) s.len (by omega) s.sg
  have e2 := sp_rule k (by omega) s.len s.sg
  have e3 : totF w xs d = ((cnt f 0 [35] xs + e (lastS [35] xs) : Nat) : Int) := by unfold totF; rw [e1]; rfl
  have := cnt_le k.le.1 xs 0 [35]
  have := k.le.2 (lastS [35] xs)
  exact ⟨by rw [e1, e3], by rw [e2, e3], by rw [e3]; omega, by rw [e3]; omega⟩
theorem sp_due (g : GOK l rules) (h : WOK l w) {xs : List (List Nat)} (s : SOK l w xs) : lcC (fun _ => some true) (fun d => (g__law_faults d w xs).bind fun x => some x) rules = some (rules.map (totF w xs)) :=
  lcC_map (totF w xs) (by have := g.len; simp only [cap]; omega) (fun _ _ => rfl) fun d hd => by rw [(sp_tot g h s hd).1]; rfl
theorem sp_faults (hl : l ∈ A6) (g : GOK l rules) (h : WOK l w) {xs : List (List Nat)} (s : SOK l w xs) : g_faults_of (l, rules) w (xs.map rS) = some (rules.map (totF w xs)) := by
  refine WP.eq ?_
  unfold g_faults_of
  refine wp_eq (sp_needsteps hl g h s) (wp_eq (lcC_map (totF w xs) (by have := g.len; show rules.length ≤ _; simp only [cap]; omega) (fun _ _ => rfl) fun d hd => ?_) (wp_some rfl))
  rw [(sp_tot g h s hd).2.1]; rfl
/-- the plain steps -/
def plainW (w : List Nat) : List (List Nat) := [] :: w.flatMap fun c => [[c], []]
theorem plain_range : ∀ w : List Nat, (List.range (2 * w.length + 1)).map (fun k => if k % 2 = 1 then [w.getD (k / 2) 46] else []) = plainW w
  | [] => rfl
  | c :: w => by
    have ih := plain_range w
    have e : 2 * (c :: w).length + 1 = (2 * w.length + 1) + 1 + 1 := by simp only [List.length_cons]; omega
    rw [e, List.range_succ_eq_map, List.range_succ_eq_map, List.map_cons, List.map_cons, List.map_cons, List.map_map, List.map_map]
    show [] :: [c] :: _ = [] :: [c] :: plainW w
    rw [← ih]
    congr 2
    refine List.map_congr_left fun k _ => ?_
    show (if (k + 1 + 1) % 2 = 1 then [(c :: w).getD ((k + 1 + 1) / 2) 46] else []) = _
    have e1 : (k + 1 + 1) / 2 = k / 2 + 1 := by omega
    have e2 : (k + 1 + 1) % 2 = k % 2 := by omega
    rw [e1, e2, List.getD_cons_succ]
theorem plain_ok (h : WOK l w) : SOK l w (plainW w) := by
  refine ⟨?_, fun x hx => ?_⟩
  · rw [← plain_range, List.length_map, List.length_range]
  · rcases List.mem_cons.mp hx with rfl | hx
    · exact .inl rfl
    · obtain ⟨c, hc, hx⟩ := List.mem_flatMap.mp hx
      simp only [List.mem_cons, List.not_mem_nil, or_false] at hx
      rcases hx with rfl | rfl
      · exact .inr ⟨c, h.sub c hc, rfl⟩
      · exact .inl rfl
theorem sp_kept (g : GOK l rules) (h : WOK l w) : g_kept_steps (l, rules) w = some ((plainW w).map rS) := by
  refine WP.eq ?_
  unfold g_kept_steps
  have hw := h.len
  have e2 : (2 : Int) * (w.length : Int) + 1 = ((2 * w.length + 1 : Nat) : Int) := by omega
  refine wp_eq g.need (wp_eq h.need (wp_eq (lenS_eq (by simp only [cap]; omega)) ?_))
  rw [e2]
  refine wp_eq (rng0 (by omega)) ?_
  rw [lcC_comp]
  refine wp_eq (lcC_map (fun k : Nat => some (if k % 2 = 1 then [w.getD (k / 2) 46] else [])) (by rw [List.length_range]; simp only [cap]; omega) (fun _ _ => rfl) fun k hk => ?_) (wp_some ?_)
  · have hk := List.mem_range.mp hk
    refine WP.eq (wp_id (wp_ifd (fun c => ?_) fun c => wp_some ?_))
    · refine wp_eq (sp_ltr (by omega) (by omega)) (wp_some ?_)
      unfold ltr
      rw [if_pos (by omega), if_pos (by omega)]
    · rw [if_neg (by omega)]
  · rw [← plain_range, List.map_map, List.map_map]
    rfl
end
end Law_strictranks_k41_steps_and_faults
end
section
set_option Elab.async false
set_option linter.all false
set_option maxRecDepth 100000
set_option maxHeartbeats 2000000
open PySem PySem.Spec PyProof.Rows L2 L2.VL L2.PM L2.TX
local macro_rules | `(tactic| walk_at "w") => `(tactic| (repeat (first | with_reducible refine wp_some ?_ | with_reducible refine wp_lt ?_ | with_reducible refine wp_bs ?_ | with_reducible refine wp_id ?_ | with_reducible refine wp_assoc ?_); try dsimp only))
namespace Law_strictranks_k41_steps_and_faults
theorem mem_getD {l : List Nat} {k : Nat} (h : k < l.length) : l.getD k 46 ∈ l := by
  rw [List.getD_eq_getElem?_getD, List.getElem?_eq_getElem h]
  exact List.getElem_mem h
theorem sp_lawword {k : Nat} {t : List Int} {l : List Nat} (ht : Prs k t) (hk : k ≤ 90000) (hl : l ∈ A6) : WP (g__law_word t l 10) fun p => WOK l p.1 ∧ Prs (k + 11) p.2 := by
  obtain ⟨⟨l1, l4⟩, _, _⟩ := a6 hl
  unfold g__law_word
  refine (sp_coin ht (by omega) ⟨by omega, by omega⟩).bind fun c hc => ?_
  obtain ⟨c1, t2⟩ := c
  obtain ⟨⟨h0, h1⟩, ht2⟩ := hc
  dsimp only at h0 h1 ht2 ⊢
  obtain ⟨m, rfl⟩ : ∃ m : Nat, c1 = m := ⟨c1.toNat, by omega⟩
  refine wp_eq (rng0 (by omega)) (WP.bind (R := fun a : List (List Nat) × List Int => (a.1.length = m ∧ ∀ x ∈ a.1, ∃ c ∈ l, x = [c]) ∧ Prs (k + 11) a.2) ?_ fun a ha => ?_)
  · refine wp_lcX (by simp only [List.length_map, List.length_range, cap]; omega) (fun pre ys t => Prs (k + 1 + pre.length) t ∧ ys.length = pre.length ∧ pre.length ≤ 10 ∧ ∀ x ∈ ys, ∃ c ∈ l, x = [c]) ⟨ht2, rfl, Nat.zero_le _, fun _ z => nomatch z⟩ (fun pre x post ys t e hI => wp_some ?_) fun ys t hI => ?_
    · obtain ⟨i1, i2, i3, i4⟩ := hI
      have pl : pre.length + 1 ≤ 10 := by
        have := congrArg List.length e
        simp at this; omega
      rw [if_pos rfl]
      refine wp_eq (lenS_eq (by simp only [cap]; omega)) ((sp_coin i1 (by omega) ⟨by omega, by omega⟩).bind fun d hd => ?_)
      obtain ⟨d1, t3⟩ := d
      obtain ⟨⟨g0, g1⟩, ht3⟩ := hd
      dsimp only at g0 g1 ht3 ⊢
      obtain ⟨q, rfl⟩ : ∃ q : Nat, d1 = q := ⟨d1.toNat, by omega⟩
      refine wp_eq (ixS_nat (by omega) (by simp only [cap]; omega)) (wp_some ⟨ht3.mono (by rw [List.length_append, List.length_singleton]; omega), by rw [List.length_append, List.length_append, i2]; rfl, by rw [List.length_append, List.length_singleton]; omega, fun y hy => ?_⟩)
      rcases List.mem_append.mp hy with z | z
      · exact i4 y z
      · exact ⟨_, mem_getD (by omega), List.mem_singleton.mp z⟩
    · obtain ⟨i1, i2, i3, i4⟩ := hI
      have e : ((List.range m).map fun (k : Nat) => (k : Int)).length = m := by simp
      rw [e] at i1 i2 i3
      exact ⟨⟨i2, i4⟩, i1.mono (by omega)⟩
  · obtain ⟨⟨a1, a2⟩, a3⟩ := ha
    have sg : ∀ x ∈ a.1, sgl x := fun x hx => let ⟨c, _, e⟩ := a2 x hx; .inr ⟨c, e⟩
    obtain ⟨e1, e2⟩ := join_flat sg (by omega)
    refine wp_eq e1 (wp_some ⟨⟨by show a.1.flatten.length ≤ 10; omega, fun c hc => ?_⟩, a3⟩)
    obtain ⟨x, hx, hc⟩ := List.mem_flatten.mp hc
    obtain ⟨d, hd, rfl⟩ := a2 x hx
    rw [List.mem_singleton.mp hc]
    exact hd
theorem sp_lawsteps {k : Nat} {t : List Int} {l w : List Nat} (ht : Prs k t) (hk : k ≤ 90000) (hl : l ∈ A6) (hw : WOK l w) : WP (g__law_steps t l w) fun p => SOK l w p.1 ∧ Prs (k + 50) p.2 := by
  obtain ⟨⟨l1, l4⟩, _, _⟩ := a6 hl
  have wl := hw.len
  unfold g__law_steps
  refine (sp_coin ht (by omega) ⟨by omega, by omega⟩).bind fun c hc => wp_eq (lenS_eq (by simp only [cap]; omega)) ?_
  have e2 : (2 : Int) * (w.length : Int) + 1 = ((2 * w.length + 1 : Nat) : Int) := by omega
  rw [e2]
  refine wp_eq (rng0 (by omega)) (WP.bind (R := fun s : List Int × List (List Nat) => SOK l w s.2 ∧ Prs (k + 50) s.1) ?_ fun s hs => wp_some hs)
  refine wp_foN (fun j s => Prs (k + 1 + 2 * j) s.1 ∧ s.2.length = j ∧ ∀ x ∈ s.2, x = [] ∨ ∃ c ∈ l, x = [c]) ⟨hc.2, rfl, fun _ z => nomatch z⟩ (fun j s hj hs => ?_) fun s hs => ⟨⟨hs.2.1, hs.2.2⟩, hs.1.mono (by omega)⟩
  obtain ⟨s1, s2, s3⟩ := hs
  unfold g__law_steps_b1
  have elt : listT l = some (chs l) := if_pos (by show (sx l).cps.size ≤ _; simp [sx]; omega)
  refine wp_eq elt (wp_eq (catL_eq (by rw [chs_len]; simp only [List.length_cons, List.length_nil, cap]; omega)) (wp_eq (lenS_eq (by simp only [cap]; omega)) ((sp_coin s1 (by omega) ⟨by omega, by omega⟩).bind fun d hd => ?_)))
  have hll : (([[], []] : List (List Nat)) ++ chs l).length = l.length + 2 := by rw [List.length_append, chs_len]; simp only [List.length_cons, List.length_nil]; omega
  refine (ix_draw (P := fun x : List Nat => x = [] ∨ ∃ c ∈ l, x = [c]) (by rw [hll]; exact ⟨hd.1.1, by have := hd.1.2; omega⟩) fun x hx => ?_).bind fun item hit => WP.bind (R := fun q : Bool × List Int => Prs (k + 1 + 2 * (j + 1)) q.2) (wp_ifd (fun _ => ?_) fun _ => wp_some (hd.2.mono (by omega))) fun q hq => WP.bind (R := fun x : List Nat => x = [] ∨ ∃ c ∈ l, x = [c]) ?_ fun x hx => ?_
  · rcases List.mem_append.mp hx with z | z
    · simp only [List.mem_cons, List.not_mem_nil, or_false] at z
      rcases z with rfl | rfl <;> exact .inl rfl
    · unfold chs at z
      obtain ⟨c, hc, rfl⟩ := List.mem_map.mp z
      exact .inr ⟨c, hc, rfl⟩
  · exact (sp_coin hd.2 (by omega) ⟨by omega, by omega⟩).bind fun y hy => wp_some (hy.2.mono (by omega))
  · refine wp_if (fun _ => wp_id (wp_ifd (fun c => ?_) fun c => wp_some (.inl rfl))) fun _ => wp_some hit
    have e : (j : Int) / 2 = ((j / 2 : Nat) : Int) := by omega
    rw [e]
    have hj2 : j / 2 < w.length := by omega
    exact wp_eq (ixS_nat hj2 (by simp only [cap]; omega)) (wp_some (.inr ⟨_, hw.sub _ (mem_getD hj2), rfl⟩))
  · refine wp_eq (appL_eq (by simp only [cap]; omega)) (wp_some ⟨hq, by rw [List.length_append, s2]; rfl, fun y hy => ?_⟩)
    rcases List.mem_append.mp hy with z | z
    · exact s3 y z
    · rw [List.mem_singleton.mp z]; exact hx
/-- no item of steps -/
structure NI (l : List Nat) (o : D) : Prop where
  no : itemB l o = false
  sz : szd 3 o = true
/-- no steps -/
structure NS (l w : List Nat) (o : D) : Prop where
  no : fitB l w o = false
  sz : szd 4 o = true
def chkA (l : List Nat) : Bool := (match upT [l.getD 0 46] with | some u => !itemB l (rS u) && decide (u.length ≤ 10) | none => false) &&
  ((!itemB l (rS [113]) && !itemB l (rS [35])) && (!itemB l (rS [32]) && (decide (l.length ≤ 1) || (decide (l.length ≤ 4) && (decide ((cutL l none (some 2)).length = 2) && decide ((cutL l (some (-2)) none).length = 2))))))
theorem chk_all {l : List Nat} (hl : l ∈ A6) : chkA l = true := by
  have all : (A6.all chkA) = true := by decide +kernel
  exact List.all_eq_true.mp all l hl
theorem ni_long {l x : List Nat} (h : 1 < x.length) (h2 : x.length ≤ 1000) : NI l (rS x) := by
  have e : (sx x).cps.toList = x := rfl
  refine ⟨?_, ?_⟩
  · show (decide ((x.length : Int) ≤ 1) && inTx x l) = false
    rw [decide_eq_false (by omega)]; rfl
  · show decide (x.length ≤ 1000) = true
    exact decide_eq_true h2
theorem ns_len {l w : List Nat} {ds : List D} (h : (ds.length : Int) ≠ 2 * w.length + 1) (hs : szd 4 (.lst ds) = true) : NS l w (.lst ds) := by
  refine ⟨?_, hs⟩
  show (decide ((ds.length : Int) = 2 * w.length + 1) && ds.all (itemB l)) = false
  rw [decide_eq_false h]; rfl
theorem ns_item {l w : List Nat} {ds : List D} {o : D} (ho : o ∈ ds) (h : itemB l o = false) (hs : szd 4 (.lst ds) = true) : NS l w (.lst ds) := by
  refine ⟨?_, hs⟩
  show (decide ((ds.length : Int) = 2 * w.length + 1) && ds.all (itemB l)) = false
  rw [Bool.and_eq_false_iff]
  right
  rw [Bool.eq_false_iff]
  intro z
  rw [List.all_eq_true] at z
  rw [z o ho] at h
  cases h
theorem szd_l {n : Nat} {ds : List D} (hl : ds.length ≤ 1000) (h : ∀ d ∈ ds, szd n d = true) : szd (n + 1) (.lst ds) = true := by
  show (decide (ds.length ≤ 1000) && ds.all (szd n)) = true
  rw [decide_eq_true hl, Bool.true_and, List.all_eq_true]
  exact h
theorem szd_s {n : Nat} {x : List Nat} (h : x.length ≤ 1000) : szd n (rS x) = true := by cases n <;> exact decide_eq_true h
theorem sp_nosteps {k : Nat} {t : List Int} {l w : List Nat} {xs : List (List Nat)} (ht : Prs k t) (hk : k ≤ 90000) (hl : l ∈ A6) (hw : WOK l w) (s : SOK l w xs) : WP (g__law_no_steps t l w xs) fun p => ((∀ o ∈ p.1, NS l w o) ∧ p.1.length ≤ 100) ∧ Prs (k + 1) p.2 := by
  obtain ⟨⟨l1, l4⟩, _, _⟩ := a6 hl
  have wl := hw.len
  have sl := s.len
  have xz : ∀ x ∈ xs, x.length ≤ 1 := fun x hx => by rcases s.its x hx with rfl | ⟨c, _, rfl⟩ <;> simp
  obtain ⟨jf, jl⟩ := join_flat s.sg (by omega)
  have ck := chk_all hl
  unfold chkA at ck
  rw [Bool.and_eq_true, Bool.and_eq_true, Bool.and_eq_true, Bool.and_eq_true] at ck
  obtain ⟨ck1, ⟨ck2, ck3⟩, ck4, ck5⟩ := ck
  obtain ⟨u, eu, hu⟩ : ∃ u, upT [l.getD 0 46] = some u ∧ (itemB l (rS u) = false ∧ u.length ≤ 10) := by
    cases e : upT [l.getD 0 46] with
    | none => rw [e] at ck1; cases ck1
    | some u =>
      rw [e] at ck1
      have ck1 : (!itemB l (rS u) && decide (u.length ≤ 10)) = true := ck1
      rw [Bool.and_eq_true, Bool.not_eq_true', decide_eq_true_eq] at ck1
      exact ⟨u, rfl, ck1⟩
  rw [Bool.not_eq_true'] at ck2 ck3 ck4
  unfold g__law_no_steps
  have i0 : ixS l 0 = some [l.getD 0 46] := ixS_nat (k := 0) (by omega) (by simp only [cap]; omega)
  have em : mulS [l.getD 0 46] 2 = some [l.getD 0 46, l.getD 0 46] := by
    have := mulS_eq (s := [l.getD 0 46]) (n := 2) (by omega) (by simp)
    exact this
  refine (sp_coin ht (by omega) ⟨by omega, by omega⟩).bind fun c hc => ?_
  obtain ⟨c1, t2⟩ := c
  obtain ⟨⟨c0, cl⟩, ht2⟩ := hc
  dsimp only at c0 cl ht2 ⊢
  obtain ⟨i, rfl⟩ : ∃ i : Nat, c1 = i := ⟨c1.toNat, by omega⟩
  refine wp_eq i0 (wp_eq em (wp_eq i0 (wp_eq eu (wp_eq i0 (wp_eq i0 (wp_eq (catS_eq (by simp only [List.length_cons, List.length_nil, cap]; omega)) (wp_lt (wp_eq (lenS_eq (by simp only [cap]; omega)) ?_))))))))
  have base : ∀ o ∈ ([rS [113], rS [l.getD 0 46, l.getD 0 46], rN (), TX.rI 0, rS [35], rS u, (rL rS) [[l.getD 0 46]], rS ([l.getD 0 46] ++ [113]), rB true, rS [32]] : List D), NI l o := fun o ho => by
    simp only [List.mem_cons, List.not_mem_nil, or_false] at ho
    rcases ho with rfl | rfl | rfl | rfl | rfl | rfl | rfl | rfl | rfl | rfl
    · exact ⟨ck2, rfl⟩
    · exact ni_long (by simp) (by simp)
    · exact ⟨rfl, rfl⟩
    · exact ⟨rfl, rfl⟩
    · exact ⟨ck3, rfl⟩
    · exact ⟨hu.1, szd_s (by omega)⟩
    · exact ⟨rfl, rfl⟩
    · exact ni_long (by simp) (by simp)
    · exact ⟨rfl, rfl⟩
    · exact ⟨ck4, rfl⟩
  refine WP.bind (R := fun os : List D => (∀ o ∈ os, NI l o) ∧ os.length ≤ 13) (wp_ifd (fun z => ?_) fun _ => wp_some ⟨base, by simp⟩) fun os hos => ?_
  · have q : decide (l.length ≤ 1) = false := decide_eq_false (by omega)
    rw [q, Bool.false_or, Bool.and_eq_true, Bool.and_eq_true, decide_eq_true_eq, decide_eq_true_eq, decide_eq_true_eq] at ck5
    have c1 : cutT l none (some 2) = some (cutL l none (some 2)) := if_pos (by simp only [cap]; omega)
    have c2 : cutT l (some (-2)) none = some (cutL l (some (-2)) none) := if_pos (by simp only [cap]; omega)
    refine wp_eq c1 (wp_eq c2 (wp_eq (catL_eq (by simp only [List.length_cons, List.length_nil, List.map_cons, List.map_nil, cap]; omega)) (wp_some ⟨fun o ho => ?_, by simp⟩)))
    rcases List.mem_append.mp ho with z | z
    · exact base o z
    · simp only [List.map_cons, List.map_nil, List.mem_cons, List.not_mem_nil, or_false] at z
      rcases z with rfl | rfl | rfl
      · exact ni_long (by omega) (by omega)
      · exact ni_long (by omega) (by omega)
      · exact ni_long (by omega) (by omega)
  · obtain ⟨o1, o2⟩ := hos
    have ei : (i : Int) + 1 = ((i + 1 : Nat) : Int) := by omega
    have mz : ∀ {ys : List (List Nat)}, (∀ y ∈ ys, y ∈ xs ∨ y = []) → ∀ d ∈ ys.map rS, szd 3 d = true := fun {ys} h d hd => by
      obtain ⟨x, hx, rfl⟩ := List.mem_map.mp hd
      rcases h x hx with z | rfl
      · exact szd_s (by have := xz x z; omega)
      · rfl
    refine wp_eq (lcC_map (fun o => (xs.take i).map rS ++ [o] ++ (xs.drop (i + 1)).map rS) (by simp only [cap]; omega) (fun _ _ => rfl) fun o _ => ?_) ?_
    · rw [ei, cutL_take, cutL_drop, catL_eq (by rw [List.length_map, List.length_take, List.length_singleton]; simp only [cap]; omega)]
      show (catL ((xs.take i).map rS ++ [o]) ((xs.drop (i + 1)).map rS)).bind _ = _
      rw [catL_eq (by rw [List.length_append, List.length_map, List.length_map, List.length_take, List.length_singleton, List.length_drop]; simp only [cap]; omega)]
      rfl
    · rw [cutL_take, cutL_drop, show cutL xs (some 1) none = xs.drop 1 from cutL_drop xs 1]
      refine wp_eq (catL_eq (by simp only [List.length_cons, List.length_nil, cap]; omega)) (wp_eq (catL_eq (by rw [List.length_take]; simp only [List.length_cons, List.length_nil, cap]; omega)) (wp_eq (catL_eq (by rw [List.length_append, List.length_take, List.length_drop]; simp only [List.length_cons, List.length_nil, cap]; omega)) (wp_eq jf ?_)))
      refine wp_eq (catL_eq (by rw [List.length_map, List.length_map]; simp only [List.length_cons, List.length_nil, cap]; omega)) (wp_eq (catL_eq (by rw [List.length_append, List.length_map, List.length_map]; simp only [List.length_cons, List.length_nil, cap]; omega)) (wp_some ⟨⟨fun o ho => ?_, by rw [List.length_append, List.length_append, List.length_map, List.length_map]; simp only [List.length_cons, List.length_nil]; omega⟩, ht2⟩))
      rcases List.mem_append.mp ho with ho | ho
      · rcases List.mem_append.mp ho with ho | ho
        · obtain ⟨ys, hy, rfl⟩ := List.mem_map.mp ho
          obtain ⟨q, hq, rfl⟩ := List.mem_map.mp hy
          rw [rLU]
          refine ns_item (o := q) (by simp) (o1 q hq).no (szd_l ?_ fun d hd => ?_)
          · rw [List.length_append, List.length_append, List.length_map, List.length_map, List.length_take, List.length_singleton, List.length_drop]; omega
          · rcases List.mem_append.mp hd with z | z
            · rcases List.mem_append.mp z with z | z
              · exact mz (fun y hy => .inl (List.mem_of_mem_take hy)) d z
              · rw [List.mem_singleton.mp z]; exact (o1 q hq).sz
            · exact mz (fun y hy => .inl (List.mem_of_mem_drop hy)) d z
        · simp only [List.mem_cons, List.not_mem_nil, or_false] at ho
          rcases ho with rfl | rfl | rfl | rfl | rfl | rfl
          · exact ns_len (by rw [List.length_map, List.length_drop]; omega) (szd_l (by rw [List.length_map, List.length_drop]; omega) (mz fun y hy => .inl (List.mem_of_mem_drop hy)))
          · exact ns_len (by rw [List.length_map, List.length_append, List.length_singleton]; omega) (szd_l (by rw [List.length_map, List.length_append, List.length_singleton]; omega) (mz fun y hy => by
              rcases List.mem_append.mp hy with z | z
              · exact .inl z
              · exact .inr (List.mem_singleton.mp z)))
          · exact ns_len (by rw [List.length_map, List.length_append, List.length_append, List.length_take, List.length_drop]; simp only [List.length_cons, List.length_nil]; omega) (szd_l (by rw [List.length_map, List.length_append, List.length_append, List.length_take, List.length_drop]; simp only [List.length_cons, List.length_nil]; omega) (mz fun y hy => by
              rcases List.mem_append.mp hy with z | z
              · rcases List.mem_append.mp z with z | z
                · exact .inl (List.mem_of_mem_take z)
                · simp only [List.mem_cons, List.not_mem_nil, or_false] at z
                  rcases z with rfl | rfl <;> exact .inr rfl
              · exact .inl (List.mem_of_mem_drop z)))
          · refine ⟨rfl, ?_⟩
            show (decide ((xs.map rS).length ≤ 1000) && (xs.map rS).all (szd 3)) = true
            rw [Bool.and_eq_true, decide_eq_true_eq, List.all_eq_true, List.length_map]
            exact ⟨by omega, mz fun y hy => .inl hy⟩
          · exact ⟨rfl, szd_s (by omega)⟩
          · exact ⟨rfl, rfl⟩
      · simp only [List.mem_cons, List.not_mem_nil, or_false] at ho
        rcases ho with rfl | rfl | rfl | rfl | rfl
        · exact ⟨rfl, rfl⟩
        · rw [rLU]; exact ns_len (by simp; omega) rfl
        · refine ns_item (o := (rL rS) xs) (by simp) rfl ?_
          refine szd_l (by simp) fun d hd => ?_
          simp only [List.map_cons, List.map_nil, List.mem_cons, List.not_mem_nil, or_false] at hd
          subst hd
          exact szd_l (by rw [List.length_map]; omega) fun d hd => by
            obtain ⟨x, hx, rfl⟩ := List.mem_map.mp hd
            exact szd_s (by have := xz x hx; omega)
        · exact ⟨rfl, rfl⟩
        · exact ⟨rfl, szd_s (by omega)⟩
end Law_strictranks_k41_steps_and_faults
end
section
set_option Elab.async false
set_option linter.all false
set_option maxRecDepth 100000
set_option maxHeartbeats 2000000
open PySem PySem.Spec PyProof.Rows L2 L2.VL L2.PM L2.TX
local macro_rules | `(tactic| walk_at "w") => `(tactic| (repeat (first | with_reducible refine wp_some ?_ | with_reducible refine wp_lt ?_ | with_reducible refine wp_bs ?_ | with_reducible refine wp_id ?_ | with_reducible refine wp_assoc ?_); try dsimp only))
namespace Law_strictranks_k41_steps_and_faults
theorem rule_form {l : List Nat} {d : D} (h : ruleB l d = true) (w : List Nat) : ∃ f e, RK w d f e := by
  unfold ruleB at h
  split at h
  · rename_i k y ys
    split at h
    · rename_i n e
      rw [Bool.and_eq_true, decide_eq_true_eq, List.all_eq_true] at h
      obtain ⟨h1, h2⟩ := h
      obtain ⟨z, rfl⟩ := setD_str (h2 y List.mem_cons_self)
      have hm := lookup_memI e
      have one : n = 1 → ys = [] := fun q => by
        rw [q] at h1
        cases ys with
        | nil => rfl
        | cons a b => simp only [List.length_cons] at h1; omega
      have two : n = 2 → ∃ z2, ys = [.con (.str z2)] := fun q => by
        rw [q] at h1
        match ys, h1, h2 with
        | [], h1, _ => simp at h1
        | [a], _, h2 =>
          obtain ⟨z2, rfl⟩ := setD_str (h2 a (by simp))
          exact ⟨z2, rfl⟩
        | a :: b :: c, h1, _ => simp only [List.length_cons] at h1; omega
      simp only [List.mem_cons, List.not_mem_nil, or_false, Prod.mk.injEq] at hm
      rcases hm with ⟨rfl, q⟩ | ⟨rfl, q⟩ | ⟨rfl, q⟩ | ⟨rfl, q⟩ | ⟨rfl, q⟩
      · rw [one q, str_rS z, show D.con (.str "one") = rS kOne from congrArg (fun s => D.con (.str s)) (show ("one" : Str) = sx kOne by decide)]
        exact ⟨_, _, .one _⟩
      · obtain ⟨z2, e2⟩ := two q
        rw [e2, str_rS z, str_rS z2, show D.con (.str "pair") = rS kPair from congrArg (fun s => D.con (.str s)) (show ("pair" : Str) = sx kPair by decide)]
        exact ⟨_, _, .pair _ _⟩
      · obtain ⟨z2, e2⟩ := two q
        rw [e2, str_rS z, str_rS z2, show D.con (.str "change") = rS kChg from congrArg (fun s => D.con (.str s)) (show ("change" : Str) = sx kChg by decide)]
        exact ⟨_, _, .chg _ _⟩
      · rw [one q, str_rS z, show D.con (.str "drop") = rS kDrop from congrArg (fun s => D.con (.str s)) (show ("drop" : Str) = sx kDrop by decide)]
        exact ⟨_, _, .drop _⟩
      · rw [one q, str_rS z, show D.con (.str "add") = rS kAdd from congrArg (fun s => D.con (.str s)) (show ("add" : Str) = sx kAdd by decide)]
        exact ⟨_, _, .add _⟩
    · cases h
  · cases h
theorem low6 {l : List Nat} (hl : l ∈ A6) : setS lower l = true := by
  have all : (A6.all fun l => setS lower l) = true := by decide +kernel
  exact List.all_eq_true.mp all l hl
theorem gram_ok {l : List Nat} {rules : List D} (hl : l ∈ A6) (hR : RulesOK l rules) : GOK l rules ∧ ok 4 (.tup [rS l, .lst rules]) = true := by
  have wl := (whole_fine hl).okw hl
  obtain ⟨⟨r1, r6⟩, ra⟩ := id hR
  have okv : ok 4 (.tup [rS l, .lst rules]) = true := ok_2 (ok_s wl) (ok_lst (by omega) fun d hd => ok_up (ra d hd).okd)
  have gv : gramB (.tup [rS l, .lst rules]) = true := by
    show ((setS lower l && decide (l.length ≤ 4)) && ((decide (1 ≤ (rules.length : Int)) && decide ((rules.length : Int) ≤ 6)) && rules.all (ruleB l))) = true
    have hall : rules.all (ruleB l) = true := List.all_eq_true.mpr fun d hd => (ra d hd).rule
    rw [low6 hl, decide_eq_true (a6 hl).1.2, decide_eq_true (by omega), decide_eq_true (by omega), hall]
    rfl
  exact ⟨⟨ok_szd okv, gv, ⟨r1, r6⟩, fun d hd w => rule_form (ra d hd).rule w⟩, okv⟩
theorem plain_fold (w : List Nat) : fo (fun s letter => g__law_right_b1 s letter) (chs w) [[]] = some (plainW w) ∨ 10 < w.length := by
  by_cases hw : w.length ≤ 10
  case neg => exact .inr (by omega)
  refine .inl (WP.eq ?_)
  have e0 : plainW w = [[]] ++ (chs w).flatMap fun x => [x, []] := by
    show [] :: _ = [] :: _
    congr 1
    show _ = (w.map fun c => [c]).flatMap fun x => [x, []]
    rw [List.flatMap_map]
  rw [e0]
  refine wp_fo (fun pre s => s = [[]] ++ pre.flatMap fun x => [x, []]) rfl (fun pre x post s e hs => ?_) fun s hs => hs
  subst hs
  have hl : pre.length ≤ 10 := by
    have := congrArg List.length e
    rw [chs_len] at this
    simp at this
    omega
  have fl : ∀ pre : List (List Nat), (pre.flatMap fun x => [x, ([] : List Nat)]).length = 2 * pre.length := fun pre => by
    induction pre with
    | nil => rfl
    | cons a r ih => rw [List.flatMap_cons, List.length_append, ih, List.length_cons]; simp only [List.length_cons, List.length_nil]; omega
  unfold g__law_right_b1
  refine wp_eq (catL_eq (by rw [List.length_append, fl]; simp only [List.length_cons, List.length_nil, cap]; omega)) (wp_some ?_)
  rw [List.flatMap_append, List.append_assoc]
  rfl
theorem rep_l {B : Nat} {ds : List D} (h : ∀ d ∈ ds, RB 59 B d) (hB : ds.length * (B + 2) + 3 ≤ 16777216) : ∃ t, repG (.lst ds) = some t := repG_lst (RB.lst h) hB
theorem rb_steps {n : Nat} {l w : List Nat} {xs : List (List Nat)} (hl : l ∈ A6) (s : SOK l w xs) : ∀ d ∈ xs.map rS, RB n 12 d := fun d hd => by
  obtain ⟨x, hx, rfl⟩ := List.mem_map.mp hd
  rcases s.its x hx with rfl | ⟨c, hc, rfl⟩
  · exact (RB.str (cs := []) fun _ z => nomatch z).mono (by decide)
  · exact (RB.str (cs := [c]) fun y hy => by
      rw [List.mem_singleton.mp hy]
      exact Nat.lt_of_le_of_lt ((a6 hl).2.2 c hc).2 (by decide)).mono (by simp)
theorem sp_turn {k : Nat} {t : List Int} {l w : List Nat} {rules : List D} {t1 t2 : List Int} (ht : Prs k t) (hk : k ≤ 80000) (hl : l ∈ A6) (g : GOK l rules) (okv : ok 4 (.tup [rS l, .lst rules]) = true) (hw : WOK l w) (j : Int) : WP (g__law_right_b2 ((l, rules), t1) (w, t2) t j) fun r => ∃ t', r = .nx t' ∧ Prs (k + 50) t' := by
  have r6 := g.len
  have w10 := hw.len
  unfold g__law_right_b2
  refine (sp_lawsteps ht (by omega) hl hw).bind fun p hp => ?_
  obtain ⟨xs, t3⟩ := p
  obtain ⟨s, ht3⟩ := hp
  dsimp only at s ht3 ⊢
  have sl := s.len
  have b4 : 8371 ≤ BB 4 := by decide
  obtain ⟨tb, eb⟩ : ∃ tb, repG (.lst [.tup [rS l, .lst rules], .lst (xs.map rS)]) = some tb := by
    refine rep_l (B := BB 4) (fun d hd => ?_) (show 2 * (BB 4 + 2) + 3 ≤ 16777216 by decide)
    simp only [List.mem_cons, List.not_mem_nil, or_false] at hd
    rcases hd with rfl | rfl
    · exact ok_rb (m := 55) okv
    · exact (RB.lst (n := 58) (rb_steps hl s)).mono (by rw [List.length_map]; omega)
  have e0 : (rL rU) [(rP rS (rL rU)) (l, rules), (rL rS) xs] = .lst [.tup [rS l, .lst rules], .lst (xs.map rS)] := by rw [rLU, ev_gram, rLS]
  obtain ⟨td, ed⟩ : ∃ td, repG (.lst ((rules.map (totF w xs)).map TX.rI)) = some td := by
    refine rep_l (B := 1921) (fun d hd => ?_) (by rw [List.length_map, List.length_map]; omega)
    obtain ⟨n, hn, rfl⟩ := List.mem_map.mp hd
    obtain ⟨q, hq, rfl⟩ := List.mem_map.mp hn
    have := sp_tot g hw s hq
    exact RB.int (sm_of (by omega))
  have jf := join_flat s.sg (by omega)
  rw [e0]
  refine wp_eq eb (wp_eq (sp_due g hw s) (wp_eq (sp_issteps g hw (s.sz hw)) ?_))
  rw [show fitB l w (.lst (xs.map rS)) = true from s.fit hl]
  refine WP.bind (R := fun b => b = false) (no_ (by decide) (wp_eq (sp_output hl g hw s) (wp_eq jf.1 (wp_some (by rw [decide_eq_true rfl]; rfl))))) fun b hb => ?_
  subst hb
  refine no_ rfl (wp_eq (sp_faults hl g hw s) (wp_lt ?_))
  rw [rLU]
  refine wp_eq ed (wp_eq (b := td) ed (no_ (by rw [decide_eq_true rfl]; rfl) (wp_eq (appL_eq (by rw [List.length_map, List.length_map]; simp only [cap]; omega)) (wp_eq (sp_faults hl g hw s) (wp_eq (b := td) ed (wp_eq (b := td) ed (WP.bind (R := fun b => b = false) (no_ (by rw [decide_eq_true rfl]; rfl) ?_) fun b hb => ?_)))))))
  · exact wp_eq eb (wp_some (by rw [decide_eq_true rfl]; rfl))
  · subst hb
    exact no_ rfl (wp_some ⟨_, rfl, ht3⟩)
theorem sp_right {k : Nat} {t : List Int} (ht : Prs k t) (hk : k ≤ 40000) : WP (g__law_right t A6) fun p => p.1 = true ∧ Prs (k + 500) p.2 := by
  unfold g__law_right
  refine (sp_lawgrammar ht (by omega)).bind fun p hp => ?_
  obtain ⟨⟨l, rules⟩, t2⟩ := p
  obtain ⟨⟨hl, hR⟩, ht2⟩ := hp
  dsimp only at hl hR ht2 ⊢
  obtain ⟨g, okv⟩ := gram_ok hl hR
  refine (sp_lawword ht2 (by omega) hl).bind fun p hp => ?_
  obtain ⟨w, t3⟩ := p
  obtain ⟨hw, ht3⟩ := hp
  dsimp only at hw ht3 ⊢
  have w10 := hw.len
  have r6 := g.len
  have s := plain_ok hw
  have sl := s.len
  obtain ⟨ts, es⟩ : ∃ ts, repG (.lst ((plainW w).map rS)) = some ts := rep_l (rb_steps hl s) (by rw [List.length_map]; omega)
  obtain ⟨td, ed⟩ : ∃ td, repG (.lst ((rules.map (totF w (plainW w))).map TX.rI)) = some td := by
    refine rep_l (B := 1921) (fun d hd => ?_) (by rw [List.length_map, List.length_map]; omega)
    obtain ⟨n, hn, rfl⟩ := List.mem_map.mp hd
    obtain ⟨q, hq, rfl⟩ := List.mem_map.mp hn
    have := sp_tot g hw s hq
    exact RB.int (sm_of (by omega))
  refine wp_lt (wp_eq ((plain_fold w).resolve_right (by omega)) (wp_eq (sp_kept g hw) (wp_eq (sp_due g hw s) ?_)))
  rw [rLU]
  refine wp_eq es (wp_eq (b := ts) es (WP.bind (R := fun b => b = false) (no_ (by rw [decide_eq_true rfl]; rfl) (wp_eq (sp_faults hl g hw s) (wp_eq (b := td) ed (wp_eq (b := td) ed (wp_some (by rw [decide_eq_true rfl]; rfl)))))) fun b hb => ?_))
  subst hb
  refine no_ rfl (wp_eq (rng0 (n := 6) (by decide)) (wp_out (wp_foWN (fun j t => Prs (k + 111 + 50 * j) t) ht3 (fun j t hj ht => ?_) fun t ht => ?_)))
  · refine (sp_turn ht (by omega) hl g okv hw (j : Int)).mono fun r ⟨t', e, h⟩ => ?_
    subst e
    exact h.mono (by omega)
  · refine (sp_nosteps ht (by omega) hl hw s).bind fun p hp => ?_
    obtain ⟨⟨n1, n2⟩, n3⟩ := hp
    refine wp_eq (b := []) ?_ (wp_eq (b := true) rfl (wp_some ⟨rfl, n3.mono (by omega)⟩))
    have ef : p.1.filter (fun _ => false) = [] := List.filter_eq_nil_iff.mpr fun _ _ => by simp
    have := lcC_of (q := fun value => (g_is_steps (l, rules) w value).bind fun x_17 => some (!decide (x_17 = false))) (e := fun value => some value) (xs := p.1) (fun _ => false) id (by rw [ef]; simp) (fun o ho => by
      rw [sp_issteps g hw (n1 o ho).sz, (n1 o ho).no]; rfl) fun _ _ z => by cases z
    rw [ef] at this
    exact this
theorem sp_law {ns : List Int} (hn : ns.length ≤ 63) : g_law ns = some true := by
  refine WP.eq ?_
  unfold g_law
  obtain ⟨m, em, hm⟩ : ∃ m : Nat, (if (if (ns.length : Int) < 6 then (ns.length : Int) else 6) > 1 then (if (ns.length : Int) < 6 then (ns.length : Int) else 6) else 1) = m ∧ m ≤ 6 := by
    refine ⟨(if (if (ns.length : Int) < 6 then (ns.length : Int) else 6) > 1 then (if (ns.length : Int) < 6 then (ns.length : Int) else 6) else 1).toNat, ?_, ?_⟩ <;> (split <;> split <;> omega)
  rw [em]
  refine wp_eq (rng0 (by omega)) (wp_out (wp_foWN (fun _ _ => True) trivial (fun k s hk _ => ?_) fun s _ => ?_))
  · unfold g_law_b1
    refine (sp_purse hn (by omega)).bind fun p hp => wp_eq (rng0 (n := 4) (by decide)) (wp_out (wp_foWN (fun j t => Prs (500 * j) t) hp (fun j t hj ht => ?_) fun t _ => wp_some trivial))
    unfold g_law_b2
    refine (sp_right ht (by omega)).bind fun r hr => ?_
    rw [hr.1]
    exact wp_if (fun z => nomatch z) fun _ => wp_some (hr.2.mono (by omega))
  · refine wp_lt (wp_lt (wp_eq (b := [0, 1, 2, 0, 0]) (by decide +kernel) (wp_eq (b := [0, 1, 0, 0, 1]) (by decide +kernel) (wp_lt (wp_eq (b := true) ?_ (wp_some rfl))))))
    refine WP.eq (yes_ (by decide) (wp_eq (b := true) (by decide +kernel) (wp_some rfl)))
end Law_strictranks_k41_steps_and_faults
end
section
set_option Elab.async false
set_option linter.all false
set_option maxRecDepth 100000
set_option maxHeartbeats 2000000
open PySem PySem.Spec PyProof.Rows L2 L2.VL L2.PM L2.TX
local macro_rules | `(tactic| walk_at "w") => `(tactic| (repeat (first | with_reducible refine wp_some ?_ | with_reducible refine wp_lt ?_ | with_reducible refine wp_bs ?_ | with_reducible refine wp_id ?_ | with_reducible refine wp_assoc ?_); try dsimp only))
namespace Law_strictranks_k41_steps_and_faults
theorem law_spec' (ns : List Int) (hn : ns.length ≤ 63) : L2.VL.FRes.post (F_law [L2.VL.shA (.lst (ns.map fun n => .con (.int n)))]) (fun d _ _ => d = .bl true) fun _ _ => False := by
  obtain ⟨outs, e⟩ := (rf_law ns).run true (sp_law hn)
  have e : F_law [L2.VL.shA (.lst (ns.map fun n => .con (.int n)))] = some (.ret (rB true) false outs) := e
  rw [e]
  exact rfl
end Law_strictranks_k41_steps_and_faults
end
set_option maxRecDepth 100000
theorem PySem.Challenge.cw_strictranks_k41_steps_and_faults_holds : PySem.Challenge.rw_strictranks_k41_steps_and_faults.Holds := by
  exact Law_strictranks_k41_steps_and_faults.holds Law_strictranks_k41_steps_and_faults.law_spec'
