import PyProof.Rows.All
import HandS.HeadHook4
import HandS.EndTab
import Wide.All
import OpenK.AllK
import Wide.FinOn
import KE.KStateDown
import HandS.ForMost
import HandS.Exc
import HandS.TryOnly
import HandS.ExcOwn
import HandS.Wide
import HandS.IsInst
import HandS.Defaults
import HandS.WordsExc
import HandS.HeadHook1
import HandS.HeadHook2
import HandS.Lambda
import HandS.CallSlots
import HandS.SortInts
import HandS.Text
import HandS.Head0
import HandS.Head1
import HandS.Head2
import HandS.HeadEnd
import HandS.Conv
import HandS.Style
import HandS.More
import HandS.TupLe
import HandS.SortOrd
import HandS.SortRule
import PyProof.Draws
import PyProof.EnumMake
import HandS.SetFor
import PyProof.SetRoads
import PyProof.Rows.SetFrom
import PyProof.StrOps2
import HandS.SetBool
import HandS.Strs
import KE.DataCmp
import KE.KStar
import HandS.Star
import HandS.ExcField
import HandS.ExcInit
import KE.KIsAll
import KE.KDictSum
import HandS.ExcValue
import HandS.RaiseMore
import HandS.Dict
import PyProof.ReprReads
import PyProof.ReprRoads
import HandS.Replace
import HandS.ReplaceLit
import HandS.ReplaceDef
import KE.DataMinMax
import PyProof.Claim2Refuses
import PyProof.NeKinds
import KE.KIntText
import HandS.Deep
import HandS.ExcIs
import KE.KExcIs
import PyProof.CompFree
import HandS.TupSets
import KE.KeyNested
import KE.KSortTup
import PySem.Challenge.RW_strictranks_k26_ways_of_exchanges
import PyProof.ReprLen
import PyProof.FitsInt
import PyProof.StrLawsRepr
import PyProof.ReprText
import HandS.ReplaceList
namespace L2.VL
end L2.VL
namespace L2.TX
end L2.TX
section
set_option Elab.async false
set_option linter.all false
namespace L2.VL
open PySem
def lamN : Option Str := some "_law_right"
end L2.VL
end
section
set_option Elab.async false
set_option linter.all false
set_option maxRecDepth 100000
namespace L2.VL
open PySem PySem.Spec PyProof.Rows
inductive D where
  | con (v : V)
  | lst (xs : List D)
  | tup (xs : List D)
  | dic (kvs : List (Key × D))
  | dit (kvs : List (List Key × D))
  /-- a list whose items are lists of their own (or tuples with one) -/
  | own (xs : List D)
  /-- a caught exception of the own class c -/
  | exv (c : Str)
  /-- the function object at f, made by a lambda, with the values that it took along and their data -/
  | fnv (f : Addr) (us : List V) (xs : List D)
abbrev D.int (i : Int) : D := .con (.int i)
abbrev D.str (s : Str) : D := .con (.str s)
abbrev D.bl (b : Bool) : D := .con (.bl b)
abbrev D.non : D := .con .non
/-- a list, a tuple of the written part -/
def KL (K : PySem.W.Frag) (a : Addr) (vs : List V) : Prop :=
  ∃ (o : Obj) (its : Array Value) (n : Nat), K.lookup a = some o ∧ o.cls = .type "list" ∧ o.dict = none ∧ o.data = .seq its n ∧ its.size ≤ sizeLine ∧ Vals vs its.toList
def KT (K : PySem.W.Frag) (a : Addr) (vs : List V) : Prop :=
  ∃ (o : Obj) (its : Array Value) (n : Nat), K.lookup a = some o ∧ o.cls = .type "tuple" ∧ o.data = .seq its n ∧ its.size ≤ sizeLine ∧ Vals vs its.toList
/-- an exception's object: its class, its dict -/
def exHO (a : Addr) (cls : Value) (d : Option Addr) : HO := .ext fun h => ∃ oe vs, h.get? a = some oe ∧ Zc cls d oe ∧ oe.data = .fields vs
mutual
/-- the value v is the data d; L: the addresses that it may not hold -/
inductive Rep (K : PySem.W.Frag) (H : Hp) (L : Addr → Prop) : V → D → Prop
  | con (v : V) : Rep K H L v (.con v)
  | obj {a : Addr} {ho : HO} {d : D} : ¬ L a → Rd H a ho → Cont K H L ho d → Rep K H L (.ref a) d
  | kl {a : Addr} {vs : List V} {ds : List D} : KL K a vs → Reps K H L vs ds → Rep K H L (.ref a) (.lst ds)
  | kt {a : Addr} {vs : List V} {ds : List D} : KT K a vs → Reps K H L vs ds → Rep K H L (.ref a) (.tup ds)
  | ow {v : V} {ds : List D} : Rep K H L v (.lst ds) → Rep K H L v (.own ds)
  | exv {a : Addr} {c : Str} {d : Option Addr} : ¬ L a → H a = some (exHO a (.ref (He.ga K c)) d) → (∀ e, d = some e → ¬ L e ∧ ∃ ho, H e = some ho) → Rep K H L (.ref a) (.exv c)
  | fnv {f : Addr} {us : List V} {ds : List D} : Reps K H L us ds → Rep K H L (.ref f) (.fnv f us ds)
inductive Reps (K : PySem.W.Frag) (H : Hp) (L : Addr → Prop) : List V → List D → Prop
  | nil : Reps K H L [] []
  | cons {v : V} {vs : List V} {d : D} {ds : List D} : Rep K H L v d → Reps K H L vs ds → Reps K H L (v :: vs) (d :: ds)
inductive RepK (K : PySem.W.Frag) (H : Hp) (L : Addr → Prop) : List (Key × V) → List (Key × D) → Prop
  | nil : RepK K H L [] []
  | cons {k : Key} {v : V} {vs : List (Key × V)} {d : D} {ds : List (Key × D)} : Rep K H L v d → RepK K H L vs ds → RepK K H L ((k, v) :: vs) ((k, d) :: ds)
inductive RepT (K : PySem.W.Frag) (H : Hp) (L : Addr → Prop) : List (List Key × V) → List (List Key × D) → Prop
  | nil : RepT K H L [] []
  | cons {k : List Key} {v : V} {vs : List (List Key × V)} {d : D} {ds : List (List Key × D)} : Rep K H L v d → RepT K H L vs ds → RepT K H L ((k, v) :: vs) ((k, d) :: ds)
/-- what an object's content says -/
inductive Cont (K : PySem.W.Frag) (H : Hp) (L : Addr → Prop) : HO → D → Prop
  | lst {vs : List V} {ds : List D} : Reps K H L vs ds → Cont K H L (.lst vs) (.lst ds)
  | tup {vs : List V} {ds : List D} : Reps K H L vs ds → Cont K H L (.tup vs) (.tup ds)
  | dic {vs : List (Key × V)} {ds : List (Key × D)} : RepK K H L vs ds → Cont K H L (.dK vs) (.dic ds)
  | dit {vs : List (List Key × V)} {ds : List (List Key × D)} : RepT K H L vs ds → Cont K H L (.dT vs) (.dit ds)
end
section
variable {K : PySem.W.Frag} {H H' : Hp} {L L' : Addr → Prop}
/-- what is read stays -/
def Stay (H H' : Hp) (L L' : Addr → Prop) : Prop := ∀ a o, ¬ L a → H a = some o → H' a = some o ∧ ¬ L' a
theorem Stay.rd (h : Stay H H' L L') {a : Addr} {ho : HO} (n : ¬ L a) (r : Rd H a ho) : Rd H' a ho ∧ ¬ L' a := by
  rcases r with r | ⟨o, r⟩
  · exact ⟨.inl (h a _ n r).1, (h a _ n r).2⟩
  · exact ⟨.inr ⟨o, (h a _ n r).1⟩, (h a _ n r).2⟩
mutual
theorem Rep.mono (h : Stay H H' L L') : ∀ {v : V} {d : D}, Rep K H L v d → Rep K H' L' v d
  | _, _, .con v => .con v
  | _, _, .obj n r c => .obj (h.rd n r).2 (h.rd n r).1 (Cont.mono h c)
  | _, _, .kl k r => .kl k (Reps.mono h r)
  | _, _, .kt k r => .kt k (Reps.mono h r)
  | _, _, .ow r => .ow (Rep.mono h r)
  | _, _, .exv n r q => .exv (h _ _ n r).2 (h _ _ n r).1 fun e he => (q e he).elim fun n2 ⟨ho, r2⟩ => ⟨(h _ _ n2 r2).2, ho, (h _ _ n2 r2).1⟩
  | _, _, .fnv r => .fnv (Reps.mono h r)
theorem Reps.mono (h : Stay H H' L L') : ∀ {v : List V} {d : List D}, Reps K H L v d → Reps K H' L' v d
  | _, _, .nil => .nil
  | _, _, .cons a b => .cons (Rep.mono h a) (Reps.mono h b)
theorem RepK.mono (h : Stay H H' L L') : ∀ {v : List (Key × V)} {d : List (Key × D)}, RepK K H L v d → RepK K H' L' v d
  | _, _, .nil => .nil
  | _, _, .cons a b => .cons (Rep.mono h a) (RepK.mono h b)
theorem RepT.mono (h : Stay H H' L L') : ∀ {v : List (List Key × V)} {d : List (List Key × D)}, RepT K H L v d → RepT K H' L' v d
  | _, _, .nil => .nil
  | _, _, .cons a b => .cons (Rep.mono h a) (RepT.mono h b)
theorem Cont.mono (h : Stay H H' L L') : ∀ {v : HO} {d : D}, Cont K H L v d → Cont K H' L' v d
  | _, _, .lst r => .lst (Reps.mono h r)
  | _, _, .tup r => .tup (Reps.mono h r)
  | _, _, .dic r => .dic (RepK.mono h r)
  | _, _, .dit r => .dit (RepT.mono h r)
end
theorem Reps.len : ∀ {v : List V} {d : List D}, Reps K H L v d → v.length = d.length
  | _, _, .nil => rfl
  | _, _, .cons _ b => congrArg (· + 1) b.len
theorem Reps.get : ∀ {v : List V} {d : List D} {i : Nat} {x : D}, Reps K H L v d → d[i]? = some x → ∃ u, v[i]? = some u ∧ Rep K H L u x
  | _, _, _, _, .nil, e => by simp at e
  | _, _, 0, _, .cons a b, e => by simp at e; subst e; exact ⟨_, rfl, a⟩
  | _, _, i + 1, x, .cons a b, e => by
    obtain ⟨u, h1, h2⟩ := Reps.get (i := i) (x := x) b (by simpa using e)
    exact ⟨u, by simpa using h1, h2⟩
theorem Reps.append : ∀ {v w : List V} {d e : List D}, Reps K H L v d → Reps K H L w e → Reps K H L (v ++ w) (d ++ e)
  | _, _, _, _, .nil, r => r
  | _, _, _, _, .cons a b, r => .cons a (b.append r)
theorem Reps.set {u : V} {x : D} (r : Rep K H L u x) : ∀ {v : List V} {d : List D} (i : Nat), Reps K H L v d → Reps K H L (v.set i u) (d.set i x)
  | _, _, _, .nil => .nil
  | _, _, 0, .cons _ b => .cons r b
  | _, _, i + 1, .cons a b => .cons a (Reps.set r i b)
theorem Reps.take : ∀ {v : List V} {d : List D} (n : Nat), Reps K H L v d → Reps K H L (v.take n) (d.take n)
  | _, _, 0, _ => by simpa using .nil
  | _, _, _ + 1, .nil => .nil
  | _, _, n + 1, .cons a b => .cons a (Reps.take n b)
theorem Reps.drop : ∀ {v : List V} {d : List D} (n : Nat), Reps K H L v d → Reps K H L (v.drop n) (d.drop n)
  | _, _, 0, r => r
  | _, _, _ + 1, .nil => .nil
  | _, _, n + 1, .cons a b => Reps.drop n b
/-- scalars -/
theorem Reps.cons_map {α : Type} (f : α → V) : ∀ xs : List α, Reps K H L (xs.map f) (xs.map fun x => .con (f x))
  | [] => .nil
  | x :: r => .cons (.con _) (Reps.cons_map f r)
theorem Rep.con_inv {v c : V} (r : Rep K H L v (.con c)) : v = c := by
  cases r with
  | con => rfl
  | obj _ _ c => cases c
theorem Reps.con_inv {α : Type} {f : α → V} : ∀ {v : List V} {xs : List α}, Reps K H L v (xs.map fun x => .con (f x)) → v = xs.map f
  | _, [], r => by cases r; rfl
  | _, x :: xs, r => by
    cases r with
    | cons a b => rw [a.con_inv, b.con_inv]; rfl
end
inductive Ow where
  | sl (i : Nat) | tp (n : Nat) | out
  deriving DecidableEq
abbrev Own := Addr → Option Ow
def lin (O : Own) (a : Addr) : Prop := O a ≠ none
structure Slot where
  d : D
  own : Bool
  pin : Bool
abbrev Rho := List (Option Slot)
inductive Kd where
  | shr | fr | nm (i : Nat)
structure Tmp where
  v : V
  d : D
  k : Kd
/-- the table at b of the maker's code object, with the name that the code objects in it bear -/
def tbk (K : PySem.W.Frag) (b : Addr) : Option Str := match lamN with
  | some x => if b = (He.cT K (x, none)).2 then some ((x ++ ".<locals>.") ++ "<lambda>") else none
  | none => none
/-- what stays the same through a def's body: what stands outside, what is outside's own, the pinned parameters -/
structure Fix where
  K : PySem.W.Frag
  Fr : Hp
  Out : Addr → Prop
  Pin : Nat → Option V
  tbo : ∀ P q, tbk K P = some q → Out P ∧ Fr P = none
/-- the tables of code objects that may grow, each with the name that its code objects bear -/
abbrev Fix.Tb (G : Fix) (b : Addr) : Option Str := tbk G.K b
/-- all stands still, but tables -/
def frzT (K : PySem.W.Frag) (H : Hp) (Pin : Nat → Option V) : Fix := { K := K, Fr := fun b => if (tbk K b).isSome = true then none else H b, Out := fun b => (tbk K b).isSome = true, Pin := Pin, tbo := fun P q h => by rw [h]; exact ⟨rfl, if_pos rfl⟩ }
def ownT (K : PySem.W.Frag) : Own := fun b => if (tbk K b).isSome = true then some .out else none
/-- an object is there; where it is a table that is told of, its code objects bear its name -/
def TrOk (G : Fix) (H : Hp) (a : Addr) : Prop := (∃ o, H a = some o) ∧ ∀ q, G.Tb a = some q → LamX.TabS H a q
/-- neither a table nor a code object -/
def Pl (a : Addr) (o : HO) : Prop := (∀ ps, o ≠ .tbl ps) ∧ ∀ q, o ≠ LamX.CodeO a q
theorem tab_upd {H : Hp} {a P : Addr} {q : Str} {ho ho' : HO} (t : LamX.TabS H P q) (ha : H a = some ho) (p : Pl a ho) : LamX.TabS (upd H a ho') P q := by
  obtain ⟨ps, h1, h2, h3⟩ := t
  have n1 : P ≠ a := fun z => by
    rw [z, ha] at h1
    exact p.1 _ (Option.some.inj h1)
  refine ⟨ps, by rw [upd_ne n1]; exact h1, h2, fun pos cv hc => ?_⟩
  obtain ⟨c, e1, e2⟩ := h3 pos cv hc
  have n2 : c ≠ a := fun z => by
    rw [z, ha] at e2
    exact p.2 _ (Option.some.inj e2)
  exact ⟨c, e1, by rw [upd_ne n2]; exact e2⟩
theorem TrOk.ext {G : Fix} {H H' : Hp} {a : Addr} (t : TrOk G H a) (e : ∀ b o, H b = some o → H' b = some o) : TrOk G H' a := ⟨let ⟨o, h⟩ := t.1; ⟨o, e _ _ h⟩, fun q hq => (t.2 q hq).ext e⟩
theorem TrOk.upd {G : Fix} {H : Hp} {a b : Addr} {ho ho' : HO} (t : TrOk G H a) (hb : H b = some ho) (p : Pl b ho) : TrOk G (L2.upd H b ho') a := by
  refine ⟨?_, fun q hq => tab_upd (t.2 q hq) hb p⟩
  by_cases z : a = b
  · rw [z]; exact ⟨_, upd_same⟩
  · rw [upd_ne z]; exact t.1
theorem TrOk.fresh {G : Fix} {H : Hp} {a p : Addr} {ho : HO} (t : TrOk G H a) (hp : H p = none) : TrOk G (L2.upd H p ho) a := t.ext fun b o e => by rw [upd_ne (fun z => by rw [z, hp] at e; cases e)]; exact e
def Owned (K : PySem.W.Frag) (H : Hp) (O : Own) (w : Ow) (v : V) (d : D) : Prop :=
  ∃ a ho, v = .ref a ∧ O a = some w ∧ H a = some ho ∧ Cont K H (lin O) ho d
/-- an item with an object of its own at b: a list, or a tuple of two with a list behind -/
def Itm (K : PySem.W.Frag) (H : Hp) (O : Own) (w : Ow) (u : V) (d : D) (b : Addr) : Prop :=
  O b = some w ∧ ((∃ ho es, d = .lst es ∧ u = .ref b ∧ H b = some ho ∧ Cont K H (lin O) ho d) ∨
    ∃ c x ho d1 d2, d = .tup [d1, d2] ∧ u = .ref c ∧ O c = none ∧ H c = some (.tup [x, .ref b]) ∧ Rep K H (lin O) x d1 ∧ H b = some ho ∧ Cont K H (lin O) ho d2)
inductive Itms (K : PySem.W.Frag) (H : Hp) (O : Own) (w : Ow) : List V → List D → List Addr → Prop
  | nil : Itms K H O w [] [] []
  | cons {u : V} {vs : List V} {d : D} {ds : List D} {b : Addr} {bs : List Addr} : Itm K H O w u d b → Itms K H O w vs ds bs → Itms K H O w (u :: vs) (d :: ds) (b :: bs)
/-- a list with items of their own -/
def DeepO (K : PySem.W.Frag) (H : Hp) (O : Own) (w : Ow) (v : V) (ds : List D) : Prop :=
  ∃ a vs bs, v = .ref a ∧ O a = some w ∧ H a = some (.lst vs) ∧ (a :: bs).Nodup ∧ Itms K H O w vs ds bs
def OwnX (K : PySem.W.Frag) (H : Hp) (O : Own) (w : Ow) (v : V) (d : D) : Prop := Owned K H O w v d ∨ ∃ ds, d = .own ds ∧ DeepO K H O w v ds
def SlotOk (K : PySem.W.Frag) (H : Hp) (O : Own) (i : Nat) (v : V) (s : Slot) : Prop :=
  match s.own with
  | true => OwnX K H O (.sl i) v s.d
  | false => Rep K H (lin O) v s.d
def TmpOk (K : PySem.W.Frag) (H : Hp) (O : Own) (σ : St) (n : Nat) (t : Tmp) : Prop :=
  match t.k with
  | .shr => Rep K H (lin O) t.v t.d
  | .fr => OwnX K H O (.tp n) t.v t.d
  | .nm i => σ[i]? = some (some t.v)
def TmpsOk (K : PySem.W.Frag) (H : Hp) (O : Own) (σ : St) : List Tmp → Prop
  | [] => True
  | t :: T => TmpOk K H O σ T.length t ∧ TmpsOk K H O σ T
structure Rel (G : Fix) (O : Own) (σ : St) (H : Hp) (ρ : Rho) (T : List Tmp) : Prop where
  len : ρ.length = σ.length
  fr : ∀ b o, G.Fr b = some o → H b = some o ∧ (O b = none ∨ O b = some .out)
  ot : ∀ b, O b = some .out ↔ G.Out b
  tr : ∀ a w, O a = some w → TrOk G H a
  pn : ∀ i v, G.Pin i = some v → σ[i]? = some (some v) ∧ ∃ s, ρ[i]? = some (some s) ∧ s.pin = true
  sl : ∀ i s, ρ[i]? = some (some s) → ∃ v, σ[i]? = some (some v) ∧ SlotOk G.K H O i v s
  tm : TmpsOk G.K H O σ T
def Vw (K : PySem.W.Frag) (H : Hp) (O : Own) (v : V) (d : D) : Prop :=
  Rep K H (lin O) v d ∨ (∃ a ho, v = .ref a ∧ H a = some ho ∧ Cont K H (lin O) ho d) ∨ ∃ a ds, v = .ref a ∧ d = .own ds
theorem Owned.vw {K : PySem.W.Frag} {H : Hp} {O : Own} {w : Ow} {v : V} {d : D} (h : Owned K H O w v d) : Vw K H O v d := by
  obtain ⟨a, ho, e, _, h1, c⟩ := h
  exact .inr (.inl ⟨a, ho, e, h1, c⟩)
theorem OwnX.vw {K : PySem.W.Frag} {H : Hp} {O : Own} {w : Ow} {v : V} {d : D} (h : OwnX K H O w v d) : Vw K H O v d := by
  rcases h with h | ⟨ds, e, a, _, _, e2, _⟩
  · exact h.vw
  · exact .inr (.inr ⟨a, ds, e2, e⟩)
/-- not deep -/
def notOwn : D → Bool
  | .own _ => false
  | _ => true
theorem OwnX.flat {K : PySem.W.Frag} {H : Hp} {O : Own} {w : Ow} {v : V} {d : D} (h : OwnX K H O w v d) (hd : notOwn d = true := by rfl) : Owned K H O w v d := by
  rcases h with h | ⟨ds, e, _⟩
  · exact h
  · subst e; cases hd
theorem OwnX.root {K : PySem.W.Frag} {H : Hp} {O : Own} {w : Ow} {v : V} {d : D} (h : OwnX K H O w v d) : ∃ a ho, v = .ref a ∧ O a = some w ∧ H a = some ho := by
  rcases h with ⟨a, ho, e, h1, h2, _⟩ | ⟨ds, _, a, vs, bs, e, h1, h2, _⟩
  · exact ⟨a, ho, e, h1, h2⟩
  · exact ⟨a, _, e, h1, h2⟩
theorem Cont.plain {K : PySem.W.Frag} {H : Hp} {L : Addr → Prop} {ho : HO} {d : D} {a : Addr} (c : Cont K H L ho d) : Pl a ho := by
  cases c <;> exact ⟨fun _ z => (nomatch z), fun _ z => by unfold LamX.CodeO at z; cases z⟩
theorem plain_lst {a : Addr} {vs : List V} : Pl a (.lst vs) := ⟨fun _ z => (nomatch z), fun _ z => by unfold LamX.CodeO at z; cases z⟩
theorem OwnX.plain {K : PySem.W.Frag} {H : Hp} {O : Own} {w : Ow} {a : Addr} {d : D} {ho : HO} (h : OwnX K H O w (.ref a) d) (ha : H a = some ho) : Pl a ho := by
  rcases h with ⟨a', ho', e, _, h2, c⟩ | ⟨_, _, a', vs, bs, e, _, h2, _⟩
  · cases e
    rw [ha] at h2
    cases h2
    exact c.plain
  · cases e
    rw [ha] at h2
    cases h2
    exact plain_lst
theorem SlotOk.vw {K : PySem.W.Frag} {H : Hp} {O : Own} {i : Nat} {v : V} {s : Slot} (h : SlotOk K H O i v s) : Vw K H O v s.d := by
  unfold SlotOk at h
  cases e : s.own with
  | true => rw [e] at h; exact OwnX.vw h
  | false => rw [e] at h; exact .inl h
section
variable {K : PySem.W.Frag} {H : Hp} {O : Own} {v : V} {d : D}
theorem Vw.con {c : V} (h : Vw K H O v (.con c)) : v = c := by
  rcases h with h | ⟨a, ho, _, _, c⟩ | ⟨_, _, _, e⟩
  · exact h.con_inv
  · cases c
  · cases e
theorem Vw.lst {ds : List D} (h : Vw K H O v (.lst ds)) : ∃ a vs, v = .ref a ∧ SqL K H a vs ∧ Reps K H (lin O) vs ds := by
  rcases h with h | ⟨a, ho, e, h1, c⟩ | ⟨_, _, _, e⟩
  · cases h with
    | obj n r c =>
      cases c with
      | lst q => exact ⟨_, _, rfl, .inl r, q⟩
    | kl k q => exact ⟨_, _, rfl, .inr k, q⟩
  · cases c with
    | lst q => exact ⟨a, _, e, .inl (.inl h1), q⟩
  · cases e
theorem Vw.exv {c : Str} (h : Vw K H O v (.exv c)) : ∃ a d, v = .ref a ∧ H a = some (exHO a (.ref (He.ga K c)) d) ∧ ∀ e, d = some e → ∃ ho, H e = some ho := by
  rcases h with h | ⟨a, ho, e, h1, c⟩ | ⟨_, _, _, e⟩
  · cases h with
    | obj n r c => cases c
    | exv n r q => exact ⟨_, _, rfl, r, fun e he => (q e he).2⟩
  · cases c
  · cases e
theorem Vw.tup {ds : List D} (h : Vw K H O v (.tup ds)) : ∃ a vs, v = .ref a ∧ SqT K H a vs ∧ Reps K H (lin O) vs ds := by
  rcases h with h | ⟨a, ho, e, h1, c⟩ | ⟨_, _, _, e⟩
  · cases h with
    | obj n r c =>
      cases c with
      | tup q => exact ⟨_, _, rfl, .inl r, q⟩
    | kt k q => exact ⟨_, _, rfl, .inr k, q⟩
  · cases c with
    | tup q => exact ⟨a, _, e, .inl (.inl h1), q⟩
  · cases e
end
def oset (O : Own) (a : Addr) (w : Option Ow) : Own := fun b => if b = a then w else O b
theorem oset_eq {O : Own} {a b : Addr} {w : Option Ow} (h : b = a) : oset O a w b = w := if_pos h
theorem oset_ne {O : Own} {a b : Addr} {w : Option Ow} (h : b ≠ a) : oset O a w b = O b := if_neg h
section
variable {K : PySem.W.Frag} {G : Fix} {O O' : Own} {σ : St} {H H' : Hp} {ρ ρ' : Rho} {T : List Tmp} {t : Tmp} {v : V} {d : D}
theorem Owned.mono {w w' : Ow} (hs : Stay H H' (lin O) (lin O')) (h : Owned K H O w v d) (hw : ∀ a o, O a = some w → H a = some o → O' a = some w' ∧ H' a = some o) : Owned K H' O' w' v d := by
  obtain ⟨a, u, e, h1, h2, c⟩ := h
  obtain ⟨p, q⟩ := hw a u h1 h2
  exact ⟨a, u, e, p, q, c.mono hs⟩
theorem Itm.mono {w w' : Ow} {u : V} {d : D} {b : Addr} (hs : Stay H H' (lin O) (lin O')) (h : Itm K H O w u d b) (hw : ∀ a o, O a = some w → H a = some o → O' a = some w' ∧ H' a = some o) (hc : ∀ a o, O a = none → H a = some o → O' a = none) : Itm K H' O' w' u d b := by
  obtain ⟨h0, h⟩ := h
  have nl : ∀ c, O c = none → ¬ lin O c := fun c e z => z e
  rcases h with ⟨ho, es, he, h1, h2, h3⟩ | ⟨c, x, ho, d1, d2, h1, h2, h3, h4, h5, h6, h7⟩
  · exact ⟨(hw b ho h0 h2).1, .inl ⟨ho, es, he, h1, (hw b ho h0 h2).2, h3.mono hs⟩⟩
  · exact ⟨(hw b ho h0 h6).1, .inr ⟨c, x, ho, d1, d2, h1, h2, hc c _ h3 h4, (hs c _ (nl c h3) h4).1, h5.mono hs, (hw b ho h0 h6).2, h7.mono hs⟩⟩
theorem stay_none (hs : Stay H H' (lin O) (lin O')) : ∀ a o, O a = none → H a = some o → O' a = none := fun a o e h => Classical.byContradiction fun z => (hs a o (fun q => q e) h).2 z
theorem Itms.mono {w w' : Ow} (hs : Stay H H' (lin O) (lin O')) (hw : ∀ a o, O a = some w → H a = some o → O' a = some w' ∧ H' a = some o) : ∀ {vs : List V} {ds : List D} {bs : List Addr}, Itms K H O w vs ds bs → Itms K H' O' w' vs ds bs
  | _, _, _, .nil => .nil
  | _, _, _, .cons a b => .cons (a.mono hs hw (stay_none hs)) (Itms.mono hs hw b)
theorem DeepO.mono {w w' : Ow} {ds : List D} (hs : Stay H H' (lin O) (lin O')) (h : DeepO K H O w v ds) (hw : ∀ a o, O a = some w → H a = some o → O' a = some w' ∧ H' a = some o) : DeepO K H' O' w' v ds := by
  obtain ⟨a, vs, bs, e, h1, h2, h3, h4⟩ := h
  exact ⟨a, vs, bs, e, (hw a _ h1 h2).1, (hw a _ h1 h2).2, h3, h4.mono hs hw⟩
theorem OwnX.mono {w w' : Ow} (hs : Stay H H' (lin O) (lin O')) (h : OwnX K H O w v d) (hw : ∀ a o, O a = some w → H a = some o → O' a = some w' ∧ H' a = some o) : OwnX K H' O' w' v d := by
  rcases h with h | ⟨ds, e, h⟩
  · exact .inl (h.mono hs hw)
  · exact .inr ⟨ds, e, h.mono hs hw⟩
/-- an item that may be held by others -/
theorem Itm.rep {w : Ow} {u : V} {d : D} {b : Addr} (hs : Stay H H' (lin O) (lin O')) (h : Itm K H O w u d b) (hw : ∀ a o, O a = some w → H a = some o → O' a = none ∧ H' a = some o) : Rep K H' (lin O') u d := by
  obtain ⟨h0, h⟩ := h
  have nl : ∀ c, O c = none → ¬ lin O c := fun c e z => z e
  rcases h with ⟨ho, es, he, rfl, h2, h3⟩ | ⟨c, x, ho, d1, d2, rfl, rfl, h3, h4, h5, h6, h7⟩
  · obtain ⟨p, q⟩ := hw b ho h0 h2
    exact .obj (fun z => z p) (.inl q) (h3.mono hs)
  · obtain ⟨p, q⟩ := hw b ho h0 h6
    have hc := hs c _ (nl c h3) h4
    exact .obj hc.2 (.inl hc.1) (.tup (.cons (h5.mono hs) (.cons (.obj (fun z => z p) (.inl q) (h7.mono hs)) .nil)))
theorem Itms.reps {w : Ow} (hs : Stay H H' (lin O) (lin O')) (hw : ∀ a o, O a = some w → H a = some o → O' a = none ∧ H' a = some o) : ∀ {vs : List V} {ds : List D} {bs : List Addr}, Itms K H O w vs ds bs → Reps K H' (lin O') vs ds
  | _, _, _, .nil => .nil
  | _, _, _, .cons a b => .cons (a.rep hs hw) (Itms.reps hs hw b)
/-- what is owned is shared from now on: the owner goes from all that it owns -/
theorem OwnX.rep {w : Ow} (hs : Stay H H' (lin O) (lin O')) (h : OwnX K H O w v d) (hw : ∀ a o, O a = some w → H a = some o → O' a = none ∧ H' a = some o) : Rep K H' (lin O') v d := by
  rcases h with ⟨a, ho, rfl, h1, h2, c⟩ | ⟨ds, rfl, a, vs, bs, rfl, h1, h2, h3, h4⟩
  · obtain ⟨p, q⟩ := hw a ho h1 h2
    exact .obj (fun z => z p) (.inl q) (c.mono hs)
  · obtain ⟨p, q⟩ := hw a _ h1 h2
    exact .ow (.obj (fun z => z p) (.inl q) (.lst (h4.reps hs hw)))
/-- all that w owns goes to w' -/
def reO (O : Own) (w : Ow) (w' : Option Ow) : Own := fun b => if O b = some w then w' else O b
theorem reO_eq {w : Ow} {w' : Option Ow} {b : Addr} (h : O b = some w) : reO O w w' b = w' := if_pos h
theorem reO_ne {w : Ow} {w' : Option Ow} {b : Addr} (h : O b ≠ some w) : reO O w w' b = O b := if_neg h
theorem reO_other {w x : Ow} {w' : Option Ow} {b : Addr} (h : O b = some x) (hx : x ≠ w) : reO O w w' b = some x := by
  rw [reO_ne (by rw [h]; exact fun z => hx (Option.some.inj z)), h]
theorem reO_stay {w : Ow} {w' : Option Ow} : Stay H H (lin O) (lin (reO O w w')) := fun a o n e => by
  refine ⟨e, ?_⟩
  unfold lin at n ⊢
  rw [reO_ne (fun z => n (by rw [z]; simp))]; exact n
theorem TmpsOk.mono {N : Nat} {H H' : Hp} {O O' : Own} (h1 : ∀ t n, TmpOk K H O σ n t → n < N → TmpOk K H' O' σ n t) : ∀ {T : List Tmp}, T.length ≤ N → TmpsOk K H O σ T → TmpsOk K H' O' σ T
  | [], _, _ => trivial
  | t :: T, hl, ⟨a, b⟩ => ⟨h1 t T.length a hl, TmpsOk.mono h1 (Nat.le_of_succ_le hl) b⟩
/-- slots' states: from one place to another -/
theorem slot_mono {i j : Nat} {s : Slot} (hs : Stay H H' (lin O) (lin O')) (hw : ∀ a o, O a = some (.sl i) → H a = some o → O' a = some (.sl j) ∧ H' a = some o) (h : SlotOk K H O i v s) : SlotOk K H' O' j v s := by
  unfold SlotOk at h ⊢
  cases q : s.own with
  | true => rw [q] at h; exact OwnX.mono hs h hw
  | false => rw [q] at h; exact h.mono hs
theorem tmps_mono (hs : Stay H H' (lin O) (lin O')) (hw : ∀ a o n, n < T.length → O a = some (.tp n) → H a = some o → O' a = some (.tp n) ∧ H' a = some o) (h : TmpsOk K H O σ T) : TmpsOk K H' O' σ T := by
  refine TmpsOk.mono (N := T.length) (fun t n h hn => ?_) (Nat.le_refl _) h
  unfold TmpOk at h ⊢
  cases q : t.k with
  | shr => rw [q] at h; exact h.mono hs
  | fr => rw [q] at h; exact OwnX.mono hs h fun a o e1 e2 => hw a o n hn e1 e2
  | nm i => rw [q] at h; exact h
theorem Rel.pop (R : Rel G O σ H ρ (t :: T)) : Rel G O σ H ρ T := ⟨R.len, R.fr, R.ot, R.tr, R.pn, R.sl, R.tm.2⟩
theorem Rel.push (R : Rel G O σ H ρ T) (h : TmpOk G.K H O σ T.length t) : Rel G O σ H ρ (t :: T) := ⟨R.len, R.fr, R.ot, R.tr, R.pn, R.sl, ⟨h, R.tm⟩⟩
theorem Rel.con (R : Rel G O σ H ρ T) (c : V) : Rel G O σ H ρ (⟨c, .con c, .shr⟩ :: T) := R.push (.con c)
theorem Rel.nil (R : Rel G O σ H ρ T) : Rel G O σ H ρ [] := ⟨R.len, R.fr, R.ot, R.tr, R.pn, R.sl, trivial⟩
theorem Rel.lout (R : Rel G O σ H ρ T) (p : Addr) (hp : H p = none) : O p = none := by
  cases e : O p with
  | none => rfl
  | some w =>
    obtain ⟨o, q⟩ := (R.tr p w e).1
    rw [hp] at q; cases q
/-- the data that a pending value stands for -/
def cur (ρ : Rho) (x : D × Kd) : Option D := match x.2 with
  | .nm i => match ρ[i]? with
    | some (some s) => some s.d
    | _ => none
  | _ => some x.1
theorem Rel.view (R : Rel G O σ H ρ T) {n : Nat} (h : TmpOk G.K H O σ n t) (e : cur ρ (t.d, t.k) = some d) : Vw G.K H O t.v d := by
  unfold TmpOk at h
  unfold cur at e
  cases q : t.k with
  | shr => rw [q] at h e; cases e; exact .inl h
  | fr => rw [q] at h e; cases e; exact OwnX.vw h
  | nm i =>
    rw [q] at h e
    dsimp only at e h
    split at e
    · rename_i s hs
      cases e
      obtain ⟨v', h1, h2⟩ := R.sl i s hs
      rw [h1] at h
      cases h
      exact h2.vw
    · cases e
/-- a new object -/
theorem Rel.fresh {p : Addr} {ho : HO} (R : Rel G O σ H ρ T) (hp : H p = none) (c : Cont G.K H (lin O) ho d) :
    ∃ O', Rel G O' σ (upd H p ho) ρ (⟨.ref p, d, .fr⟩ :: T) := by
  have op := R.lout p hp
  have ne : ∀ {a : Addr} {o : HO}, H a = some o → a ≠ p := fun e z => by rw [z, hp] at e; cases e
  have ne' : ∀ {a : Addr} {w : Ow}, O a = some w → a ≠ p := fun e z => by rw [z, op] at e; cases e
  have hs : Stay H (upd H p ho) (lin O) (lin (oset O p (some (.tp T.length)))) := fun a o n e => by
    refine ⟨by rw [upd_ne (ne e)]; exact e, ?_⟩
    unfold lin at n ⊢
    rw [oset_ne (ne e)]; exact n
  refine ⟨oset O p (some (.tp T.length)), R.len, fun b o e => ?_, fun b => ?_, fun a w e => ?_, R.pn, fun i s e => ?_, ⟨?_, ?_⟩⟩
  · obtain ⟨h1, h2⟩ := R.fr b o e
    rw [oset_ne (ne h1), upd_ne (ne h1)]; exact ⟨h1, h2⟩
  · by_cases e : b = p
    · rw [oset_eq e]
      constructor
      · intro z; cases z
      · intro z
        have := (R.ot b).mpr z
        rw [e, op] at this; cases this
    · rw [oset_ne e]; exact R.ot b
  · by_cases z : a = p
    · subst z
      refine ⟨⟨_, upd_same⟩, fun q hq => ?_⟩
      have := (R.ot a).mpr (G.tbo a q hq).1
      rw [op] at this; cases this
    · rw [oset_ne z] at e
      exact (R.tr a w e).fresh hp
  · obtain ⟨v, h1, h2⟩ := R.sl i s e
    refine ⟨v, h1, slot_mono hs (fun a o e1 e2 => ?_) h2⟩
    rw [oset_ne (ne e2), upd_ne (ne e2)]; exact ⟨e1, e2⟩
  · exact .inl ⟨p, ho, rfl, oset_eq rfl, upd_same, c.mono hs⟩
  · refine tmps_mono hs (fun a o n _ e1 e2 => ?_) R.tm
    rw [oset_ne (ne e2), upd_ne (ne e2)]; exact ⟨e1, e2⟩
/-- a new object that never changes (a tuple) -/
theorem Rel.freshT {p : Addr} {ho : HO} (R : Rel G O σ H ρ T) (hp : H p = none) (c : Cont G.K H (lin O) ho d) :
    Rel G O σ (upd H p ho) ρ (⟨.ref p, d, .shr⟩ :: T) := by
  have op := R.lout p hp
  have ne : ∀ {a : Addr} {o : HO}, H a = some o → a ≠ p := fun e z => by rw [z, hp] at e; cases e
  have hs : Stay H (upd H p ho) (lin O) (lin O) := fun a o n e => ⟨by rw [upd_ne (ne e)]; exact e, n⟩
  refine ⟨R.len, fun b o e => ?_, R.ot, fun a w e => ?_, R.pn, fun i s e => ?_, ⟨?_, ?_⟩⟩
  · obtain ⟨h1, h2⟩ := R.fr b o e
    rw [upd_ne (ne h1)]; exact ⟨h1, h2⟩
  · exact (R.tr a w e).fresh hp
  · obtain ⟨v, h1, h2⟩ := R.sl i s e
    refine ⟨v, h1, slot_mono hs (fun a o e1 e2 => ?_) h2⟩
    rw [upd_ne (ne e2)]; exact ⟨e1, e2⟩
  · exact .obj (fun z => z op) (.inl upd_same) (c.mono hs)
  · refine tmps_mono hs (fun a o n _ e1 e2 => ?_) R.tm
    rw [upd_ne (ne e2)]; exact ⟨e1, e2⟩
/-- the owner of one address goes -/
theorem Rel.drop (R : Rel G O σ H ρ T) (a0 : Addr) (w : Ow) (hw : O a0 = some w) (ho : w ≠ .out) (hsl : ∀ i s, ρ[i]? = some (some s) → s.own = true → w = .sl i → False) (htp : ∀ n, n < T.length → w ≠ .tp n) :
    Rel G (oset O a0 none) σ H ρ T := by
  have hs : Stay H H (lin O) (lin (oset O a0 none)) := fun a o n e => by
    refine ⟨e, ?_⟩
    unfold lin at n ⊢
    by_cases z : a = a0
    · rw [oset_eq z]; exact fun h => h rfl
    · rw [oset_ne z]; exact n
  refine ⟨R.len, fun b o e => ?_, fun b => ?_, fun a w' e => ?_, R.pn, fun i s e => ?_, ?_⟩
  · obtain ⟨h1, h2⟩ := R.fr b o e
    refine ⟨h1, ?_⟩
    by_cases z : b = a0
    · rw [oset_eq z]; exact .inl rfl
    · rw [oset_ne z]; exact h2
  · by_cases z : b = a0
    · rw [oset_eq z]
      constructor
      · intro q; cases q
      · intro q
        have := (R.ot b).mpr q
        rw [z, hw] at this
        cases this
        exact absurd rfl ho
    · rw [oset_ne z]; exact R.ot b
  · by_cases z : a = a0
    · rw [oset_eq z] at e; cases e
    · rw [oset_ne z] at e; exact R.tr a w' e
  · obtain ⟨v, h1, h2⟩ := R.sl i s e
    refine ⟨v, h1, ?_⟩
    unfold SlotOk at h2 ⊢
    cases q : s.own with
    | true =>
      rw [q] at h2
      refine OwnX.mono hs h2 fun a o e1 e2 => ?_
      rw [oset_ne (fun z => ?_)]
      · exact ⟨e1, e2⟩
      · rw [z, hw] at e1
        cases e1
        exact hsl i s e q rfl
    | false => rw [q] at h2; exact h2.mono hs
  · refine tmps_mono hs (fun a o n hn e1 e2 => ?_) R.tm
    rw [oset_ne (fun z => ?_)]
    · exact ⟨e1, e2⟩
    · rw [z, hw] at e1
      cases e1
      exact htp n hn rfl
/-- an owner goes from all that it owns -/
theorem Rel.dropW (R : Rel G O σ H ρ T) (w : Ow) (ho : w ≠ .out) (hsl : ∀ i s, ρ[i]? = some (some s) → s.own = true → w = .sl i → False) (htp : ∀ n, n < T.length → w ≠ .tp n) : Rel G (reO O w none) σ H ρ T := by
  have hs : Stay H H (lin O) (lin (reO O w none)) := reO_stay
  refine ⟨R.len, fun b o e => ?_, fun b => ?_, fun a w' e => ?_, R.pn, fun i s e => ?_, ?_⟩
  · obtain ⟨h1, h2⟩ := R.fr b o e
    refine ⟨h1, ?_⟩
    by_cases z : O b = some w
    · rw [reO_eq z]; exact .inl rfl
    · rw [reO_ne z]; exact h2
  · by_cases z : O b = some w
    · rw [reO_eq z]
      constructor
      · intro q; cases q
      · intro q
        have := (R.ot b).mpr q
        rw [z] at this
        exact absurd (Option.some.inj this) ho
    · rw [reO_ne z]; exact R.ot b
  · by_cases z : O a = some w
    · rw [reO_eq z] at e; cases e
    · rw [reO_ne z] at e; exact R.tr a w' e
  · obtain ⟨v, h1, h2⟩ := R.sl i s e
    refine ⟨v, h1, ?_⟩
    unfold SlotOk at h2 ⊢
    cases q : s.own with
    | true =>
      rw [q] at h2
      exact OwnX.mono hs h2 fun a o e1 e2 => ⟨reO_other e1 fun z => hsl i s e q z.symm, e2⟩
    | false => rw [q] at h2; exact h2.mono hs
  · exact tmps_mono hs (fun a o n hn e1 e2 => ⟨reO_other e1 fun z => htp n hn z.symm, e2⟩) R.tm
def shareR (ρ : Rho) (i : Nat) : Rho := match ρ[i]? with
  | some (some s) => ρ.set i (some { s with own := false })
  | _ => ρ
/-- a slot's object may be held by others from now on -/
theorem Rel.share (R : Rel G O σ H ρ T) {i : Nat} {s : Slot} (e : ρ[i]? = some (some s)) :
    ∃ O' v, Rel G O' σ H (shareR ρ i) T ∧ σ[i]? = some (some v) ∧ Rep G.K H (lin O') v s.d := by
  obtain ⟨v, h1, h2⟩ := R.sl i s e
  have es : shareR ρ i = ρ.set i (some { s with own := false }) := by unfold shareR; rw [e]
  have hi : i < ρ.length := (List.getElem?_eq_some_iff.mp e).1
  have get : ∀ j u, (ρ.set i (some { s with own := false }))[j]? = some (some u) → (j = i ∧ u = { s with own := false }) ∨ (j ≠ i ∧ ρ[j]? = some (some u)) := fun j u q => by
    by_cases z : j = i
    · subst z
      rw [List.getElem?_set_self hi] at q
      cases q
      exact .inl ⟨rfl, rfl⟩
    · rw [List.getElem?_set_ne (Ne.symm z)] at q
      exact .inr ⟨z, q⟩
  rw [es]
  unfold SlotOk at h2
  cases q : s.own with
  | false =>
    rw [q] at h2
    refine ⟨O, v, ⟨by simpa using R.len, R.fr, R.ot, R.tr, fun j u hj => ?_, fun j u hj => ?_, R.tm⟩, h1, h2⟩
    · obtain ⟨a, s', b, c⟩ := R.pn j u hj
      refine ⟨a, ?_⟩
      by_cases z : j = i
      · subst z
        rw [e] at b; cases b
        exact ⟨_, List.getElem?_set_self hi, c⟩
      · exact ⟨s', by rw [List.getElem?_set_ne (Ne.symm z)]; exact b, c⟩
    · rcases get j u hj with ⟨z, z2⟩ | ⟨_, z⟩
      · subst z z2
        exact ⟨v, h1, h2⟩
      · exact R.sl j u z
  | true =>
    rw [q] at h2
    have hs : Stay H H (lin O) (lin (reO O (.sl i) none)) := reO_stay
    have rp : Rep G.K H (lin (reO O (.sl i) none)) v s.d := OwnX.rep hs h2 fun a o e1 e2 => ⟨reO_eq e1, e2⟩
    refine ⟨reO O (.sl i) none, v, ⟨by simpa using R.len, fun b o e => ?_, fun b => ?_, fun a w' e => ?_, fun j u hj => ?_, fun j u hj => ?_, ?_⟩, h1, rp⟩
    · obtain ⟨p1, p2⟩ := R.fr b o e
      refine ⟨p1, ?_⟩
      by_cases z : O b = some (.sl i)
      · rw [reO_eq z]; exact .inl rfl
      · rw [reO_ne z]; exact p2
    · by_cases z : O b = some (.sl i)
      · rw [reO_eq z]
        constructor
        · intro q; cases q
        · intro q
          have := (R.ot b).mpr q
          rw [z] at this
          cases this
      · rw [reO_ne z]; exact R.ot b
    · by_cases z : O a = some (.sl i)
      · rw [reO_eq z] at e; cases e
      · rw [reO_ne z] at e; exact R.tr a w' e
    · obtain ⟨a, s', b, c⟩ := R.pn j u hj
      refine ⟨a, ?_⟩
      by_cases z : j = i
      · subst z
        rw [e] at b; cases b
        exact ⟨_, List.getElem?_set_self hi, c⟩
      · exact ⟨s', by rw [List.getElem?_set_ne (Ne.symm z)]; exact b, c⟩
    · rcases get j u hj with ⟨z, z2⟩ | ⟨nz, z⟩
      · subst z z2
        exact ⟨v, h1, rp⟩
      · obtain ⟨v', p1, p2⟩ := R.sl j u z
        exact ⟨v', p1, slot_mono hs (fun a o e1 e2 => ⟨reO_other e1 fun y => nz (Ow.sl.inj y), e2⟩) p2⟩
    · exact tmps_mono hs (fun a o n hn e1 e2 => ⟨reO_other e1 fun y => (by cases y), e2⟩) R.tm
def settleR (ρ : Rho) : Kd → Rho
  | .nm i => shareR ρ i
  | _ => ρ
/-- a pending value may be held by others from now on -/
theorem Rel.settle (R : Rel G O σ H ρ (t :: T)) (e : cur ρ (t.d, t.k) = some d) : ∃ O', Rel G O' σ H (settleR ρ t.k) (⟨t.v, d, .shr⟩ :: T) := by
  have h := R.tm.1
  unfold TmpOk at h
  unfold cur at e
  cases q : t.k with
  | shr =>
    rw [q] at h e; cases e
    exact ⟨O, R.pop.push h⟩
  | fr =>
    rw [q] at h e; cases e
    have R2 := R.pop.dropW (.tp T.length) (by simp) (fun i s _ _ z => by cases z) (fun n hn z => by cases z; exact Nat.lt_irrefl _ hn)
    refine ⟨_, R2.push ?_⟩
    show Rep _ _ _ _ _
    exact OwnX.rep reO_stay h fun a o e1 e2 => ⟨reO_eq e1, e2⟩
  | nm i =>
    rw [q] at h e
    dsimp only at e h
    split at e
    · rename_i s hs
      cases e
      obtain ⟨O', v, R', e1, r⟩ := R.pop.share hs
      rw [h] at e1
      cases e1
      exact ⟨O', R'.push r⟩
    · cases e
/-- an owned object is written -/
theorem Rel.write {i : Nat} {s : Slot} {a : Addr} {ho ho' : HO} (R : Rel G O σ H ρ T) (e : ρ[i]? = some (some s)) (ow : s.own = true) (hv : σ[i]? = some (some (.ref a))) (ha : H a = some ho) (c : Cont G.K H (lin O) ho' d) :
    Rel G O σ (upd H a ho') (ρ.set i (some { s with d := d })) T ∧ O a = some (.sl i) := by
  have hi : i < ρ.length := (List.getElem?_eq_some_iff.mp e).1
  obtain ⟨v, h1, h2⟩ := R.sl i s e
  rw [hv] at h1; cases h1
  unfold SlotOk at h2
  rw [ow] at h2
  obtain ⟨a1, ho1, ev, ea, hh⟩ := OwnX.root h2
  cases ev
  have pl := OwnX.plain h2 ha
  have hs : Stay H (upd H a ho') (lin O) (lin O) := fun b o n eb => by
    refine ⟨?_, n⟩
    rw [upd_ne]
    · exact eb
    · intro z; exact n (by unfold lin; rw [z, ea]; simp)
  refine ⟨⟨by simpa using R.len, fun b o eb => ?_, R.ot, fun b w eb => ?_, fun j u hj => ?_, fun j u hj => ?_, ?_⟩, ea⟩
  · obtain ⟨p1, p2⟩ := R.fr b o eb
    rw [upd_ne]
    · exact ⟨p1, p2⟩
    · intro z
      rw [z, ea] at p2
      rcases p2 with p2 | p2 <;> cases p2
  · exact (R.tr b w eb).upd ha pl
  · obtain ⟨p, s', b, c⟩ := R.pn j u hj
    refine ⟨p, ?_⟩
    by_cases z : j = i
    · subst z
      rw [e] at b; cases b
      exact ⟨_, List.getElem?_set_self hi, c⟩
    · exact ⟨s', by rw [List.getElem?_set_ne (Ne.symm z)]; exact b, c⟩
  · by_cases z : j = i
    · subst z
      rw [List.getElem?_set_self hi] at hj
      cases hj
      refine ⟨_, hv, ?_⟩
      unfold SlotOk
      dsimp only
      rw [ow]
      exact .inl ⟨a, ho', rfl, ea, upd_same, c.mono hs⟩
    · rw [List.getElem?_set_ne (Ne.symm z)] at hj
      obtain ⟨v', p1, p2⟩ := R.sl j u hj
      refine ⟨v', p1, slot_mono hs (fun b o e1 e2 => ?_) p2⟩
      rw [upd_ne]
      · exact ⟨e1, e2⟩
      · intro y
        rw [y, ea] at e1
        cases e1
        exact z rfl
  · refine tmps_mono hs (fun b o n hn e1 e2 => ?_) R.tm
    rw [upd_ne]
    · exact ⟨e1, e2⟩
    · intro y
      rw [y, ea] at e1
      cases e1
/-- is the slot a pinned one? -/
def pinned (ρ : Rho) (i : Nat) : Bool := match ρ[i]? with
  | some (some s) => s.pin
  | some none => false
  | none => true
/-- a pending value goes to a slot -/
def ownOf : Kd → Bool
  | .fr => true
  | _ => false
/-- none of them is a name's -/
def NoNm (T : List Tmp) : Prop := ∀ t ∈ T, ∀ i, t.k ≠ .nm i
theorem NoNm.nil : NoNm [] := fun _ h => by cases h
theorem NoNm.cons (h : NoNm T) (ht : ∀ i, t.k ≠ .nm i) : NoNm (t :: T) := fun u hu => by
  rcases List.mem_cons.mp hu with e | e
  · rw [e]; exact ht
  · exact h u e
theorem tmps_slots {σ' : St} : ∀ {T : List Tmp}, (∀ t ∈ T, ∀ i, t.k = .nm i → σ'[i]? = σ[i]?) → TmpsOk K H O σ T → TmpsOk K H O σ' T
  | [], _, _ => trivial
  | t :: T, h, ⟨a, b⟩ => ⟨by
      unfold TmpOk at a ⊢
      cases q : t.k with
      | shr => rw [q] at a; exact a
      | fr => rw [q] at a; exact a
      | nm i =>
        rw [q] at a
        dsimp only at a ⊢
        rw [h t List.mem_cons_self i q]; exact a, tmps_slots (fun u hu => h u (List.mem_cons_of_mem _ hu)) b⟩
theorem Rel.assign {i : Nat} (hT : NoNm T) (R : Rel G O σ H ρ (t :: T)) (e : cur ρ (t.d, t.k) = some d) (hp : pinned (settleR ρ t.k) i = false) :
    ∃ O', Rel G O' (σ.set i (some t.v)) H ((settleR ρ t.k).set i (some ⟨d, ownOf t.k, false⟩)) T := by
  -- the store of a value that is shared, or new
  have fin : ∀ {O1 : Own} {ρ1 : Rho} {b : Bool}, Rel G O1 σ H ρ1 T → pinned ρ1 i = false →
      (if b = true then OwnX G.K H O1 (.tp T.length) t.v d else Rep G.K H (lin O1) t.v d) → ∃ O', Rel G O' (σ.set i (some t.v)) H (ρ1.set i (some ⟨d, b, false⟩)) T := by
    intro O1 ρ1 b R1 hp1 h
    have hi : i < ρ1.length := by
      unfold pinned at hp1
      cases q : ρ1[i]? with
      | none => rw [q] at hp1; cases hp1
      | some _ => exact (List.getElem?_eq_some_iff.mp q).1
    have hiσ : i < σ.length := by rw [← R1.len]; exact hi
    have pins : ∀ j u, G.Pin j = some u → (σ.set i (some t.v))[j]? = some (some u) ∧ ∃ s, (ρ1.set i (some ⟨d, b, false⟩))[j]? = some (some s) ∧ s.pin = true := fun j u hj => by
      obtain ⟨p, s', q, c⟩ := R1.pn j u hj
      have z : j ≠ i := fun z => by
        subst z
        unfold pinned at hp1
        rw [q] at hp1
        dsimp only at hp1
        rw [c] at hp1; cases hp1
      exact ⟨by rw [List.getElem?_set_ne (Ne.symm z)]; exact p, s', by rw [List.getElem?_set_ne (Ne.symm z)]; exact q, c⟩
    have tms : TmpsOk G.K H O1 (σ.set i (some t.v)) T := tmps_slots (fun u hu j hj => absurd hj (hT u hu j)) R1.tm
    cases b with
    | false =>
      have h : Rep G.K H (lin O1) t.v d := by simpa using h
      refine ⟨O1, by simpa using R1.len, R1.fr, R1.ot, R1.tr, pins, fun j u hj => ?_, tms⟩
      by_cases z : j = i
      · subst z
        rw [List.getElem?_set_self hi] at hj
        cases hj
        exact ⟨t.v, List.getElem?_set_self hiσ, h⟩
      · rw [List.getElem?_set_ne (Ne.symm z)] at hj ⊢
        exact R1.sl j u hj
    | true =>
      have h : OwnX G.K H O1 (.tp T.length) t.v d := by simpa using h
      have hs : Stay H H (lin O1) (lin (reO O1 (.tp T.length) (some (.sl i)))) := reO_stay
      refine ⟨reO O1 (.tp T.length) (some (.sl i)), by simpa using R1.len, fun b o e => ?_, fun b => ?_, fun a w e => ?_, pins, fun j u hj => ?_, ?_⟩
      · obtain ⟨p1, p2⟩ := R1.fr b o e
        rw [reO_ne (fun z => ?_)]
        · exact ⟨p1, p2⟩
        · rw [z] at p2
          rcases p2 with p2 | p2 <;> cases p2
      · by_cases z : O1 b = some (.tp T.length)
        · rw [reO_eq z]
          constructor
          · intro q; cases q
          · intro q
            have := (R1.ot b).mpr q
            rw [z] at this; cases this
        · rw [reO_ne z]; exact R1.ot b
      · by_cases z : O1 a = some (.tp T.length)
        · exact R1.tr a _ z
        · rw [reO_ne z] at e; exact R1.tr a w e
      · by_cases z : j = i
        · subst z
          rw [List.getElem?_set_self hi] at hj
          cases hj
          refine ⟨t.v, List.getElem?_set_self hiσ, ?_⟩
          exact OwnX.mono hs h fun a o e1 e2 => ⟨reO_eq e1, e2⟩
        · rw [List.getElem?_set_ne (Ne.symm z)] at hj ⊢
          obtain ⟨v', p1, p2⟩ := R1.sl j u hj
          exact ⟨v', p1, slot_mono hs (fun a o e1 e2 => ⟨reO_other e1 fun y => (by cases y), e2⟩) p2⟩
      · exact tmps_mono hs (fun a o n hn e1 e2 => ⟨reO_other e1 fun y => (by cases y; exact absurd hn (Nat.lt_irrefl _)), e2⟩) tms
  cases q : t.k with
  | fr =>
    rw [q] at hp
    have h := R.tm.1
    unfold TmpOk at h
    unfold cur at e
    rw [q] at h e
    cases e
    exact fin (b := true) R.pop hp (by simpa using h)
  | shr =>
    rw [q] at hp
    obtain ⟨O1, R1⟩ := R.settle e
    rw [q] at R1
    exact fin (b := false) R1.pop hp (show Rep _ _ _ _ _ from R1.tm.1)
  | nm j =>
    rw [q] at hp
    obtain ⟨O1, R1⟩ := R.settle e
    rw [q] at R1
    exact fin (b := false) R1.pop hp (show Rep _ _ _ _ _ from R1.tm.1)
/-- a pending new object is written -/
theorem Rel.writeT {a : Addr} {ho ho' : HO} {d0 : D} (R : Rel G O σ H ρ (⟨.ref a, d0, .fr⟩ :: T)) (ha : H a = some ho) (c : Cont G.K H (lin O) ho' d) : Rel G O σ (upd H a ho') ρ (⟨.ref a, d, .fr⟩ :: T) := by
  obtain ⟨a1, ho1, ev, ea, hh⟩ := OwnX.root (show OwnX _ _ _ _ _ _ from R.tm.1)
  cases ev
  have pl := OwnX.plain (show OwnX _ _ _ _ _ _ from R.tm.1) ha
  have hs : Stay H (upd H a ho') (lin O) (lin O) := fun b o n eb => by
    refine ⟨?_, n⟩
    rw [upd_ne]
    · exact eb
    · intro z; exact n (by unfold lin; rw [z, ea]; simp)
  refine ⟨R.len, fun b o eb => ?_, R.ot, fun b w eb => ?_, R.pn, fun j u hj => ?_, ⟨.inl ⟨a, ho', rfl, ea, upd_same, c.mono hs⟩, ?_⟩⟩
  · obtain ⟨p1, p2⟩ := R.fr b o eb
    rw [upd_ne]
    · exact ⟨p1, p2⟩
    · intro z
      rw [z, ea] at p2
      rcases p2 with p2 | p2 <;> cases p2
  · exact (R.tr b w eb).upd ha pl
  · obtain ⟨v', p1, p2⟩ := R.sl j u hj
    refine ⟨v', p1, slot_mono hs (fun b o e1 e2 => ?_) p2⟩
    rw [upd_ne]
    · exact ⟨e1, e2⟩
    · intro y
      rw [y, ea] at e1
      cases e1
  · refine tmps_mono hs (fun b o n hn e1 e2 => ?_) R.tm.2
    rw [upd_ne]
    · exact ⟨e1, e2⟩
    · intro y
      rw [y, ea] at e1
      cases e1
      exact absurd hn (Nat.lt_irrefl _)
/-- one pending value alone -/
theorem Rel.only (R : Rel G O σ H ρ (t :: T)) : ∃ O', Rel G O' σ H ρ [t] := by
  cases q : t.k with
  | shr =>
    refine ⟨O, R.nil.push ?_⟩
    have h := R.tm.1
    unfold TmpOk at h ⊢
    rw [q] at h ⊢; exact h
  | nm i =>
    refine ⟨O, R.nil.push ?_⟩
    have h := R.tm.1
    unfold TmpOk at h ⊢
    rw [q] at h ⊢; exact h
  | fr =>
    have h := R.tm.1
    unfold TmpOk at h
    rw [q] at h
    have hs : Stay H H (lin O) (lin (reO O (.tp T.length) (some (.tp 0)))) := reO_stay
    refine ⟨reO O (.tp T.length) (some (.tp 0)), R.len, fun b o e => ?_, fun b => ?_, fun a w e => ?_, R.pn, fun j u hj => ?_, ⟨?_, trivial⟩⟩
    · obtain ⟨p1, p2⟩ := R.fr b o e
      rw [reO_ne (fun z => ?_)]
      · exact ⟨p1, p2⟩
      · rw [z] at p2
        rcases p2 with p2 | p2 <;> cases p2
    · by_cases z : O b = some (.tp T.length)
      · rw [reO_eq z]
        constructor
        · intro q; cases q
        · intro q
          have := (R.ot b).mpr q
          rw [z] at this; cases this
      · rw [reO_ne z]; exact R.ot b
    · by_cases z : O a = some (.tp T.length)
      · exact R.tr a _ z
      · rw [reO_ne z] at e; exact R.tr a w e
    · obtain ⟨v', p1, p2⟩ := R.sl j u hj
      exact ⟨v', p1, slot_mono hs (fun a o e1 e2 => ⟨reO_other e1 fun y => (by cases y), e2⟩) p2⟩
    · unfold TmpOk
      rw [q]
      exact OwnX.mono hs h fun a o e1 e2 => ⟨reO_eq e1, e2⟩
end
end L2.VL
end
section
set_option Elab.async false
set_option linter.all false
set_option maxRecDepth 100000
namespace L2.VL
open PySem PySem.Spec PyProof.Rows
/-- an exception: its class by the name that the module gives it, its fields -/
structure Exn where
  c : Str
  fs : Option (List (Str × D))
inductive Res (α : Type) where
  | stuck | ok (a : α) (ρ : Rho) | ex (x : Exn) (ρ : Rho)
def M (α : Type) : Type := Rho → Res α
def M.bind {α β : Type} (m : M α) (f : α → M β) : M β := fun ρ => match m ρ with
  | .stuck => .stuck
  | .ok a ρ' => f a ρ'
  | .ex x ρ' => .ex x ρ'
def M.ret {α : Type} (a : α) : M α := fun ρ => .ok a ρ
instance : Monad M := { pure := M.ret, bind := M.bind }
def mStuck {α : Type} : M α := fun _ => .stuck
def mOpt {α : Type} (o : Option α) : M α := fun ρ => match o with
  | some a => .ok a ρ
  | none => .stuck
def Res.post {α : Type} (r : Res α) (Q : α → Rho → Prop) (E : Exn → Rho → Prop) : Prop := match r with
  | .stuck => False
  | .ok a ρ => Q a ρ
  | .ex x ρ => E x ρ
section
variable {α β : Type} {Q Q' : α → Rho → Prop} {R : β → Rho → Prop} {E E' : Exn → Rho → Prop} {ρ : Rho}
theorem post_bind (m : M α) (f : α → M β) : ((m >>= f) ρ).post R E ↔ (m ρ).post (fun a ρ' => (f a ρ').post R E) E := by
  show ((M.bind m f) ρ).post R E ↔ _
  unfold M.bind
  cases m ρ <;> exact Iff.rfl
theorem post_opt (o : Option α) : ((mOpt o) ρ).post Q E ↔ ∃ a, o = some a ∧ Q a ρ := by
  unfold mOpt
  cases o with
  | none => exact ⟨fun h => h.elim, fun ⟨_, e, _⟩ => by cases e⟩
  | some a => exact ⟨fun h => ⟨a, rfl, h⟩, fun ⟨_, e, h⟩ => by cases e; exact h⟩
theorem Res.post_mono {r : Res α} (h : r.post Q E) (h1 : ∀ a ρ, Q a ρ → Q' a ρ) (h2 : ∀ x ρ, E x ρ → E' x ρ) : r.post Q' E' := by
  cases r with
  | stuck => exact h
  | ok a ρ => exact h1 a ρ h
  | ex x ρ => exact h2 x ρ h
theorem Res.post_ok {r : Res α} (h : r.post Q E) (h1 : ∀ a ρ, Q a ρ → Q' a ρ) : r.post Q' E := Res.post_mono h h1 fun _ _ z => z
end
def dcur (x : D × Kd) : M D := fun ρ => match cur ρ x with
  | some d => .ok d ρ
  | none => .stuck
theorem post_cur {x : D × Kd} {Q : D → Rho → Prop} {E : Exn → Rho → Prop} {ρ : Rho} : ((dcur x) ρ).post Q E ↔ ∃ d, cur ρ x = some d ∧ Q d ρ := by
  unfold dcur
  cases cur ρ x with
  | none => exact ⟨fun h => h.elim, fun ⟨_, e, _⟩ => by cases e⟩
  | some a => exact ⟨fun h => ⟨a, rfl, h⟩, fun ⟨_, e, h⟩ => by cases e; exact h⟩
def settleM (k : Kd) : M Unit := fun ρ => .ok () (settleR ρ k)
/-- an exception's fields -/
def ExnRep (K : PySem.W.Frag) (H : Hp) (O : Own) (x : Exn) (dd : Option Addr) : Prop := match x.fs with
  | none => dd = none
  | some fs => ∃ d vs, dd = some d ∧ H d = some (.xd vs) ∧ vs.map (·.1) = fs.map (·.1) ∧ Reps K H (lin O) (vs.map (·.2)) (fs.map (·.2)) ∧ ¬ lin O d
def clsV (K : PySem.W.Frag) (c : Str) : Value := .ref (He.ga K c)
def EX (G : Fix) (σ : St) (W : WX) (x : Exn) (ρ' : Rho) : Prop := ∀ O' H' dd, Rel G O' σ H' ρ' [] → ExnRep G.K H' O' x dd → W (clsV G.K x.c) dd σ H'
abbrev DE := M (D × Kd)
def tE (K : PySem.W.Frag) (W : WX) (r : DE) : TE := fun σ H Q => ∃ G O ρ, G.K = K ∧ Rel G O σ H ρ [] ∧
  (r ρ).post (fun x ρ' => ∀ O' v H', Rel G O' σ H' ρ' [⟨v, x.1, x.2⟩] → Q v H') (EX G σ W)
def SE (X : Cx) (e : Expr) (r : DE) : Prop := ∀ W, Takes X W → PE X e (tE X.K W r)
def tT (K : PySem.W.Frag) (W : WX) (r : M Bool) : TT := fun σ H Q => ∃ G O ρ, G.K = K ∧ Rel G O σ H ρ [] ∧
  (r ρ).post (fun b ρ' => ∀ O' H', Rel G O' σ H' ρ' [] → Q b H') (EX G σ W)
def ST (X : Cx) (e : Expr) (r : M Bool) : Prop := ∀ W, Takes X W → PT X e (tT X.K W r)
theorem PE.imp {X : Cx} {e : Expr} {t t' : TE} (h : PE X e t) (i : ∀ σ H Q, t' σ H Q → t σ H Q) : PE X e t' := ⟨fun pins s σ H Q I q => h.run pins s σ H Q I (i σ H Q q)⟩
theorem PT.imp {X : Cx} {e : Expr} {t t' : TT} (h : PT X e t) (i : ∀ σ H Q, t' σ H Q → t σ H Q) : PT X e t' := ⟨fun pins s σ H Q I q => h.run pins s σ H Q I (i σ H Q q)⟩
theorem PA.imp {X : Cx} {e : List Expr} {t t' : TA} (h : PA X e t) (i : ∀ σ H Q, t' σ H Q → t σ H Q) : PA X e t' := ⟨fun pos pins s σ H Q I q => h.run pos pins s σ H Q I (i σ H Q q)⟩
theorem PS.imp {X : Cx} {e : Stmt} {t t' : TS} (h : PS X e t) (i : ∀ D σ H, t' D σ H → t D σ H) : PS X e t' := ⟨fun pins s σ H D I q => h.run pins s σ H D I (i D σ H q)⟩
theorem PSs.imp {X : Cx} {e : List Stmt} {t t' : TS} (h : PSs X e t) (i : ∀ D σ H, t' D σ H → t D σ H) : PSs X e t' := ⟨fun pins s σ H D I q => h.run pins s σ H D I (i D σ H q)⟩
def frG (G : Fix) (O : Own) (H : Hp) : Fix :=
  { K := G.K, Pin := G.Pin, Out := fun b => (∃ n, O b = some (.tp n)) ∨ O b = some .out ∨ (G.Tb b).isSome = true, Fr := fun b => if (G.Tb b).isSome = true then none else match O b with
    | some (.sl _) => none
    | _ => H b, tbo := fun P q h => by
      have h : G.Tb P = some q := h
      rw [h]
      exact ⟨.inr (.inr rfl), if_pos rfl⟩ }
theorem tb_out {G : Fix} {O : Own} {σ : St} {H : Hp} {ρ : Rho} {T : List Tmp} (R : Rel G O σ H ρ T) {P : Addr} {q : Str} (h : G.Tb P = some q) : O P = some .out := (R.ot P).mpr (G.tbo P q h).1
theorem tb_sl {G : Fix} {O : Own} {σ : St} {H : Hp} {ρ : Rho} {T : List Tmp} (R : Rel G O σ H ρ T) {a : Addr} (n : O a ≠ some .out) : (G.Tb a).isSome = false := by
  cases e : G.Tb a with
  | none => rfl
  | some q => exact absurd (tb_out R e) n
theorem tb_is {G : Fix} {O : Own} {σ : St} {H : Hp} {ρ : Rho} {T : List Tmp} (R : Rel G O σ H ρ T) {a : Addr} (h : (G.Tb a).isSome = true) : O a = some .out := by
  obtain ⟨q, e⟩ := Option.isSome_iff_exists.mp h
  exact tb_out R e
theorem frG_fr {G : Fix} {O : Own} {H : Hp} {b : Addr} (h : (G.Tb b).isSome = false) (n : ∀ i, O b ≠ some (.sl i)) : (frG G O H).Fr b = H b := by
  unfold frG
  dsimp only
  rw [if_neg (by rw [h]; simp)]
  cases q : O b with
  | none => rfl
  | some w =>
    cases w with
    | sl i => exact absurd q (n i)
    | tp k => rfl
    | out => rfl
theorem tb_none {G : Fix} {b : Addr} {o : HO} (h : G.Fr b = some o) : G.Tb b = none := by
  cases e : G.Tb b with
  | none => rfl
  | some q => rw [(G.tbo b q e).2] at h; cases h
def frO (O : Own) : Own := fun b => match O b with
  | some (.tp _) => some .out
  | w => w
def unO (O O1 : Own) (n : Nat) : Own := fun b => match O b with
  | some (.tp k) => some (.tp k)
  | some .out => some .out
  | _ => match O1 b with
    | some (.tp m) => some (.tp (m + n))
    | w => w
section
variable {G : Fix} {O O1 : Own} {σ : St} {H H' : Hp} {ρ ρ' : Rho} {T T' : List Tmp}
theorem lin_frO {a : Addr} : lin (frO O) a ↔ lin O a := by
  unfold lin frO
  cases O a with
  | none => exact Iff.rfl
  | some w => cases w <;> simp
theorem Rel.frame (R : Rel G O σ H ρ T) : Rel (frG G O H) (frO O) σ H ρ [] := by
  have hs : Stay H H (lin O) (lin (frO O)) := fun a o n e => ⟨e, fun z => n (lin_frO.mp z)⟩
  refine ⟨R.len, fun b o e => ?_, fun b => ?_, fun a w e => ?_, R.pn, fun i s e => ?_, trivial⟩
  · replace e : (if (G.Tb b).isSome = true then none else match O b with
      | some (.sl _) => none
      | _ => H b) = some o := e
    split at e
    · cases e
    · unfold frO
      cases q : O b with
      | none => rw [q] at e; exact ⟨e, .inl rfl⟩
      | some w =>
        rw [q] at e
        cases w with
        | sl i => cases e
        | tp n => exact ⟨e, .inr rfl⟩
        | out => exact ⟨e, .inr rfl⟩
  · have tb : (G.Tb b).isSome = true → O b = some .out := tb_is R
    show frO O b = some .out ↔ ((∃ n, O b = some (.tp n)) ∨ O b = some .out ∨ (G.Tb b).isSome = true)
    unfold frO
    cases q : O b with
    | none =>
      rw [q] at tb
      constructor
      · intro z; cases z
      · rintro (⟨n, z⟩ | z | z)
        · cases z
        · cases z
        · exact tb z
    | some w =>
      rw [q] at tb
      cases w with
      | sl i =>
        constructor
        · intro z; cases z
        · rintro (⟨n, z⟩ | z | z)
          · cases z
          · cases z
          · exact tb z
      | tp n => exact ⟨fun _ => .inl ⟨n, rfl⟩, fun _ => rfl⟩
      | out => exact ⟨fun _ => .inr (.inl rfl), fun _ => rfl⟩
  · have : lin O a := lin_frO.mp (by unfold lin; rw [e]; simp)
    unfold lin at this
    cases q : O a with
    | none => exact absurd q this
    | some w' => exact R.tr a w' q
  · obtain ⟨v, h1, h2⟩ := R.sl i s e
    refine ⟨v, h1, slot_mono hs (fun a o e1 e2 => ⟨?_, e2⟩) h2⟩
    unfold frO
    rw [e1]
theorem Rel.unframe {σ' : St} (hσ : ∀ t ∈ T, ∀ i, t.k = .nm i → σ'[i]? = σ[i]?) (R : Rel G O σ H ρ T) (R' : Rel (frG G O H) O1 σ' H' ρ' T') : Rel G (unO O O1 T.length) σ' H' ρ' (T' ++ T) := by
  -- what O says of O1
  have nout : ∀ a, (O a = none ∨ ∃ i, O a = some (.sl i)) → O1 a ≠ some .out := fun a h z => by
    have := (R'.ot a).mp z
    rcases this with ⟨n, q⟩ | q | q
    · rcases h with h | ⟨i, h⟩ <;> (rw [q] at h; cases h)
    · rcases h with h | ⟨i, h⟩ <;> (rw [q] at h; cases h)
    · have q := tb_is R q
      rcases h with h | ⟨i, h⟩ <;> (rw [q] at h; cases h)
  have isout : ∀ a, ((∃ n, O a = some (.tp n)) ∨ O a = some .out) → O1 a = some .out := fun a h => (R'.ot a).mpr (h.imp id .inl)
  have fr0 : ∀ a o, O a = none → H a = some o → H' a = some o ∧ O1 a = none := fun a o e1 e2 => by
    obtain ⟨p, q⟩ := R'.fr a o (by rw [frG_fr (tb_sl R (by rw [e1]; simp)) (fun i => by rw [e1]; simp)]; exact e2)
    exact ⟨p, q.resolve_right (nout a (.inl e1))⟩
  have frT : ∀ a n o, O a = some (.tp n) → H a = some o → H' a = some o := fun a n o e1 e2 => (R'.fr a o (by rw [frG_fr (tb_sl R (by rw [e1]; simp)) (fun i => by rw [e1]; simp)]; exact e2)).1
  have frX : ∀ a o, O a = some .out → G.Tb a = none → H a = some o → H' a = some o := fun a o e1 et e2 => (R'.fr a o (by rw [frG_fr (by rw [et]; rfl) (fun i => by rw [e1]; simp)]; exact e2)).1
  have hs : Stay H' H' (lin O1) (lin (unO O O1 T.length)) := fun a o n e => by
    refine ⟨e, fun z => ?_⟩
    unfold lin unO at z
    unfold lin at n
    have n' : O1 a = none := by
      cases q : O1 a with
      | none => rfl
      | some _ => exact absurd (by rw [q]; simp) n
    cases q : O a with
    | none => rw [q] at z; dsimp only at z; rw [n'] at z; exact z rfl
    | some w =>
      cases w with
      | sl i => rw [q] at z; dsimp only at z; rw [n'] at z; exact z rfl
      | tp k => rw [isout a (.inl ⟨k, q⟩)] at n'; cases n'
      | out => rw [isout a (.inr q)] at n'; cases n'
  have hsT : Stay H H' (lin O) (lin (unO O O1 T.length)) := fun a o n e => by
    have n' : O a = none := by
      cases q : O a with
      | none => rfl
      | some _ => exact absurd (show lin O a by unfold lin; rw [q]; simp) n
    obtain ⟨p, q⟩ := fr0 a o n' e
    refine ⟨p, fun z => ?_⟩
    unfold lin unO at z
    rw [n'] at z
    dsimp only at z
    rw [q] at z
    exact z rfl
  refine ⟨R'.len, fun b o e => ?_, fun b => ?_, fun a w e => ?_, R'.pn, fun i s e => ?_, ?_⟩
  · obtain ⟨p, q⟩ := R.fr b o e
    rcases q with q | q
    · obtain ⟨p2, q2⟩ := fr0 b o q p
      exact ⟨p2, .inl (by unfold unO; rw [q]; dsimp only; rw [q2])⟩
    · exact ⟨frX b o q (tb_none e) p, .inr (by unfold unO; rw [q])⟩
  · constructor
    · intro z
      unfold unO at z
      cases q : O b with
      | none =>
        rw [q] at z
        dsimp only at z
        cases q2 : O1 b with
        | none => rw [q2] at z; cases z
        | some w =>
          rw [q2] at z
          cases w with
          | sl i => cases z
          | tp n => cases z
          | out => exact absurd q2 (nout b (.inl q))
      | some w =>
        cases w with
        | sl i =>
          rw [q] at z
          dsimp only at z
          cases q2 : O1 b with
          | none => rw [q2] at z; cases z
          | some w =>
            rw [q2] at z
            cases w with
            | sl i => cases z
            | tp n => cases z
            | out => exact absurd q2 (nout b (.inr ⟨i, q⟩))
        | tp k => rw [q] at z; cases z
        | out => exact (R.ot b).mp q
    · intro z
      unfold unO
      rw [(R.ot b).mpr z]
  · have noT : O a ≠ some .out → ∀ q, G.Tb a = some q → LamX.TabS H' a q := fun n q hq => absurd (tb_out R hq) n
    cases q : O a with
    | none =>
      unfold unO at e
      rw [q] at e
      dsimp only at e
      cases q2 : O1 a with
      | none => rw [q2] at e; cases e
      | some w => exact ⟨(R'.tr a w q2).1, noT (by rw [q]; simp)⟩
    | some w =>
      cases w with
      | sl i =>
        unfold unO at e
        rw [q] at e
        dsimp only at e
        cases q2 : O1 a with
        | none => rw [q2] at e; cases e
        | some w => exact ⟨(R'.tr a w q2).1, noT (by rw [q]; simp)⟩
      | tp k =>
        obtain ⟨o, ho⟩ := (R.tr a _ q).1
        exact ⟨⟨o, frT a k o q ho⟩, noT (by rw [q]; simp)⟩
      | out =>
        obtain ⟨t1, t2⟩ := R'.tr a _ (isout a (.inr q))
        exact ⟨t1, fun z hz => t2 z hz⟩
  · obtain ⟨v, h1, h2⟩ := R'.sl i s e
    refine ⟨v, h1, slot_mono hs (fun a o e1 e2 => ⟨?_, e2⟩) h2⟩
    unfold unO
    cases q : O a with
    | none => dsimp only; rw [e1]
    | some w =>
      cases w with
      | sl i => dsimp only; rw [e1]
      | tp k => rw [isout a (.inl ⟨k, q⟩)] at e1; cases e1
      | out => rw [isout a (.inr q)] at e1; cases e1
  · have tail : TmpsOk G.K H' (unO O O1 T.length) σ' T := tmps_mono hsT (fun a o n _ e1 e2 => ⟨by unfold unO; rw [e1], frT a n o e1 e2⟩) (tmps_slots hσ R.tm)
    have all : ∀ T' : List Tmp, TmpsOk G.K H' O1 σ' T' → TmpsOk G.K H' (unO O O1 T.length) σ' (T' ++ T) := by
      intro T'
      induction T' with
      | nil => intro _; exact tail
      | cons t r ih =>
        rintro ⟨h1, h2⟩
        refine ⟨?_, ih h2⟩
        show TmpOk G.K H' (unO O O1 T.length) σ' (r ++ T).length t
        rw [List.length_append]
        unfold TmpOk at h1 ⊢
        cases q : t.k with
        | shr => rw [q] at h1; exact h1.mono hs
        | fr =>
          rw [q] at h1
          refine OwnX.mono hs h1 fun a o e1 e2 => ⟨?_, e2⟩
          unfold unO
          cases q : O a with
          | none => dsimp only; rw [e1]
          | some w =>
            cases w with
            | sl i => dsimp only; rw [e1]
            | tp k => rw [isout a (.inl ⟨k, q⟩)] at e1; cases e1
            | out => rw [isout a (.inr q)] at e1; cases e1
        | nm i => rw [q] at h1; exact h1
    exact all T' R'.tm
theorem ExnRep.unframe {σ' : St} {x : Exn} {dd : Option Addr} {n : Nat} (R' : Rel (frG G O H) O1 σ' H' ρ' []) (er : ExnRep G.K H' O1 x dd) : ExnRep G.K H' (unO O O1 n) x dd := by
  unfold ExnRep at er ⊢
  cases q : x.fs with
  | none => rw [q] at er; exact er
  | some fs =>
    rw [q] at er
    obtain ⟨d, vs, e1, e2, e3, e4, e5⟩ := er
    have key : ∀ a, ¬ lin O1 a → ¬ lin (unO O O1 n) a := fun a n z => n (by
      unfold lin at z ⊢
      intro z2
      unfold unO at z
      cases q : O a with
      | none => rw [q] at z; dsimp only at z; rw [z2] at z; exact z rfl
      | some w =>
        cases w with
        | sl i => rw [q] at z; dsimp only at z; rw [z2] at z; exact z rfl
        | tp k => rw [(R'.ot a).mpr (.inl ⟨k, q⟩)] at z2; cases z2
        | out => rw [(R'.ot a).mpr (.inr (.inl q))] at z2; cases z2)
    exact ⟨d, vs, e1, e2, e3, e4.mono fun a o n e => ⟨e, key a n⟩, key d e5⟩
theorem EX.unframe {W : WX} {σ' : St} {x : Exn} (R : Rel G O σ H ρ T) (h : EX G σ' W x ρ') : EX (frG G O H) σ' W x ρ' := fun O' H' dd R' er =>
  h _ H' dd (R.nil.unframe (T := []) (T' := []) (fun _ z => by cases z) R') (ExnRep.unframe R' er)
/-- a reading within the frame of what is pending -/
theorem tE.at {K : PySem.W.Frag} {W : WX} {r : DE} {Q : VK} (hK : G.K = K) (R : Rel G O σ H ρ T) (h : (r ρ).post (fun x ρ' => ∀ O' v H', Rel G O' σ H' ρ' (⟨v, x.1, x.2⟩ :: T) → Q v H') (EX G σ W)) : tE K W r σ H Q :=
  ⟨frG G O H, frO O, ρ, hK, R.frame, Res.post_mono h (fun x ρ' q O' v H' R' => q _ v H' (R.unframe (fun _ _ _ _ => rfl) R')) fun x ρ' q => EX.unframe R q⟩
theorem tT.at {K : PySem.W.Frag} {W : WX} {r : M Bool} {Q : Bool → Hp → Prop} (hK : G.K = K) (R : Rel G O σ H ρ T) (h : (r ρ).post (fun b ρ' => ∀ O' H', Rel G O' σ H' ρ' T → Q b H') (EX G σ W)) : tT K W r σ H Q :=
  ⟨frG G O H, frO O, ρ, hK, R.frame, Res.post_mono h (fun x ρ' q O' H' R' => q _ H' (R.unframe (T' := []) (fun _ _ _ _ => rfl) R')) fun x ρ' q => EX.unframe R q⟩
end
inductive Fl where
  | nx | brk | cnt | ret (d : D) (fr : Bool)
abbrev DS := M Fl
def frK (b : Bool) : Kd := match b with
  | true => .fr
  | false => .shr
def FlOk (G : Fix) (D : Ends) (T : List Tmp) (f : Fl) (ρ' : Rho) : Prop := match f with
  | .nx => ∀ O' σ' H', Rel G O' σ' H' ρ' T → D.nx σ' H'
  | .brk => ∀ O' σ' H', Rel G O' σ' H' ρ' T → D.bk σ' H'
  | .cnt => ∀ O' σ' H', Rel G O' σ' H' ρ' T → D.ct σ' H'
  | .ret d b => ∀ O' σ' v H', Rel G O' σ' H' ρ' (⟨v, d, frK b⟩ :: T) → D.rt v H'
def EXs (G : Fix) (W : WX) (x : Exn) (ρ' : Rho) : Prop := ∀ σ', EX G σ' W x ρ'
def tS (K : PySem.W.Frag) (W : WX) (r : DS) : TS := fun D σ H => ∃ G O ρ, G.K = K ∧ Rel G O σ H ρ [] ∧ (r ρ).post (FlOk G D []) (EXs G W)
/-- what is handed back, seen through p -/
def _root_.L2.Ends.re (p : VK → VK) (D : Ends) : Ends := { D with rt := p D.rt }
def SSf (p : VK → VK) (X : Cx) (st : Stmt) (r : DS) : Prop := ∀ W, Takes X W → PS X st fun D => tS X.K W r (D.re p)
def SSsf (p : VK → VK) (X : Cx) (st : List Stmt) (r : DS) : Prop := ∀ W, Takes X W → PSs X st fun D => tS X.K W r (D.re p)
abbrev SS (X : Cx) (st : Stmt) (r : DS) : Prop := SSf id X st r
abbrev SSs (X : Cx) (st : List Stmt) (r : DS) : Prop := SSsf id X st r
section
variable {G : Fix} {O O1 : Own} {σ : St} {H H' : Hp} {ρ ρ' : Rho} {T T' : List Tmp}
theorem tS.at {K : PySem.W.Frag} {W : WX} {r : DS} {D : Ends} (hT : NoNm T) (hK : G.K = K) (R : Rel G O σ H ρ T) (h : (r ρ).post (FlOk G D T) (EXs G W)) : tS K W r D σ H := by
  have hσ : ∀ σ' : St, ∀ t ∈ T, ∀ i, t.k = .nm i → σ'[i]? = σ[i]? := fun σ' t ht i e => absurd e (hT t ht i)
  refine ⟨frG G O H, frO O, ρ, hK, R.frame, Res.post_mono h (fun f ρ' q => ?_) fun x ρ' q σ' => EX.unframe R (q σ')⟩
  cases f with
  | nx => exact fun O' σ' H' R' => q _ σ' H' (R.unframe (T' := []) (hσ σ') R')
  | brk => exact fun O' σ' H' R' => q _ σ' H' (R.unframe (T' := []) (hσ σ') R')
  | cnt => exact fun O' σ' H' R' => q _ σ' H' (R.unframe (T' := []) (hσ σ') R')
  | ret d b => exact fun O' σ' v H' R' => q _ σ' v H' (R.unframe (T' := [_]) (hσ σ') R')
/-- what is pending does not matter at the end -/
theorem FlOk.drop {D : Ends} {f : Fl} (h : FlOk G D [] f ρ') : FlOk G D T f ρ' := by
  cases f with
  | nx => exact fun O' σ' H' R' => h O' σ' H' R'.nil
  | brk => exact fun O' σ' H' R' => h O' σ' H' R'.nil
  | cnt => exact fun O' σ' H' R' => h O' σ' H' R'.nil
  | ret d b => exact fun O' σ' v H' R' => let ⟨O2, R2⟩ := R'.only; h O2 σ' v H' R2
end
end L2.VL
end
section
set_option Elab.async false
set_option linter.all false
set_option maxRecDepth 100000
namespace L2.VL
open PySem PySem.Spec PyProof.Rows
section
variable {X : Cx} {a b c e : Expr} {ra rb rc r : DE} {pos : Pos}
def dVar (i : Nat) : DE := fun ρ => match ρ[i]? with
  | some (some s) => .ok (s.d, .nm i) ρ
  | _ => .stuck
def dCon (v : V) : DE := pure (.con v, .shr)
theorem se_var (i : Nat) {x : Str} (hN : X.N[i]? = some x := by rfl) (hv : Vis X.env.scope x := by first | exact Or.inl rfl | exact Or.inr (Or.inl rfl) | exact Or.inr (Or.inr rfl)) (hd : (x == ("__debug__" : Str)) = false := by decide)
    (hcd : (x == ("__classdict__" : Str)) = false := by decide) : SE X (.Name x pos) (dVar i) := fun W tk => PE.imp (pe_var hN hv hd hcd) fun σ H Q ⟨G, O, ρ, hK, R, h⟩ => by
  unfold dVar at h
  split at h
  · rename_i s hs
    obtain ⟨v, h1, h2⟩ := R.sl i s hs
    exact ⟨v, h1, h O v H (R.push h1)⟩
  · exact h.elim
theorem se_tC {v : V} (h : PE X e (tC v)) : SE X e (dCon v) := fun W tk => PE.imp h fun σ H Q ⟨G, O, ρ, hK, R, h⟩ => h O v H (R.con v)
theorem se_int {i j} : SE X (.Constant (.int i) j pos) (dCon (.int i)) := se_tC pe_int
theorem se_bl {b j} : SE X (.Constant (.bool b) j pos) (dCon (.bl b)) := se_tC pe_bl
theorem se_non {j} : SE X (.Constant .none j pos) (dCon .non) := se_tC pe_non
theorem se_str {x j} : SE X (.Constant (.str x) j pos) (dCon (.str x)) := se_tC pe_str
theorem se_glob {x : Str} {v : V} {u : Value} (hm : X.mg x = some u) (r : RelV v u) (hg : Gl X x := by rfl) (hd : (x == ("__debug__" : Str)) = false := by decide) : SE X (.Name x pos) (dCon v) := se_tC (pe_glob hg hm r hd)
def dOp2 (g : D → D → Option (D × Kd)) (ra rb : DE) : DE := do
  let x ← ra
  let y ← rb
  let d ← dcur x
  let e ← dcur y
  mOpt (g d e)
def OpS2 (K : PySem.W.Frag) (r : R2) (g : D → D → Option (D × Kd)) : Prop := ∀ (G : Fix) (O : Own) (σ : St) (H : Hp) (ρ : Rho) (a b : V) (x y : D) (z : D × Kd) (Q : VK), G.K = K → Rel G O σ H ρ [] → Vw K H O a x → Vw K H O b y →
  g x y = some z → (∀ O' v H', Rel G O' σ H' ρ [⟨v, z.1, z.2⟩] → Q v H') → r a b H Q
theorem OpS2.tOp {K : PySem.W.Frag} {W : WX} {rr : R2} {g : D → D → Option (D × Kd)} (hs : OpS2 K rr g) (σ : St) (H : Hp) (Q : VK) (h : tE K W (dOp2 g ra rb) σ H Q) : L2.tOp rr (tE K W ra) (tE K W rb) σ H Q := by
  obtain ⟨G, O, ρ, hK, R, h⟩ := h
  refine tE.at hK R (Res.post_ok ((post_bind _ _).mp h) fun x ρ1 q O1 v H1 R1 => ?_)
  refine tE.at hK R1 (Res.post_ok ((post_bind _ _).mp q) fun y ρ2 q2 O2 w H2 R2 => ?_)
  obtain ⟨d, e1, q3⟩ := post_cur.mp ((post_bind _ _).mp q2)
  obtain ⟨e, e2, q4⟩ := post_cur.mp ((post_bind _ _).mp q3)
  obtain ⟨z, e3, q5⟩ := (post_opt _).mp q4
  have v1 := R2.view R2.tm.2.1 e1
  have v2 := R2.view R2.tm.1 e2
  rw [hK] at v1 v2
  exact hs G O2 σ H2 ρ2 v w d e z Q hK R2.nil v1 v2 e3 q5
theorem se_op {op : Operator} {rr : R2} {g : D → D → Option (D × Kd)} (ho : OpR X (binaryOp op) rr) (hs : OpS2 X.K rr g) (ha : SE X a ra) (hb : SE X b rb) : SE X (.BinOp a op b pos) (dOp2 g ra rb) :=
  fun W tk => PE.imp (pe_op ho (ha W tk) (hb W tk)) (hs.tOp)
theorem se_cmp {op : CmpOp} {rr : R2} {g : D → D → Option (D × Kd)} (ho : OpR X (compareOp op) rr) (hs : OpS2 X.K rr g) (ha : SE X a ra) (hb : SE X b rb) (hm : behindInMarks op b = false) : SE X (.Compare a [op] [b] pos) (dOp2 g ra rb) :=
  fun W tk => PE.imp (pe_cmpR ho (ha W tk) (hb W tk) hm) (hs.tOp)
theorem se_ix {rr : R2} {g : D → D → Option (D × Kd)} (ho : IxR X rr) (hs : OpS2 X.K rr g) (ha : SE X a ra) (hb : SE X b rb) (hp : PlainIx b) : SE X (.Subscript a b pos) (dOp2 g ra rb) :=
  fun W tk => PE.imp (pe_ix ho (ha W tk) (hb W tk) hp) (hs.tOp)
theorem OpS2.or {K : PySem.W.Frag} {r1 r2 : R2} {g1 g2 : D → D → Option (D × Kd)} (h1 : OpS2 K r1 g1) (h2 : OpS2 K r2 g2) : OpS2 K (fun x y H Q => r1 x y H Q ∨ r2 x y H Q) (fun x y => (g1 x y).or (g2 x y)) := by
  intro G O σ H ρ a b x y z Q hK R v1 v2 e q
  replace e : (g1 x y).or (g2 x y) = some z := e
  cases e1 : g1 x y with
  | none =>
    rw [e1] at e
    exact .inr (h2 G O σ H ρ a b x y z Q hK R v1 v2 (by simpa using e) q)
  | some u =>
    rw [e1] at e
    exact .inl (h1 G O σ H ρ a b x y z Q hK R v1 v2 (by rw [e1]; simpa using e) q)
def asB (d : D) : Option Bool := match d with
  | .con (.bl b) => some b
  | _ => none
/-- a value that is True or False, as a test -/
def dB (r : DE) : M Bool := do
  let x ← r
  let d ← dcur x
  mOpt (asB d)
theorem dB_post {G : Fix} {O : Own} {σ : St} {H : Hp} {ρ : Rho} {K : PySem.W.Frag} {W : WX} {Q : Bool → Hp → Prop} (hK : G.K = K) (R : Rel G O σ H ρ []) (h : ((dB r) ρ).post (fun b ρ' => ∀ O' H', Rel G O' σ H' ρ' [] → Q b H') (EX G σ W)) :
    tE K W r σ H fun x H' => ∃ k, x = .bl k ∧ Q k H' := by
  refine tE.at hK R (Res.post_ok ((post_bind _ _).mp h) fun x ρ1 q O1 v H1 R1 => ?_)
  obtain ⟨d, e1, q3⟩ := post_cur.mp ((post_bind _ _).mp q)
  obtain ⟨b, e2, q4⟩ := (post_opt _).mp q3
  have v1 := R1.view R1.tm.1 e1
  unfold asB at e2
  split at e2
  · cases e2
    exact ⟨_, v1.con, q4 O1 H1 R1.pop⟩
  · cases e2
theorem st_cmp {op : CmpOp} {rr : R2} {g : D → D → Option (D × Kd)} (ho : OpR X (compareOp op) rr) (hs : OpS2 X.K rr g) (ha : SE X a ra) (hb : SE X b rb) (hm : behindInMarks op b = false) : ST X (.Compare a [op] [b] pos) (dB (dOp2 g ra rb)) :=
  fun W tk => PT.imp (pt_cmpR ho (ha W tk) (hb W tk) hm) fun σ H Q ⟨G, O, ρ, hK, R, h⟩ => hs.tOp (W := W) σ H _ (dB_post hK R h)
def truthD (d : D) : Option Bool := match d with
  | .con .non => some false
  | .con (.bl b) => some b
  | .con (.int i) => some (i != 0)
  | .con (.str s) => if s.length ≤ 16777216 then some ((s.length : Int) != 0) else none
  | .lst xs => some !xs.isEmpty
  | .tup xs => some !xs.isEmpty
  | _ => none
def dTr (r : DE) : M Bool := do
  let x ← r
  let d ← dcur x
  mOpt (truthD d)
theorem Reps.isEmpty {K : PySem.W.Frag} {H : Hp} {L : Addr → Prop} {vs : List V} {ds : List D} (h : Reps K H L vs ds) : vs.isEmpty = ds.isEmpty := by
  cases h <;> rfl
theorem RepK.isEmpty {K : PySem.W.Frag} {H : Hp} {L : Addr → Prop} {vs : List (Key × V)} {ds : List (Key × D)} (h : RepK K H L vs ds) : vs.isEmpty = ds.isEmpty := by
  cases h <;> rfl
theorem tru_of {K : PySem.W.Frag} {H : Hp} {O : Own} {v : V} {d : D} {k : Bool} (h : Vw K H O v d) (e : truthD d = some k) : TruV K v H k := by
  unfold truthD at e
  split at e
  · cases e; rw [h.con]; rfl
  · cases e; rw [h.con]; rfl
  · cases e; rw [h.con]; rfl
  · split at e
    · cases e
      rw [h.con]
      exact ⟨by rw [sizeLine_eq]; assumption, rfl⟩
    · cases e
  · cases e
    obtain ⟨a, vs, rfl, q, r⟩ := h.lst
    exact .inl ⟨vs, q, by rw [r.isEmpty]⟩
  · cases e
    obtain ⟨a, vs, rfl, q, r⟩ := h.tup
    exact .inr (.inl ⟨vs, q, by rw [r.isEmpty]⟩)
  · cases e
theorem st_val (ha : SE X a ra) (he : ∀ whole, isTrue a X.env whole = (do let v ← whole; standAt a.pos; holding [v] (truthy v)) := by intro _; rfl) : ST X a (dTr ra) :=
  fun W tk => PT.imp (pt_truth (ha W tk) he) fun σ H Q ⟨G, O, ρ, hK, R, h⟩ => by
    refine tE.at hK R (Res.post_ok ((post_bind _ _).mp h) fun x ρ1 q O1 v H1 R1 => ?_)
    obtain ⟨d, e1, q3⟩ := post_cur.mp ((post_bind _ _).mp q)
    obtain ⟨b, e2, q4⟩ := (post_opt _).mp q3
    have v1 := R1.view R1.tm.1 e1
    rw [hK] at v1
    exact ⟨b, tru_of v1 e2, q4 O1 H1 R1.pop⟩
end
def dNot (r : M Bool) : M Bool := do
  let b ← r
  pure !b
theorem tT.imp {K : PySem.W.Frag} {W : WX} {r : M Bool} {σ : St} {H : Hp} {Q Q' : Bool → Hp → Prop} (h : tT K W r σ H Q) (i : ∀ b H, Q b H → Q' b H) : tT K W r σ H Q' := by
  obtain ⟨G, O, ρ, hK, R, h⟩ := h
  exact ⟨G, O, ρ, hK, R, Res.post_ok h fun b ρ1 q O1 H1 R1 => i _ _ (q O1 H1 R1)⟩
section
variable {X : Cx} {a b c e : Expr} {rest es : List Expr} {ra rb rc r : DE} {qa qb qc : M Bool} {pos : Pos}
theorem st_not (ha : ST X a qa) : ST X (.UnaryOp .Not a pos) (dNot qa) := fun W tk => PT.imp (pt_not (ha W tk)) fun σ H Q ⟨G, O, ρ, hK, R, h⟩ =>
  ⟨G, O, ρ, hK, R, Res.post_ok ((post_bind _ _).mp h) fun b ρ1 q O1 H1 R1 => q O1 H1 R1⟩
def SW (X : Cx) (e : Expr) (r : M Bool) : Prop := ∀ W, Takes X W → PW X e (tT X.K W r)
theorem SW.st (h : SW X e qa) : ST X e qa := fun W tk => (h W tk).pt
theorem PW.imp {X : Cx} {e : Expr} {t t' : TT} (h : PW X e t) (i : ∀ σ H Q, t' σ H Q → t σ H Q) : PW X e t' := ⟨fun wh pins s σ H Q I q => h.run wh pins s σ H Q I (i σ H Q q)⟩
def dAnd (qa qb : M Bool) : M Bool := do
  let b ← qa
  if b then qb else pure false
def dOr (qa qb : M Bool) : M Bool := do
  let b ← qa
  if b then pure true else qb
theorem sw_and1 (ha : ST X a qa) : SW X (.BoolOp .And [a] pos) qa := fun W tk => pw_and1 (ha W tk)
theorem sw_or1 (ha : ST X a qa) : SW X (.BoolOp .Or [a] pos) qa := fun W tk => pw_or1 (ha W tk)
theorem sw_and (ha : ST X a qa) (hb : SW X (.BoolOp .And (b :: rest) pos) qb) : SW X (.BoolOp .And (a :: b :: rest) pos) (dAnd qa qb) := fun W tk => PW.imp (pw_and (ha W tk) (hb W tk)) fun σ H Q ⟨G, O, ρ, hK, R, h⟩ =>
  ⟨G, O, ρ, hK, R, Res.post_ok ((post_bind _ _).mp h) fun b ρ1 q O1 H1 R1 => by
    cases b with
    | true => rw [if_pos rfl] at q ⊢; exact ⟨G, O1, ρ1, hK, R1, q⟩
    | false => rw [if_neg Bool.false_ne_true] at q ⊢; exact q O1 H1 R1⟩
theorem sw_or (ha : ST X a qa) (hb : SW X (.BoolOp .Or (b :: rest) pos) qb) : SW X (.BoolOp .Or (a :: b :: rest) pos) (dOr qa qb) := fun W tk => PW.imp (pw_or (ha W tk) (hb W tk)) fun σ H Q ⟨G, O, ρ, hK, R, h⟩ =>
  ⟨G, O, ρ, hK, R, Res.post_ok ((post_bind _ _).mp h) fun b ρ1 q O1 H1 R1 => by
    cases b with
    | true => rw [if_pos rfl] at q ⊢; exact q O1 H1 R1
    | false => rw [if_neg Bool.false_ne_true] at q ⊢; exact ⟨G, O1, ρ1, hK, R1, q⟩⟩
/-- and, or, not as values -/
def dAndV (ra rb : DE) : DE := do
  let b ← dB ra
  if b then rb else pure (.bl false, .shr)
def dOrV (ra rb : DE) : DE := do
  let b ← dB ra
  if b then pure (.bl true, .shr) else rb
theorem dB_bind {G : Fix} {O : Own} {σ : St} {H : Hp} {ρ : Rho} {K : PySem.W.Frag} {W : WX} {f : Bool → DE} {Q : Bool → Hp → Prop} {Q2 : VK} (hK : G.K = K) (R : Rel G O σ H ρ [])
    (h : ((dB ra >>= f) ρ).post (fun x ρ' => ∀ O' v H', Rel G O' σ H' ρ' [⟨v, x.1, x.2⟩] → Q2 v H') (EX G σ W))
    (i : ∀ b ρ1 O1 H1, Rel G O1 σ H1 ρ1 [] → ((f b) ρ1).post (fun x ρ' => ∀ O' v H', Rel G O' σ H' ρ' [⟨v, x.1, x.2⟩] → Q2 v H') (EX G σ W) → Q b H1) : tE K W ra σ H fun x H' => ∃ k, x = .bl k ∧ Q k H' :=
  dB_post hK R (Res.post_ok ((post_bind _ _).mp h) fun b ρ1 q O1 H1 R1 => i b ρ1 O1 H1 R1 q)
theorem se_and (ha : SE X a ra) (hb : SE X (.BoolOp .And (b :: rest) pos) rb) : SE X (.BoolOp .And (a :: b :: rest) pos) (dAndV ra rb) := fun W tk => PE.imp (pe_and (ha W tk) (hb W tk)) fun σ H Q ⟨G, O, ρ, hK, R, h⟩ =>
  dB_bind hK R h fun b ρ1 O1 H1 R1 q => by
    cases b with
    | true => rw [if_pos rfl] at q ⊢; exact ⟨G, O1, ρ1, hK, R1, q⟩
    | false => rw [if_neg Bool.false_ne_true] at q ⊢; exact q O1 _ H1 (R1.con _)
theorem se_or (ha : SE X a ra) (hb : SE X (.BoolOp .Or (b :: rest) pos) rb) : SE X (.BoolOp .Or (a :: b :: rest) pos) (dOrV ra rb) := fun W tk => PE.imp (pe_or (ha W tk) (hb W tk)) fun σ H Q ⟨G, O, ρ, hK, R, h⟩ =>
  dB_bind hK R h fun b ρ1 O1 H1 R1 q => by
    cases b with
    | true => rw [if_pos rfl] at q ⊢; exact q O1 _ H1 (R1.con _)
    | false => rw [if_neg Bool.false_ne_true] at q ⊢; exact ⟨G, O1, ρ1, hK, R1, q⟩
theorem se_one {op} (ha : SE X a ra) : SE X (.BoolOp op [a] pos) ra := fun W tk => pe_one (ha W tk)
def dIfx (q : M Bool) (ra rb : DE) : DE := do
  let b ← q
  if b then ra else rb
theorem se_ifx {t : Expr} (ht : ST X t qa) (ha : SE X a ra) (hb : SE X b rb) : SE X (.IfExp t a b pos) (dIfx qa ra rb) := fun W tk => PE.imp (pe_ifExp (ht W tk) (ha W tk) (hb W tk)) fun σ H Q ⟨G, O, ρ, hK, R, h⟩ =>
  ⟨G, O, ρ, hK, R, Res.post_ok ((post_bind _ _).mp h) fun b ρ1 q O1 H1 R1 => by
    cases b with
    | true => rw [if_pos rfl] at q ⊢; exact ⟨G, O1, ρ1, hK, R1, q⟩
    | false => rw [if_neg Bool.false_ne_true] at q ⊢; exact ⟨G, O1, ρ1, hK, R1, q⟩⟩
/-- a comparison: the heap stays -/
def CmpS (K : PySem.W.Frag) (rr : R2) (g : D → D → Option Bool) : Prop := ∀ (a b : V) (H : Hp) (x y : D) (k : Bool) (O : Own) (Q : VK), Vw K H O a x → Vw K H O b y → g x y = some k → Q (.bl k) H → rr a b H Q
def dCmp (g : D → D → Option Bool) (ra rb : DE) : DE := dOp2 (fun x y => (g x y).map fun k => (.bl k, .shr)) ra rb
theorem CmpS.os {K : PySem.W.Frag} {rr : R2} {g : D → D → Option Bool} (h : CmpS K rr g) : OpS2 K rr (fun x y => (g x y).map fun k => (.bl k, .shr)) := by
  intro G O σ H ρ a b x y z Q hK R v1 v2 e q
  obtain ⟨v, e1, e2⟩ := Option.map_eq_some_iff.mp e
  subst e2
  exact h a b H x y v O Q v1 v2 e1 (q O _ H (R.con _))
def gC (f : Int → Int → Bool) (x y : D) : Option Bool := match x, y with
  | .con (.int i), .con (.int j) => some (f i j)
  | _, _ => none
theorem cs_int {K : PySem.W.Frag} {f : Int → Int → Bool} : CmpS K (rI0 fun i j => .bl (f i j)) (gC f) := fun a b H x y k O Q v1 v2 e q => by
  unfold gC at e
  split at e
  · cases e
    exact ⟨_, _, v1.con, v2.con, q⟩
  · cases e
/-- a op1 b op2 c -/
def dChain (g g' : D → D → Option Bool) (ra rb rc : DE) : DE := do
  let x ← ra
  let y ← rb
  let d ← dcur x
  let e ← dcur y
  let k ← mOpt (g d e)
  if k then do
    let u ← rc
    let e' ← dcur y
    let f ← dcur u
    let k' ← mOpt (g' e' f)
    pure (.bl k', .shr)
  else pure (.bl false, .shr)
theorem chain_of {K : PySem.W.Frag} {W : WX} {rr rr' : R2} {g g' : D → D → Option Bool} (hs : CmpS K rr g) (hs' : CmpS K rr' g') (σ : St) (H : Hp) (Q : VK)
    (h : tE K W (dChain g g' ra rb rc) σ H Q) : tChain rr rr' (tE K W ra) (tE K W rb) (tE K W rc) σ H Q := by
  obtain ⟨G, O, ρ, hK, R, h⟩ := h
  refine tE.at hK R (Res.post_ok ((post_bind _ _).mp h) fun x ρ1 q O1 v H1 R1 => ?_)
  refine tE.at hK R1 (Res.post_ok ((post_bind _ _).mp q) fun y ρ2 q2 O2 w H2 R2 => ?_)
  obtain ⟨d, e1, q3⟩ := post_cur.mp ((post_bind _ _).mp q2)
  obtain ⟨e, e2, q4⟩ := post_cur.mp ((post_bind _ _).mp q3)
  obtain ⟨k, e3, q5⟩ := (post_opt _).mp ((post_bind _ _).mp q4)
  have v1 := R2.view R2.tm.2.1 e1
  have v2 := R2.view R2.tm.1 e2
  rw [hK] at v1 v2
  refine hs v w H2 d e k O2 _ v1 v2 e3 ⟨k, rfl, ?_⟩
  cases k with
  | false => rw [if_neg Bool.false_ne_true] at q5 ⊢; exact q5 O2 _ H2 (R2.nil.con _)
  | true =>
    rw [if_pos rfl] at q5 ⊢
    refine tE.at hK R2 (Res.post_ok ((post_bind _ _).mp q5) fun u ρ3 q6 O3 w3 H3 R3 => ?_)
    obtain ⟨e', e4, q7⟩ := post_cur.mp ((post_bind _ _).mp q6)
    obtain ⟨f, e5, q8⟩ := post_cur.mp ((post_bind _ _).mp q7)
    obtain ⟨k', e6, q9⟩ := (post_opt _).mp ((post_bind _ _).mp q8)
    have v3 := R3.view R3.tm.2.1 e4
    have v4 := R3.view R3.tm.1 e5
    rw [hK] at v3 v4
    exact hs' w w3 H3 e' f k' O3 Q v3 v4 e6 (q9 O3 _ H3 (R3.nil.con _))
theorem st_chain {op op' : CmpOp} {rr rr' : R2} {g g' : D → D → Option Bool} (ho : OpR X (compareOp op) rr) (ho' : OpR X (compareOp op') rr') (hs : CmpS X.K rr g) (hs' : CmpS X.K rr' g') (ha : SE X a ra) (hb : SE X b rb) (hc : SE X c rc)
    (hm : lastMarks [op, op'] [b, c] = false := by with_unfolding_all rfl) : ST X (.Compare a [op, op'] [b, c] pos) (dB (dChain g g' ra rb rc)) := fun W tk => PT.imp (pt_chain ho ho' (ha W tk) (hb W tk) (hc W tk) hm) fun σ H Q ⟨G, O, ρ, hK, R, h⟩ => chain_of (W := W) hs hs' σ H _ (dB_post hK R h)
def pushC : List V → List (D × Kd) → List Tmp → List Tmp
  | v :: vs, x :: xs, T => pushC vs xs (⟨v, x.1, x.2⟩ :: T)
  | _, _, T => T
def keep (b : Bool) (x : D × Kd) : M (D × Kd) := match b with
  | true => pure x
  | false => do
    let d ← dcur x
    settleM x.2
    pure (d, .shr)
def dA : List (Bool × DE) → M (List (D × Kd))
  | [] => pure []
  | (b, e) :: es => do
    let x ← e
    let y ← keep b x
    let ys ← dA es
    pure (y :: ys)
def tA (K : PySem.W.Frag) (W : WX) (r : M (List (D × Kd))) : TA := fun σ H Q => ∃ G O ρ T, G.K = K ∧ Rel G O σ H ρ T ∧
  (r ρ).post (fun xs ρ' => ∀ O' vs H', vs.length = xs.length → Rel G O' σ H' ρ' (pushC vs xs T) → Q vs H') (EX G σ W)
def SA (X : Cx) (es : List Expr) (l : List (Bool × DE)) : Prop := ∀ W, Takes X W → PA X es (tA X.K W (dA l))
theorem sa_nil : SA X [] [] := fun W tk => PA.imp pa_nil fun σ H Q ⟨G, O, ρ, T, hK, R, h⟩ => h O [] H rfl R
theorem keep_post {G : Fix} {O : Own} {σ : St} {H : Hp} {ρ : Rho} {b : Bool} {x : D × Kd} {v : V} {T : List Tmp} {Q : D × Kd → Rho → Prop} {E : Exn → Rho → Prop} (R : Rel G O σ H ρ (⟨v, x.1, x.2⟩ :: T)) (h : ((keep b x) ρ).post Q E) :
    ∃ O' y ρ', Rel G O' σ H ρ' (⟨v, y.1, y.2⟩ :: T) ∧ Q y ρ' := by
  cases b with
  | true => exact ⟨O, x, ρ, R, h⟩
  | false =>
    obtain ⟨d, e1, q⟩ := post_cur.mp ((post_bind _ _).mp h)
    obtain ⟨O', R'⟩ := R.settle (d := d) e1
    exact ⟨O', (d, .shr), _, R', q⟩
theorem sa_cons {b : Bool} {l : List (Bool × DE)} (ha : SE X e r) (hs : SA X es l) (hst : starEach (e :: es) X.env = (false, eval e X.env) :: starEach es X.env := by rfl) : SA X (e :: es) ((b, r) :: l) := fun W tk =>
  PA.imp (pa_cons (ha W tk) (hs W tk) hst) fun σ H Q ⟨G, O, ρ, T, hK, R, h⟩ => by
    refine tE.at hK R (Res.post_ok ((post_bind _ _).mp h) fun x ρ1 q O1 v H1 R1 => ?_)
    obtain ⟨O2, y, ρ2, R2, q2⟩ := keep_post R1 ((post_bind _ _).mp q)
    exact ⟨G, O2, ρ2, _, hK, R2, Res.post_ok ((post_bind _ _).mp q2) fun ys ρ3 q3 O3 vs H3 hl R3 => q3 O3 (v :: vs) H3 (congrArg (· + 1) hl) R3⟩
theorem pushC_pop {G : Fix} {O : Own} {σ : St} {H : Hp} {ρ : Rho} : ∀ {vs : List V} {xs : List (D × Kd)} {T : List Tmp}, Rel G O σ H ρ (pushC vs xs T) → Rel G O σ H ρ T
  | v :: vs, x :: xs, T, R => (pushC_pop (vs := vs) (xs := xs) R).pop
  | [], _, T, R => by unfold pushC at R; exact R
  | _ :: _, [], T, R => by unfold pushC at R; exact R
/-- all values that are shared -/
def shrs : List (D × Kd) → Option (List D)
  | [] => some []
  | (d, .shr) :: r => (shrs r).map (d :: ·)
  | _ => none
theorem pushC_reps {G : Fix} {O : Own} {σ : St} {H : Hp} {ρ : Rho} : ∀ {vs : List V} {xs : List (D × Kd)} {T : List Tmp} {ds : List D}, vs.length = xs.length → Rel G O σ H ρ (pushC vs xs T) → shrs xs = some ds → Reps G.K H (lin O) vs ds
  | [], [], T, ds, _, R, e => by cases e; exact .nil
  | v :: vs, (d, k) :: xs, T, ds, hl, R, e => by
    cases k with
    | shr =>
      obtain ⟨r, e1, e2⟩ := Option.map_eq_some_iff.mp (show (shrs xs).map (d :: ·) = some ds from e)
      subst e2
      exact .cons (pushC_pop (vs := vs) (xs := xs) (T := ⟨v, d, .shr⟩ :: T) R).tm.1 (pushC_reps (T := ⟨v, d, .shr⟩ :: T) (Nat.succ.inj hl) R e1)
    | fr => cases e
    | nm i => cases e
  | [], _ :: _, _, _, hl, _, _ => by cases hl
  | _ :: _, [], _, _, hl, _, _ => by cases hl
def curs (ρ : Rho) : List (D × Kd) → Option (List D)
  | [] => some []
  | x :: xs => match cur ρ x with
    | some d => (curs ρ xs).map (d :: ·)
    | none => none
inductive Vws (K : PySem.W.Frag) (H : Hp) (O : Own) : List V → List D → Prop
  | nil : Vws K H O [] []
  | cons {v : V} {vs : List V} {d : D} {ds : List D} : Vw K H O v d → Vws K H O vs ds → Vws K H O (v :: vs) (d :: ds)
theorem pushC_vws {G : Fix} {O : Own} {σ : St} {H : Hp} {ρ : Rho} : ∀ {vs : List V} {xs : List (D × Kd)} {T : List Tmp} {ds : List D}, vs.length = xs.length → Rel G O σ H ρ (pushC vs xs T) → curs ρ xs = some ds → Vws G.K H O vs ds
  | [], [], T, ds, _, R, e => by cases e; exact .nil
  | v :: vs, x :: xs, T, ds, hl, R, e => by
    unfold curs at e
    split at e
    · rename_i d hd
      obtain ⟨r, e1, e2⟩ := Option.map_eq_some_iff.mp e
      subst e2
      have R1 := pushC_pop (vs := vs) (xs := xs) (T := ⟨v, x.1, x.2⟩ :: T) R
      exact .cons (R1.view R1.tm.1 hd) (pushC_vws (T := ⟨v, x.1, x.2⟩ :: T) (Nat.succ.inj hl) R e1)
    · cases e
  | [], _ :: _, _, _, hl, _, _ => by cases hl
  | _ :: _, [], _, _, hl, _, _ => by cases hl
def dcurs (xs : List (D × Kd)) : M (List D) := fun ρ => match curs ρ xs with
  | some ds => .ok ds ρ
  | none => .stuck
theorem post_curs {xs : List (D × Kd)} {Q : List D → Rho → Prop} {E : Exn → Rho → Prop} {ρ : Rho} : ((dcurs xs) ρ).post Q E ↔ ∃ d, curs ρ xs = some d ∧ Q d ρ := by
  unfold dcurs
  cases curs ρ xs with
  | none => exact ⟨fun h => h.elim, fun ⟨_, e, _⟩ => by cases e⟩
  | some a => exact ⟨fun h => ⟨a, rfl, h⟩, fun ⟨_, e, h⟩ => by cases e; exact h⟩
def cap : Nat := 16777216
def gD (f : List D → D) (k : Kd) (xs : List (D × Kd)) : Option (D × Kd) := match shrs xs with
  | some ds => if ds.length ≤ cap then some (f ds, k) else none
  | none => none
def dLst (l : List (Bool × DE)) : DE := do
  let xs ← dA l
  mOpt (gD .lst .fr xs)
def dTup (l : List (Bool × DE)) : DE := do
  let xs ← dA l
  mOpt (gD .tup .shr xs)
theorem cap_eq : cap = sizeLine := sizeLine_eq.symm
theorem gD_of {f : List D → D} {k : Kd} {xs : List (D × Kd)} {z : D × Kd} (h : gD f k xs = some z) : ∃ ds, shrs xs = some ds ∧ ds.length ≤ sizeLine ∧ z = (f ds, k) := by
  unfold gD at h
  split at h
  · rename_i ds e
    split at h
    · rename_i hl
      cases h
      exact ⟨ds, e, by rw [← cap_eq]; exact hl, rfl⟩
    · cases h
  · cases h
theorem se_lst {l : List (Bool × DE)} (hs : SA X es l) : SE X (.List es pos) (dLst l) := fun W tk => PE.imp (pe_lst (hs W tk)) fun σ H Q ⟨G, O, ρ, hK, R, h⟩ => by
  refine ⟨G, O, ρ, [], hK, R, Res.post_ok ((post_bind _ _).mp h) fun xs ρ1 q O1 vs H1 hl R1 => ?_⟩
  obtain ⟨z, e, q2⟩ := (post_opt _).mp q
  obtain ⟨ds, e1, e2, e3⟩ := gD_of e
  subst e3
  have rp := pushC_reps hl R1 e1
  refine ⟨by rw [rp.len]; exact e2, fun p hp => ?_⟩
  obtain ⟨O2, R2⟩ := (pushC_pop R1).fresh (d := .lst ds) hp (.lst rp)
  exact q2 O2 _ _ R2
theorem se_tup {k} {l : List (Bool × DE)} (hs : SA X es l) : SE X (.Tuple es k pos) (dTup l) := fun W tk => PE.imp (pe_tup (hs W tk)) fun σ H Q ⟨G, O, ρ, hK, R, h⟩ => by
  refine ⟨G, O, ρ, [], hK, R, Res.post_ok ((post_bind _ _).mp h) fun xs ρ1 q O1 vs H1 hl R1 => ?_⟩
  obtain ⟨z, e, q2⟩ := (post_opt _).mp q
  obtain ⟨ds, e1, e2, e3⟩ := gD_of e
  subst e3
  have rp := pushC_reps hl R1 e1
  refine ⟨by rw [rp.len]; exact e2, fun p hp => ?_⟩
  exact q2 O1 _ _ ((pushC_pop R1).freshT (d := .tup ds) hp (.tup rp))
def OpS (K : PySem.W.Frag) (r : List V → Hp → VK → Prop) (g : List D → Option (D × Kd)) : Prop := ∀ (G : Fix) (O : Own) (σ : St) (H : Hp) (ρ : Rho) (vs : List V) (ds : List D) (z : D × Kd) (Q : VK), G.K = K → Rel G O σ H ρ [] → Vws K H O vs ds →
  g ds = some z → (∀ O' v H', Rel G O' σ H' ρ [⟨v, z.1, z.2⟩] → Q v H') → r vs H Q
def dBi (g : List D → Option (D × Kd)) (l : List (Bool × DE)) : DE := do
  let xs ← dA l
  let ds ← dcurs xs
  mOpt (g ds)
theorem OpS.tCB {K : PySem.W.Frag} {W : WX} {rr : List V → Hp → VK → Prop} {g : List D → Option (D × Kd)} {l : List (Bool × DE)} (hs : OpS K rr g) (σ : St) (H : Hp) (Q : VK) (h : tE K W (dBi g l) σ H Q) : L2.tCB rr (tA K W (dA l)) σ H Q := by
  obtain ⟨G, O, ρ, hK, R, h⟩ := h
  refine ⟨G, O, ρ, [], hK, R, Res.post_ok ((post_bind _ _).mp h) fun xs ρ1 q O1 vs H1 hl R1 => ?_⟩
  obtain ⟨ds, e1, q2⟩ := post_curs.mp ((post_bind _ _).mp q)
  obtain ⟨z, e2, q3⟩ := (post_opt _).mp q2
  have v1 := pushC_vws hl R1 e1
  rw [hK] at v1
  exact hs G O1 σ H1 ρ1 vs ds z Q hK (pushC_pop R1) v1 e2 q3
theorem se_callB {x : Str} {p : Pos} {id : String} {rr : List V → Hp → VK → Prop} {g : List D → Option (D × Kd)} {l : List (Bool × DE)} (hc : CallR X (.builtin id) rr) (hs : OpS X.K rr g) (hm : X.mg x = none) (ha : SA X (e :: es) l)
    (hv : bootBuiltins x = some (.builtin id) := by decide +kernel) (hg : Gl X x := by rfl) (hn : x ≠ "__name__" := by decide) (hdb : (x == ("__debug__" : Str)) = false := by decide)
    (he : starEach (e :: es) X.env = (false, eval e X.env) :: starEach es X.env := by rfl) (hpl : (backTo pos (starEach es X.env)).any (·.1) = false := by rfl) : SE X (.Call (.Name x p) (e :: es) [] pos) (dBi g l) :=
  fun W tk => PE.imp (pe_callB hc hg hm hv (ha W tk) hn hdb he hpl) (hs.tCB)
theorem se_callTy {x : Str} {p : Pos} {T : String} {rr : List V → Hp → VK → Prop} {g : List D → Option (D × Kd)} {l : List (Bool × DE)} (hc : CallR X (.type T) rr) (hs : OpS X.K rr g) (hm : X.mg x = none) (ha : SA X (e :: es) l)
    (hv : bootBuiltins x = some (.type T) := by decide +kernel) (hg : Gl X x := by rfl) (hn : x ≠ "__name__" := by decide) (hdb : (x == ("__debug__" : Str)) = false := by decide)
    (he : starEach (e :: es) X.env = (false, eval e X.env) :: starEach es X.env := by rfl) (hpl : (backTo pos (starEach es X.env)).any (·.1) = false := by rfl) : SE X (.Call (.Name x p) (e :: es) [] pos) (dBi g l) :=
  fun W tk => PE.imp (pe_callTy hc hg hm hv (ha W tk) hn hdb he hpl) (hs.tCB)
end
end L2.VL
end
section
set_option Elab.async false
set_option linter.all false
set_option maxRecDepth 100000
namespace L2.VL
open PySem PySem.Spec PyProof.Rows
/-- the context's plain facts -/
structure CxG (X : Cx) : Prop where
  calm : X.calm = true
  nd : X.N.Nodup
  pass : PassesOwn (model X.prog X.w) X.A X.env X.xe
  gu : X.A.guards = some []
section
variable {X : Cx} {a b c e : Expr} {es : List Expr} {st : Stmt} {sts : List Stmt} {ra rb rc r : DE} {qa : M Bool} {sa sb : DS} {pos : Pos}
def dNext : DS := pure .nx
def dSeq (sa sb : DS) : DS := do
  let f ← sa
  match f with
  | .nx => sb
  | f => pure f
theorem ss_nil {pj : VK → VK} : SSsf pj X [] dNext := fun W tk => PSs.imp pss_nil fun D σ H ⟨G, O, ρ, hK, R, h⟩ => h O σ H R
theorem ss_cons {pj : VK → VK} (h1 : SSf pj X st sa) (h2 : SSsf pj X sts sb) : SSsf pj X (st :: sts) (dSeq sa sb) := fun W tk => PSs.imp (pss_cons (h1 W tk) (h2 W tk)) fun D σ H ⟨G, O, ρ, hK, R, h⟩ =>
  ⟨G, O, ρ, hK, R, Res.post_ok ((post_bind _ _).mp h) fun f ρ1 q => by
    cases f with
    | nx => exact fun O' σ' H' R' => ⟨G, O', ρ1, hK, R', q⟩
    | brk => exact q
    | cnt => exact q
    | ret d b => exact q⟩
theorem ss_one {pj : VK → VK} (h1 : SSf pj X st sa) : SSsf pj X [st] sa := fun W tk => pss_one (h1 W tk)
def dExpr (r : DE) : DS := do
  let _ ← r
  pure .nx
theorem ss_expr {pj : VK → VK} (he : SE X e r) (hs : swapsWith e none pos.line X.env = pure false := by rfl) : SSf pj X (.Expr e pos) (dExpr r) := fun W tk => PS.imp (ps_expr (he W tk) hs) fun D σ H ⟨G, O, ρ, hK, R, h⟩ =>
  ⟨G, O, ρ, hK, R, Res.post_mono ((post_bind _ _).mp h) (fun x ρ1 q O' v H' R' => q O' σ H' R'.pop) fun x ρ' q => q σ⟩
/-- what is handed back: a def's own new object goes along with its name -/
def takeNm (d : D) (i : Nat) : M (D × Bool) := fun ρ => match ρ[i]? with
  | some (some s) => if s.own && !s.pin then .ok (d, true) (ρ.set i none) else .ok (d, false) (shareR ρ i)
  | _ => .stuck
def dTake (x : D × Kd) : M (D × Bool) := do
  let d ← dcur x
  match x.2 with
  | .fr => pure (d, true)
  | .shr => pure (d, false)
  | .nm i => takeNm d i
def dRet (r : DE) : DS := do
  let x ← r
  let y ← dTake x
  pure (.ret y.1 y.2)
theorem Rel.take {G : Fix} {O : Own} {σ : St} {H : Hp} {ρ : Rho} {i : Nat} {s : Slot} {v : V} {T : List Tmp} (R : Rel G O σ H ρ T) (e : ρ[i]? = some (some s)) (ho : s.own = true) (hp : s.pin = false) (hv : σ[i]? = some (some v)) :
    ∃ O', Rel G O' σ H (ρ.set i none) (⟨v, s.d, .fr⟩ :: T) := by
  have hi : i < ρ.length := (List.getElem?_eq_some_iff.mp e).1
  obtain ⟨v', h1, h2⟩ := R.sl i s e
  rw [hv] at h1; cases h1
  unfold SlotOk at h2
  rw [ho] at h2
  have hs : Stay H H (lin O) (lin (reO O (.sl i) (some (.tp T.length)))) := reO_stay
  refine ⟨reO O (.sl i) (some (.tp T.length)), by simpa using R.len, fun b o e => ?_, fun b => ?_, fun a w e => ?_, fun j u hj => ?_, fun j u hj => ?_, ⟨OwnX.mono hs h2 fun a o e1 e2 => ⟨reO_eq e1, e2⟩, ?_⟩⟩
  · obtain ⟨p1, p2⟩ := R.fr b o e
    rw [reO_ne (fun z => ?_)]
    · exact ⟨p1, p2⟩
    · rw [z] at p2
      rcases p2 with p2 | p2 <;> cases p2
  · by_cases z : O b = some (.sl i)
    · rw [reO_eq z]
      constructor
      · intro q; cases q
      · intro q
        have := (R.ot b).mpr q
        rw [z] at this; cases this
    · rw [reO_ne z]; exact R.ot b
  · by_cases z : O a = some (.sl i)
    · exact R.tr a _ z
    · rw [reO_ne z] at e; exact R.tr a w e
  · obtain ⟨p, s', q, c⟩ := R.pn j u hj
    refine ⟨p, s', ?_, c⟩
    rw [List.getElem?_set_ne (fun z => ?_)]
    · exact q
    · rw [← z, e] at q
      cases q
      rw [hp] at c; cases c
  · have z : j ≠ i := fun z => by
      rw [z, List.getElem?_set_self hi] at hj
      cases hj
    rw [List.getElem?_set_ne (Ne.symm z)] at hj
    obtain ⟨v', p1, p2⟩ := R.sl j u hj
    exact ⟨v', p1, slot_mono hs (fun a o e1 e2 => ⟨reO_other e1 fun y => z (Ow.sl.inj y), e2⟩) p2⟩
  · exact tmps_mono hs (fun a o n hn e1 e2 => ⟨reO_other e1 fun y => (by cases y), e2⟩) R.tm
theorem take_post {G : Fix} {O : Own} {σ : St} {H : Hp} {ρ : Rho} {x : D × Kd} {v : V} {Q : D × Bool → Rho → Prop} {E : Exn → Rho → Prop} (R : Rel G O σ H ρ [⟨v, x.1, x.2⟩]) (h : ((dTake x) ρ).post Q E) :
    ∃ O' y ρ', Rel G O' σ H ρ' [⟨v, y.1, frK y.2⟩] ∧ Q y ρ' := by
  obtain ⟨d, e1, q⟩ := post_cur.mp ((post_bind _ _).mp h)
  obtain ⟨d0, k⟩ := x
  cases k with
  | fr => cases e1; exact ⟨O, (d0, true), ρ, R, q⟩
  | shr => cases e1; exact ⟨O, (d0, false), ρ, R, q⟩
  | nm i =>
    dsimp only at q
    unfold takeNm at q
    unfold cur at e1
    dsimp only at e1
    split at e1
    · rename_i s hs
      cases e1
      rw [hs] at q
      dsimp only at q
      by_cases z : (s.own && !s.pin) = true
      · rw [if_pos z] at q
        simp only [Bool.and_eq_true, Bool.not_eq_true'] at z
        obtain ⟨O', R'⟩ := R.pop.take hs z.1 z.2 R.tm.1
        exact ⟨O', (s.d, true), _, R', q⟩
      · rw [if_neg z] at q
        obtain ⟨O', R'⟩ := R.settle (d := s.d) (by unfold cur; dsimp only; rw [hs])
        exact ⟨O', (s.d, false), _, R', q⟩
    · cases e1
theorem ss_ret (he : SE X e r) : SS X (.Return (some e) pos) (dRet r) := fun W tk => PS.imp (ps_ret (he W tk)) fun D σ H ⟨G, O, ρ, hK, R, h⟩ =>
  ⟨G, O, ρ, hK, R, Res.post_mono ((post_bind _ _).mp h) (fun x ρ1 q O' v H' R' => by
    obtain ⟨O2, y, ρ2, R2, q2⟩ := take_post R' ((post_bind _ _).mp q)
    exact q2 O2 σ v H' R2) fun x ρ' q => q σ⟩
def dIf (q : M Bool) (sa sb : DS) : DS := do
  let b ← q
  if b then sa else sb
theorem ss_if {pj : VK → VK} {t : Expr} {A B : List Stmt} (ht : ST X t qa) (ha : SSsf pj X A sa) (hb : SSsf pj X B sb) : SSf pj X (.If t A B pos) (dIf qa sa sb) := fun W tk => PS.imp (ps_if (ht W tk) (ha W tk) (hb W tk)) fun D σ H ⟨G, O, ρ, hK, R, h⟩ =>
  ⟨G, O, ρ, hK, R, Res.post_mono ((post_bind _ _).mp h) (fun b ρ1 q O1 H1 R1 => by
    cases b with
    | true => rw [if_pos rfl] at q ⊢; exact ⟨G, O1, ρ1, hK, R1, q⟩
    | false => rw [if_neg Bool.false_ne_true] at q ⊢; exact ⟨G, O1, ρ1, hK, R1, q⟩) fun x ρ' q => q σ⟩
/-- name = e -/
def putEnd (i : Nat) (k : Kd) (d : D) : M Unit := fun ρ => if pinned (settleR ρ k) i then .stuck else .ok () ((settleR ρ k).set i (some ⟨d, ownOf k, false⟩))
def dPut (i : Nat) (x : D × Kd) : M Unit := do
  let d ← dcur x
  putEnd i x.2 d
theorem put_post {G : Fix} {O : Own} {σ : St} {H : Hp} {ρ : Rho} {i : Nat} {x : D × Kd} {v : V} {T : List Tmp} {Q : Unit → Rho → Prop} {E : Exn → Rho → Prop} (hT : NoNm T) (R : Rel G O σ H ρ (⟨v, x.1, x.2⟩ :: T)) (h : ((dPut i x) ρ).post Q E) :
    ∃ O' ρ', Rel G O' (σ.set i (some v)) H ρ' T ∧ Q () ρ' := by
  obtain ⟨d, e1, q⟩ := post_cur.mp ((post_bind _ _).mp h)
  unfold putEnd at q
  cases hp : pinned (settleR ρ x.2) i with
  | true => rw [hp] at q; exact q.elim
  | false =>
    rw [hp] at q
    obtain ⟨O', R'⟩ := R.assign (i := i) hT e1 hp
    exact ⟨O', _, R', q⟩
def dSet (i : Nat) (r : DE) : DS := do
  let x ← r
  dPut i x
  pure .nx
theorem ss_set {pj : VK → VK} (i : Nat) {x : Str} {pos' : Pos} (hx : CxG X) (he : SE X e r) (hi : X.N[i]? = some x := by rfl) (hl : Loc X.env.scope x := by first | exact Or.inl rfl | exact Or.inr rfl) (hs : swapsWith e (some (.Name x pos')) pos.line X.env = pure false := by rfl)
    (hf : X.fn x = true ∨ X.env.scope.names.lookup x = some .local := by first | exact .inl rfl | exact .inr rfl) : SSf pj X (.Assign [.Name x pos'] e pos) (dSet i r) := fun W tk => PS.imp (ps_set hx.nd hi hl (he W tk) hs hf) fun D σ H ⟨G, O, ρ, hK, R, h⟩ =>
  ⟨G, O, ρ, hK, R, Res.post_mono ((post_bind _ _).mp h) (fun y ρ1 q O' v H' R' => by
    obtain ⟨O2, ρ2, R2, q2⟩ := put_post .nil R' ((post_bind _ _).mp q)
    exact q2 O2 _ H' R2) fun x ρ' q => q σ⟩
/-- a target's names: one, or a tuple of them -/
inductive Tg where
  | one (i : Nat) | many (is : List Nat)
def Tg.slots : Tg → List Nat
  | .one i => [i]
  | .many is => is
def putAll : List Nat → List D → M Unit
  | [], [] => pure ()
  | i :: is, d :: ds => do
    dPut i (d, .shr)
    putAll is ds
  | _, _ => mStuck
def items (d : D) : Option (List D) := match d with
  | .tup ds => some ds
  | _ => none
def Tg.put (t : Tg) (d : D) : M Unit := match t with
  | .one i => dPut i (d, .shr)
  | .many is => do
    let ds ← mOpt (items d)
    putAll is ds
/-- the slots outside are as they were -/
def AgOut (is : List Nat) (σ σ' : St) : Prop := σ'.length = σ.length ∧ ∀ j, j ∉ is → σ'[j]? = σ[j]?
theorem AgOut.refl {is : List Nat} {σ : St} : AgOut is σ σ := ⟨rfl, fun _ _ => rfl⟩
def tG (K : PySem.W.Frag) (is : List Nat) (f : D → M Unit) : TG := fun v σ H Q => ∃ G O ρ T x, G.K = K ∧ NoNm T ∧ Rel G O σ H ρ (⟨v, x, .shr⟩ :: T) ∧ ((f x) ρ).post (fun _ ρ' => ∀ O' σ' H', AgOut is σ σ' → Rel G O' σ' H' ρ' T → Q σ' H') (fun _ _ => False)
def SG (X : Cx) (tg : Expr) (t : Tg) : Prop := PG X tg (tG X.K t.slots t.put)
theorem PG.imp {X : Cx} {e : Expr} {t t' : TG} (h : PG X e t) (i : ∀ v σ H Q, t' v σ H Q → t v σ H Q) : PG X e t' := ⟨fun pins s σ H v u Q I r q => h.run pins s σ H v u Q I r (i v σ H Q q)⟩
theorem PGs.imp {X : Cx} {e : List Expr} {t t' : TGs} (h : PGs X e t) (i : ∀ v σ H Q, t' v σ H Q → t v σ H Q) : PGs X e t' := ⟨fun pins s σ H v u Q I r q => h.run pins s σ H v u Q I r (i v σ H Q q)⟩
theorem AgOut.set {is : List Nat} {σ : St} {i : Nat} {v : Option V} (h : i ∈ is) : AgOut is σ (σ.set i v) := ⟨by simp, fun j hj => by rw [List.getElem?_set_ne]; exact fun z => hj (z ▸ h)⟩
theorem sg_name (i : Nat) {x : Str} (hx : CxG X) (hi : X.N[i]? = some x := by rfl) (hl : Loc X.env.scope x := by first | exact Or.inl rfl | exact Or.inr rfl)
    (hf : X.fn x = true ∨ X.env.scope.names.lookup x = some .local := by first | exact .inl rfl | exact .inr rfl) : SG X (.Name x pos) (.one i) :=
  PG.imp (pg_name hx.nd hi hl hf) fun v σ H Q ⟨G, O, ρ, T, x, hK, hT, R, h⟩ => by
    obtain ⟨O', ρ', R', q⟩ := put_post hT R h
    exact q O' _ H (AgOut.set (by simp [Tg.slots])) R'
/-- several values, the first on top -/
def pushR : List V → List D → List Tmp → List Tmp
  | v :: vs, d :: ds, T => ⟨v, d, .shr⟩ :: pushR vs ds T
  | _, _, T => T
theorem NoNm.pushR {T : List Tmp} (h : NoNm T) : ∀ {vs : List V} {ds : List D}, NoNm (pushR vs ds T)
  | v :: vs, d :: ds => (NoNm.pushR h (vs := vs) (ds := ds)).cons (fun i z => by cases z)
  | [], _ => h
  | _ :: _, [] => h
theorem Rel.pushR {G : Fix} {O : Own} {σ : St} {H : Hp} {ρ : Rho} {T : List Tmp} (R : Rel G O σ H ρ T) : ∀ {vs : List V} {ds : List D}, Reps G.K H (lin O) vs ds → Rel G O σ H ρ (VL.pushR vs ds T)
  | _, _, .nil => R
  | _, _, .cons a b => (R.pushR b).push a
def SGs (X : Cx) (es : List Expr) (is : List Nat) : Prop := PGs X es fun vs σ H Q => ∃ (G : Fix) (O : Own) (ρ : Rho) (T : List Tmp) (ds : List D), G.K = X.K ∧ NoNm T ∧ vs.length = ds.length ∧ Rel G O σ H ρ (pushR vs ds T) ∧
  ((putAll is ds) ρ).post (fun _ ρ' => ∀ O' σ' H', AgOut is σ σ' → Rel G O' σ' H' ρ' T → Q σ' H') (fun _ _ => False)
theorem sgs_nil : SGs X [] [] := PGs.imp pgs_nil fun vs σ H Q ⟨G, O, ρ, T, ds, hK, hT, hl, R, h⟩ => by
  cases ds with
  | nil =>
    cases vs with
    | nil => exact ⟨rfl, h O σ H AgOut.refl R⟩
    | cons v vs => cases hl
  | cons d ds => exact h.elim
theorem sgs_cons (i : Nat) {is : List Nat} {x : Str} (hx : CxG X) (h2 : SGs X es is) (hi : X.N[i]? = some x := by rfl) (hl : Loc X.env.scope x := by first | exact Or.inl rfl | exact Or.inr rfl)
    (hf : X.fn x = true ∨ X.env.scope.names.lookup x = some .local := by first | exact .inl rfl | exact .inr rfl)
    (hs : (assignEach (.Name x pos :: es) X.env).map (·.2) = assign (.Name x pos) X.env :: (assignEach es X.env).map (·.2) := by rfl) : SGs X (.Name x pos :: es) (i :: is) :=
  PGs.imp (pgs_cons (pg_name hx.nd hi hl hf) h2 hs) fun vs σ H Q ⟨G, O, ρ, T, ds, hK, hT, hl, R, h⟩ => by
    cases ds with
    | nil => exact h.elim
    | cons d ds =>
      cases vs with
      | nil => cases hl
      | cons v vs =>
        obtain ⟨O', ρ', R', q⟩ := put_post (NoNm.pushR hT) (R : Rel G O σ H ρ (⟨v, d, .shr⟩ :: pushR vs ds T)) ((post_bind _ _).mp h)
        refine ⟨v, vs, rfl, G, O', ρ', T, ds, hK, hT, Nat.succ.inj hl, R', Res.post_ok q fun _ ρ2 q2 O2 σ2 H2 ag R2 => q2 O2 σ2 H2 ⟨by rw [ag.1]; simp, fun j hj => ?_⟩ R2⟩
        rw [ag.2 j (fun z => hj (List.mem_cons_of_mem _ z)), List.getElem?_set_ne (fun z => hj (by rw [z]; exact List.mem_cons_self))]
theorem putAll_len : ∀ {is : List Nat} {ds : List D} {ρ : Rho} {Q : Unit → Rho → Prop} {E : Exn → Rho → Prop}, (∀ x ρ, ¬ E x ρ) → ((putAll is ds) ρ).post Q E → ds.length = is.length
  | [], [], _, _, _, _, _ => rfl
  | i :: is, d :: ds, ρ, Q, E, hE, h => by
    have h1 := (post_bind _ _).mp h
    cases q : (dPut i (d, .shr)) ρ with
    | stuck => rw [q] at h1; exact h1.elim
    | ex x ρ' => rw [q] at h1; exact (hE _ _ h1).elim
    | ok a ρ' =>
      rw [q] at h1
      exact congrArg (· + 1) (putAll_len hE h1)
  | [], _ :: _, _, _, _, _, h => h.elim
  | _ :: _, [], _, _, _, _, h => h.elim
theorem sg_tup {is : List Nat} {k : Nat} (hx : CxG X) (h : SGs X es is) (hn : (assignEach es X.env).length = is.length := by rfl) (hst : (assignEach es X.env).findIdx? (·.1) = none := by rfl) : SG X (.Tuple es k pos) (.many is) :=
  PG.imp (pg_tup hx.calm h hn hst) fun v σ H Q ⟨G, O, ρ, T, x, hK, hT, R, h⟩ => by
    obtain ⟨ds, e1, q⟩ := (post_opt _).mp ((post_bind _ _).mp h)
    unfold items at e1
    split at e1
    · rename_i xs
      cases e1
      have vw : Vw G.K H O v (.tup ds) := .inl R.tm.1
      obtain ⟨a, vs, rfl, sq, rp⟩ := vw.tup
      rw [hK] at sq
      have hl := putAll_len (fun _ _ z => z) q
      exact ⟨a, vs, rfl, sq, by rw [rp.len, hl], G, O, ρ, T, ds, hK, hT, rp.len, R.pop.pushR rp, q⟩
    · cases e1
theorem keep_false {x : D × Kd} {ρ : Rho} {Q : D × Kd → Rho → Prop} {E : Exn → Rho → Prop} (h : ((keep false x) ρ).post Q E) : ∃ d, cur ρ x = some d ∧ Q (d, .shr) (settleR ρ x.2) := by
  obtain ⟨d, e1, q⟩ := post_cur.mp ((post_bind _ _).mp h)
  exact ⟨d, e1, q⟩
theorem noex {m : M Unit} {ρ : Rho} {Q Q' : Unit → Rho → Prop} {E : Exn → Rho → Prop} (hm : ∀ ρ x ρ', m ρ ≠ .ex x ρ') (h : (m ρ).post Q E) (i : ∀ ρ', Q () ρ' → Q' () ρ') : (m ρ).post Q' (fun _ _ => False) := by
  cases q : m ρ with
  | stuck => rw [q] at h; exact h
  | ok a ρ' => rw [q] at h; exact i _ h
  | ex x ρ' => exact absurd q (hm ρ x ρ')
theorem dPut_noex {i : Nat} {x : D × Kd} (ρ : Rho) (y : Exn) (ρ' : Rho) : (dPut i x) ρ ≠ .ex y ρ' := by
  show M.bind (dcur x) _ ρ ≠ _
  unfold M.bind dcur
  cases cur ρ x with
  | none => exact fun z => by cases z
  | some d =>
    dsimp only
    unfold putEnd
    split <;> (intro z; cases z)
theorem putAll_noex : ∀ {is : List Nat} {ds : List D} (ρ : Rho) (y : Exn) (ρ' : Rho), (putAll is ds) ρ ≠ .ex y ρ'
  | [], [], ρ, y, ρ' => fun z => by cases z
  | i :: is, d :: ds, ρ, y, ρ' => by
    show M.bind (dPut i (d, .shr)) _ ρ ≠ _
    unfold M.bind
    cases q : (dPut i (d, .shr)) ρ with
    | stuck => exact fun z => by cases z
    | ex x ρ2 => exact absurd q (dPut_noex ρ x ρ2)
    | ok a ρ2 => exact putAll_noex ρ2 y ρ'
  | [], _ :: _, ρ, y, ρ' => fun z => by cases z
  | _ :: _, [], ρ, y, ρ' => fun z => by cases z
theorem tg_noex {t : Tg} {d : D} (ρ : Rho) (y : Exn) (ρ' : Rho) : (t.put d) ρ ≠ .ex y ρ' := by
  cases t with
  | one i => exact dPut_noex ρ y ρ'
  | many is =>
    show M.bind (mOpt (items d)) _ ρ ≠ _
    unfold M.bind mOpt
    cases items d with
    | none => exact fun z => by cases z
    | some ds => exact putAll_noex ρ y ρ'
end
end L2.VL
end
section
set_option Elab.async false
set_option linter.all false
set_option maxRecDepth 100000
namespace L2.VL
open PySem PySem.Spec PyProof.Rows
def WalkOk (K : PySem.W.Frag) (T : List Tmp) (J : It) (xs : List D) : Prop := ∀ (G : Fix) (O : Own) (σ : St) (H : Hp) (ρ : Rho) (i : Nat) (T' : List Tmp), G.K = K → Rel G O σ H ρ (T' ++ T) →
  (i < xs.length → J.go i H) ∧ (xs.length ≤ i → J.stop i H) ∧ ∀ x, xs[i]? = some x → ∀ v H', J.yld i H v H' → ∃ O', Rel G O' σ H' ρ (⟨v, x, .shr⟩ :: (T' ++ T))
def tI (K : PySem.W.Frag) (W : WX) (it : M (List D)) : TI := fun σ H R => ∃ G O ρ, G.K = K ∧ Rel G O σ H ρ [] ∧
  (it ρ).post (fun xs ρ' => ∀ O' H' J T, NoNm T → Rel G O' σ H' ρ' T → WalkOk K T J xs → R J H') (EX G σ W)
def SI (X : Cx) (tg iter : Expr) (it : M (List D)) : Prop := ∀ W, Takes X W → PI X tg iter (tI X.K W it)
theorem PI.imp {X : Cx} {tg iter : Expr} {t t' : TI} (h : PI X tg iter t) (i : ∀ σ H Q, t' σ H Q → t σ H Q) : PI X tg iter t' := ⟨fun pins s σ H Q I q => h.run pins s σ H Q I (i σ H Q q)⟩
theorem tmp_in {K : PySem.W.Frag} {H : Hp} {O : Own} {σ : St} {t : Tmp} : ∀ {T T2 : List Tmp}, TmpsOk K H O σ (T2 ++ (t :: T)) → TmpOk K H O σ T.length t
  | T, [], h => h.1
  | T, u :: T2, h => tmp_in (T2 := T2) h.2
section
variable {X : Cx} {tg e : Expr} {es : List Expr} {r : DE} {pos p : Pos}
def lstOf (d : D) : Option (List D) := match d with
  | .lst xs => some xs
  | _ => none
def tupOf (d : D) : Option (List D) := match d with
  | .tup xs => some xs
  | _ => none
def iLst (r : DE) : M (List D) := do
  let x ← r
  let y ← keep false x
  mOpt (lstOf y.1)
def iTuple (r : DE) : M (List D) := do
  let x ← r
  let y ← keep false x
  mOpt (tupOf y.1)
theorem walk_lst {K : PySem.W.Frag} {a : Addr} {xs : List D} : WalkOk K [⟨.ref a, .lst xs, .shr⟩] (Itl K a) xs := fun G O σ H ρ i T' hK R => by
  have rp : Rep G.K H (lin O) (.ref a) (.lst xs) := tmp_in (T2 := T') (T := []) R.tm
  obtain ⟨b, vs, e, sq, rs⟩ := (show Vw G.K H O (.ref a) (.lst xs) from .inl rp).lst
  cases e
  rw [hK] at sq
  refine ⟨fun hi => ?_, fun hi => ⟨vs, sq, by rw [rs.len]; exact hi⟩, fun x hx v H' y => ?_⟩
  · obtain ⟨u, h1, _⟩ := rs.get (List.getElem?_eq_getElem hi)
    exact ⟨vs, u, sq, h1⟩
  · obtain ⟨rfl, f⟩ := y
    obtain ⟨u, h1, h2⟩ := rs.get hx
    have e := (f vs sq).symm.trans h1
    have ev : v = u := by
      have z := f vs sq
      rw [h1] at z
      exact (Option.some.inj z).symm
    rw [ev]
    exact ⟨O, R.push h2⟩
theorem walk_tup {K : PySem.W.Frag} {a : Addr} {xs : List D} : WalkOk K [⟨.ref a, .tup xs, .shr⟩] (Itt K a) xs := fun G O σ H ρ i T' hK R => by
  have rp : Rep G.K H (lin O) (.ref a) (.tup xs) := tmp_in (T2 := T') (T := []) R.tm
  obtain ⟨b, vs, e, sq, rs⟩ := (show Vw G.K H O (.ref a) (.tup xs) from .inl rp).tup
  cases e
  rw [hK] at sq
  refine ⟨fun hi => ?_, fun hi => ⟨vs, sq, by rw [rs.len]; exact hi⟩, fun x hx v H' y => ?_⟩
  · obtain ⟨u, h1, _⟩ := rs.get (List.getElem?_eq_getElem hi)
    exact ⟨vs, u, sq, h1⟩
  · obtain ⟨rfl, f⟩ := y
    obtain ⟨u, h1, h2⟩ := rs.get hx
    have ev : v = u := by
      have z := f vs sq
      rw [h1] at z
      exact (Option.some.inj z).symm
    rw [ev]
    exact ⟨O, R.push h2⟩
theorem si_lst (he : SE X e r) : SI X tg e (iLst r) := fun W tk => PI.imp (pi_list (he W tk)) fun σ H Q ⟨G, O, ρ, hK, R, h⟩ =>
  ⟨G, O, ρ, hK, R, Res.post_ok ((post_bind _ _).mp h) fun x ρ1 q O1 v H1 R1 => by
    obtain ⟨d, e1, q2⟩ := keep_false ((post_bind _ _).mp q)
    obtain ⟨xs, e2, q3⟩ := (post_opt _).mp q2
    obtain ⟨O2, R2⟩ := R1.settle (d := d) e1
    have ed : d = .lst xs := by
      unfold lstOf at e2
      dsimp only at e2
      split at e2
      · cases e2; rfl
      · cases e2
    subst ed
    obtain ⟨a, vs, rfl, sq, rs⟩ := (show Vw G.K H1 O2 v (.lst xs) from .inl R2.tm.1).lst
    rw [hK] at sq
    exact ⟨a, rfl, ⟨vs, sq⟩, q3 O2 H1 _ _ (NoNm.nil.cons fun i z => by cases z) R2 walk_lst⟩⟩
theorem si_tup (he : SE X e r) : SI X tg e (iTuple r) := fun W tk => PI.imp (pi_tup (he W tk)) fun σ H Q ⟨G, O, ρ, hK, R, h⟩ =>
  ⟨G, O, ρ, hK, R, Res.post_ok ((post_bind _ _).mp h) fun x ρ1 q O1 v H1 R1 => by
    obtain ⟨d, e1, q2⟩ := keep_false ((post_bind _ _).mp q)
    obtain ⟨xs, e2, q3⟩ := (post_opt _).mp q2
    obtain ⟨O2, R2⟩ := R1.settle (d := d) e1
    have ed : d = .tup xs := by
      unfold tupOf at e2
      dsimp only at e2
      split at e2
      · cases e2; rfl
      · cases e2
    subst ed
    obtain ⟨a, vs, rfl, sq, rs⟩ := (show Vw G.K H1 O2 v (.tup xs) from .inl R2.tm.1).tup
    rw [hK] at sq
    exact ⟨a, rfl, ⟨vs, sq⟩, q3 O2 H1 _ _ (NoNm.nil.cons fun i z => by cases z) R2 walk_tup⟩⟩
def rngD (lo : Int) (n : Nat) : List D := (List.range n).map fun (k : Nat) => D.int (lo + k)
def small62 (i : Int) : Bool := decide (-4611686018427387904 ≤ i) && decide (i < 4611686018427387904)
theorem small62_of {i : Int} (h : small62 i = true) : -(2 ^ 62) ≤ i ∧ i < 2 ^ 62 := by
  unfold small62 at h
  simp only [Bool.and_eq_true, decide_eq_true_eq] at h
  omega
def rng1 (ds : List D) : Option (List D) := match ds with
  | [.con (.int j)] => if small62 j then some (rngD 0 j.toNat) else none
  | _ => none
def iRng (g : List D → Option (List D)) (l : List (Bool × DE)) : M (List D) := do
  let xs ← dA l
  let ds ← dcurs xs
  mOpt (g ds)
theorem walk_rng {K : PySem.W.Frag} {lo : Int} {n : Nat} {T : List Tmp} : WalkOk K T (Itr lo n) (rngD lo n) := fun G O σ H ρ i T' hK R => by
  have hl : (rngD lo n).length = n := by unfold rngD; simp
  refine ⟨fun hi => (by rw [hl] at hi; exact hi), fun hi => (by rw [hl] at hi; exact hi), fun x hx v H' y => ?_⟩
  obtain ⟨rfl, rfl⟩ := y
  unfold rngD at hx
  rw [List.getElem?_map] at hx
  cases q : (List.range n)[i]? with
  | none => rw [q] at hx; cases hx
  | some k =>
    rw [q] at hx
    cases hx
    have := List.getElem?_eq_some_iff.mp q
    obtain ⟨h1, h2⟩ := this
    simp at h2
    subst h2
    exact ⟨O, R.con _⟩
theorem Vws.one {K : PySem.W.Frag} {H : Hp} {O : Own} {vs : List V} {d : D} (h : Vws K H O vs [d]) : ∃ v, vs = [v] ∧ Vw K H O v d := by
  cases h with
  | cons a b => cases b; exact ⟨_, rfl, a⟩
theorem Vws.two {K : PySem.W.Frag} {H : Hp} {O : Own} {vs : List V} {d e : D} (h : Vws K H O vs [d, e]) : ∃ v u, vs = [v, u] ∧ Vw K H O v d ∧ Vw K H O u e := by
  cases h with
  | cons a b =>
    obtain ⟨u, rfl, c⟩ := b.one
    exact ⟨_, _, rfl, a, c⟩
theorem Vws.three {K : PySem.W.Frag} {H : Hp} {O : Own} {vs : List V} {d e f : D} (h : Vws K H O vs [d, e, f]) : ∃ v u w, vs = [v, u, w] ∧ Vw K H O v d ∧ Vw K H O u e ∧ Vw K H O w f := by
  cases h with
  | cons a b =>
    obtain ⟨u, w, rfl, c, d⟩ := b.two
    exact ⟨_, _, _, rfl, a, c, d⟩
theorem si_rng1 {l : List (Bool × DE)} (hm : X.mg "range" = none) (ha : SA X [e] l) (hg : Gl X "range" := by rfl) (hs : starEach [e] X.env = [(false, eval e X.env)] := by rfl) : SI X tg (.Call (.Name "range" p) [e] [] pos) (iRng rng1 l) := fun W tk =>
  PI.imp (pi_range1 hg hm (ha W tk) hs) fun σ H Q ⟨G, O, ρ, hK, R, h⟩ => ⟨G, O, ρ, [], hK, R, Res.post_ok ((post_bind _ _).mp h) fun xs ρ1 q O1 vs H1 hl R1 => by
    obtain ⟨ds, e1, q2⟩ := post_curs.mp ((post_bind _ _).mp q)
    obtain ⟨z, e2, q3⟩ := (post_opt _).mp q2
    have v1 := pushC_vws hl R1 e1
    unfold rng1 at e2
    split at e2
    · rename_i j
      obtain ⟨v, rfl, w⟩ := v1.one
      split at e2
      · rename_i hj
        cases e2
        have b := small62_of hj
        exact ⟨j, by rw [w.con], b.1, b.2, q3 O1 H1 _ [] .nil (pushC_pop R1) walk_rng⟩
      · cases e2
    · cases e2⟩
/-- zip of two lists -/
def iZip2 (l : List (Bool × DE)) : M (List D) := do
  let xs ← dA l
  let ds ← mOpt (shrs xs)
  mOpt (match ds with
    | [.lst a, .lst b] => some ((a.zip b).map fun p => .tup [p.1, p.2])
    | _ => none)
theorem walk_zip {K : PySem.W.Frag} {a b : Addr} {xs ys : List D} : WalkOk K [⟨.ref b, .lst ys, .shr⟩, ⟨.ref a, .lst xs, .shr⟩] (Itz K a b) ((xs.zip ys).map fun p => .tup [p.1, p.2]) := fun G O σ H ρ i T' hK R => by
  have rb : Rep G.K H (lin O) (.ref b) (.lst ys) := tmp_in (T2 := T') (T := [_]) R.tm
  have ra : Rep G.K H (lin O) (.ref a) (.lst xs) := tmp_in (t := ⟨.ref a, .lst xs, .shr⟩) (T2 := T' ++ [⟨.ref b, .lst ys, .shr⟩]) (T := []) (by simpa using R.tm)
  obtain ⟨_, vs, e, sq, rs⟩ := (show Vw G.K H O (.ref a) (.lst xs) from .inl ra).lst
  cases e
  obtain ⟨_, us, e, sq2, rs2⟩ := (show Vw G.K H O (.ref b) (.lst ys) from .inl rb).lst
  cases e
  rw [hK] at sq sq2
  have hl : ((xs.zip ys).map fun p => D.tup [p.1, p.2]).length = min xs.length ys.length := by simp
  refine ⟨fun hi => ?_, fun hi => ⟨vs, us, sq, sq2, ?_⟩, fun x hx v H' y => ?_⟩
  · rw [hl] at hi
    obtain ⟨u, h1, _⟩ := rs.get (List.getElem?_eq_getElem (show i < xs.length by omega))
    obtain ⟨u2, h2, _⟩ := rs2.get (List.getElem?_eq_getElem (show i < ys.length by omega))
    exact ⟨vs, us, u, u2, sq, sq2, h1, h2⟩
  · rw [hl] at hi
    rw [rs.len, rs2.len]
    omega
  · obtain ⟨P, x1, x2, rfl, nP, rfl, f1, f2⟩ := y
    rw [List.getElem?_map] at hx
    cases q : (xs.zip ys)[i]? with
    | none => rw [q] at hx; cases hx
    | some pr =>
      rw [q] at hx
      cases hx
      obtain ⟨z1, z2⟩ := List.getElem?_zip_eq_some.mp q
      obtain ⟨u, h1, k1⟩ := rs.get z1
      obtain ⟨u2, h2, k2⟩ := rs2.get z2
      have e1 : x1 = u := by
        have z := f1 vs sq
        rw [h1] at z
        exact (Option.some.inj z).symm
      have e2 : x2 = u2 := by
        have z := f2 us sq2
        rw [h2] at z
        exact (Option.some.inj z).symm
      rw [e1, e2]
      exact ⟨O, R.freshT nP (.tup (.cons k1 (.cons k2 .nil)))⟩
theorem si_zip {e2 : Expr} {elts : List Expr} {kk : Nat} {tpos : Pos} {l : List (Bool × DE)} (hm : X.mg "zip" = none) (ha : SA X [e, e2] l) (hg : Gl X "zip" := by rfl)
    (hs : starEach [e, e2] X.env = (false, eval e X.env) :: starEach [e2] X.env := by rfl) (hpl : (backTo pos (starEach [e2] X.env)).any (·.1) = false := by rfl) : SI X (.Tuple elts kk tpos) (.Call (.Name "zip" p) [e, e2] [] pos) (iZip2 l) := fun W tk =>
  PI.imp (pi_zip hg hm (ha W tk) hs hpl) fun σ H Q ⟨G, O, ρ, hK, R, h⟩ => ⟨G, O, ρ, [], hK, R, Res.post_ok ((post_bind _ _).mp h) fun xs ρ1 q O1 vs H1 hl R1 => by
    obtain ⟨ds, e1, q2⟩ := (post_opt _).mp ((post_bind _ _).mp q)
    obtain ⟨z, e2, q3⟩ := (post_opt _).mp q2
    have rp := pushC_reps hl R1 e1
    split at e2
    · rename_i a b
      cases e2
      cases rp with
      | cons r1 rr =>
        cases rr with
        | cons r2 rr =>
          cases rr
          obtain ⟨a1, v1, rfl, s1, _⟩ := (show Vw G.K H1 O1 _ _ from .inl r1).lst
          obtain ⟨a2, v2, rfl, s2, _⟩ := (show Vw G.K H1 O1 _ _ from .inl r2).lst
          rw [hK] at s1 s2
          refine ⟨a1, a2, v1, v2, rfl, s1, s2, q3 O1 H1 _ _ ?_ (((pushC_pop R1).push (t := ⟨.ref a1, .lst a, .shr⟩) r1).push (t := ⟨.ref a2, .lst b, .shr⟩) r2) walk_zip⟩
          exact (NoNm.nil.cons fun i z => by cases z).cons fun i z => by cases z
    · cases e2⟩
/-- enumerate of a list -/
def iEnum1 (l : List (Bool × DE)) : M (List D) := do
  let xs ← dA l
  let ds ← mOpt (shrs xs)
  mOpt (match ds with
    | [.lst a] => some (a.zipIdx.map fun p => .tup [.int p.2, p.1])
    | _ => none)
theorem walk_enum {K : PySem.W.Frag} {a : Addr} {xs : List D} : WalkOk K [⟨.ref a, .lst xs, .shr⟩] (Ite K a) (xs.zipIdx.map fun p => .tup [.int p.2, p.1]) := fun G O σ H ρ i T' hK R => by
  have ra : Rep G.K H (lin O) (.ref a) (.lst xs) := tmp_in (T2 := T') (T := []) R.tm
  obtain ⟨_, vs, e, sq, rs⟩ := (show Vw G.K H O (.ref a) (.lst xs) from .inl ra).lst
  cases e
  rw [hK] at sq
  have hl : (xs.zipIdx.map fun p => D.tup [.int p.2, p.1]).length = xs.length := by simp
  refine ⟨fun hi => ?_, fun hi => ⟨vs, sq, ?_⟩, fun x hx v H' y => ?_⟩
  · rw [hl] at hi
    obtain ⟨u, h1, _⟩ := rs.get (List.getElem?_eq_getElem hi)
    exact ⟨vs, u, sq, h1⟩
  · rw [hl] at hi
    rw [rs.len]; exact hi
  · obtain ⟨P, x1, rfl, nP, rfl, f1⟩ := y
    rw [List.getElem?_map, List.getElem?_zipIdx] at hx
    cases q : xs[i]? with
    | none => rw [q] at hx; cases hx
    | some pr =>
      rw [q] at hx
      cases hx
      obtain ⟨u, h1, k1⟩ := rs.get q
      have e1 : x1 = u := by
        have z := f1 vs sq
        rw [h1] at z
        exact (Option.some.inj z).symm
      rw [e1]
      refine ⟨O, ?_⟩
      have R2 := R.freshT (d := .tup [.int (i : Nat), pr]) nP (.tup (.cons (.con (.int (i : Nat))) (.cons k1 .nil)))
      simpa using R2
theorem si_enum {elts : List Expr} {kk : Nat} {tpos : Pos} {l : List (Bool × DE)} (hm : X.mg "enumerate" = none) (ha : SA X [e] l) (hg : Gl X "enumerate" := by rfl)
    (hs : starEach [e] X.env = [(false, eval e X.env)] := by rfl) : SI X (.Tuple elts kk tpos) (.Call (.Name "enumerate" p) [e] [] pos) (iEnum1 l) := fun W tk =>
  PI.imp (pi_enum hg hm (ha W tk) hs) fun σ H Q ⟨G, O, ρ, hK, R, h⟩ => ⟨G, O, ρ, [], hK, R, Res.post_ok ((post_bind _ _).mp h) fun xs ρ1 q O1 vs H1 hl R1 => by
    obtain ⟨ds, e1, q2⟩ := (post_opt _).mp ((post_bind _ _).mp q)
    obtain ⟨z, e2, q3⟩ := (post_opt _).mp q2
    have rp := pushC_reps hl R1 e1
    split at e2
    · rename_i a
      cases e2
      cases rp with
      | cons r1 rr =>
        cases rr
        obtain ⟨a1, v1, rfl, s1, _⟩ := (show Vw G.K H1 O1 _ _ from .inl r1).lst
        rw [hK] at s1
        exact ⟨a1, v1, rfl, s1, q3 O1 H1 _ _ (NoNm.nil.cons fun i z => by cases z) ((pushC_pop R1).push (t := ⟨.ref a1, .lst a, .shr⟩) r1) walk_enum⟩
    · cases e2⟩
end
def forD (t : Tg) (body : DS) : List D → DS
  | [] => pure .nx
  | x :: xs => do
    t.put x
    let f ← body
    match f with
    | .nx => forD t body xs
    | .cnt => forD t body xs
    | .brk => pure .nx
    | f => pure f
def dFor (it : M (List D)) (t : Tg) (body : DS) : DS := do
  let xs ← it
  forD t body xs
theorem ss_for {pj : VK → VK} {X : Cx} {tg iter : Expr} {body : List Stmt} {it : M (List D)} {t : Tg} {sb : DS} {pos : Pos} (hx : CxG X) (hi : SI X tg iter it) (hg : SG X tg t) (hb : SSsf pj X body sb)
    (hs : ∀ x, foldedSetIterable iter X.env x = pure x := by intro _; rfl) : SSf pj X (.For tg iter body [] pos) (dFor it t sb) := fun W tk => PS.imp (ps_for hx.pass hx.calm (hi W tk) hg (hb W tk) hs) fun D σ H ⟨G, O, ρ, hK, R, h⟩ => by
  refine ⟨G, O, ρ, hK, R, Res.post_mono ((post_bind _ _).mp h) (fun xs ρ1 q O1 H1 J T hT R1 wk => ?_) fun x ρ' q => q σ⟩
  refine ⟨fun i m σ H => m = xs.length - i ∧ i ≤ xs.length ∧ ∃ O ρ, Rel G O σ H ρ T ∧ ((forD t sb (xs.drop i)) ρ).post (FlOk G (D.re pj) []) (EXs G W), ⟨xs.length, by simp, Nat.zero_le _, O1, ρ1, R1, q⟩, ?_⟩
  rintro i m σ2 H2 ⟨rfl, hi2, O2, ρ2, R2, q2⟩
  obtain ⟨w1, w2, w3⟩ := wk G O2 σ2 H2 ρ2 i [] hK R2
  by_cases hlt : i < xs.length
  · refine .inr ⟨w1 hlt, fun σ' H' => ∃ O ρ, Rel G O σ' H' ρ T ∧ ((forD t sb (xs.drop (i + 1))) ρ).post (FlOk G (D.re pj) []) (EXs G W), fun σ' H' p => ⟨xs.length - (i + 1), by omega, rfl, hlt, p⟩, fun v H' y => ?_⟩
    obtain ⟨O3, R3⟩ := w3 xs[i] (List.getElem?_eq_getElem hlt) v H' y
    rw [List.drop_eq_getElem_cons hlt] at q2
    refine ⟨G, O3, ρ2, T, xs[i], hK, hT, R3, noex (fun ρ x ρ' => tg_noex ρ x ρ') ((post_bind _ _).mp q2) fun ρ3 q3 O4 σ4 H4 _ R4 => ?_⟩
    refine tS.at hT hK R4 (Res.post_ok ((post_bind _ _).mp q3) fun f ρ4 q4 => ?_)
    cases f with
    | nx => exact fun O5 σ5 H5 R5 => ⟨O5, ρ4, R5, q4⟩
    | cnt => exact fun O5 σ5 H5 R5 => ⟨O5, ρ4, R5, q4⟩
    | brk => exact fun O5 σ5 H5 R5 => q4 O5 σ5 H5 R5.nil
    | ret d b => exact fun O5 σ5 v5 H5 R5 => let ⟨O6, R6⟩ := R5.only; q4 O6 σ5 v5 H5 R6
  · have e : i = xs.length := by omega
    subst e
    rw [List.drop_length] at q2
    exact .inl ⟨w2 (Nat.le_refl _), q2 O2 σ2 H2 R2.nil⟩
def whileN (c : M Bool) (body : DS) : Nat → DS
  | 0 => mStuck
  | n + 1 => do
    let k ← c
    if k then do
      let f ← body
      match f with
      | .nx => whileN c body n
      | .cnt => whileN c body n
      | .brk => pure .nx
      | f => pure f
    else pure .nx
open Classical in
noncomputable def dWhile (c : M Bool) (body : DS) : DS := fun ρ => if h : ∃ n, whileN c body n ρ ≠ .stuck then whileN c body h.choose ρ else .stuck
theorem post_ne {α : Type} {r : Res α} {Q : α → Rho → Prop} {E : Exn → Rho → Prop} (h : r.post Q E) : r ≠ .stuck := fun z => by rw [z] at h; exact h
theorem bind_ns {α β : Type} {m : M α} {f g : α → M β} {ρ : Rho} (h : (m >>= f) ρ ≠ .stuck) (i : ∀ a ρ', f a ρ' ≠ .stuck → g a ρ' = f a ρ') : (m >>= g) ρ = (m >>= f) ρ := by
  show M.bind m g ρ = M.bind m f ρ
  replace h : M.bind m f ρ ≠ .stuck := h
  unfold M.bind at h ⊢
  cases q : m ρ with
  | stuck => rfl
  | ok a ρ' => rw [q] at h; exact i a ρ' h
  | ex x ρ' => rfl
theorem whileN_more (c : M Bool) (body : DS) : ∀ (n k : Nat) (ρ : Rho), whileN c body n ρ ≠ .stuck → whileN c body (n + k) ρ = whileN c body n ρ
  | 0, k, ρ, h => absurd rfl h
  | n + 1, k, ρ, h => by
    rw [show n + 1 + k = (n + k) + 1 by omega]
    refine bind_ns h fun b ρ1 h1 => ?_
    cases b with
    | false => rfl
    | true =>
      rw [if_pos rfl] at h1 ⊢
      rw [if_pos rfl]
      refine bind_ns h1 fun f ρ2 h2 => ?_
      cases f with
      | nx => exact whileN_more c body n k ρ2 h2
      | cnt => exact whileN_more c body n k ρ2 h2
      | brk => rfl
      | ret d b => rfl
theorem dWhile_of {c : M Bool} {body : DS} {n : Nat} {ρ : Rho} (h : whileN c body n ρ ≠ .stuck) : dWhile c body ρ = whileN c body n ρ := by
  have ex : ∃ n, whileN c body n ρ ≠ .stuck := ⟨n, h⟩
  unfold dWhile
  rw [dif_pos ex]
  have hc := ex.choose_spec
  rcases Nat.le_total n ex.choose with z | z
  · obtain ⟨k, e⟩ := Nat.exists_eq_add_of_le z
    rw [e]
    exact whileN_more c body n k ρ h
  · obtain ⟨k, e⟩ := Nat.exists_eq_add_of_le z
    rw [e]
    exact (whileN_more c body _ k ρ hc).symm
theorem dWhile_ex {c : M Bool} {body : DS} {ρ : Rho} (h : dWhile c body ρ ≠ .stuck) : ∃ n, dWhile c body ρ = whileN c body n ρ := by
  unfold dWhile at h ⊢
  by_cases ex : ∃ n, whileN c body n ρ ≠ .stuck
  · rw [dif_pos ex]; exact ⟨_, rfl⟩
  · rw [dif_neg ex] at h; exact absurd rfl h
theorem ss_while {pj : VK → VK} {X : Cx} {c : Expr} {body : List Stmt} {qc : M Bool} {sb : DS} {pos : Pos} (hx : CxG X) (hc : ST X c qc) (hb : SSsf pj X body sb) : SSf pj X (.While c body [] pos) (dWhile qc sb) := fun W tk => PS.imp (ps_while hx.pass (hc W tk) (hb W tk)) fun D σ H ⟨G, O, ρ, hK, R, h⟩ => by
  obtain ⟨n, e⟩ := dWhile_ex (post_ne h)
  rw [e] at h
  refine ⟨fun n σ H => ∃ O ρ, Rel G O σ H ρ [] ∧ ((whileN qc sb n) ρ).post (FlOk G (D.re pj) []) (EXs G W), ⟨n, O, ρ, R, h⟩, ?_⟩
  rintro n σ1 H1 ⟨O1, ρ1, R1, q⟩
  cases n with
  | zero => exact q.elim
  | succ n =>
    refine ⟨G, O1, ρ1, hK, R1, Res.post_mono ((post_bind _ _).mp q) (fun b ρ2 q2 O2 H2 R2 => ?_) fun x ρ' q => q σ1⟩
    cases b with
    | false => rw [if_neg Bool.false_ne_true] at q2 ⊢; exact q2 O2 σ1 H2 R2
    | true =>
      rw [if_pos rfl] at q2 ⊢
      refine ⟨fun σ H => ∃ O ρ, Rel G O σ H ρ [] ∧ ((whileN qc sb n) ρ).post (FlOk G (D.re pj) []) (EXs G W), fun σ' H' p => ⟨n, Nat.lt_succ_self _, p⟩, ?_⟩
      refine ⟨G, O2, ρ2, hK, R2, Res.post_ok ((post_bind _ _).mp q2) fun f ρ3 q3 => ?_⟩
      cases f with
      | nx => exact fun O5 σ5 H5 R5 => ⟨O5, ρ3, R5, q3⟩
      | cnt => exact fun O5 σ5 H5 R5 => ⟨O5, ρ3, R5, q3⟩
      | brk => exact q3
      | ret d b => exact q3
end L2.VL
end
section
set_option Elab.async false
set_option linter.all false
set_option maxRecDepth 100000
namespace L2.VL
open PySem PySem.Spec PyProof.Rows
def wipeR (ρ : Rho) : List Nat → Rho
  | [] => ρ
  | v :: vs => (wipeR ρ vs).set v none
def wipeM (own : List Nat) : M Unit := fun ρ => .ok () (wipeR ρ own)
def noX {α : Type} (m : M α) : M α := fun ρ => match m ρ with
  | .ex _ _ => .stuck
  | r => r
theorem post_noX {α : Type} {m : M α} {ρ : Rho} {Q : α → Rho → Prop} {E : Exn → Rho → Prop} (h : ((noX m) ρ).post Q E) (E' : Exn → Rho → Prop) : (m ρ).post Q E' := by
  unfold noX at h
  cases q : m ρ with
  | stuck => rw [q] at h; exact h
  | ok a ρ' => rw [q] at h; exact h
  | ex x ρ' => rw [q] at h; exact h.elim
def lcD (own : List Nat) (t : Tg) (q : M Bool) (r : DE) : List D → M (List D)
  | [] => pure []
  | x :: xs => do
    wipeM own
    t.put x
    let b ← noX q
    if b then do
      let y ← noX r
      let z ← keep false y
      let rest ← lcD own t q r xs
      pure (z.1 :: rest)
    else lcD own t q r xs
def okOwn (own : List Nat) : M Unit := fun ρ => if own.all (fun i => !pinned ρ i) then .ok () ρ else .stuck
def lcEnd (ds : List D) : Option (D × Kd) := if ds.length ≤ cap then some (.lst ds, .fr) else none
def dLc (own : List Nat) (it : M (List D)) (t : Tg) (q : M Bool) (r : DE) : DE := do
  let xs ← it
  okOwn own
  let ds ← lcD own t q r xs
  wipeM own
  mOpt (lcEnd ds)
theorem wipe_at (σ : St) : ∀ (own : List Nat) (i : Nat), (wipe σ own)[i]? = if i ∈ own then σ[i]?.map (fun _ => none) else σ[i]?
  | [], i => by simp [wipe]
  | v :: vs, i => by
    unfold wipe
    have ih := wipe_at σ vs i
    by_cases h : v = i
    · subst h
      rw [if_pos List.mem_cons_self]
      by_cases hl : v < σ.length
      · rw [List.getElem?_set_self (by rw [wipe_length]; exact hl), List.getElem?_eq_getElem hl]; rfl
      · rw [List.getElem?_eq_none (by rw [List.length_set, wipe_length]; omega), List.getElem?_eq_none (by omega)]; rfl
    · rw [List.getElem?_set_ne h, ih]
      by_cases h2 : i ∈ vs
      · rw [if_pos h2, if_pos (List.mem_cons_of_mem _ h2)]
      · rw [if_neg h2, if_neg (fun z => (List.mem_cons.mp z).elim (fun e => h e.symm) h2)]
theorem wipeR_at (ρ : Rho) : ∀ (own : List Nat) (i : Nat), (wipeR ρ own)[i]? = if i ∈ own then ρ[i]?.map (fun _ => none) else ρ[i]?
  | [], i => by simp [wipeR]
  | v :: vs, i => by
    unfold wipeR
    have ih := wipeR_at ρ vs i
    have wl : ∀ vs : List Nat, (wipeR ρ vs).length = ρ.length := fun vs => by
      induction vs with
      | nil => rfl
      | cons v vs ih => unfold wipeR; rw [List.length_set, ih]
    by_cases h : v = i
    · subst h
      rw [if_pos List.mem_cons_self]
      by_cases hl : v < ρ.length
      · rw [List.getElem?_set_self (by rw [wl]; exact hl), List.getElem?_eq_getElem hl]; rfl
      · rw [List.getElem?_eq_none (by rw [List.length_set, wl]; omega), List.getElem?_eq_none (by omega)]; rfl
    · rw [List.getElem?_set_ne h, ih]
      by_cases h2 : i ∈ vs
      · rw [if_pos h2, if_pos (List.mem_cons_of_mem _ h2)]
      · rw [if_neg h2, if_neg (fun z => (List.mem_cons.mp z).elim (fun e => h e.symm) h2)]
theorem wipeR_length (ρ : Rho) : ∀ vs : List Nat, (wipeR ρ vs).length = ρ.length
  | [] => rfl
  | v :: vs => by unfold wipeR; rw [List.length_set, wipeR_length ρ vs]
theorem wipe_ag {own is : List Nat} {σ σ' : St} (h : AgOut is σ σ') (hs : ∀ i ∈ is, i ∈ own) : wipe σ' own = wipe σ own := by
  apply List.ext_getElem?
  intro i
  rw [wipe_at, wipe_at]
  by_cases hi : i ∈ own
  · rw [if_pos hi, if_pos hi]
    by_cases hl : i < σ.length
    · rw [List.getElem?_eq_getElem hl, List.getElem?_eq_getElem (by rw [h.1]; exact hl)]; rfl
    · rw [List.getElem?_eq_none (l := σ') (by rw [h.1]; omega), List.getElem?_eq_none (l := σ) (by omega)]
  · rw [if_neg hi, if_neg hi]
    exact h.2 i fun z => hi (hs i z)
theorem wipe_wipe {own : List Nat} {σ : St} : wipe (wipe σ own) own = wipe σ own := by
  apply List.ext_getElem?
  intro i
  rw [wipe_at, wipe_at]
  by_cases hi : i ∈ own
  · rw [if_pos hi, if_pos hi]
    cases σ[i]? <;> rfl
  · rw [if_neg hi, if_neg hi]
section
variable {G : Fix} {O : Own} {σ σ' : St} {H : Hp} {ρ : Rho} {T : List Tmp} {own : List Nat}
/-- the slots at own are forgotten; the frame's other slots are as they are -/
theorem Rel.wipe (R : Rel G O σ H ρ T) (hT : NoNm T) (hp : ∀ i ∈ own, G.Pin i = none) (hσ : σ'.length = σ.length) (ha : ∀ i, i ∉ own → σ'[i]? = σ[i]?) : Rel G O σ' H (wipeR ρ own) T := by
  have get : ∀ i s, (wipeR ρ own)[i]? = some (some s) → i ∉ own ∧ ρ[i]? = some (some s) := fun i s e => by
    rw [wipeR_at] at e
    by_cases hi : i ∈ own
    · rw [if_pos hi] at e
      cases q : ρ[i]? with
      | none => rw [q] at e; cases e
      | some _ => rw [q] at e; cases e
    · rw [if_neg hi] at e
      exact ⟨hi, e⟩
  refine ⟨by rw [wipeR_length, R.len, hσ], R.fr, R.ot, R.tr, fun i v e => ?_, fun i s e => ?_, tmps_slots (fun u hu j hj => absurd hj (hT u hu j)) R.tm⟩
  · have hi : i ∉ own := fun z => by rw [hp i z] at e; cases e
    obtain ⟨h1, s, h2, h3⟩ := R.pn i v e
    exact ⟨by rw [ha i hi]; exact h1, s, by rw [wipeR_at, if_neg hi]; exact h2, h3⟩
  · obtain ⟨hi, e⟩ := get i s e
    obtain ⟨v, h1, h2⟩ := R.sl i s e
    exact ⟨v, by rw [ha i hi]; exact h1, h2⟩
end
def STs (X : Cx) (ifs : List Expr) (q : M Bool) : Prop := ∀ W, Takes X W → PTs X ifs (tT X.K W q)
theorem PTs.imp {X : Cx} {e : List Expr} {t t' : TT} (h : PTs X e t) (i : ∀ σ H Q, t' σ H Q → t σ H Q) : PTs X e t' := ⟨fun pins s σ H Q I q => h.run pins s σ H Q I (i σ H Q q)⟩
section
variable {X : Cx} {tg iter elt : Expr} {ifs : List Expr} {scope : Scope} {own : List (Str × Nat)} {it : M (List D)} {t : Tg} {q : M Bool} {r : DE} {pos : Pos}
theorem sts_nil : STs X [] (pure true) := fun W tk => PTs.imp pts_nil fun σ H Q ⟨G, O, ρ, hK, R, h⟩ => h O H R
theorem sts_one {c : Expr} (h : ST X c q) : STs X [c] q := fun W tk => pts_one (h W tk)
abbrev WF : WX := fun _ _ _ _ => False
theorem takesF {X : Cx} : Takes X WF := fun u s' ⟨a, B, sI, pins, σ, H, cls, d, e, I, nb, up, sky, na, os, ag, w⟩ => w.elim
theorem lc_imp {K : PySem.W.Frag} {W : WX} {vs : List Nat} (hsub : ∀ i ∈ t.slots, i ∈ vs) (σ : St) (H : Hp) (Q : VK) (h : tE K W (dLc vs it t q r) σ H Q) : tLc (tI K W it) (tG K t.slots t.put) (tT K WF q) (tE K WF r) vs σ H Q := by
  obtain ⟨G, O, ρ, hK, R, h⟩ := h
  refine ⟨G, O, ρ, hK, R, Res.post_ok ((post_bind _ _).mp h) fun xs ρ1 q1 O1 H1 J T hT R1 wk => ?_⟩
  intro Dl hD
  replace q1 := (post_bind _ _).mp q1
  unfold okOwn at q1
  by_cases hok : vs.all (fun i => !pinned ρ1 i) = true
  · rw [if_pos hok] at q1
    have hp : ∀ i ∈ vs, G.Pin i = none := fun i hi => by
      cases e : G.Pin i with
      | none => rfl
      | some v =>
        obtain ⟨_, s, h2, h3⟩ := R1.pn i v e
        have := List.all_eq_true.mp hok i hi
        unfold pinned at this
        rw [h2] at this
        dsimp only at this
        rw [h3] at this
        cases this
    replace q1 : ((lcD vs t q r xs) ρ1).post (fun ds ρ' => ((do wipeM vs; mOpt (lcEnd ds) : DE) ρ').post (fun x ρ' => ∀ O' v H', Rel G O' σ H' ρ' [⟨v, x.1, x.2⟩] → Q v H') (EX G σ W)) (EX G σ W) := (post_bind _ _).mp q1
    obtain ⟨O2, R2⟩ := R1.fresh (d := .lst []) hD (.lst .nil)
    let Fin : List D → Rho → Prop := fun ds ρ' => ((do wipeM vs; mOpt (lcEnd ds) : DE) ρ').post (fun x ρ' => ∀ O' v H', Rel G O' σ H' ρ' [⟨v, x.1, x.2⟩] → Q v H') (EX G σ W)
    refine ⟨fun i m H => m = xs.length - i ∧ i ≤ xs.length ∧ ∃ (O : Own) (ρ : Rho) (acc : List D) (σ2 : St), L2.wipe σ2 vs = L2.wipe σ vs ∧ Rel G O σ2 H ρ (⟨.ref Dl, .lst acc, .fr⟩ :: T) ∧
      ((lcD vs t q r (xs.drop i)) ρ).post (fun ds ρ' => Fin (acc ++ ds) ρ') (EX G σ W), ⟨xs.length, by simp, Nat.zero_le _, O2, ρ1, [], σ, rfl, R2, q1⟩, ?_⟩
    rintro i m H3 ⟨rfl, hi, O3, ρ3, acc, σ2, hw, R3, q3⟩
    have hT2 : NoNm (⟨.ref Dl, .lst acc, .fr⟩ :: T) := hT.cons fun i z => by cases z
    have hlen : σ2.length = σ.length := by
      have := congrArg List.length hw
      rw [wipe_length, wipe_length] at this; exact this
    obtain ⟨w1, w2, w3⟩ := wk G O3 σ2 H3 ρ3 i [_] hK R3
    have off : ∀ j, j ∉ vs → σ2[j]? = σ[j]? := fun j hj => by
      have z1 := wipe_at σ2 vs j
      have z2 := wipe_at σ vs j
      rw [if_neg hj] at z1 z2
      rw [← z1, ← z2, hw]
    by_cases hlt : i < xs.length
    · refine .inr ⟨w1 hlt, fun H' => ∃ (O : Own) (ρ : Rho) (acc : List D) (σ2 : St), L2.wipe σ2 vs = L2.wipe σ vs ∧ Rel G O σ2 H' ρ (⟨.ref Dl, .lst acc, .fr⟩ :: T) ∧
        ((lcD vs t q r (xs.drop (i + 1))) ρ).post (fun ds ρ' => Fin (acc ++ ds) ρ') (EX G σ W), fun H' p => ⟨xs.length - (i + 1), by omega, rfl, hlt, p⟩, fun v H' y => ?_⟩
      obtain ⟨O4, R4⟩ := w3 xs[i] (List.getElem?_eq_getElem hlt) v H' y
      rw [List.drop_eq_getElem_cons hlt] at q3
      have q3a := (post_bind (wipeM vs) _).mp q3
      replace q3 := (post_bind (t.put xs[i]) _).mp (show Res.post ((t.put xs[i] >>= fun _ => _) (wipeR ρ3 vs)) _ _ from q3a)
      have R5 : Rel G O4 (L2.wipe σ vs) H' (wipeR ρ3 vs) (⟨v, xs[i], .shr⟩ :: ⟨.ref Dl, .lst acc, .fr⟩ :: T) := R4.wipe (hT2.cons fun i z => by cases z) hp (by rw [wipe_length, hlen]) fun j hj => by
        rw [wipe_at, if_neg hj]; exact (off j hj).symm
      refine ⟨G, O4, _, _, xs[i], hK, hT2, R5, noex (fun ρ x ρ' => tg_noex ρ x ρ') q3 fun ρ4 q4 O6 σ6 H6 ag R6 => ?_⟩
      have hw6 : L2.wipe σ6 vs = L2.wipe σ vs := (wipe_ag ag hsub).trans wipe_wipe
      refine ⟨hw6, tT.at hK R6 (Res.post_ok (post_noX ((post_bind _ _).mp q4) _) fun b ρ5 q5 O7 H7 R7 => ?_)⟩
      cases b with
      | false =>
        rw [if_neg Bool.false_ne_true] at q5 ⊢
        exact ⟨O7, ρ5, acc, σ6, hw6, R7, q5⟩
      | true =>
        rw [if_pos rfl] at q5 ⊢
        refine tE.at hK R7 (Res.post_ok (post_noX ((post_bind _ _).mp q5) _) fun y ρ6 q6 O8 u H8 R8 => ?_)
        obtain ⟨d, e1, q7⟩ := keep_false ((post_bind _ _).mp q6)
        obtain ⟨O9, R9⟩ := R8.settle (d := d) e1
        obtain ⟨a1, ho1, ev, ea, hh, c1⟩ := (OwnX.flat (show OwnX _ _ _ _ _ _ from R9.tm.2.1))
        cases ev
        cases c1 with
        | lst rs =>
          have q8 := (post_bind _ _).mp q7
          -- the size
          have hz : acc.length < sizeLine := by
            cases qq : (lcD vs t q r (xs.drop (i + 1))) (settleR ρ6 y.2) with
            | stuck => rw [qq] at q8; exact q8.elim
            | ok ds ρ7 =>
              rw [qq] at q8
              replace q8 : Fin (acc ++ (d :: ds)) ρ7 := q8
              replace q8 : ((mOpt (lcEnd (acc ++ (d :: ds))) : DE) (wipeR ρ7 vs)).post (fun x ρ' => ∀ O' v H', Rel G O' σ H' ρ' [⟨v, x.1, x.2⟩] → Q v H') (EX G σ W) := q8
              obtain ⟨z, e3, _⟩ := (post_opt _).mp q8
              unfold lcEnd at e3
              split at e3
              · rename_i hl
                rw [List.length_append, List.length_cons, cap_eq] at hl
                omega
              · cases e3
            | ex x ρ7 =>
              -- no exception leaves the block
              exfalso
              have noexc : ∀ (l : List D) (ρ : Rho) (x : Exn) (ρ' : Rho), (lcD vs t q r l) ρ ≠ .ex x ρ' := by
                intro l
                induction l with
                | nil => intro ρ x ρ' z; cases z
                | cons a l ih =>
                  intro ρ x ρ' z
                  replace z : (M.bind (wipeM vs) fun _ => M.bind (t.put a) fun _ => M.bind (noX q) fun b => if b then M.bind (noX r) fun y => M.bind (keep false y) fun z => M.bind (lcD vs t q r l) fun rest => M.ret (z.1 :: rest) else lcD vs t q r l) ρ = .ex x ρ' := z
                  unfold M.bind at z
                  dsimp only [wipeM] at z
                  cases h1 : (t.put a) (wipeR ρ vs) with
                  | stuck => rw [h1] at z; cases z
                  | ex y ρ2 => exact tg_noex _ _ _ h1
                  | ok u ρ2 =>
                    rw [h1] at z
                    dsimp only at z
                    cases h2 : (noX q) ρ2 with
                    | stuck => rw [h2] at z; cases z
                    | ex y ρ3 =>
                      unfold noX at h2
                      split at h2
                      · cases h2
                      · rename_i hn; exact hn _ _ h2
                    | ok b ρ3 =>
                      rw [h2] at z
                      dsimp only at z
                      cases b with
                      | false => exact ih _ _ _ z
                      | true =>
                        simp only [↓reduceIte] at z
                        cases h3 : (noX r) ρ3 with
                        | stuck => rw [h3] at z; cases z
                        | ex y ρ4 =>
                          unfold noX at h3
                          split at h3
                          · cases h3
                          · rename_i hn; exact hn _ _ h3
                        | ok y ρ4 =>
                          rw [h3] at z
                          dsimp only at z
                          cases h4 : (keep false y) ρ4 with
                          | stuck => rw [h4] at z; cases z
                          | ex w ρ5 =>
                            replace h4 : M.bind (dcur y) (fun d => M.bind (settleM y.2) fun _ => M.ret (d, Kd.shr)) ρ4 = .ex w ρ5 := h4
                            unfold M.bind dcur at h4
                            cases h5 : cur ρ4 y with
                            | none => rw [h5] at h4; cases h4
                            | some d => rw [h5] at h4; cases h4
                          | ok w ρ5 =>
                            rw [h4] at z
                            dsimp only at z
                            cases h5 : (lcD vs t q r l) ρ5 with
                            | stuck => rw [h5] at z; cases z
                            | ex w2 ρ6 => exact ih _ _ _ h5
                            | ok w2 ρ6 => rw [h5] at z; cases z
              exact noexc _ _ _ _ qq
          refine ⟨_, hh, by rw [rs.len]; exact hz, O9, settleR ρ6 y.2, acc ++ [d], σ6, hw6, ?_, ?_⟩
          · exact R9.pop.writeT (d := .lst (acc ++ [d])) hh (.lst (rs.append (.cons (show Rep _ _ _ _ _ from R9.tm.1) .nil)))
          · refine Res.post_ok q8 fun ds ρ7 q9 => ?_
            show Fin (acc ++ [d] ++ ds) ρ7
            rw [List.append_assoc]
            exact q9
    · have e : i = xs.length := by omega
      subst e
      rw [List.drop_length] at q3
      replace q3 : Fin (acc ++ []) ρ3 := q3
      rw [List.append_nil] at q3
      replace q3 : ((mOpt (lcEnd acc) : DE) (wipeR ρ3 vs)).post (fun x ρ' => ∀ O' v H', Rel G O' σ H' ρ' [⟨v, x.1, x.2⟩] → Q v H') (EX G σ W) := q3
      obtain ⟨z, e3, q4⟩ := (post_opt _).mp q3
      unfold lcEnd at e3
      split at e3
      · cases e3
        obtain ⟨O6, R6⟩ := (R3.wipe (σ' := σ) hT2 hp hlen.symm fun j hj => (off j hj).symm).only
        exact .inl ⟨w2 (Nat.le_refl _), q4 O6 _ _ R6⟩
      · cases e3
  · rw [if_neg hok] at q1; exact q1.elim
theorem cxg_blk (hx : CxG X) (s : Shared) (H : Hp) (scope : Scope) (cenv : Env) (fp : List Addr) : CxG (X.blk s H scope cenv fp) := ⟨hx.calm, hx.nd, PassesOwn.never, hx.gu⟩
theorem se_lc (own : List (Str × Nat)) (hx : CxG X) (hi : SI X tg iter it) (ok : blkC X.N X.env.scope scope own = true)
    (hg : ∀ (s : Shared) (H : Hp) (C : Addr) (cl : List (Str × Addr)) (fp : List Addr), SG (X.blk s H scope (compEnvC scope cl C X.env) fp) tg t) (ht : ∀ (s : Shared) (H : Hp) (C : Addr) (cl : List (Str × Addr)) (fp : List Addr), STs (X.blk s H scope (compEnvC scope cl C X.env) fp) ifs q)
    (he : ∀ (s : Shared) (H : Hp) (C : Addr) (cl : List (Str × Addr)) (fp : List Addr), SE (X.blk s H scope (compEnvC scope cl C X.env) fp) elt r) (hsub : ∀ i ∈ t.slots, i ∈ own.map (·.2) := by decide) (hs : ∀ x, foldedSetIterable iter X.env x = pure x := by intro _; rfl) :
    SE X (.ListComp elt [⟨tg, iter, ifs, 0⟩] scope pos) (dLc (own.map (·.2)) it t q r) := fun W tk =>
  PE.imp (pe_lc (g := tG X.K t.slots t.put) (tt := tT X.K WF q) (te := tE X.K WF r) hx.calm hx.nd (hi W tk) (blkOk_by ok) (fun s H C cl fp => hg s H C cl fp) (fun s H C cl fp => ht s H C cl fp WF takesF) (fun s H C cl fp => he s H C cl fp WF takesF) hs) (lc_imp hsub)
theorem ss_setLc {pj : VK → VK} (own : List (Str × Nat)) (i : Nat) {y : Str} {py spos : Pos} (hx : CxG X) (hi : SI X tg iter it) (ok : blkC X.N X.env.scope scope own = true)
    (hg : ∀ (s : Shared) (H : Hp) (C : Addr) (cl : List (Str × Addr)) (fp : List Addr), SG (X.blk s H scope (compEnvC scope cl C X.env) fp) tg t) (ht : ∀ (s : Shared) (H : Hp) (C : Addr) (cl : List (Str × Addr)) (fp : List Addr), STs (X.blk s H scope (compEnvC scope cl C X.env) fp) ifs q)
    (he : ∀ (s : Shared) (H : Hp) (C : Addr) (cl : List (Str × Addr)) (fp : List Addr), SE (X.blk s H scope (compEnvC scope cl C X.env) fp) elt r) (hsw : swapsWith (.ListComp elt [⟨tg, iter, ifs, 0⟩] scope pos) (some (.Name y py)) spos.line X.env = pure true)
    (hy : X.N[i]? = some y := by rfl) (hyl : X.env.scope.names.lookup y = some .local := by rfl) (hsub : ∀ i ∈ t.slots, i ∈ own.map (·.2) := by decide) (hs : ∀ x, foldedSetIterable iter X.env x = pure x := by intro _; rfl) :
    SSf pj X (.Assign [.Name y py] (.ListComp elt [⟨tg, iter, ifs, 0⟩] scope pos) spos) (dSet i (dLc (own.map (·.2)) it t q r)) := fun W tk =>
  PS.imp (ps_setLc (g := tG X.K t.slots t.put) (tt := tT X.K WF q) (te := tE X.K WF r) hx.calm hx.nd hy hyl hsw (hi W tk) (blkOk_by ok) (fun s H C cl fp => hg s H C cl fp) (fun s H C cl fp => ht s H C cl fp WF takesF) (fun s H C cl fp => he s H C cl fp WF takesF) hs) fun D σ H ⟨G, O, ρ, hK, R, h⟩ =>
    lc_imp (W := W) hsub σ H _ ⟨G, O, ρ, hK, R, Res.post_mono ((post_bind _ _).mp h) (fun y ρ1 q O' v H' R' => by
      obtain ⟨O2, ρ2, R2, q2⟩ := put_post .nil R' ((post_bind _ _).mp q)
      exact q2 O2 _ H' R2) fun x ρ' q => q σ⟩
end
end L2.VL
end
section
set_option Elab.async false
set_option linter.all false
set_option maxRecDepth 100000
namespace L2.VL
open PySem PySem.Spec PyProof.Rows
structure Arg where
  d : D
  own : Bool
inductive FRes where
  | ret (d : D) (fr : Bool) (outs : Rho)
  | exc (x : Exn) (outs : Rho)
abbrev Fn := List Arg → Option FRes
def shA (d : D) : Arg := ⟨d, false⟩
def slotOf (a : Arg) : Option Slot := some ⟨a.d, a.own, a.own⟩
def runFn (n : Nat) (body : DS) : Fn := fun args => match body (args.map slotOf ++ List.replicate (n - args.length) none) with
  | .stuck => none
  | .ex x ρ' => some (.exc x (ρ'.take args.length))
  | .ok .nx ρ' => some (.ret .non false (ρ'.take args.length))
  | .ok (.ret d b) ρ' => some (.ret d b (ρ'.take args.length))
  | .ok _ _ => none
/-- what a def promises -/
def FRes.post (r : Option FRes) (Q : D → Bool → Rho → Prop) (E : Exn → Rho → Prop) : Prop := match r with
  | none => False
  | some (.ret d b outs) => Q d b outs
  | some (.exc x outs) => E x outs
def spF (K : PySem.W.Frag) (F : Fn) (np : Nat) : Sp := fun vs H Q E => vs.length = np ∧ ∃ (G : Fix) (O : Own) (args : List Arg), G.K = K ∧ args.length = np ∧ Rel G O (vs.map some) H (args.map slotOf) [] ∧
  FRes.post (F args) (fun d b outs => ∀ O' σ' v H', Rel G O' σ' H' outs [⟨v, d, frK b⟩] → Q v H') (fun x outs => ∀ O' σ' H' dd, Rel G O' σ' H' outs [] → ExnRep K H' O' x dd → E (clsV K x.c) dd H')
section
variable {G : Fix} {O O1 : Own} {σ : St} {H H' : Hp} {ρ ρ' : Rho} {T T' : List Tmp}
theorem Rel.more (R : Rel G O σ H ρ []) (n : Nat) : Rel G O (σ ++ List.replicate n none) H (ρ ++ List.replicate n none) [] := by
  have get : ∀ i s, (ρ ++ List.replicate n none)[i]? = some (some s) → ρ[i]? = some (some s) := fun i s e => by
    by_cases h : i < ρ.length
    · rwa [List.getElem?_append_left h] at e
    · rw [List.getElem?_append_right (by omega), List.getElem?_replicate] at e
      split at e <;> cases e
  refine ⟨by simp [R.len], R.fr, R.ot, R.tr, fun i v e => ?_, fun i s e => ?_, trivial⟩
  · obtain ⟨h1, s, h2, h3⟩ := R.pn i v e
    have l1 : i < σ.length := (List.getElem?_eq_some_iff.mp h1).1
    have l2 : i < ρ.length := (List.getElem?_eq_some_iff.mp h2).1
    exact ⟨by rw [List.getElem?_append_left l1]; exact h1, s, by rw [List.getElem?_append_left l2]; exact h2, h3⟩
  · obtain ⟨v, h1, h2⟩ := R.sl i s (get i s e)
    have l1 : i < σ.length := (List.getElem?_eq_some_iff.mp h1).1
    exact ⟨v, by rw [List.getElem?_append_left l1]; exact h1, h2⟩
theorem Rel.few {n : Nat} (R : Rel G O σ H ρ T) (hT : NoNm T) (hp : ∀ i v, G.Pin i = some v → i < n) : Rel G O (σ.take n) H (ρ.take n) T := by
  refine ⟨by simp [R.len], R.fr, R.ot, R.tr, fun i v e => ?_, fun i s e => ?_, tmps_slots (fun u hu j hj => absurd hj (hT u hu j)) R.tm⟩
  · obtain ⟨h1, s, h2, h3⟩ := R.pn i v e
    have := hp i v e
    exact ⟨by rw [List.getElem?_take_of_lt this]; exact h1, s, by rw [List.getElem?_take_of_lt this]; exact h2, h3⟩
  · by_cases h : i < n
    · rw [List.getElem?_take_of_lt h] at e ⊢
      exact R.sl i s e
    · rw [List.getElem?_eq_none (by rw [List.length_take]; omega)] at e
      cases e
end
/-- a body's meaning gives the def's promise -/
theorem body_of {K : PySem.W.Frag} {N ps : List Str} {r : DS} {vs : List V} {H : Hp} {Q : VK} {E : XK} (h : spF K (runFn N.length r) ps.length vs H Q E) (hl : ps.length ≤ N.length) :
    tS K (fun cls d _ H => E cls d H) r { nx := fun _ H' => Q .non H', rt := Q } (start N vs) H := by
  obtain ⟨hv, G, O, args, hK, ha, R, h⟩ := h
  have R1 := R.more (N.length - vs.length)
  have pins : ∀ i v, G.Pin i = some v → i < args.length := fun i v e => by
    obtain ⟨_, s, h2, _⟩ := R.pn i v e
    have := (List.getElem?_eq_some_iff.mp h2).1
    simpa using this
  refine ⟨G, O, _, hK, R1, ?_⟩
  have el : args.length = vs.length := by rw [ha, hv]
  unfold runFn at h
  rw [el] at h
  cases q : r (args.map slotOf ++ List.replicate (N.length - vs.length) none) with
  | stuck => rw [q] at h; exact h
  | ex x ρ' =>
    rw [q] at h
    rw [← el] at h
    exact fun σ' O' H' dd R' er => by rw [hK] at er ⊢; exact h O' _ H' dd (R'.few .nil pins) er
  | ok f ρ' =>
    rw [q] at h
    cases f with
    | nx =>
      dsimp only at h
      rw [← el] at h
      exact fun O' σ' H' R' => h O' _ .non H' ((R'.con .non).few (NoNm.nil.cons fun i z => by cases z) pins)
    | ret d b =>
      dsimp only at h
      rw [← el] at h
      exact fun O' σ' v H' R' => h O' _ v H' (R'.few (NoNm.nil.cons fun i z => by cases b <;> cases z) pins)
    | brk => exact h.elim
    | cnt => exact h.elim
/-- the context of a def's body -/
structure FnCx (X : Cx) (k : Nat) : Prop where
  g : CxG X
  room : Room k X.A
section
variable {P : Program} {w : World} {K : PySem.W.Frag} {mg : Str → Option Value} {base : Heap} {x qual : Str} {params : Arguments} {body : List Stmt} {scope : Scope} {dvs : List V} {kws : List (Str × V)} {f : Addr} {fd : FuncData}
/-- a def's promise where no repr is under way around the call -/
structure FnG (P : Program) (w : World) (K : PySem.W.Frag) (mg : Str → Option Value) (base : Heap) (cx : CXT) (k : Nat) (f : Addr) (fd : FuncData) (ps : List Str) (sp : Sp) : Prop where
  len : ∀ vs H Q E, sp vs H Q E → vs.length = ps.length
  run : ∀ (A : Around), A.guards = some [] → Room k A → ∀ (below : List Env) (s : Shared) (H : Hp), Env0 P w K mg base A below s H → ∀ (as : Args) (us : List Value), BindsTo s fd as (ps.zip us) →
    ∀ vs : List V, Vals vs us → ∀ (Q : VK) (E : XK), sp vs H Q E → codeAny (model P w) A (.call (.ref f) as) (CR cx below P w H s Q E) s
/-- from a body's walk -/
theorem fnG_of {cx : CXT} {k : Nat} {sp : Sp} {N ps : List Str} (F : FunD K x qual params body scope dvs kws f fd) (S : FnScope N ps scope) (len : ∀ vs H Q E, sp vs H Q E → vs.length = ps.length)
    (hb : ∀ (cdv : Value) (A : Around) (below : List Env) (s : Shared) (H : Hp) (vs : List V) (Q : VK) (E : XK), A.guards = some [] → Room k (A.deeper (envOfC qual scope s.heap.objs.size f cdv)) → sp vs H Q E →
      ∃ t, PSs (cxOf cx P w K mg base N qual scope f cdv A below s H E) body t ∧ t { rt := Q, nx := fun _ h => Q .non h } (start N vs) H) : FnG P w K mg base cx (k + 1) f fd ps sp := by
  obtain ⟨oc, od, dV, kV, doc, pm, an, cdv, ct, osl, rfl, look, code, _⟩ := F.ex
  refine ⟨len, fun A gu room below s H e0 as us bind vs vals Q E z => ?_⟩
  have stays : ∀ b o, base.get? b = some o → s.heap.get? b = some o := fun b o e => (e0.bs b o e).1
  have inK : K.In s.heap := e0.mod.kin.keeps stays
  have kinds : ∀ y ∈ ps.zip us, scope.names.lookup y.1 = some .local ∨ (scope.names.lookup y.1 = some .cell ∧ ((cellsFrom (s.heap.objs.size + 1) scope.names []).lookup y.1).isSome = true) :=
    fun y m => (S.par y.1 (List.of_mem_zip (b := y.2) m).1).imp_right fun q => ⟨q, PySem.W.cellsFrom_some _ _ _ (.inl q)⟩
  obtain ⟨t, walk, ends⟩ := hb cdv A below s H vs Q E gu (room.deeper _) z
  refine codeAny_call_function room.depth (inK _ _ look) rfl S.co S.gen rfl (PySem.W.codeRec_of inK code) (bind _ _ _ _ (wpAny_newFunctionEnv_cells S.kind kinds fun env e s1 bound => ?_))
  cases e
  have first : Inv (cxOf cx P w K mg base N qual scope f cdv A below s H E) [] (start N vs) H s1 := inv_start S room.hd e0 (len _ _ _ _ z) vals bound
  refine ⟨(e0.mod.nolimit.keeps stays).keeps bound.toInCall.keep, codeAny_func (wpAny_mono (walk.run [] s1 (start N vs) H _ first ends) (fun g s2 q => ?_) fun _ _ q => q)⟩
  match g, q with
  | .ret u, ⟨v, _, h, J, r, q⟩ => exact ⟨v, h, J.os, J.bare, J.base, J.hok, r, q⟩
  | .next, ⟨_, h, J, q⟩ => exact ⟨.non, h, J.os, J.bare, J.base, J.hok, rfl, q⟩
  | .brk, ⟨_, _, _, q⟩ => exact q.elim
  | .cont, ⟨_, _, _, q⟩ => exact q.elim
/-- THE RULE for a def: its body's meaning -/
theorem fn_ok {N ps : List Str} {k : Nat} {r : DS} (F : FunD K x qual params body scope dvs kws f fd) (S : FnScope N ps scope)
    (h : ∀ (cdv : Value) (A : Around) (outer : List Env) (s : Shared) (H : Hp) (E : XK), FnCx (cxOf (L2.CX P w) P w K mg base N qual scope f cdv A outer s H E) k → SSs (cxOf (L2.CX P w) P w K mg base N qual scope f cdv A outer s H E) body r) :
    FnG P w K mg base (L2.CX P w) (k + 1) f fd ps (spF K (runFn N.length r) ps.length) :=
  fnG_of F S (fun vs H Q E h => h.1) fun cdv A outer s H vs Q E gu hr hsp => by
    have hl : ps.length ≤ N.length := by have := congrArg List.length S.pre; rw [List.length_take] at this; omega
    have tk : Takes (cxOf (L2.CX P w) P w K mg base N qual scope f cdv A outer s H E) (fun cls d _ H => E cls d H) := takes_of rfl rfl rfl rfl
    exact ⟨_, h cdv A outer s H E ⟨⟨rfl, S.nd, passes_of rfl, gu⟩, hr⟩ _ tk, body_of hsp hl⟩
end
section
variable {X : Cx} {cx : CXT} {k : Nat} {f : Addr} {fd : FuncData} {ps : List Str} {sp : Sp} {dvs : List V} {ds : List Value} {E : St → XK} {x : Str} {p pos : Pos} {e : Expr} {es : List Expr} {t : TA}
/-- f(e, ..) -/
theorem pe_callG (F : FnG X.prog X.w X.K X.mg X.base cx k f fd ps sp) (gu : X.A.guards = some []) (room : Room k X.A) (gl : Gl X x) (hm : X.mg x = some (.ref f)) (kp : PySem.W.keepIn X.K (.ref f) = true) (bs : Binds X.K fd ps ds) (vd : Vals dvs ds)
    (out : ∀ σ, PassesAt cx X σ (E σ)) (ha : PA X (e :: es) t) (db : (x == ("__debug__" : Str)) = false := by decide) (st : starEach (e :: es) X.env = (false, eval e X.env) :: starEach es X.env := by rfl)
    (pl : (backTo pos (starEach es X.env)).any (·.1) = false := by rfl) : PE X (.Call (.Name x p) (e :: es) [] pos) (tCallSD sp dvs E t) := ⟨fun pins s σ H Q inv z => by
  refine wpAny_Call_Name_kw (ld_glob inv gl hm (PySem.W.callWith_K (h₀ := X.base) inv.ok.mod.kin kp (thn (ha.run pos pins s σ H _ inv z) fun us s1 q => ?_) st pl) db)
  obtain ⟨vs, H1, inv1, vals, q⟩ := q
  have all : Vals (vs ++ dvs) (us ++ ds) := vals.append vd
  refine ⟨inv1.kIn, wpAny_call (codeAny_mono (F.run X.A gu room X.stack s1 H1 inv1.env0 ⟨us, []⟩ (us ++ ds) (bs s1 us inv1.kIn ?_) (vs ++ dvs) all Q (E σ) q) fun g s2 y => ?_)⟩
  · rw [← all.length]; exact F.len _ _ _ _ q
  · match g, y with
    | .ok (.ret u), y => exact inv1.after y
    | .error v, y => exact out σ pins H1 s1 v s2 inv1 y
    | .ok .next, y => exact y.elim
    | .ok .brk, y => exact y.elim
    | .ok .cont, y => exact y.elim⟩
end
def argOf (ρ : Rho) (x : D × Kd) : Option Arg := match x.2 with
  | .fr => some ⟨x.1, true⟩
  | .shr => some ⟨x.1, false⟩
  | .nm i => match ρ[i]? with
    | some (some s) => some ⟨s.d, s.own⟩
    | _ => none
def argsOf (ρ : Rho) : List (D × Kd) → Option (List Arg)
  | [] => some []
  | x :: xs => match argOf ρ x with
    | some a => (argsOf ρ xs).map (a :: ·)
    | none => none
/-- who owns what is passed on -/
def wOf (ρ : Rho) (k : Nat) (x : D × Kd) : Option Ow := match x.2 with
  | .fr => some (.tp k)
  | .shr => none
  | .nm i => match ρ[i]? with
    | some (some s) => if s.own then some (.sl i) else none
    | _ => none
def wsOf (ρ : Rho) : Nat → List (D × Kd) → List (Option Ow)
  | _, [] => []
  | k, x :: xs => wOf ρ k x :: wsOf ρ (k + 1) xs
def uniqW : List (Option Ow) → Bool
  | [] => true
  | w :: ws => (match w with
    | some _ => ws.all (fun u => decide (u ≠ w))
    | none => true) && uniqW ws
def idxW : List (Option Ow) → Ow → Option Nat
  | [], _ => none
  | u :: ws, w => if u = some w then some 0 else (idxW ws w).map (· + 1)
theorem idxW_at : ∀ {ws : List (Option Ow)} {w : Ow} {j : Nat}, idxW ws w = some j → ws[j]? = some (some w)
  | [], _, _, h => by cases h
  | u :: ws, w, j, h => by
    unfold idxW at h
    split at h
    · rename_i e; cases h; simp [e]
    · obtain ⟨k, e, rfl⟩ := Option.map_eq_some_iff.mp h
      simpa using idxW_at e
theorem idxW_of : ∀ {ws : List (Option Ow)} {w : Ow} {j : Nat}, uniqW ws = true → ws[j]? = some (some w) → idxW ws w = some j
  | [], _, _, _, h => by simp at h
  | u :: ws, w, 0, hu, h => by
    simp at h
    unfold idxW
    rw [if_pos h]
  | u :: ws, w, j + 1, hu, h => by
    have h' : ws[j]? = some (some w) := by simpa using h
    unfold uniqW at hu
    rw [Bool.and_eq_true] at hu
    unfold idxW
    rw [if_neg (fun e => ?_), idxW_of hu.2 h']
    · rfl
    · have h1 := hu.1
      rw [e] at h1
      dsimp only at h1
      have := List.all_eq_true.mp h1 _ (List.mem_of_getElem? h')
      simp at this
/-- the place of the slot i among what is passed -/
def lookNm : List (D × Kd) → Nat → Option Nat
  | [], _ => none
  | (_, .nm k) :: xs, i => if k = i then some 0 else (lookNm xs i).map (· + 1)
  | _ :: xs, i => (lookNm xs i).map (· + 1)
def back1 (xs : List (D × Kd)) (outs : Rho) (i : Nat) (o : Option Slot) : Option Slot := match o with
  | none => none
  | some s => match s.own with
    | false => some s
    | true => match lookNm xs i with
      | none => some s
      | some j => match outs[j]? with
        | some (some s') => some ⟨s'.d, s'.own, s.pin⟩
        | _ => none
def backs (xs : List (D × Kd)) (outs : Rho) : Nat → Rho → Rho
  | _, [] => []
  | i, o :: ρ => back1 xs outs i o :: backs xs outs (i + 1) ρ
theorem backs_at (xs : List (D × Kd)) (outs : Rho) : ∀ (ρ : Rho) (k i : Nat), (backs xs outs k ρ)[i]? = ρ[i]?.map (back1 xs outs (k + i))
  | [], _, _ => by simp [backs]
  | o :: ρ, k, 0 => by simp [backs]
  | o :: ρ, k, i + 1 => by
    have := backs_at xs outs ρ (k + 1) i
    simp only [backs, List.getElem?_cons_succ]
    rw [this, show k + 1 + i = k + (i + 1) by omega]
theorem backs_len (xs : List (D × Kd)) (outs : Rho) : ∀ (ρ : Rho) (k : Nat), (backs xs outs k ρ).length = ρ.length
  | [], _ => rfl
  | o :: ρ, k => congrArg (· + 1) (backs_len xs outs ρ (k + 1))
def callEnd (F : Fn) (np : Nat) (dfl : List D) (xs : List (D × Kd)) : DE := fun ρ => if uniqW (wsOf ρ 0 xs) && decide (xs.length + dfl.length = np) then match argsOf ρ xs with
    | none => .stuck
    | some args => match F (args ++ dfl.map shA) with
      | none => .stuck
      | some (.ret d b outs) => .ok (d, frK b) (backs xs outs 0 ρ)
      | some (.exc x outs) => .ex x (backs xs outs 0 ρ)
  else .stuck
def dCall (F : Fn) (np : Nat) (dfl : List D) (l : List (Bool × DE)) : DE := do
  let xs ← dA l
  callEnd F np dfl xs
theorem lookNm_at : ∀ {xs : List (D × Kd)} {i j : Nat}, lookNm xs i = some j → ∃ d, xs[j]? = some (d, .nm i)
  | [], _, _, h => by cases h
  | (d, .nm k) :: xs, i, j, h => by
    unfold lookNm at h
    split at h
    · rename_i e; cases h; exact ⟨d, by simp [e]⟩
    · obtain ⟨m, e, rfl⟩ := Option.map_eq_some_iff.mp h
      simpa using lookNm_at e
  | (d, .fr) :: xs, i, j, h => by
    obtain ⟨m, e, rfl⟩ := Option.map_eq_some_iff.mp (show (lookNm xs i).map (· + 1) = some j from h)
    simpa using lookNm_at e
  | (d, .shr) :: xs, i, j, h => by
    obtain ⟨m, e, rfl⟩ := Option.map_eq_some_iff.mp (show (lookNm xs i).map (· + 1) = some j from h)
    simpa using lookNm_at e
theorem lookNm_none : ∀ {xs : List (D × Kd)} {i j : Nat} {d : D}, lookNm xs i = none → xs[j]? ≠ some (d, .nm i)
  | [], _, _, _, _, h => by simp at h
  | (d, .nm k) :: xs, i, j, d', h, e => by
    unfold lookNm at h
    split at h
    · cases h
    · rename_i ne
      cases j with
      | zero => simp at e; exact ne e.2
      | succ j => exact lookNm_none (Option.map_eq_none_iff.mp h) (by simpa using e)
  | (d, .fr) :: xs, i, j, d', h, e => by
    cases j with
    | zero => simp at e
    | succ j => exact lookNm_none (Option.map_eq_none_iff.mp (show (lookNm xs i).map (· + 1) = none from h)) (by simpa using e)
  | (d, .shr) :: xs, i, j, d', h, e => by
    cases j with
    | zero => simp at e
    | succ j => exact lookNm_none (Option.map_eq_none_iff.mp (show (lookNm xs i).map (· + 1) = none from h)) (by simpa using e)
theorem wsOf_at (ρ : Rho) : ∀ (xs : List (D × Kd)) (k j : Nat), (wsOf ρ k xs)[j]? = xs[j]?.map (wOf ρ (k + j))
  | [], _, _ => by simp [wsOf]
  | x :: xs, k, 0 => by simp [wsOf]
  | x :: xs, k, j + 1 => by
    have := wsOf_at ρ xs (k + 1) j
    simp only [wsOf, List.getElem?_cons_succ]
    rw [this, show k + 1 + j = k + (j + 1) by omega]
theorem argsOf_len {ρ : Rho} : ∀ {xs : List (D × Kd)} {args : List Arg}, argsOf ρ xs = some args → args.length = xs.length
  | [], _, h => by cases h; rfl
  | x :: xs, args, h => by
    unfold argsOf at h
    split at h
    · obtain ⟨r, e, rfl⟩ := Option.map_eq_some_iff.mp h
      exact congrArg (· + 1) (argsOf_len e)
    · cases h
theorem argsOf_at {ρ : Rho} : ∀ {xs : List (D × Kd)} {args : List Arg} {j : Nat} {x : D × Kd}, argsOf ρ xs = some args → xs[j]? = some x → ∃ a, argOf ρ x = some a ∧ args[j]? = some a
  | [], _, _, _, h, e => by simp at e
  | y :: xs, args, j, x, h, e => by
    unfold argsOf at h
    split at h
    · rename_i a ha
      obtain ⟨r, e1, rfl⟩ := Option.map_eq_some_iff.mp h
      cases j with
      | zero => simp at e; subst e; exact ⟨a, ha, rfl⟩
      | succ j =>
        obtain ⟨b, h1, h2⟩ := argsOf_at e1 (show xs[j]? = some x by simpa using e)
        exact ⟨b, h1, by simpa using h2⟩
    · cases h
/-- what is pending, by its place -/
theorem pushC_at {K : PySem.W.Frag} {H : Hp} {O : Own} {σ : St} : ∀ {vs : List V} {xs : List (D × Kd)} {T : List Tmp} {j : Nat} {x : D × Kd}, vs.length = xs.length → TmpsOk K H O σ (pushC vs xs T) → xs[j]? = some x →
    ∃ v, vs[j]? = some v ∧ TmpOk K H O σ (T.length + j) ⟨v, x.1, x.2⟩
  | [], [], _, _, _, _, _, e => by simp at e
  | v :: vs, y :: xs, T, 0, x, hl, h, e => by
    simp at e
    subst e
    have deep : ∀ {vs : List V} {xs : List (D × Kd)} {T : List Tmp}, TmpsOk K H O σ (pushC vs xs T) → TmpsOk K H O σ T := by
      intro vs
      induction vs with
      | nil => intro xs T h; unfold pushC at h; exact h
      | cons v vs ih =>
        intro xs T h
        cases xs with
        | nil => unfold pushC at h; exact h
        | cons x xs => exact (ih (xs := xs) (T := ⟨v, x.1, x.2⟩ :: T) h).2
    exact ⟨v, rfl, (deep (vs := vs) (xs := xs) (T := ⟨v, y.1, y.2⟩ :: T) h).1⟩
  | v :: vs, y :: xs, T, j + 1, x, hl, h, e => by
    obtain ⟨u, h1, h2⟩ := pushC_at (T := ⟨v, y.1, y.2⟩ :: T) (j := j) (Nat.succ.inj hl) h (by simpa using e)
    refine ⟨u, by simpa using h1, ?_⟩
    rw [show T.length + (j + 1) = (⟨v, y.1, y.2⟩ :: T : List Tmp).length + j by simp; omega]
    exact h2
  | [], _ :: _, _, _, _, hl, _, _ => by cases hl
  | _ :: _, [], _, _, _, hl, _, _ => by cases hl
end L2.VL
end
section
set_option Elab.async false
set_option linter.all false
set_option maxRecDepth 100000
namespace L2.VL
open PySem PySem.Spec PyProof.Rows
def cO (ws : List (Option Ow)) (O : Own) : Own := fun b => match O b with
  | none => none
  | some w => match idxW ws w with
    | some j => some (.sl j)
    | none => some .out
def cFr (G : Fix) (ws : List (Option Ow)) (O : Own) (H : Hp) : Hp := fun b => if (G.Tb b).isSome = true then none else match O b with
  | none => H b
  | some w => match idxW ws w with
    | some _ => none
    | none => H b
def cPin (ws : List (Option Ow)) (vs : List V) (j : Nat) : Option V := match ws[j]? with
  | some (some _) => vs[j]?
  | _ => none
def cG (G : Fix) (ws : List (Option Ow)) (O : Own) (H : Hp) (vs : List V) : Fix :=
  { K := G.K, Fr := cFr G ws O H, Out := fun b => (∃ w, O b = some w ∧ idxW ws w = none) ∨ (G.Tb b).isSome = true, Pin := cPin ws vs, tbo := fun P q h => by
        have h : G.Tb P = some q := h
        unfold cFr
        rw [h]
        exact ⟨.inr rfl, if_pos rfl⟩ }
theorem tb_ne {G : Fix} {O : Own} {σ : St} {H : Hp} {ρ : Rho} {T : List Tmp} (R : Rel G O σ H ρ T) {a : Addr} (n : O a ≠ some .out) : G.Tb a = none := by
  cases e : G.Tb a with
  | none => rfl
  | some q => exact absurd (tb_out R e) n
/-- the owners behind the call -/
def wsl (ws : List (Option Ow)) (i : Nat) : Option Ow := match ws[i]? with
  | some (some (.sl m)) => some (.sl m)
  | _ => none
theorem wsl_of {ws : List (Option Ow)} {i m : Nat} (h : ws[i]? = some (some (.sl m))) : wsl ws i = some (.sl m) := by unfold wsl; rw [h]
theorem wsl_sl {ws : List (Option Ow)} {i : Nat} {w : Ow} (h : wsl ws i = some w) : ∃ m, w = .sl m := by
  unfold wsl at h
  split at h
  · exact ⟨_, (Option.some.inj h).symm⟩
  · cases h
def cB (ws : List (Option Ow)) (O O' : Own) : Own := fun b => match O b with
  | none => (match O' b with
    | some (.tp m) => some (.tp m)
    | some (.sl i) => wsl ws i
    | _ => none)
  | some w => match idxW ws w with
    | none => some w
    | some j => match O' b with
      | some (.sl i) => wsl ws i
      | some (.tp m) => some (.tp m)
      | _ => none
section
variable {G : Fix} {O O' : Own} {σ σ' : St} {H H' : Hp} {ρ outs : Rho} {T2 : List Tmp} {vs dvs : List V} {xs : List (D × Kd)} {args : List Arg} {dfl : List D} {ws : List (Option Ow)}
theorem lin_cO {a : Addr} : lin (cO ws O) a ↔ lin O a := by
  unfold lin cO
  cases O a with
  | none => exact Iff.rfl
  | some w => dsimp only; cases idxW ws w <;> simp
theorem ws_out (ρ : Rho) (xs : List (D × Kd)) : idxW (wsOf ρ 0 xs) Ow.out = none := by
  have wsNo : ∀ j : Nat, (wsOf ρ 0 xs)[j]? ≠ some (some Ow.out) := fun j e => by
    rw [wsOf_at] at e
    cases q : xs[j]? with
    | none => rw [q] at e; cases e
    | some x =>
      rw [q] at e
      replace e : wOf ρ (0 + j) x = some Ow.out := Option.some.inj e
      unfold wOf at e
      split at e
      · cases e
      · cases e
      · split at e
        · split at e <;> cases e
        · cases e
  cases q : idxW (wsOf ρ 0 xs) Ow.out with
  | none => rfl
  | some j => exact absurd (idxW_at q) (wsNo j)
theorem call_in (R : Rel G O σ H ρ (pushC vs xs [])) (hl : vs.length = xs.length) (hu : uniqW (wsOf ρ 0 xs) = true) (ha : argsOf ρ xs = some args) (hd : Reps G.K H (lin (cO (wsOf ρ 0 xs) O)) dvs dfl) :
    Rel (cG G (wsOf ρ 0 xs) O H vs) (cO (wsOf ρ 0 xs) O) ((vs ++ dvs).map some) H ((args ++ dfl.map shA).map slotOf) [] := by
  have hal := argsOf_len ha
  have hdl : dvs.length = dfl.length := hd.len
  have hs : Stay H H (lin O) (lin (cO (wsOf ρ 0 xs) O)) := fun a o n e => ⟨e, fun z => n (lin_cO.mp z)⟩
  refine ⟨by simp; omega, fun b o e => ?_, fun b => ?_, fun a w e => ?_, fun i v e => ?_, fun j s e => ?_, trivial⟩
  · replace e : cFr G (wsOf ρ 0 xs) O H b = some o := e
    unfold cFr at e
    split at e
    · cases e
    unfold cO
    cases q : O b with
    | none => rw [q] at e; exact ⟨e, .inl rfl⟩
    | some w =>
      rw [q] at e
      dsimp only at e ⊢
      cases q2 : idxW (wsOf ρ 0 xs) w with
      | some j => rw [q2] at e; cases e
      | none => rw [q2] at e; exact ⟨e, .inr rfl⟩
  · show _ ↔ ((∃ w, O b = some w ∧ idxW (wsOf ρ 0 xs) w = none) ∨ (G.Tb b).isSome = true)
    have tb : (G.Tb b).isSome = true → O b = some .out := tb_is R
    unfold cO
    cases q : O b with
    | none =>
      rw [q] at tb
      constructor
      · intro z; cases z
      · rintro (⟨w, z, _⟩ | z)
        · cases z
        · cases tb z
    | some w =>
      dsimp only
      cases q2 : idxW (wsOf ρ 0 xs) w with
      | some j =>
        dsimp only
        constructor
        · intro z; cases z
        · rintro (⟨w', z, z2⟩ | z)
          · cases z; rw [q2] at z2; cases z2
          · have := tb z
            rw [q] at this; cases this
            rw [ws_out] at q2; cases q2
      | none => exact ⟨fun _ => .inl ⟨w, rfl, q2⟩, fun _ => rfl⟩
  · have : lin O a := lin_cO.mp (by unfold lin; rw [e]; simp)
    unfold lin at this
    cases q : O a with
    | none => exact absurd q this
    | some w' => exact R.tr a w' q
  · replace e : cPin (wsOf ρ 0 xs) vs i = some v := e
    unfold cPin at e
    split at e
    · rename_i w hw
      have hi : i < vs.length := (List.getElem?_eq_some_iff.mp e).1
      refine ⟨by rw [List.getElem?_map, List.getElem?_append_left hi, e]; rfl, ?_⟩
      rw [wsOf_at] at hw
      cases q : xs[i]? with
      | none => rw [q] at hw; cases hw
      | some x =>
        rw [q] at hw
        replace hw : wOf ρ (0 + i) x = some w := Option.some.inj hw
        obtain ⟨a, h1, h2⟩ := argsOf_at ha q
        refine ⟨⟨a.d, a.own, a.own⟩, by rw [List.getElem?_map, List.getElem?_append_left (by omega), h2]; rfl, ?_⟩
        unfold wOf at hw
        unfold argOf at h1
        obtain ⟨d, k⟩ := x
        cases k with
        | shr => cases hw
        | fr => cases h1; rfl
        | nm m =>
          dsimp only at hw h1
          split at hw
          · rename_i s hs'
            rw [hs'] at h1
            cases h1
            split at hw
            · assumption
            · cases hw
          · cases hw
    · cases e
  · rw [List.getElem?_map] at e
    by_cases hj : j < xs.length
    · rw [List.getElem?_append_left (by omega)] at e
      obtain ⟨a, h1, h2⟩ := argsOf_at ha (List.getElem?_eq_getElem hj)
      rw [h2] at e
      cases e
      obtain ⟨v, h3, h4⟩ := pushC_at (T := []) hl R.tm (List.getElem?_eq_getElem hj)
      refine ⟨v, by rw [List.getElem?_map, List.getElem?_append_left (by omega), h3]; rfl, ?_⟩
      have hw := wsOf_at ρ xs 0 j
      rw [List.getElem?_eq_getElem hj] at hw
      replace hw : (wsOf ρ 0 xs)[j]? = some (wOf ρ (0 + j) xs[j]) := hw
      generalize xs[j] = x at h1 h4 hw
      obtain ⟨d, k⟩ := x
      unfold argOf at h1
      unfold wOf at hw
      unfold TmpOk at h4
      cases k with
      | shr =>
        cases h1
        exact h4.mono hs
      | fr =>
        cases h1
        refine OwnX.mono hs h4 fun b o e1 e2 => ⟨?_, e2⟩
        unfold cO
        rw [e1]
        dsimp only
        rw [idxW_of hu (j := j) (by simpa using hw)]
      | nm m =>
        dsimp only at h1 h4 hw
        split at h1
        · rename_i s hs'
          cases h1
          obtain ⟨v', p1, p2⟩ := R.sl m s hs'
          rw [h4] at p1
          cases p1
          rw [hs'] at hw
          unfold SlotOk at p2 ⊢
          dsimp only at hw ⊢
          cases qo : s.own with
          | false => rw [qo] at p2; exact p2.mono hs
          | true =>
            rw [qo] at p2 hw
            refine OwnX.mono hs p2 fun b o e1 e2 => ⟨?_, e2⟩
            unfold cO
            rw [e1]
            dsimp only
            rw [idxW_of hu (j := j) (by simpa using hw)]
        · cases h1
    · rw [List.getElem?_append_right (by omega), List.getElem?_map] at e
      cases q : dfl[j - args.length]? with
      | none => rw [q] at e; cases e
      | some d =>
        rw [q] at e
        cases e
        obtain ⟨u, h1, h2⟩ := hd.get q
        refine ⟨u, by rw [List.getElem?_map, List.getElem?_append_right (by omega), show j - vs.length = j - args.length by omega, h1]; rfl, h2⟩
theorem call_out (R : Rel G O σ H ρ (pushC vs xs [])) (hl : vs.length = xs.length) (hu : uniqW (wsOf ρ 0 xs) = true) (hT : NoNm T2) (R' : Rel (cG G (wsOf ρ 0 xs) O H vs) O' σ' H' outs T2) :
    Rel G (cB (wsOf ρ 0 xs) O O') σ H' (backs xs outs 0 ρ) T2 ∧ ∀ a, O' a = none → cB (wsOf ρ 0 xs) O O' a = none := by
  have outIdx := ws_out ρ xs
  have isout : ∀ {a w}, O a = some w → idxW (wsOf ρ 0 xs) w = none → O' a = some .out := fun {a w} e1 e2 => (R'.ot a).mpr (.inl ⟨w, e1, e2⟩)
  have keepU : ∀ {a w o}, O a = some w → idxW (wsOf ρ 0 xs) w = none → G.Tb a = none → H a = some o → H' a = some o := fun {a w o} e1 e2 et e3 => (R'.fr a o (by show cFr G (wsOf ρ 0 xs) O H a = some o; unfold cFr; rw [if_neg (by rw [et]; simp), e1]; dsimp only; rw [e2]; exact e3)).1
  have noT : ∀ {a}, O a ≠ some .out → ∀ q, G.Tb a = some q → LamX.TabS H' a q := fun {a} n q hq => absurd (tb_out R hq) n
  have keepN : ∀ {a o}, O a = none → H a = some o → H' a = some o ∧ O' a = none := fun {a o} e1 e3 => by
    obtain ⟨p, q⟩ := R'.fr a o (by show cFr G (wsOf ρ 0 xs) O H a = some o; unfold cFr; rw [if_neg (by rw [tb_sl R (by rw [e1]; simp)]; simp), e1]; exact e3)
    refine ⟨p, q.resolve_right fun z => ?_⟩
    rcases (R'.ot a).mp z with ⟨w, e, _⟩ | z
    · rw [e1] at e; cases e
    · have := tb_is R z
      rw [e1] at this; cases this
  have none' : ∀ a, O' a = none → cB (wsOf ρ 0 xs) O O' a = none := fun a e => by
    unfold cB
    cases q : O a with
    | none => dsimp only; rw [e]
    | some w =>
      dsimp only
      cases q2 : idxW (wsOf ρ 0 xs) w with
      | none => rw [isout q q2] at e; cases e
      | some j => dsimp only; rw [e]
  have hs1 : Stay H' H' (lin O') (lin (cB (wsOf ρ 0 xs) O O')) := fun a o n e => ⟨e, fun z => z (none' a (by
    cases q : O' a with
    | none => rfl
    | some _ => exact absurd (show lin O' a by unfold lin; rw [q]; simp) n))⟩
  have hs2 : Stay H H' (lin O) (lin (cB (wsOf ρ 0 xs) O O')) := fun a o n e => by
    have n' : O a = none := by
      cases q : O a with
      | none => rfl
      | some _ => exact absurd (show lin O a by unfold lin; rw [q]; simp) n
    obtain ⟨p, q⟩ := keepN n' e
    exact ⟨p, fun z => z (none' a q)⟩
  refine ⟨⟨by rw [backs_len, R.len], fun b o e => ?_, fun b => ?_, fun a w e => ?_, fun i v e => ?_, fun i s'' e => ?_, ?_⟩, none'⟩
  · obtain ⟨h1, h2⟩ := R.fr b o e
    rcases h2 with h2 | h2
    · obtain ⟨p, q⟩ := keepN h2 h1
      exact ⟨p, .inl (none' b q)⟩
    · refine ⟨keepU h2 outIdx (tb_none e) h1, .inr ?_⟩
      unfold cB
      rw [h2]
      dsimp only
      rw [outIdx]
  · constructor
    · intro z
      refine (R.ot b).mp ?_
      unfold cB at z
      cases q : O b with
      | none =>
        rw [q] at z
        dsimp only at z
        split at z
        · cases z
        · obtain ⟨m, hm⟩ := wsl_sl z
          cases hm
        · cases z
      | some w =>
        rw [q] at z
        dsimp only at z
        cases q2 : idxW (wsOf ρ 0 xs) w with
        | none => rw [q2] at z; exact z
        | some j =>
          rw [q2] at z
          dsimp only at z
          split at z
          · obtain ⟨m, hm⟩ := wsl_sl z
            cases hm
          · cases z
          · cases z
    · intro z
      unfold cB
      rw [(R.ot b).mpr z]
      dsimp only
      rw [outIdx]
  · cases q : O a with
    | none =>
      unfold cB at e
      rw [q] at e
      dsimp only at e
      split at e
      · rename_i m q2; exact ⟨(R'.tr a _ q2).1, noT (by rw [q]; simp)⟩
      · rename_i m q2; exact ⟨(R'.tr a _ q2).1, noT (by rw [q]; simp)⟩
      · cases e
    | some w' =>
      cases q2 : idxW (wsOf ρ 0 xs) w' with
      | none =>
        refine ⟨(R'.tr a _ (isout q q2)).1, fun z hz => ?_⟩
        have eo := tb_out R hz
        rw [q] at eo
        cases eo
        exact (R'.tr a _ (isout q q2)).2 z hz
      | some j =>
        have nO : O a ≠ some .out := fun z => by
          rw [q] at z
          cases z
          rw [outIdx] at q2
          cases q2
        unfold cB at e
        rw [q] at e
        dsimp only at e
        rw [q2] at e
        dsimp only at e
        split at e
        · rename_i m q3; exact ⟨(R'.tr a _ q3).1, noT nO⟩
        · rename_i m q3; exact ⟨(R'.tr a _ q3).1, noT nO⟩
        · cases e
  · obtain ⟨h1, s, h2, h3⟩ := R.pn i v e
    refine ⟨h1, ?_⟩
    rw [backs_at, h2]
    show ∃ s', some (back1 xs outs (0 + i) (some s)) = some (some s') ∧ s'.pin = true
    unfold back1
    dsimp only
    cases qo : s.own with
    | false => exact ⟨s, rfl, h3⟩
    | true =>
      dsimp only
      rw [Nat.zero_add]
      cases ql : lookNm xs i with
      | none => exact ⟨s, rfl, h3⟩
      | some j =>
        dsimp only
        obtain ⟨d, hx⟩ := lookNm_at ql
        obtain ⟨vj, hv, ht⟩ := pushC_at (T := []) hl R.tm hx
        have hw : (wsOf ρ 0 xs)[j]? = some (some (.sl i)) := by
          rw [wsOf_at, hx]
          show some (wOf ρ (0 + j) (d, .nm i)) = _
          unfold wOf
          dsimp only
          rw [h2]
          dsimp only
          rw [qo]; rfl
        obtain ⟨_, s', e1, e2⟩ := R'.pn j vj (by show cPin _ vs j = _; unfold cPin; rw [hw]; exact hv)
        rw [e1]
        exact ⟨_, rfl, h3⟩
  · rw [backs_at] at e
    cases q : ρ[i]? with
    | none => rw [q] at e; cases e
    | some o =>
      rw [q] at e
      replace e : back1 xs outs (0 + i) o = some s'' := Option.some.inj e
      rw [Nat.zero_add] at e
      cases o with
      | none => cases e
      | some s =>
        obtain ⟨v, h1, h2⟩ := R.sl i s q
        refine ⟨v, h1, ?_⟩
        unfold back1 at e
        dsimp only at e
        unfold SlotOk at h2
        cases qo : s.own with
        | false =>
          rw [qo] at e h2
          cases e
          unfold SlotOk
          rw [qo]
          exact h2.mono hs2
        | true =>
          rw [qo] at e h2
          dsimp only at e
          cases ql : lookNm xs i with
          | none =>
            rw [ql] at e
            cases e
            have hidx : idxW (wsOf ρ 0 xs) (.sl i) = none := by
              cases qi : idxW (wsOf ρ 0 xs) (.sl i) with
              | none => rfl
              | some j =>
                have hw := idxW_at qi
                rw [wsOf_at] at hw
                cases qx : xs[j]? with
                | none => rw [qx] at hw; cases hw
                | some x =>
                  rw [qx] at hw
                  replace hw : wOf ρ (0 + j) x = some (.sl i) := Option.some.inj hw
                  obtain ⟨d, k⟩ := x
                  unfold wOf at hw
                  cases k with
                  | fr => cases hw
                  | shr => cases hw
                  | nm m =>
                    dsimp only at hw
                    split at hw
                    · split at hw
                      · cases hw
                        exact absurd qx (lookNm_none ql)
                      · cases hw
                    · cases hw
            unfold SlotOk
            rw [qo]
            refine OwnX.mono hs2 h2 fun a o e1 e2 => ⟨?_, keepU e1 hidx (tb_ne R (by rw [e1]; exact fun z => nomatch z)) e2⟩
            unfold cB
            rw [e1]
            dsimp only
            rw [hidx]
          | some j =>
            rw [ql] at e
            dsimp only at e
            split at e
            · rename_i s' hs'
              cases e
              obtain ⟨d, hx⟩ := lookNm_at ql
              obtain ⟨vj, hv, ht⟩ := pushC_at (T := []) hl R.tm hx
              have hw : (wsOf ρ 0 xs)[j]? = some (some (.sl i)) := by
                rw [wsOf_at, hx]
                show some (wOf ρ (0 + j) (d, .nm i)) = _
                unfold wOf
                dsimp only
                rw [q]
                dsimp only
                rw [qo]; rfl
              obtain ⟨e1, s2, e2, e3⟩ := R'.pn j vj (by show cPin _ vs j = _; unfold cPin; rw [hw]; exact hv)
              have evj : v = vj := by
                have ht' : σ[i]? = some (some vj) := ht
                rw [h1] at ht'
                cases ht'; rfl
              obtain ⟨v', f1, f2⟩ := R'.sl j s' hs'
              rw [e1] at f1
              cases f1
              subst evj
              unfold SlotOk at f2 ⊢
              dsimp only
              cases qo' : s'.own with
              | false => rw [qo'] at f2; exact f2.mono hs1
              | true =>
                rw [qo'] at f2
                refine OwnX.mono hs1 f2 fun a o e1 e2 => ⟨?_, e2⟩
                unfold cB
                rw [e1]
                cases q : O a with
                | none => exact wsl_of hw
                | some w =>
                  dsimp only
                  cases q2 : idxW (wsOf ρ 0 xs) w with
                  | none => rw [isout q q2] at e1; cases e1
                  | some j' => exact wsl_of hw
            · cases e
  · refine tmps_mono hs1 (fun a o n hn e1 e2 => ⟨?_, e2⟩) (tmps_slots (fun u hu j hj => absurd hj (hT u hu j)) R'.tm)
    unfold cB
    rw [e1]
    cases q : O a with
    | none => rfl
    | some w =>
      dsimp only
      cases q2 : idxW (wsOf ρ 0 xs) w with
      | none => rw [isout q q2] at e1; cases e1
      | some j => rfl
end
section
variable {X : Cx} {k : Nat} {f : Addr} {fd : FuncData} {ps : List Str} {F : Fn} {dvs : List V} {ds : List Value} {dfl : List D} {x : Str} {p pos : Pos} {e : Expr} {es : List Expr} {l : List (Bool × DE)}
/-- a def as it stands: its promise, its name, how it is called with the last parameters left to their defaults dvs -/
structure Def (P : Program) (w : World) (K : PySem.W.Frag) (mg : Str → Option Value) (base : Heap) (x : Str) (k : Nat) (F : Fn) (np : Nat) (dvs : List V) : Prop where
  ex : ∃ (f : Addr) (fd : FuncData) (ps : List Str) (ds : List Value), mg x = some (.ref f) ∧ PySem.W.keepIn K (.ref f) = true ∧ ps.length = np ∧ FnG P w K mg base (L2.CX P w) k f fd ps (spF K F np) ∧ Binds K fd ps ds ∧ Vals dvs ds
theorem callee_of {W : WX} (hd : ∀ H L, Reps X.K H L dvs dfl) (hps : ps.length = np) (σ : St) (H : Hp) (Q : VK) (h : tE X.K W (dCall F np dfl l) σ H Q) : tCallSD (spF X.K F np) dvs (fun σ cls d H => W cls d σ H) (tA X.K W (dA l)) σ H Q := by
  obtain ⟨G, O, ρ, hK, R, h⟩ := h
  refine ⟨G, O, ρ, [], hK, R, Res.post_ok ((post_bind _ _).mp h) fun xs ρ1 q O1 vs H1 hl R1 => ?_⟩
  unfold callEnd at q
  by_cases hu : (uniqW (wsOf ρ1 0 xs) && decide (xs.length + dfl.length = np)) = true
  · rw [if_pos hu] at q
    rw [Bool.and_eq_true, decide_eq_true_eq] at hu
    cases ha : argsOf ρ1 xs with
    | none => rw [ha] at q; exact q.elim
    | some args =>
      rw [ha] at q
      dsimp only at q
      have hd1 : ∀ L, Reps G.K H1 L dvs dfl := fun L => by rw [hK]; exact hd H1 L
      have hdl : dvs.length = dfl.length := (hd1 fun _ => True).len
      have hal := argsOf_len ha
      refine ⟨by rw [List.length_append, hl, hdl]; exact hu.2, cG G (wsOf ρ1 0 xs) O1 H1 vs, cO (wsOf ρ1 0 xs) O1, args ++ dfl.map shA, hK, by rw [List.length_append, List.length_map, hal]; exact hu.2, call_in R1 hl hu.1 ha (hd1 _), ?_⟩
      cases hF : F (args ++ dfl.map shA) with
      | none => rw [hF] at q; exact q.elim
      | some fr =>
        rw [hF] at q
        cases fr with
        | ret d b outs =>
          exact fun O' σ' v H' R' => q _ v H' (call_out R1 hl hu.1 (NoNm.nil.cons fun i z => by cases b <;> cases z) R').1
        | exc x outs =>
          intro O' σ' H' dd R' er
          rw [← hK]
          refine q _ H' dd (call_out R1 hl hu.1 .nil R').1 ?_
          have nn := (call_out R1 hl hu.1 .nil R').2
          unfold ExnRep at er ⊢
          cases qf : x.fs with
          | none => rw [qf] at er; exact er
          | some fs =>
            rw [qf] at er
            obtain ⟨d, us, e1, e2, e3, e4, e5⟩ := er
            refine ⟨d, us, e1, e2, e3, ?_, fun z => e5 fun z2 => z (nn d z2)⟩
            rw [hK]
            refine e4.mono fun a o n e => ⟨e, fun z => n ?_⟩
            unfold lin at z ⊢
            exact fun z2 => z (nn a z2)
  · rw [if_neg hu] at q; exact q.elim
theorem se_call {np : Nat} (D : Def X.prog X.w X.K X.mg X.base x k F np dvs) (gu : X.A.guards = some []) (hr : Room k X.A) (ha : SA X (e :: es) l) (hg : Gl X x := by rfl) (hdb : (x == ("__debug__" : Str)) = false := by decide)
    (he : starEach (e :: es) X.env = (false, eval e X.env) :: starEach es X.env := by rfl) (hpl : (backTo pos (starEach es X.env)).any (·.1) = false := by rfl) : SE X (.Call (.Name x p) (e :: es) [] pos) (dCall F np (dvs.map .con) l) := fun W tk => by
  obtain ⟨f, fd, ps, ds, hm, hk, hps, Fk, hb, hv⟩ := D.ex
  refine PE.imp (pe_callG (E := fun σ cls d H => W cls d σ H) Fk gu hr hg hm hk hb hv (fun σ => passAt tk σ) (ha W tk) hdb he hpl) (callee_of (ps := ps) (fun H L => ?_) hps)
  have := Reps.cons_map (K := X.K) (H := H) (L := L) (fun v : V => v) dvs
  simpa using this
end
/-- a def of the module -/
structure FnAt (K : PySem.W.Frag) (mg : Str → Option Value) (x : Str) (st : Stmt) (dvs : List V) (kws : List (Str × V)) : Prop where
  ex : ∃ (f : Addr) (fd : FuncData), mg x = some (.ref f) ∧ FunD K x x (defArgs st) (defBody st) (defScope st) dvs kws f fd
section
variable {P : Program} {w : World} {K : PySem.W.Frag} {mg : Str → Option Value} {base : Heap} {x : Str} {st : Stmt}
/-- from the def's text to its promise -/
theorem def_ok {N ps : List Str} {k np : Nat} {r : DS} (F : FnAt K mg x st [] []) (S : FnScope N ps (defScope st)) (hn : ps.length = np)
    (hb : ∀ (kV doc pm : Value) (an : Option Addr) (cdv ct : Value) (us : List Value), us.length = ps.length → bindArgs (PySem.W.fnOf x x (defArgs st) (defBody st) (defScope st) .none kV doc pm an cdv ct) ⟨us, []⟩ = pure (ps.zip us))
    (h : ∀ (f : Addr) (cdv : Value) (A : Around) (outer : List Env) (s : Shared) (H : Hp) (E : XK), FnCx (cxOf (L2.CX P w) P w K mg base N x (defScope st) f cdv A outer s H E) k → SSs (cxOf (L2.CX P w) P w K mg base N x (defScope st) f cdv A outer s H E) (defBody st) r) :
    Def P w K mg base x (k + 1) (runFn N.length r) np [] := by
  obtain ⟨f, fd, hm, F⟩ := F.ex
  subst hn
  refine ⟨f, fd, ps, [], hm, F.kp, rfl, fn_ok F S (fun cdv A outer s H E c => h f cdv A outer s H E c), ?_, .nil⟩
  exact F.bindsN hb
/-- .. of a def with defaults: the first n are given -/
theorem def_okD {N ps : List Str} {k np : Nat} {r : DS} {dvs : List V} (n j : Nat) (F : FnAt K mg x st dvs []) (S : FnScope N ps (defScope st)) (hn : ps.length = np) (hd : dvs ≠ []) (hnj : n + (dvs.length - j) = ps.length)
    (hb : ∀ (T : Addr) (kV doc pm : Value) (an : Option Addr) (cdv ct : Value) (us its : List Value), us.length = n → its.length = dvs.length →
      ∃ k, bindArgs (PySem.W.fnOf x x (defArgs st) (defBody st) (defScope st) (.ref T) kV doc pm an cdv ct) ⟨us, []⟩ = seqItems? (.ref T) >>= k ∧ k (some its.toArray) = pure (ps.zip (us ++ its.drop j)))
    (h : ∀ (f : Addr) (cdv : Value) (A : Around) (outer : List Env) (s : Shared) (H : Hp) (E : XK), FnCx (cxOf (L2.CX P w) P w K mg base N x (defScope st) f cdv A outer s H E) k → SSs (cxOf (L2.CX P w) P w K mg base N x (defScope st) f cdv A outer s H E) (defBody st) r) :
    Def P w K mg base x (k + 1) (runFn N.length r) np (dvs.drop j) := by
  obtain ⟨f, fd, hm, F⟩ := F.ex
  subst hn
  obtain ⟨ds, hv, hbd⟩ := F.binds1 n j hd hnj hb
  exact ⟨f, fd, ps, ds, hm, F.kp, rfl, fn_ok F S (fun cdv A outer s H E c => h f cdv A outer s H E c), hbd, hv⟩
end
end L2.VL
end
section
set_option Elab.async false
set_option linter.all false
set_option maxRecDepth 100000
namespace L2.VL
open PySem PySem.Spec PyProof.Rows
def addD (x y : D) : Option (D × Kd) := match x, y with
  | .con (.int i), .con (.int j) => some (.int (i + j), .shr)
  | .con (.str a), .con (.str b) => if a.length + b.length ≤ cap then some (.str (a ++ b), .shr) else none
  | .lst a, .lst b => if a.length + b.length ≤ cap then some (.lst (a ++ b), .fr) else none
  | .tup a, .tup b => if a.length + b.length ≤ cap ∧ a.isEmpty = false ∧ b.isEmpty = false then some (.tup (a ++ b), .shr) else none
  | _, _ => none
def rCatL (K : PySem.W.Frag) : R2 := fun x y H Q => ∃ l b xs zs, x = .ref l ∧ y = .ref b ∧ SqL K H l xs ∧ SqL K H b zs ∧ xs.length + zs.length ≤ sizeLine ∧ ∀ p, H p = none → Q (.ref p) (upd H p (.lst (xs ++ zs)))
section
variable {X : Cx} {pos : Pos}
theorem op_catL : OpR X (binaryOp .Add) (rCatL X.K) := by
  intro pins s σ H x y v u Q I rx ry h
  obtain ⟨l, b, xs, zs, rfl, rfl, hH, hB, hz, q⟩ := h
  cases rx
  cases ry
  obtain ⟨its, r, ⟨o1, n1, e1, c1, d1, k1⟩, _⟩ := I.list hH
  obtain ⟨its2, r2, ⟨o2, n2, e2, c2, d2, k2⟩, _⟩ := I.list hB
  obtain ⟨cls1, dd1, dt1, sl1⟩ := o1
  obtain ⟨cls2, dd2, dt2, sl2⟩ := o2
  dsimp only at c1 d1 k1 c2 d2 k2
  subst c1 d1 k1 c2 d2 k2
  have hl := r.length
  have hl2 := r2.length
  refine concat_meets ⟨_, e1, rfl⟩ ⟨_, e2, rfl⟩ noFill_list_add seq_list_add PySem.F.slot_list_add PySem.F.entry_list_add (PySem.F.args_list_add_2 _ _) (list_addW l b its.toArray its2.toArray n1 n2 none none sl1 sl2 (by simp; omega)) ⟨e1, e2, ?_⟩
  have ea : its.toArray ++ its2.toArray = (its ++ its2).toArray := by simp
  rw [ea]
  exact ⟨.ref _, _, I.lnew (t' := s.toks) (r.append r2) (by rw [List.length_append]; omega), rfl, q _ I.fresh⟩
def rAddStr : R2 := fun x y H Q => ∃ i j, x = .str i ∧ y = .str j ∧ i.length + j.length ≤ sizeLine ∧ Q (.str (i ++ j)) H
def rAddI : R2 := fun x y H Q => ∃ i j, x = .int i ∧ y = .int j ∧ Q (.int (i + j)) H
abbrev rAdd (K : PySem.W.Frag) : R2 := fun x y H Q => rAddI x y H Q ∨ (rAddStr x y H Q ∨ (rCatL K x y H Q ∨ rCatT K x y H Q))
theorem op_addA : OpR X (binaryOp .Add) (rAdd X.K) := OpR.or (r := rAddI) op_add (OpR.or (r := rAddStr) op_add_str (OpR.or (r := rCatL X.K) op_catL op_catT))
theorem os_add {K : PySem.W.Frag} : OpS2 K (rAdd K) addD := by
  intro G O σ H ρ a b x y z Q hK R v1 v2 e q
  unfold addD at e
  split at e
  · cases e
    exact .inl ⟨_, _, v1.con, v2.con, q O _ H (R.con _)⟩
  · split at e
    · rename_i hl
      cases e
      exact .inr (.inl ⟨_, _, v1.con, v2.con, by rw [← cap_eq]; exact hl, q O _ H (R.con _)⟩)
    · cases e
  · split at e
    · rename_i hl
      cases e
      obtain ⟨a1, vs, rfl, s1, r1⟩ := v1.lst
      obtain ⟨a2, us, rfl, s2, r2⟩ := v2.lst
      refine .inr (.inr (.inl ⟨a1, a2, vs, us, rfl, rfl, s1, s2, by rw [r1.len, r2.len, ← cap_eq]; exact hl, fun p hp => ?_⟩))
      rw [← hK] at r1 r2
      obtain ⟨O', R'⟩ := R.fresh (d := .lst (_ ++ _)) hp (.lst (r1.append r2))
      exact q O' _ _ R'
    · cases e
  · split at e
    · rename_i xs ys hl
      cases e
      obtain ⟨a1, vs, rfl, s1, r1⟩ := v1.tup
      obtain ⟨a2, us, rfl, s2, r2⟩ := v2.tup
      have ne : vs ≠ [] := fun z => by
        subst z
        cases r1
        cases hl.2.1
      refine .inr (.inr (.inr ⟨a1, a2, vs, us, rfl, rfl, s1, s2, ne, by rw [r1.len, r2.len, ← cap_eq]; exact hl.1, fun z => ?_, fun z p hp => ?_⟩))
      · subst z
        cases r2
        cases hl.2.2
      · rw [← hK] at r1 r2
        exact q O _ _ (R.freshT (d := .tup (_ ++ _)) hp (.tup (r1.append r2)))
    · cases e
  · cases e
def CMulB (i j : Int) : Bool := (decide (-18446744073709551616 < i) && decide (i < 18446744073709551616)) || (decide (-18446744073709551616 < j) && decide (j < 18446744073709551616))
theorem CMulB_of {i j : Int} (h : CMulB i j = true) : CMul i j := by
  unfold CMulB at h
  rw [Bool.or_eq_true, Bool.and_eq_true, Bool.and_eq_true, decide_eq_true_eq, decide_eq_true_eq, decide_eq_true_eq, decide_eq_true_eq] at h
  rcases h with h | h
  · exact .inl ⟨by omega, by omega⟩
  · exact .inr ⟨by omega, by omega⟩
/-- a guarded operation on ints -/
def gIb (C : Int → Int → Bool) (f : Int → Int → V) (x y : D) : Option (D × Kd) := match x, y with
  | .con (.int i), .con (.int j) => if C i j then some (.con (f i j), .shr) else none
  | _, _ => none
theorem os_Ib {K : PySem.W.Frag} {P : Int → Int → Prop} {C : Int → Int → Bool} {f : Int → Int → V} (h : ∀ i j, C i j = true → P i j) : OpS2 K (rI P f) (gIb C f) := by
  intro G O σ H ρ a b x y z Q hK R v1 v2 e q
  unfold gIb at e
  split at e
  · split at e
    · rename_i hc
      cases e
      exact ⟨_, _, v1.con, v2.con, h _ _ hc, q O _ H (R.con _)⟩
    · cases e
  · cases e
def gIp (f : Int → Int → V) (x y : D) : Option (D × Kd) := match x, y with
  | .con (.int i), .con (.int j) => some (.con (f i j), .shr)
  | _, _ => none
theorem os_Ip {K : PySem.W.Frag} {f : Int → Int → V} : OpS2 K (rI0 f) (gIp f) := by
  intro G O σ H ρ a b x y z Q hK R v1 v2 e q
  unfold gIp at e
  split at e
  · cases e
    exact ⟨_, _, v1.con, v2.con, q O _ H (R.con _)⟩
  · cases e
def subD := gIp fun i j => .int (i - j)
def mulD := gIb CMulB fun i j => .int (i * j)
def CDivB (_ j : Int) : Bool := decide (0 < j) && decide (j < 2 ^ 200)
def divD := gIb CDivB fun i j => .int (i / j)
def modD := gIb (fun _ j => decide (0 < j)) fun i j => .int (i % j)
def CPowB (i j : Int) : Bool := decide (0 ≤ j) && (decide (j ≤ 1000) && decide (i.natAbs < 18446744073709551616))
def powD := gIb CPowB fun i j => .int (i ^ j.toNat)
theorem CPowB_of {i j : Int} (h : CPowB i j = true) : CPow i j := by
  unfold CPowB at h
  simp only [Bool.and_eq_true, decide_eq_true_eq] at h
  exact ⟨h.1, by omega, by omega⟩
theorem CDivB_of {i j : Int} (h : CDivB i j = true) : CDivW i j := by
  unfold CDivB at h
  simp only [Bool.and_eq_true, decide_eq_true_eq] at h
  refine wide_div h.1 (b := 200) ?_ (by decide) (by decide)
  have : (2 : Int) ^ 200 = ((2 ^ 200 : Nat) : Int) := by norm_cast
  omega
theorem os_sub {K : PySem.W.Frag} : OpS2 K (rI0 fun i j => .int (i - j)) subD := os_Ip
theorem os_mul {K : PySem.W.Frag} : OpS2 K (rI CMul fun i j => .int (i * j)) mulD := os_Ib fun _ _ => CMulB_of
theorem os_div {K : PySem.W.Frag} : OpS2 K (rI CDivW fun i j => .int (i / j)) divD := os_Ib fun _ _ => CDivB_of
theorem os_mod {K : PySem.W.Frag} : OpS2 K (rI (fun _ j => 0 < j) fun i j => .int (i % j)) modD := os_Ib fun _ _ h => of_decide_eq_true h
theorem os_pow {K : PySem.W.Frag} : OpS2 K (rI CPow fun i j => .int (i ^ j.toNat)) powD := os_Ib fun _ _ => CPowB_of
/-- one operand -/
def dOp1 (g : D → Option V) (ra : DE) : DE := do
  let x ← ra
  let d ← dcur x
  let v ← mOpt (g d)
  pure (.con v, .shr)
def negV (d : D) : Option V := match d with
  | .con (.int i) => some (.int (-i))
  | _ => none
theorem se_neg {a : Expr} {ra : DE} (ha : SE X a ra) : SE X (.UnaryOp .USub a pos) (dOp1 negV ra) := fun W tk => PE.imp (pe_un un_neg (ha W tk)) fun σ H Q ⟨G, O, ρ, hK, R, h⟩ => by
  refine tE.at hK R (Res.post_ok ((post_bind _ _).mp h) fun x ρ1 q O1 v H1 R1 => ?_)
  obtain ⟨d, e1, q2⟩ := post_cur.mp ((post_bind _ _).mp q)
  obtain ⟨w, e2, q3⟩ := (post_opt _).mp ((post_bind _ _).mp q2)
  have v1 := R1.view R1.tm.1 e1
  unfold negV at e2
  split at e2
  · cases e2
    exact ⟨_, v1.con, q3 O1 _ H1 (R1.pop.con _)⟩
  · cases e2
def ltC := gC fun i j => decide (i < j)
def leC := gC fun i j => decide (i ≤ j)
/-- data that == reads -/
def okD : Nat → D → Bool
  | _, .con .non => true
  | _, .con (.bl _) => true
  | _, .con (.int _) => true
  | _, .con (.str s) => PyData.strOk s
  | n + 1, .lst xs => xs.all (okD n)
  | n + 1, .tup xs => xs.all (okD n)
  | _, _ => false
def sameV (a b : V) : Bool := match a, b with
  | .int i, .int j => decide (i = j)
  | .bl i, .bl j => i == j
  | .bl i, .int j => (if i then 1 else 0) == j
  | .int i, .bl j => i == (if j then 1 else 0)
  | .str i, .str j => decide (i = j)
  | .non, .non => true
  | _, _ => false
mutual
def same : D → D → Bool
  | .con a, .con b => sameV a b
  | .lst xs, .lst ys => sameL xs ys
  | .tup xs, .tup ys => sameL xs ys
  | _, _ => false
def sameL : List D → List D → Bool
  | [], [] => true
  | x :: xs, y :: ys => same x y && sameL xs ys
  | _, _ => false
end
def eqD (x y : D) : Option Bool := match x, y with
  | .con a, .con b => if scal a b then some (decide (a = b)) else if okD 60 x && okD 60 y then some (same x y) else none
  | _, _ => if okD 60 x && okD 60 y then some (same x y) else none
mutual
def toPy : D → PyData
  | .con (.bl b) => .bool b
  | .con (.int i) => .int i
  | .con (.str s) => .str s
  | .con _ => .none
  | .lst xs => .list (toPys xs)
  | .tup xs => .tuple (toPys xs)
  | _ => .none
def toPys : List D → List PyData
  | [] => []
  | x :: xs => toPy x :: toPys xs
end
theorem toPy_depth : ∀ (n : Nat) (d : D), okD n d = true → (toPy d).depth ≤ n ∧ (toPy d).canLay0 = true
  | n, .con v, h => by
    cases v with
    | non => simp [toPy, PyData.depth, PyData.canLay0]
    | bl b => simp [toPy, PyData.depth, PyData.canLay0]
    | int i => simp [toPy, PyData.depth, PyData.canLay0]
    | str s => unfold okD at h; simp [toPy, PyData.depth, PyData.canLay0, h]
    | _ => simp [okD] at h
  | n + 1, .lst xs, h => by
    have ih : ∀ xs : List D, xs.all (okD n) = true → PyData.depthAll (toPys xs) ≤ n ∧ PyData.canLayAll0 (toPys xs) = true := by
      intro xs
      induction xs with
      | nil => intro _; simp [toPys, PyData.depthAll, PyData.canLayAll0]
      | cons x xs ih2 =>
        intro h
        rw [List.all_cons, Bool.and_eq_true] at h
        obtain ⟨a, b⟩ := toPy_depth n x h.1
        obtain ⟨c, d⟩ := ih2 h.2
        simp only [toPys, PyData.depthAll, PyData.canLayAll0, b, d]
        exact ⟨by omega, rfl⟩
    obtain ⟨a, b⟩ := ih xs (by unfold okD at h; exact h)
    simp only [toPy, PyData.depth, PyData.canLay0]
    exact ⟨by omega, b⟩
  | n + 1, .tup xs, h => by
    have ih : ∀ xs : List D, xs.all (okD n) = true → PyData.depthAll (toPys xs) ≤ n ∧ PyData.canLayAll0 (toPys xs) = true := by
      intro xs
      induction xs with
      | nil => intro _; simp [toPys, PyData.depthAll, PyData.canLayAll0]
      | cons x xs ih2 =>
        intro h
        rw [List.all_cons, Bool.and_eq_true] at h
        obtain ⟨a, b⟩ := toPy_depth n x h.1
        obtain ⟨c, d⟩ := ih2 h.2
        simp only [toPys, PyData.depthAll, PyData.canLayAll0, b, d]
        exact ⟨by omega, rfl⟩
    obtain ⟨a, b⟩ := ih xs (by unfold okD at h; exact h)
    simp only [toPy, PyData.depth, PyData.canLay0]
    exact ⟨by omega, b⟩
  | 0, .lst xs, h => by simp [okD] at h
  | 0, .tup xs, h => by simp [okD] at h
  | 0, .dic xs, h => by simp [okD] at h
  | 0, .dit xs, h => by simp [okD] at h
  | 0, .own xs, h => by simp [okD] at h
  | 0, .exv _, h => by simp [okD] at h
  | 0, .fnv _ _ _, h => by simp [okD] at h
  | _ + 1, .dic xs, h => by simp [okD] at h
  | _ + 1, .dit xs, h => by simp [okD] at h
  | _ + 1, .own xs, h => by simp [okD] at h
  | _ + 1, .exv _, h => by simp [okD] at h
  | _ + 1, .fnv _ _ _, h => by simp [okD] at h
theorem ok_shaped {d : D} (h : okD 60 d = true) : SeqAt.shaped (toPy d) = true := by
  obtain ⟨a, b⟩ := toPy_depth 60 d h
  unfold SeqAt.shaped
  rw [b, decide_eq_true (by omega)]; rfl
mutual
theorem Rep.dp {K : PySem.W.Frag} {H : Hp} {O : Own} : ∀ (n : Nat) {v : V} {d : D}, okD n d = true → Vw K H O v d → Dp K H v (toPy d)
  | n, v, .con c, h, r => by
    rw [r.con]
    cases c with
    | non => exact .non
    | bl b => exact .bl b
    | int i => exact .int i
    | str s => exact .str s
    | _ => simp [okD] at h
  | n + 1, v, .lst xs, h, r => by
    obtain ⟨a, vs, rfl, s, q⟩ := r.lst
    exact .lst s (Reps.dp n (by unfold okD at h; exact h) q)
  | n + 1, v, .tup xs, h, r => by
    obtain ⟨a, vs, rfl, s, q⟩ := r.tup
    exact .tup s (Reps.dp n (by unfold okD at h; exact h) q)
  | 0, v, .lst xs, h, r => by simp [okD] at h
  | 0, v, .tup xs, h, r => by simp [okD] at h
  | 0, v, .dic xs, h, r => by simp [okD] at h
  | 0, v, .dit xs, h, r => by simp [okD] at h
  | 0, v, .own xs, h, r => by simp [okD] at h
  | 0, v, .exv _, h, r => by simp [okD] at h
  | 0, v, .fnv _ _ _, h, r => by simp [okD] at h
  | _ + 1, v, .dic xs, h, r => by simp [okD] at h
  | _ + 1, v, .dit xs, h, r => by simp [okD] at h
  | _ + 1, v, .own xs, h, r => by simp [okD] at h
  | _ + 1, v, .exv _, h, r => by simp [okD] at h
  | _ + 1, v, .fnv _ _ _, h, r => by simp [okD] at h
theorem Reps.dp {K : PySem.W.Frag} {H : Hp} {O : Own} : ∀ (n : Nat) {vs : List V} {ds : List D}, ds.all (okD n) = true → Reps K H (lin O) vs ds → DpAll K H vs (toPys ds)
  | n, _, [], h, r => by cases r; exact .nil
  | n, _, d :: ds, h, r => by
    rw [List.all_cons, Bool.and_eq_true] at h
    cases r with
    | cons a b => exact .cons (Rep.dp n h.1 (.inl a)) (Reps.dp n h.2 b)
end
theorem same_con {n : Nat} {a b : V} (h1 : okD n (.con a) = true) (h2 : okD n (.con b) = true) : PyData.eqv (toPy (.con a)) (toPy (.con b)) = sameV a b := by
  cases a <;> first
    | (simp [okD] at h1; done)
    | (cases b <;> first
        | (simp [okD] at h2; done)
        | (simp [toPy, PyData.eqv, sameV]; done)
        | (simp only [toPy, PyData.eqv, sameV]; rfl)
        | (simp only [toPy, PyData.eqv, sameV, Bool.beq_eq_decide_eq]))
mutual
theorem same_eqv : ∀ (n m : Nat) (x y : D), okD n x = true → okD m y = true → PyData.eqv (toPy x) (toPy y) = same x y
  | n, m, .con a, .con b, h1, h2 => by
    have e1 : okD 0 (.con a) = true := by cases a <;> first | (simp only [okD] at h1 ⊢; done) | (simp only [okD] at h1 ⊢; exact h1) | (simp [okD] at h1)
    have e2 : okD 0 (.con b) = true := by cases b <;> first | (simp only [okD] at h2 ⊢; done) | (simp only [okD] at h2 ⊢; exact h2) | (simp [okD] at h2)
    rw [same_con e1 e2]
    simp only [same]
  | n + 1, m + 1, .lst xs, .lst ys, h1, h2 => by
    simp only [toPy, PyData.eqv, same]
    exact same_eqvs n m xs ys (by unfold okD at h1; exact h1) (by unfold okD at h2; exact h2)
  | n + 1, m + 1, .tup xs, .tup ys, h1, h2 => by
    simp only [toPy, PyData.eqv, same]
    exact same_eqvs n m xs ys (by unfold okD at h1; exact h1) (by unfold okD at h2; exact h2)
  | n, m, .con a, .lst ys, h1, h2 => by cases a <;> simp [toPy, PyData.eqv, same]
  | n, m, .con a, .tup ys, h1, h2 => by cases a <;> simp [toPy, PyData.eqv, same]
  | n, m, .lst xs, .con b, h1, h2 => by cases b <;> simp [toPy, PyData.eqv, same]
  | n, m, .tup xs, .con b, h1, h2 => by cases b <;> simp [toPy, PyData.eqv, same]
  | n, m, .lst xs, .tup ys, h1, h2 => by simp [toPy, PyData.eqv, same]
  | n, m, .tup xs, .lst ys, h1, h2 => by simp [toPy, PyData.eqv, same]
  | 0, m, .lst xs, .lst ys, h1, h2 => by simp [okD] at h1
  | 0, m, .tup xs, .tup ys, h1, h2 => by simp [okD] at h1
  | n, 0, .lst xs, .lst ys, h1, h2 => by simp [okD] at h2
  | n, 0, .tup xs, .tup ys, h1, h2 => by simp [okD] at h2
  | n, m, .dic xs, y, h1, h2 => by cases n <;> simp [okD] at h1
  | n, m, .dit xs, y, h1, h2 => by cases n <;> simp [okD] at h1
  | n, m, .own xs, y, h1, h2 => by cases n <;> simp [okD] at h1
  | n, m, .exv _, y, h1, h2 => by cases n <;> simp [okD] at h1
  | n, m, .fnv _ _ _, y, h1, h2 => by cases n <;> simp [okD] at h1
  | n, m, .con a, .dic ys, h1, h2 => by cases m <;> simp [okD] at h2
  | n, m, .con a, .dit ys, h1, h2 => by cases m <;> simp [okD] at h2
  | n, m, .con a, .own ys, h1, h2 => by cases m <;> simp [okD] at h2
  | n, m, .con a, .exv _, h1, h2 => by cases m <;> simp [okD] at h2
  | n, m, .con a, .fnv _ _ _, h1, h2 => by cases m <;> simp [okD] at h2
  | n, m, .lst xs, .dic ys, h1, h2 => by cases m <;> simp [okD] at h2
  | n, m, .lst xs, .dit ys, h1, h2 => by cases m <;> simp [okD] at h2
  | n, m, .lst xs, .own ys, h1, h2 => by cases m <;> simp [okD] at h2
  | n, m, .lst xs, .exv _, h1, h2 => by cases m <;> simp [okD] at h2
  | n, m, .lst xs, .fnv _ _ _, h1, h2 => by cases m <;> simp [okD] at h2
  | n, m, .tup xs, .dic ys, h1, h2 => by cases m <;> simp [okD] at h2
  | n, m, .tup xs, .dit ys, h1, h2 => by cases m <;> simp [okD] at h2
  | n, m, .tup xs, .own ys, h1, h2 => by cases m <;> simp [okD] at h2
  | n, m, .tup xs, .exv _, h1, h2 => by cases m <;> simp [okD] at h2
  | n, m, .tup xs, .fnv _ _ _, h1, h2 => by cases m <;> simp [okD] at h2
theorem same_eqvs : ∀ (n m : Nat) (xs ys : List D), xs.all (okD n) = true → ys.all (okD m) = true → PyData.eqvAll (toPys xs) (toPys ys) = sameL xs ys
  | n, m, [], [], h1, h2 => by simp [toPys, PyData.eqvAll, sameL]
  | n, m, [], _ :: _, h1, h2 => by simp [toPys, PyData.eqvAll, sameL]
  | n, m, _ :: _, [], h1, h2 => by simp [toPys, PyData.eqvAll, sameL]
  | n, m, x :: xs, y :: ys, h1, h2 => by
    rw [List.all_cons, Bool.and_eq_true] at h1 h2
    simp only [toPys, PyData.eqvAll, sameL]
    rw [same_eqv n m x y h1.1 h2.1, same_eqvs n m xs ys h1.2 h2.2]
end
abbrev rEqA (K : PySem.W.Frag) : R2 := fun x y H Q => rEq x y H Q ∨ rEqD K x y H Q
abbrev rNeA (K : PySem.W.Frag) : R2 := fun x y H Q => rNe x y H Q ∨ rNeD K x y H Q
theorem op_eqA {k : Nat} (hr : Room k X.A) : OpR X (compareOp .Eq) (rEqA X.K) := OpR.or op_eq (op_eqD hr.units)
theorem op_neA {k : Nat} (hr : Room k X.A) : OpR X (compareOp .NotEq) (rNeA X.K) := OpR.or op_ne (op_neD hr.units)
theorem eqD_of {K : PySem.W.Frag} {a b : V} {H : Hp} {x y : D} {k : Bool} {O : Own} (v1 : Vw K H O a x) (v2 : Vw K H O b y) (e : eqD x y = some k) : (scal a b = true ∧ decide (a = b) = k) ∨ ∃ d e, Dp K H a d ∧ Dp K H b e ∧ SeqAt.shaped d = true ∧ SeqAt.shaped e = true ∧ PyData.eqv d e = k := by
  have py : ∀ k, (if (okD 60 x && okD 60 y) = true then some (same x y) else none) = some k → ∃ d e, Dp K H a d ∧ Dp K H b e ∧ SeqAt.shaped d = true ∧ SeqAt.shaped e = true ∧ PyData.eqv d e = k := fun k e => by
    split at e
    · rename_i h
      rw [Bool.and_eq_true] at h
      cases e
      exact ⟨toPy x, toPy y, Rep.dp 60 h.1 v1, Rep.dp 60 h.2 v2, ok_shaped h.1, ok_shaped h.2, same_eqv 60 60 x y h.1 h.2⟩
    · cases e
  unfold eqD at e
  split at e
  · rename_i a' b'
    split at e
    · rename_i hs
      cases e
      rw [v1.con, v2.con]
      exact .inl ⟨hs, rfl⟩
    · exact .inr (py k e)
  · exact .inr (py k e)
theorem cs_eq {K : PySem.W.Frag} : CmpS K (rEqA K) eqD := fun a b H x y k O Q v1 v2 e q => by
  rcases eqD_of v1 v2 e with ⟨h1, h2⟩ | ⟨d, e', h1, h2, h3, h4, h5⟩
  · exact .inl ⟨h1, by rw [h2]; exact q⟩
  · exact .inr ⟨d, e', h1, h2, h3, h4, by rw [h5]; exact q⟩
def neD (x y : D) : Option Bool := (eqD x y).map not
theorem cs_ne {K : PySem.W.Frag} : CmpS K (rNeA K) neD := fun a b H x y k O Q v1 v2 e q => by
  obtain ⟨k', e1, e2⟩ := Option.map_eq_some_iff.mp e
  rcases eqD_of v1 v2 e1 with ⟨h1, h2⟩ | ⟨d, e', h1, h2, h3, h4, h5⟩
  · exact .inl ⟨h1, by rw [h2, e2]; exact q⟩
  · exact .inr ⟨d, e', h1, h2, h3, h4, by rw [h5, e2]; exact q⟩
end
end L2.VL
end
section
set_option Elab.async false
set_option linter.all false
set_option maxRecDepth 100000
namespace L2.VL
open PySem PySem.Spec PyProof.Rows
section
variable {X : Cx} {a b c e o : Expr} {es : List Expr} {ra rb rc r : DE} {l : List (Bool × DE)} {pos p : Pos}
def isNonD (d : D) : Option Bool := match d with
  | .con .non => some true
  | .con _ => some false
  | .lst _ => some false
  | .tup _ => some false
  | .dic _ => some false
  | .dit _ => some false
  | .own _ => none
  | .exv _ => some false
  | .fnv _ _ _ => none
theorem isNon_of {K : PySem.W.Frag} {H : Hp} {O : Own} {v : V} {d : D} {k : Bool} (h : Vw K H O v d) (e : isNonD d = some k) : decide (v = .non) = k := by
  have ref : ∀ {ho : HO} {d : D}, Cont K H (lin O) ho d → True := fun _ => trivial
  unfold isNonD at e
  split at e
  · cases e; rw [h.con]; rfl
  · rename_i c hc
    cases e
    rw [h.con]
    exact decide_eq_false hc
  · cases e
    obtain ⟨a, vs, rfl, _⟩ := h.lst
    rfl
  · cases e
    obtain ⟨a, vs, rfl, _⟩ := h.tup
    rfl
  · cases e
    rcases h with h | ⟨a, ho, rfl, _⟩ | ⟨_, _, _, z⟩
    · cases h; rfl
    · rfl
    · cases z
  · cases e
    rcases h with h | ⟨a, ho, rfl, _⟩ | ⟨_, _, _, z⟩
    · cases h; rfl
    · rfl
    · cases z
  · cases e
  · cases e
    obtain ⟨a, d, rfl, _⟩ := h.exv
    rfl
  · cases e
def isNC (x y : D) : Option Bool := match y with
  | .con .non => isNonD x
  | _ => none
def notNC (x y : D) : Option Bool := (isNC x y).map not
theorem cs_isN {K : PySem.W.Frag} : CmpS K (fun x y H Q => y = .non ∧ Q (.bl (decide (x = .non))) H) isNC := fun a b H x y k O Q v1 v2 e q => by
  unfold isNC at e
  split at e
  · exact ⟨v2.con, by rw [isNon_of v1 e]; exact q⟩
  · cases e
theorem cs_notN {K : PySem.W.Frag} : CmpS K (fun x y H Q => y = .non ∧ Q (.bl (!decide (x = .non))) H) notNC := fun a b H x y k O Q v1 v2 e q => by
  obtain ⟨k', e1, e2⟩ := Option.map_eq_some_iff.mp e
  unfold isNC at e1
  split at e1
  · exact ⟨v2.con, by rw [isNon_of v1 e1, e2]; exact q⟩
  · cases e1
def flatD (d : D) : Option V := match d with
  | .con v => if flatV v then some v else none
  | _ => none
def flatDs : List D → Option (List V)
  | [] => some []
  | d :: ds => match flatD d with
    | some v => (flatDs ds).map (v :: ·)
    | none => none
theorem flatD_of {d : D} {v : V} (e : flatD d = some v) : d = .con v ∧ flatV v = true := by
  unfold flatD at e
  split at e
  · split at e
    · rename_i h; cases e; exact ⟨rfl, h⟩
    · cases e
  · cases e
theorem flatDs_of {K : PySem.W.Frag} {H : Hp} {L : Addr → Prop} : ∀ {ds : List D} {vs us : List V}, flatDs ds = some vs → Reps K H L us ds → us = vs ∧ vs.all flatV = true
  | [], _, _, e, r => by cases e; cases r; exact ⟨rfl, rfl⟩
  | d :: ds, vs, us, e, r => by
    unfold flatDs at e
    split at e
    · rename_i v hv
      obtain ⟨ws, e1, rfl⟩ := Option.map_eq_some_iff.mp e
      obtain ⟨rfl, hf⟩ := flatD_of hv
      cases r with
      | cons a b =>
        obtain ⟨h1, h2⟩ := flatDs_of e1 b
        rw [a.con_inv, h1]
        exact ⟨rfl, by rw [List.all_cons, hf, h2]; rfl⟩
    · cases e
def inD (x y : D) : Option Bool := match y with
  | .lst ds => match flatD x, flatDs ds with
    | some v, some vs => some (inV v vs)
    | _, _ => none
  | .tup ds => match flatD x, flatDs ds with
    | some v, some vs => some (inV v vs)
    | _, _ => none
  | _ => none
theorem inD_of {K : PySem.W.Frag} {H : Hp} {O : Own} {u w : V} {x y : D} {k : Bool} (v1 : Vw K H O u x) (v2 : Vw K H O w y) (e : inD x y = some k) :
    ∃ p xs, w = .ref p ∧ (SqL K H p xs ∨ SqT K H p xs) ∧ flatV u = true ∧ xs.all flatV = true ∧ inV u xs = k := by
  unfold inD at e
  split at e
  · split at e
    · rename_i v vs h1 h2
      cases e
      obtain ⟨rfl, hf⟩ := flatD_of h1
      obtain ⟨a, us, rfl, s, r⟩ := v2.lst
      obtain ⟨rfl, hf2⟩ := flatDs_of h2 r
      rw [v1.con]
      exact ⟨a, _, rfl, .inl s, hf, hf2, rfl⟩
    · cases e
  · split at e
    · rename_i v vs h1 h2
      cases e
      obtain ⟨rfl, hf⟩ := flatD_of h1
      obtain ⟨a, us, rfl, s, r⟩ := v2.tup
      obtain ⟨rfl, hf2⟩ := flatDs_of h2 r
      rw [v1.con]
      exact ⟨a, _, rfl, .inr s, hf, hf2, rfl⟩
    · cases e
  · cases e
theorem cs_in {K : PySem.W.Frag} : CmpS K (rIn K false) inD := fun a b H x y k O Q v1 v2 e q => by
  obtain ⟨p, xs, rfl, s, h1, h2, h3⟩ := inD_of v1 v2 e
  exact ⟨p, xs, rfl, s, h1, h2, by simpa [h3] using q⟩
def notInD (x y : D) : Option Bool := (inD x y).map not
theorem cs_notin {K : PySem.W.Frag} : CmpS K (rIn K true) notInD := fun a b H x y k O Q v1 v2 e q => by
  obtain ⟨k', e1, e2⟩ := Option.map_eq_some_iff.mp e
  obtain ⟨p, xs, rfl, s, h1, h2, h3⟩ := inD_of v1 v2 e1
  exact ⟨p, xs, rfl, s, h1, h2, by simpa [h3, e2] using q⟩
def ixD (x y : D) : Option (D × Kd) := match x, y with
  | .lst ds, .con (.int i) => (atI ds i).map fun d => (d, .shr)
  | .tup ds, .con (.int i) => (atI ds i).map fun d => (d, .shr)
  | .con (.str z), .con (.int i) => if z.length ≤ cap then (atI z.cps.toList i).map fun c => (.str ⟨#[c]⟩, .shr) else none
  | _, _ => none
theorem atI_reps {K : PySem.W.Frag} {H : Hp} {L : Addr → Prop} {vs : List V} {ds : List D} {i : Int} {d : D} (r : Reps K H L vs ds) (e : atI ds i = some d) : ∃ v, atI vs i = some v ∧ Rep K H L v d := by
  unfold atI at e ⊢
  obtain ⟨j, e1, e2⟩ := Option.bind_eq_some_iff.mp e
  obtain ⟨v, h1, h2⟩ := r.get e2
  rw [r.len, e1]
  exact ⟨v, h1, h2⟩
theorem os_ix {K : PySem.W.Frag} : OpS2 K (rIx K) ixD := by
  intro G O σ H ρ a b x y z Q hK R v1 v2 e q
  unfold ixD at e
  split at e
  · obtain ⟨d, e1, rfl⟩ := Option.map_eq_some_iff.mp e
    obtain ⟨a1, vs, rfl, s1, r1⟩ := v1.lst
    obtain ⟨v, h1, h2⟩ := atI_reps r1 e1
    rw [← hK] at h2
    exact .inl ⟨a1, vs, _, v, rfl, v2.con, s1, h1, q O v H (R.push h2)⟩
  · obtain ⟨d, e1, rfl⟩ := Option.map_eq_some_iff.mp e
    obtain ⟨a1, vs, rfl, s1, r1⟩ := v1.tup
    obtain ⟨v, h1, h2⟩ := atI_reps r1 e1
    rw [← hK] at h2
    exact .inr (.inl ⟨a1, vs, _, v, rfl, v2.con, s1, h1, q O v H (R.push h2)⟩)
  · split at e
    · rename_i hz
      obtain ⟨d, e1, rfl⟩ := Option.map_eq_some_iff.mp e
      exact .inr (.inr ⟨_, _, d, v1.con, v2.con, by rw [← cap_eq]; exact hz, e1, q O _ H (R.con _)⟩)
    · cases e
  · cases e
/-- a part of a slice -/
def dPart (o : Option DE) : M (Option Int) := match o with
  | none => pure none
  | some r => do
    let x ← r
    let d ← dcur x
    mOpt (match d with
      | .con (.int i) => some (some i)
      | _ => none)
def tP (K : PySem.W.Frag) (W : WX) (r : M (Option Int)) : TO := fun σ H Q => ∃ G O ρ T, G.K = K ∧ Rel G O σ H ρ T ∧ (r ρ).post (fun i ρ' => ∀ O' H', Rel G O' σ H' ρ' T → Q i H') (EX G σ W)
theorem PO.imp {X : Cx} {e : Option Expr} {t t' : TO} (h : PO X e t) (i : ∀ σ H Q, t' σ H Q → t σ H Q) : PO X e t' := ⟨fun pins s σ H Q I q => h.run pins s σ H Q I (i σ H Q q)⟩
def SP_ (X : Cx) (e : Option Expr) (r : M (Option Int)) : Prop := ∀ W, Takes X W → PO X e (tP X.K W r)
theorem sp_none : SP_ X none (dPart none) := fun W tk => PO.imp po_none fun σ H Q ⟨G, O, ρ, T, hK, R, h⟩ => h O H R
theorem sp_some (ha : SE X a ra) : SP_ X (some a) (dPart (some ra)) := fun W tk => PO.imp (po_some (ha W tk)) fun σ H Q ⟨G, O, ρ, T, hK, R, h⟩ => by
  refine tE.at hK R (Res.post_ok ((post_bind _ _).mp h) fun x ρ1 q O1 v H1 R1 => ?_)
  obtain ⟨d, e1, q2⟩ := post_cur.mp ((post_bind _ _).mp q)
  obtain ⟨i, e2, q3⟩ := (post_opt _).mp q2
  have v1 := R1.view R1.tm.1 e1
  split at e2
  · cases e2
    exact ⟨_, v1.con, q3 O1 H1 R1.pop⟩
  · cases e2
def cutD (ds : List D) (lo hi : Option Int) : List D := (ds.drop (HT.sIx ds.length 0 lo)).take (HT.sIx ds.length ds.length hi - HT.sIx ds.length 0 lo)
theorem Reps.cut {K : PySem.W.Frag} {H : Hp} {L : Addr → Prop} {vs : List V} {ds : List D} (r : Reps K H L vs ds) (lo hi : Option Int) : Reps K H L (cutV vs lo hi) (cutD ds lo hi) := by
  unfold cutV cutD
  rw [r.len]
  exact (r.drop _).take _
/-- a slice of a list -/
def dSlL (ra : DE) (lo hi : Option DE) : DE := do
  let x ← ra
  let i ← dPart lo
  let j ← dPart hi
  let d ← dcur x
  mOpt (match d with
    | .lst ds => some (.lst (cutD ds i j), .fr)
    | _ => none)
theorem se_slL {lo hi : Option Expr} {rl rh : Option DE} {p2 : Pos} (ha : SE X a ra) (hl : SP_ X lo (dPart rl)) (hh : SP_ X hi (dPart rh)) : SE X (.Subscript a (.Slice lo hi none p2) pos) (dSlL ra rl rh) := fun W tk =>
  PE.imp (pe_slice sl_list (ha W tk) (hl W tk) (hh W tk)) fun σ H Q ⟨G, O, ρ, hK, R, h⟩ => by
    refine tE.at hK R (Res.post_ok ((post_bind _ _).mp h) fun x ρ1 q O1 v H1 R1 => ?_)
    refine ⟨G, O1, ρ1, _, hK, R1, Res.post_ok ((post_bind _ _).mp q) fun i ρ2 q2 O2 H2 R2 => ?_⟩
    refine ⟨G, O2, ρ2, _, hK, R2, Res.post_ok ((post_bind _ _).mp q2) fun j ρ3 q3 O3 H3 R3 => ?_⟩
    obtain ⟨d, e1, q4⟩ := post_cur.mp ((post_bind _ _).mp q3)
    obtain ⟨z, e2, q5⟩ := (post_opt _).mp q4
    have v1 := R3.view R3.tm.1 e1
    split at e2
    · rename_i ds
      cases e2
      obtain ⟨a1, vs, rfl, s1, r1⟩ := v1.lst
      rw [hK] at s1
      refine ⟨a1, vs, rfl, s1, fun p hp => ?_⟩
      obtain ⟨O4, R4⟩ := R3.pop.fresh (d := .lst (cutD ds i j)) hp (.lst (r1.cut i j))
      exact q5 O4 _ _ R4
    · cases e2
def lenD (ds : List D) : Option (D × Kd) := match ds with
  | [.lst xs] => some (.int xs.length, .shr)
  | [.tup xs] => some (.int xs.length, .shr)
  | [.con (.str z)] => if z.length ≤ cap then some (.int z.length, .shr) else none
  | _ => none
theorem os_len {K : PySem.W.Frag} : OpS K (fun xs H Q => ∃ x n, xs = [x] ∧ LenV K x H n ∧ Q (.int n) H) lenD := by
  intro G O σ H ρ vs ds z Q hK R w e q
  unfold lenD at e
  split at e
  · cases e
    obtain ⟨v, rfl, v1⟩ := w.one
    obtain ⟨a1, us, rfl, s1, r1⟩ := v1.lst
    exact ⟨_, _, rfl, .inl ⟨us, s1, r1.len.symm⟩, q O _ H (R.con _)⟩
  · cases e
    obtain ⟨v, rfl, v1⟩ := w.one
    obtain ⟨a1, us, rfl, s1, r1⟩ := v1.tup
    exact ⟨_, _, rfl, .inr ⟨us, s1, r1.len.symm⟩, q O _ H (R.con _)⟩
  · split at e
    · rename_i hz
      cases e
      obtain ⟨v, rfl, v1⟩ := w.one
      rw [v1.con]
      exact ⟨_, _, rfl, ⟨by rw [← cap_eq]; exact hz, rfl⟩, q O _ H (R.con _)⟩
    · cases e
  · cases e
/-- a built-in of scalars -/
theorem OpS.sc {K : PySem.W.Frag} {rr : List V → Hp → VK → Prop} {g : List D → Option V} (h : ∀ (H : Hp) (vs : List V) (ds : List D) (v : V) (O : Own) (Q : VK), Vws K H O vs ds → g ds = some v → Q v H → rr vs H Q) : OpS K rr (fun ds => (g ds).map fun v => (.con v, .shr)) := by
  intro G O σ H ρ vs ds z Q hK R w e q
  obtain ⟨v, e1, rfl⟩ := Option.map_eq_some_iff.mp e
  exact h H vs ds v O Q w e1 (q O v H (R.con v))
def scB (g : List D → Option V) (ds : List D) : Option (D × Kd) := (g ds).map fun v => (.con v, .shr)
def absV (ds : List D) : Option V := match ds with
  | [.con (.int i)] => some (.int (if i < 0 then -i else i))
  | _ => none
theorem os_abs {K : PySem.W.Frag} : OpS K (fun xs H Q => ∃ i, xs = [.int i] ∧ Q (.int (if i < 0 then -i else i)) H) (scB absV) := OpS.sc fun H vs ds v O Q w e q => by
  unfold absV at e
  split at e
  · cases e
    obtain ⟨v, rfl, v1⟩ := w.one
    exact ⟨_, by rw [v1.con], q⟩
  · cases e
def maxV (ds : List D) : Option V := match ds with
  | [.con (.int i), .con (.int j)] => some (.int (if j > i then j else i))
  | _ => none
theorem os_max {K : PySem.W.Frag} : OpS K (fun xs H Q => ∃ i j, xs = [.int i, .int j] ∧ Q (.int (if j > i then j else i)) H) (scB maxV) := OpS.sc fun H vs ds v O Q w e q => by
  unfold maxV at e
  split at e
  · cases e
    obtain ⟨v, u, rfl, v1, v2⟩ := w.two
    exact ⟨_, _, by rw [v1.con, v2.con], q⟩
  · cases e
def minV (ds : List D) : Option V := match ds with
  | [.con (.int i), .con (.int j)] => some (.int (if j < i then j else i))
  | _ => none
theorem os_min {K : PySem.W.Frag} : OpS K (fun xs H Q => ∃ i j, xs = [.int i, .int j] ∧ Q (.int (if j < i then j else i)) H) (scB minV) := OpS.sc fun H vs ds v O Q w e q => by
  unfold minV at e
  split at e
  · cases e
    obtain ⟨v, u, rfl, v1, v2⟩ := w.two
    exact ⟨_, _, by rw [v1.con, v2.con], q⟩
  · cases e
def intV (ds : List D) : Option V := match ds with
  | [.con (.int i)] => some (.int i)
  | [.con (.bl k)] => some (.int (if k then 1 else 0))
  | _ => none
theorem os_int {K : PySem.W.Frag} : OpS K (fun xs H Q => (∃ i, xs = [.int i] ∧ Q (.int i) H) ∨ ∃ k, xs = [.bl k] ∧ Q (.int (if k then 1 else 0)) H) (scB intV) := OpS.sc fun H vs ds v O Q w e q => by
  unfold intV at e
  split at e
  · cases e
    obtain ⟨v, rfl, v1⟩ := w.one
    exact .inl ⟨_, by rw [v1.con], q⟩
  · cases e
    obtain ⟨v, rfl, v1⟩ := w.one
    exact .inr ⟨_, by rw [v1.con], q⟩
  · cases e
def blsD : List D → Option (List Bool)
  | [] => some []
  | .con (.bl b) :: ds => (blsD ds).map (b :: ·)
  | _ => none
theorem blsD_of : ∀ {ds : List D} {bs : List Bool}, blsD ds = some bs → ds = bs.map fun b => .con (.bl b)
  | [], _, e => by cases e; rfl
  | .con (.bl b) :: ds, bs, e => by
    obtain ⟨r, e1, rfl⟩ := Option.map_eq_some_iff.mp (show (blsD ds).map (b :: ·) = some bs from e)
    rw [blsD_of e1]; rfl
def intsD : List D → Option (List Int)
  | [] => some []
  | .con (.int b) :: ds => (intsD ds).map (b :: ·)
  | _ => none
theorem intsD_of : ∀ {ds : List D} {bs : List Int}, intsD ds = some bs → ds = bs.map fun b => .con (.int b)
  | [], _, e => by cases e; rfl
  | .con (.int b) :: ds, bs, e => by
    obtain ⟨r, e1, rfl⟩ := Option.map_eq_some_iff.mp (show (intsD ds).map (b :: ·) = some bs from e)
    rw [intsD_of e1]; rfl
def strsD : List D → Option (List Str)
  | [] => some []
  | .con (.str b) :: ds => (strsD ds).map (b :: ·)
  | _ => none
theorem strsD_of : ∀ {ds : List D} {bs : List Str}, strsD ds = some bs → ds = bs.map fun b => .con (.str b)
  | [], _, e => by cases e; rfl
  | .con (.str b) :: ds, bs, e => by
    obtain ⟨r, e1, rfl⟩ := Option.map_eq_some_iff.mp (show (strsD ds).map (b :: ·) = some bs from e)
    rw [strsD_of e1]; rfl
@[simp] theorem blsD_map {α : Type} (f : α → Bool) : ∀ xs : List α, blsD (xs.map fun x => .con (.bl (f x))) = some (xs.map f)
  | [] => rfl
  | x :: xs => by simp [blsD, blsD_map f xs]
@[simp] theorem intsD_map {α : Type} (f : α → Int) : ∀ xs : List α, intsD (xs.map fun x => .con (.int (f x))) = some (xs.map f)
  | [] => rfl
  | x :: xs => by simp [intsD, intsD_map f xs]
@[simp] theorem strsD_map {α : Type} (f : α → Str) : ∀ xs : List α, strsD (xs.map fun x => .con (.str (f x))) = some (xs.map f)
  | [] => rfl
  | x :: xs => by simp [strsD, strsD_map f xs]
def allV (ds : List D) : Option V := match ds with
  | [.lst xs] => (blsD xs).map fun bs => .bl (bs.all id)
  | _ => none
def sumV (ds : List D) : Option V := match ds with
  | [.lst xs] => (intsD xs).map fun ns => .int ns.sum
  | _ => none
theorem os_all {K : PySem.W.Frag} : OpS K (rAll K) (scB allV) := OpS.sc fun H vs ds v O Q w e q => by
  unfold allV at e
  split at e
  · obtain ⟨bs, e1, rfl⟩ := Option.map_eq_some_iff.mp e
    obtain ⟨v, rfl, v1⟩ := w.one
    obtain ⟨a1, us, rfl, s1, r1⟩ := v1.lst
    rw [blsD_of e1] at r1
    rw [r1.con_inv] at s1
    exact ⟨a1, bs, rfl, s1, q⟩
  · cases e
theorem os_sum {K : PySem.W.Frag} : OpS K (rSum K) (scB sumV) := OpS.sc fun H vs ds v O Q w e q => by
  unfold sumV at e
  split at e
  · obtain ⟨bs, e1, rfl⟩ := Option.map_eq_some_iff.mp e
    obtain ⟨v, rfl, v1⟩ := w.one
    obtain ⟨a1, us, rfl, s1, r1⟩ := v1.lst
    rw [intsD_of e1] at r1
    rw [r1.con_inv] at s1
    exact ⟨a1, bs, rfl, s1, q⟩
  · cases e
def listD (ds : List D) : Option (D × Kd) := match ds with
  | [.lst xs] => some (.lst xs, .fr)
  | [.tup xs] => some (.lst xs, .fr)
  | _ => none
theorem os_list {K : PySem.W.Frag} : OpS K (fun xs H Q => ∃ p ys, xs = [.ref p] ∧ (SqL K H p ys ∨ SqT K H p ys) ∧ ∀ l, H l = none → Q (.ref l) (upd H l (.lst ys))) listD := by
  intro G O σ H ρ vs ds z Q hK R w e q
  unfold listD at e
  split at e
  · rename_i xs
    cases e
    obtain ⟨v, rfl, v1⟩ := w.one
    obtain ⟨a1, us, rfl, s1, r1⟩ := v1.lst
    rw [← hK] at r1
    refine ⟨a1, us, rfl, .inl s1, fun l hl => ?_⟩
    obtain ⟨O4, R4⟩ := R.fresh (d := .lst xs) hl (.lst r1)
    exact q O4 _ _ R4
  · rename_i xs
    cases e
    obtain ⟨v, rfl, v1⟩ := w.one
    obtain ⟨a1, us, rfl, s1, r1⟩ := v1.tup
    rw [← hK] at r1
    refine ⟨a1, us, rfl, .inr s1, fun l hl => ?_⟩
    obtain ⟨O4, R4⟩ := R.fresh (d := .lst xs) hl (.lst r1)
    exact q O4 _ _ R4
  · cases e
/-- sorted of ints -/
def sortI (ns : List Int) : List Int := ns.mergeSort fun a b => decide (a ≤ b)
theorem sortI_unique {ns ms : List Int} (h : ms.Perm ns) (s : ms.Pairwise (· ≤ ·)) : ms = sortI ns := by
  have p := List.mergeSort_perm ns fun a b => decide (a ≤ b)
  have s2 := List.pairwise_mergeSort (le := fun a b : Int => decide (a ≤ b)) (fun a b c h1 h2 => by simp at *; omega) (fun a b => by simp; omega) ns
  refine List.Perm.eq_of_pairwise (fun a b _ _ h1 h2 => ?_) s (s2.imp fun h => by simpa using h) (h.trans p.symm)
  omega
def sortedD (ds : List D) : Option (D × Kd) := match ds with
  | [.lst xs] => (intsD xs).map fun ns => (.lst ((sortI ns).map fun n => .con (.int n)), .fr)
  | _ => none
theorem os_sorted {K : PySem.W.Frag} : OpS K (rSortedI K) sortedD := by
  intro G O σ H ρ vs ds z Q hK R w e q
  unfold sortedD at e
  split at e
  · obtain ⟨bs, e1, rfl⟩ := Option.map_eq_some_iff.mp e
    obtain ⟨v, rfl, v1⟩ := w.one
    obtain ⟨a1, us, rfl, s1, r1⟩ := v1.lst
    rw [intsD_of e1] at r1
    rw [r1.con_inv] at s1
    refine ⟨a1, bs, rfl, s1, fun ns' l pe so hl => ?_⟩
    rw [sortI_unique pe so]
    obtain ⟨O4, R4⟩ := R.fresh (d := .lst ((sortI bs).map fun n => .con (.int n))) hl (.lst (Reps.cons_map V.int _))
    exact q O4 _ _ R4
  · cases e
/-- isinstance of a built-in class -/
inductive Ty where
  | none | bool | int | str | list | tuple | dict
  deriving DecidableEq
def Ty.name : Ty → String
  | .none => "NoneType" | .bool => "bool" | .int => "int" | .str => "str" | .list => "list" | .tuple => "tuple" | .dict => "dict"
def tyOf (d : D) : Option Ty := match d with
  | .con .non => some .none
  | .con (.bl _) => some .bool
  | .con (.int _) => some .int
  | .con (.str _) => some .str
  | .lst _ => some .list
  | .tup _ => some .tuple
  | .dic _ => some .dict
  | _ => Option.none
def isiT : Ty → Ty → Bool
  | .none, .none => true
  | .bool, .bool => true
  | .bool, .int => true
  | .int, .int => true
  | .str, .str => true
  | .list, .list => true
  | .tuple, .tuple => true
  | .dict, .dict => true
  | _, _ => false
theorem isi_kit : ∀ t u : Ty, u ≠ .none → kitB t.name u.name = some (isiT t u) := by
  intro t u hu
  cases u <;> first
    | exact absurd rfl hu
    | (cases t <;> decide +kernel)
theorem tyx_of {K : PySem.W.Frag} {H : Hp} {O : Own} {v : V} {d : D} {t : Ty} (h : Vw K H O v d) (e : tyOf d = some t) : TyX K H v (.type t.name) := by
  unfold tyOf at e
  split at e
  · cases e; rw [h.con]; exact .base .non
  · cases e; rw [h.con]; exact .base (.bl _)
  · cases e; rw [h.con]; exact .base (.int _)
  · cases e; rw [h.con]; exact .base (.str _)
  · cases e
    obtain ⟨a1, us, rfl, s1, r1⟩ := h.lst
    rcases s1 with (s1 | ⟨ob, s1⟩) | ⟨ob, its, n, h1, h2, _⟩
    · exact .base (.lst s1)
    · exact .base (.frz s1)
    · exact .kList h1 h2
  · cases e
    obtain ⟨a1, us, rfl, s1, r1⟩ := h.tup
    rcases s1 with (s1 | ⟨ob, s1⟩) | ⟨ob, its, n, h1, h2, _⟩
    · exact .base (.tup s1)
    · exact .fTuple s1
    · exact .kTuple h1 h2
  · cases e
    have : ∃ a vs, v = .ref a ∧ Rd H a (.dK vs) := by
      rcases h with r | ⟨a, ho, ev, g, c⟩ | ⟨_, _, _, z⟩
      · cases r with
        | obj n r c => cases c with | dic c => exact ⟨_, _, rfl, r⟩
      · cases c with | dic c => exact ⟨a, _, ev, .inl g⟩
      · cases z
    obtain ⟨a, vs, rfl, r⟩ := this
    rcases r with r | ⟨o, r⟩
    · exact .base (.dK r)
    · exact .fDict r
  · cases e
/-- isinstance(e, T), T a built-in class -/
def dIsi (u : Ty) (r : DE) : DE := do
  let x ← r
  let d ← dcur x
  let t ← mOpt (tyOf d)
  pure (.bl (isiT t u), .shr)
theorem se_isi (u : Ty) {p1 p2 : Pos} {x : Str} (ha : SE X a ra) (h1 : X.mg "isinstance" = none) (h2 : X.mg x = none) (hu : u ≠ .none := by decide) (hx : bootBuiltins x = some (.type u.name) := by decide +kernel) (hg1 : Gl X "isinstance" := by rfl) (hg2 : Gl X x := by rfl)
    (hn : x ≠ "__name__" := by decide) (hdb : (x == ("__debug__" : Str)) = false := by decide)
    (he : starEach [a, .Name x p2] X.env = (false, eval a X.env) :: starEach [.Name x p2] X.env := by rfl) (he2 : starEach [.Name x p2] X.env = (false, eval (.Name x p2) X.env) :: starEach [] X.env := by rfl) (hpl : (backTo pos (starEach [.Name x p2] X.env)).any (·.1) = false := by rfl) :
    SE X (.Call (.Name "isinstance" p1) [a, .Name x p2] [] pos) (dIsi u ra) := fun W tk =>
  PE.imp (pe_callB call_isi hg1 h1 (by decide +kernel) (pa_cons (ha W tk) (pa_cons (pe_bltn (v := .ty u.name) hg2 h2 hx rfl hn hdb) pa_nil he2) he) (by decide) (by decide) he hpl) fun σ H Q ⟨G, O, ρ, hK, R, h⟩ => by
    refine tE.at hK R (Res.post_ok ((post_bind _ _).mp h) fun y ρ1 q O1 v H1 R1 => ?_)
    obtain ⟨d, e1, q2⟩ := post_cur.mp ((post_bind _ _).mp q)
    obtain ⟨t, e2, q3⟩ := (post_opt _).mp ((post_bind _ _).mp q2)
    have v1 := R1.view R1.tm.1 e1
    rw [hK] at v1
    exact ⟨v, .ty u.name, _, _, _, rfl, .ty _, tyx_of v1 e2, kit_ty (isi_kit t u hu), q3 O1 _ H1 (R1.pop.con _)⟩
/-- a method that changes nothing -/
def OpM (K : PySem.W.Frag) (T : String) (rr : V → List V → Hp → VK → Prop) (ty : D → Bool) (g : D → List D → Option (D × Kd)) : Prop :=
  (∀ H O v d, Vw K H O v d → ty d = true → tyV K T v H) ∧ ∀ (G : Fix) (O : Own) (σ : St) (H : Hp) (ρ : Rho) (v : V) (vs : List V) (d : D) (ds : List D) (z : D × Kd) (Q : VK), G.K = K → Rel G O σ H ρ [] → Vw K H O v d → Vws K H O vs ds →
    g d ds = some z → (∀ O' v H', Rel G O' σ H' ρ [⟨v, z.1, z.2⟩] → Q v H') → rr v vs H Q
def dMt (ty : D → Bool) (g : D → List D → Option (D × Kd)) (ro : DE) (l : List (Bool × DE)) : DE := do
  let x ← ro
  let d0 ← dcur x
  mOpt (if ty d0 then some () else none)
  let xs ← dA l
  let d ← dcur x
  let ds ← dcurs xs
  mOpt (g d ds)
theorem se_mt {T id : String} {name : Str} {rr : V → List V → Hp → VK → Prop} {ty : D → Bool} {g : D → List D → Option (D × Kd)} {ro : DE} {apos : Pos} (pa : PlainAttrs T) (slot : PySem.Slot T name id) (hty : typeOf (.builtin id) = pure (.type "method_descriptor")) (hm : MtR X id rr)
    (hs : OpM X.K T rr ty g) (ho : SE X o ro) (ha : SA X (e :: es) l)
    (hbase : attributeBase o name X.env (eval o X.env) = eval o X.env := by rfl)
    (hfew : ((backTo pos (starEach (e :: es) X.env)).all (fun x => !x.1) && (backToKw pos (keywordEach [] X.env)).all (fun x => x.1.isSome)
      && decide ((e :: es).length + ([] : List Keyword).length + (if ([] : List Keyword).isEmpty then 0 else 1) < 30)) = true := by rfl)
    (hline : (apos.endLine == pos.line) = true := by rfl) (hst : starEach (e :: es) X.env = (false, eval e X.env) :: starEach es X.env := by rfl) (hplain : (backTo pos (starEach es X.env)).any (·.1) = false := by rfl) :
    SE X (.Call (.Attribute o name apos) (e :: es) [] pos) (dMt ty g ro l) := fun W tk =>
  PE.imp (pe_bm pa slot hty hm (ho W tk) (ha W tk) hbase hfew hline hst hplain) fun σ H Q ⟨G, O, ρ, hK, R, h⟩ => by
    refine tE.at hK R (Res.post_ok ((post_bind _ _).mp h) fun y ρ1 q O1 v H1 R1 => ?_)
    obtain ⟨d0, e1, q2⟩ := post_cur.mp ((post_bind _ _).mp q)
    obtain ⟨_, e2, q3⟩ := (post_opt _).mp ((post_bind _ _).mp q2)
    have v1 := R1.view R1.tm.1 e1
    rw [hK] at v1
    have ht : ty d0 = true := by
      split at e2
      · assumption
      · cases e2
    refine ⟨hs.1 _ _ _ _ v1 ht, G, O1, ρ1, _, hK, R1, Res.post_ok ((post_bind _ _).mp q3) fun xs ρ2 q4 O2 vs H2 hl R2 => ?_⟩
    obtain ⟨d, e3, q5⟩ := post_cur.mp ((post_bind _ _).mp q4)
    obtain ⟨ds, e4, q6⟩ := post_curs.mp ((post_bind _ _).mp q5)
    obtain ⟨z, e5, q7⟩ := (post_opt _).mp q6
    have R3 := pushC_pop R2
    have v2 := R3.view R3.tm.1 e3
    have w2 := pushC_vws hl R2 e4
    rw [hK] at v2 w2
    exact hs.2 G O2 σ H2 ρ2 v vs d ds z Q hK R3.nil v2 w2 e5 q7
def isStr (d : D) : Bool := match d with
  | .con (.str _) => true
  | _ => false
def isLst (d : D) : Bool := match d with
  | .lst _ => true
  | _ => false
theorem ty_str {K : PySem.W.Frag} (H : Hp) (O : Own) (v : V) (d : D) (h : Vw K H O v d) (e : isStr d = true) : tyV K "str" v H := by
  unfold isStr at e
  split at e
  · rw [h.con]; rfl
  · cases e
theorem ty_lst {K : PySem.W.Frag} (H : Hp) (O : Own) (v : V) (d : D) (h : Vw K H O v d) (e : isLst d = true) : tyV K "list" v H := by
  unfold isLst at e
  split at e
  · obtain ⟨a1, us, rfl, s1, r1⟩ := h.lst
    exact .inl ⟨rfl, us, s1⟩
  · cases e
def joinD (d : D) (ds : List D) : Option (D × Kd) := match d, ds with
  | .con (.str a), [.lst xs] => match strsD xs with
    | some ys => if (ys.map (·.length)).sum + ys.length * a.length ≤ 16777216 then some (.str (Txt.join a ys), .shr) else none
    | none => none
  | _, _ => none
theorem om_join {K : PySem.W.Frag} : OpM K "str" (fun x xs H Q => ∃ a p, ∃ ys : List Str, x = .str a ∧ xs = [.ref p] ∧ (SqL K H p (ys.map V.str) ∨ SqT K H p (ys.map V.str)) ∧ (ys.map (·.length)).sum + ys.length * a.length ≤ 16777216 ∧ Q (.str (Txt.join a ys)) H) isStr joinD := ⟨ty_str, by
  intro G O σ H ρ v vs d ds z Q hK R v1 w e q
  unfold joinD at e
  split at e
  · split at e
    · rename_i ys hys
      split at e
      · rename_i hz
        cases e
        obtain ⟨u, rfl, v2⟩ := w.one
        obtain ⟨a1, us, rfl, s1, r1⟩ := v2.lst
        rw [strsD_of hys] at r1
        rw [r1.con_inv] at s1
        exact ⟨_, a1, ys, v1.con, rfl, .inl s1, hz, q O _ H (R.con _)⟩
      · cases e
    · cases e
  · cases e⟩
def MutS (K : PySem.W.Frag) (rr : V → List V → Hp → VK → Prop) (g : List D → List D → Option (List D × D)) : Prop := ∀ (H : Hp) (L : Addr → Prop) (a : Addr) (vs as : List V) (ys ds : List D) (ys' : List D) (rt : D) (Q : VK),
  H a = some (.lst vs) → Reps K H L vs ys → Reps K H L as ds → g ys ds = some (ys', rt) → ∃ vs' rv, Reps K H L vs' ys' ∧ Rep K H L rv rt ∧ (Q rv (upd H a (.lst vs')) → rr (.ref a) as H Q)
def getOwn (ρ : Rho) (i : Nat) : Option (List D × Bool) := match ρ[i]? with
  | some (some ⟨.lst ys, true, p⟩) => some (ys, p)
  | _ => none
def chkOwn (i : Nat) : M Unit := fun ρ => match getOwn ρ i with
  | some _ => .ok () ρ
  | none => .stuck
theorem post_chk {i : Nat} {ρ : Rho} {Q : Unit → Rho → Prop} {E : Exn → Rho → Prop} : ((chkOwn i) ρ).post Q E ↔ ∃ z, getOwn ρ i = some z ∧ Q () ρ := by
  unfold chkOwn
  cases getOwn ρ i with
  | none => exact ⟨fun h => h.elim, fun ⟨_, e, _⟩ => by cases e⟩
  | some z => exact ⟨fun h => ⟨z, rfl, h⟩, fun ⟨_, _, h⟩ => h⟩
def mutEnd (i : Nat) (g : List D → Option (List D × D)) : DE := fun ρ => match getOwn ρ i with
  | none => .stuck
  | some z => match g z.1 with
    | some w => .ok (w.2, .shr) (ρ.set i (some ⟨.lst w.1, true, z.2⟩))
    | none => .stuck
theorem post_mutEnd {i : Nat} {g : List D → Option (List D × D)} {ρ : Rho} {Q : D × Kd → Rho → Prop} {E : Exn → Rho → Prop} : ((mutEnd i g) ρ).post Q E ↔ ∃ z w, getOwn ρ i = some z ∧ g z.1 = some w ∧ Q (w.2, .shr) (ρ.set i (some ⟨.lst w.1, true, z.2⟩)) := by
  unfold mutEnd
  cases getOwn ρ i with
  | none => exact ⟨fun h => h.elim, fun ⟨_, _, e, _⟩ => by cases e⟩
  | some z =>
    dsimp only
    cases q : g z.1 with
    | none => exact ⟨fun h => h.elim, fun ⟨_, _, e, e2, _⟩ => by cases e; rw [q] at e2; cases e2⟩
    | some w => exact ⟨fun h => ⟨z, w, rfl, q, h⟩, fun ⟨_, _, e, e2, h⟩ => by cases e; rw [q] at e2; cases e2; exact h⟩
def dMut (i : Nat) (g : List D → List D → Option (List D × D)) (l : List (Bool × DE)) : DE := do
  chkOwn i
  let xs ← dA l
  let ds ← mOpt (shrs xs)
  mutEnd i fun ys => g ys ds
theorem getOwn_of {ρ : Rho} {i : Nat} {z : List D × Bool} (e : getOwn ρ i = some z) : ρ[i]? = some (some ⟨.lst z.1, true, z.2⟩) := by
  unfold getOwn at e
  split at e
  · rename_i h; cases e; exact h
  · cases e
theorem own_at {G : Fix} {O : Own} {σ : St} {H : Hp} {ρ : Rho} {T : List Tmp} {i : Nat} {ys : List D} {p : Bool} (R : Rel G O σ H ρ T) (e : ρ[i]? = some (some ⟨.lst ys, true, p⟩)) : ∃ a vs, σ[i]? = some (some (.ref a)) ∧ H a = some (.lst vs) ∧ Reps G.K H (lin O) vs ys := by
  obtain ⟨v, h1, h2⟩ := R.sl i _ e
  obtain ⟨a, ho, rfl, h3, h4, c⟩ := (OwnX.flat (show OwnX _ _ _ _ _ _ from h2))
  cases c with
  | lst r => exact ⟨a, _, h1, h4, r⟩
theorem dMut_of {W : WX} {rr : V → List V → Hp → VK → Prop} {i : Nat} {g : List D → List D → Option (List D × D)} (hs : MutS X.K rr g) (σ : St) (H : Hp) (Q : VK) (h : tE X.K W (dMut i g l) σ H Q) : tBM X.K "list" rr (tVar i) (tA X.K W (dA l)) σ H Q := by
  obtain ⟨G, O, ρ, hK, R, h⟩ := h
  obtain ⟨z0, q0, h⟩ := post_chk.mp ((post_bind _ _).mp h)
  obtain ⟨a, vs0, h1, h2, _⟩ := own_at R (getOwn_of q0)
  refine ⟨.ref a, h1, .inl ⟨rfl, vs0, .inl (.inl h2)⟩, G, O, ρ, [], hK, R, Res.post_ok ((post_bind _ _).mp h) fun xs ρ1 q O1 as H1 hl R1 => ?_⟩
  obtain ⟨ds, e1, q2⟩ := (post_opt _).mp ((post_bind _ _).mp q)
  obtain ⟨z, w, q1, qg, q3⟩ := post_mutEnd.mp q2
  have R2 := pushC_pop R1
  have eo := getOwn_of q1
  obtain ⟨a2, vs1, h3, h4, r4⟩ := own_at R2 eo
  rw [h1] at h3
  cases h3
  have ra := pushC_reps hl R1 e1
  rw [hK] at ra r4
  obtain ⟨vs', rv, k1, k2, k3⟩ := hs H1 (lin O1) a vs1 as z.1 ds w.1 w.2 Q h4 r4 ra qg
  rw [← hK] at k1 k2
  obtain ⟨R3, oa⟩ := R2.write (d := .lst w.1) eo rfl h1 h4 (.lst k1)
  refine k3 (q3 O1 rv _ (R3.push ?_))
  refine Rep.mono (fun b ob n eb => ⟨?_, n⟩) k2
  rw [upd_ne]
  · exact eb
  · exact fun z => n (by rw [z]; unfold lin; rw [oa]; simp)
theorem se_mut (i : Nat) {id : String} {name x : Str} {rr : V → List V → Hp → VK → Prop} {g : List D → List D → Option (List D × D)} {apos xpos : Pos} (slot : PySem.Slot "list" name id) (hty : typeOf (.builtin id) = pure (.type "method_descriptor")) (hm : MtR X id rr)
    (hs : MutS X.K rr g) (ha : SA X (e :: es) l) (hN : X.N[i]? = some x := by rfl) (hv : Vis X.env.scope x := by first | exact Or.inl rfl | exact Or.inr (Or.inl rfl) | exact Or.inr (Or.inr rfl)) (hd : (x == ("__debug__" : Str)) = false := by decide)
    (hcd : (x == ("__classdict__" : Str)) = false := by decide)
    (hbase : attributeBase (.Name x xpos) name X.env (eval (.Name x xpos) X.env) = eval (.Name x xpos) X.env := by rfl)
    (hfew : ((backTo pos (starEach (e :: es) X.env)).all (fun x => !x.1) && (backToKw pos (keywordEach [] X.env)).all (fun x => x.1.isSome)
      && decide ((e :: es).length + ([] : List Keyword).length + (if ([] : List Keyword).isEmpty then 0 else 1) < 30)) = true := by rfl)
    (hline : (apos.endLine == pos.line) = true := by rfl) (hst : starEach (e :: es) X.env = (false, eval e X.env) :: starEach es X.env := by rfl) (hplain : (backTo pos (starEach es X.env)).any (·.1) = false := by rfl) :
    SE X (.Call (.Attribute (.Name x xpos) name apos) (e :: es) [] pos) (dMut i g l) := fun W tk =>
  PE.imp (pe_bm PySem.F.plainAttrs_list slot hty hm (pe_var hN hv hd hcd) (ha W tk) hbase hfew hline hst hplain) (dMut_of hs)
def appG (ys ds : List D) : Option (List D × D) := match ds with
  | [d] => if ys.length < cap then some (ys ++ [d], .non) else none
  | _ => none
theorem ms_append {K : PySem.W.Frag} : MutS K rAppend appG := fun H L a vs as ys ds ys' rt Q h1 r1 r2 e => by
  unfold appG at e
  split at e
  · split at e
    · rename_i hz
      cases e
      cases r2 with
      | cons c1 c2 =>
        cases c2
        exact ⟨_, .non, r1.append (.cons c1 .nil), .con _, fun q => ⟨a, vs, _, rfl, rfl, h1, by rw [r1.len, ← cap_eq]; exact hz, q⟩⟩
    · cases e
  · cases e
/-- x[k] = e -/
def setG (kd : D) (d : D) (ys : List D) : Option (List D × D) := match kd with
  | .con (.int n) => (ixN ys.length n).map fun j => (ys.set j d, .non)
  | _ => none
def dSetIx (i : Nat) (rk rv : DE) : DS := do
  let x ← rv
  let y ← keep false x
  chkOwn i
  let k ← rk
  let kd ← dcur k
  let _ ← mutEnd i (setG kd y.1)
  pure .nx
theorem ss_setIx {pj : VK → VK} (i : Nat) {x : Str} {xpos tpos : Pos} {ke ve : Expr} {rk rv : DE} (hv : SE X ve rv) (hk : SE X ke rk) (hN : X.N[i]? = some x := by rfl) (hvis : Vis X.env.scope x := by first | exact Or.inl rfl | exact Or.inr (Or.inl rfl) | exact Or.inr (Or.inr rfl)) (hd : (x == ("__debug__" : Str)) = false := by decide)
    (hcd : (x == ("__classdict__" : Str)) = false := by decide)
    (ha : ∀ v, assign (.Subscript (.Name x xpos) ke tpos) X.env v = (do
      let ov ← holding [v] (eval (.Name x xpos) X.env)
      let iv ← holding [v, ov] (eval ke X.env)
      standAt tpos
      holding [v, ov, iv] (setItem ov iv v)
      release [v, ov, iv] []) := by intro _; rfl)
    (hs : swapsWithSole [.Subscript (.Name x xpos) ke tpos] ve pos.line X.env = pure false := by rfl) (hw : swappedStores [.Subscript (.Name x xpos) ke tpos] ve X.env = pure none := by rfl)
    (h1 : (assignEach [.Subscript (.Name x xpos) ke tpos] X.env).map (·.2) = [assign (.Subscript (.Name x xpos) ke tpos) X.env] := by rfl) : SSf pj X (.Assign [.Subscript (.Name x xpos) ke tpos] ve pos) (dSetIx i rk rv) := fun W tk =>
  PS.imp (ps_asg (hv W tk) (pg_sub (pe_var hN hvis hd hcd) (hk W tk) set_list ha) hs hw h1) fun D σ H ⟨G, O, ρ, hK, R, h⟩ => by
    refine tE.at hK R (Res.post_mono ((post_bind _ _).mp h) (fun y ρ1 q O1 v H1 R1 => ?_) fun x ρ' q => q σ)
    obtain ⟨d, e1, q2⟩ := keep_false ((post_bind _ _).mp q)
    obtain ⟨O2, R2⟩ := R1.settle (d := d) e1
    obtain ⟨z0, q0, q3⟩ := post_chk.mp ((post_bind _ _).mp q2)
    obtain ⟨a, vs0, h1, h2, _⟩ := own_at R2 (getOwn_of q0)
    refine ⟨.ref a, h1, tE.at hK R2 (Res.post_mono ((post_bind _ _).mp q3) (fun k ρ2 q4 O3 u H3 R3 => ?_) fun x ρ' q => q σ)⟩
    obtain ⟨kd, e2, q5⟩ := post_cur.mp ((post_bind _ _).mp q4)
    obtain ⟨z, w, q6, qg, q7⟩ := post_mutEnd.mp ((post_bind _ _).mp q5)
    have vk := R3.view R3.tm.1 e2
    have R4 := R3.pop
    have eo := getOwn_of q6
    obtain ⟨a2, vs1, h3, h4, r4⟩ := own_at R4 eo
    rw [h1] at h3
    cases h3
    unfold setG at qg
    split at qg
    · rename_i n
      obtain ⟨j, e3, rfl⟩ := Option.map_eq_some_iff.mp qg
      have rd : Rep G.K H3 (lin O3) v d := R4.tm.1
      refine ⟨a, vs1, n, j, rfl, vk.con, h4, by rw [r4.len]; exact e3, ?_⟩
      exact q7 O3 σ _ (R4.nil.write (d := .lst (z.1.set j d)) eo rfl h1 h4 (.lst (Reps.set rd j r4))).1
    · cases qg
end
end L2.VL
end
section
set_option Elab.async false
set_option linter.all false
set_option maxRecDepth 100000
namespace L2.VL
open PySem PySem.Spec PyProof.Rows
section
variable {X : Cx} {a b c e o : Expr} {es : List Expr} {st : Stmt} {sts : List Stmt} {ra rb rc r : DE} {sa sb : DS} {l : List (Bool × DE)} {pos p : Pos}
theorem se_gint {x : Str} {i : Int} (h : ∃ t, X.mg x = some (.int i t)) (hg : Gl X x := by rfl) (hd : (x == ("__debug__" : Str)) = false := by decide) : SE X (.Name x pos) (dCon (.int i)) := by
  obtain ⟨t, h⟩ := h
  exact se_glob h ⟨t, rfl⟩ hg hd
theorem se_gstr {x : Str} {i : Str} (h : ∃ t, X.mg x = some (.str i t)) (hg : Gl X x := by rfl) (hd : (x == ("__debug__" : Str)) = false := by decide) : SE X (.Name x pos) (dCon (.str i)) := by
  obtain ⟨t, h⟩ := h
  exact se_glob h ⟨t, rfl⟩ hg hd
/-- dead slots are forgotten -/
def forgetR (ρ : Rho) : List Nat → Rho
  | [] => ρ
  | i :: is => if pinned (forgetR ρ is) i then forgetR ρ is else (forgetR ρ is).set i none
theorem Rel.unset {G : Fix} {O : Own} {σ : St} {H : Hp} {ρ : Rho} {T : List Tmp} {i : Nat} (R : Rel G O σ H ρ T) (hp : pinned ρ i = false) : Rel G O σ H (ρ.set i none) T := by
  refine ⟨by simpa using R.len, R.fr, R.ot, R.tr, fun j v e => ?_, fun j s e => ?_, R.tm⟩
  · obtain ⟨h1, s, h2, h3⟩ := R.pn j v e
    refine ⟨h1, s, ?_, h3⟩
    rw [List.getElem?_set_ne (fun z => ?_)]
    · exact h2
    · subst z
      unfold pinned at hp
      rw [h2] at hp
      dsimp only at hp
      rw [h3] at hp
      cases hp
  · by_cases z : j = i
    · subst z
      by_cases hl : j < ρ.length
      · rw [List.getElem?_set_self hl] at e; cases e
      · rw [List.getElem?_eq_none (by simpa using hl)] at e; cases e
    · rw [List.getElem?_set_ne (Ne.symm z)] at e
      exact R.sl j s e
theorem Rel.forget {G : Fix} {O : Own} {σ : St} {H : Hp} {ρ : Rho} {T : List Tmp} (R : Rel G O σ H ρ T) : ∀ is : List Nat, Rel G O σ H (forgetR ρ is) T
  | [] => R
  | i :: is => by
    have ih := R.forget is
    unfold forgetR
    split
    · exact ih
    · rename_i h; exact ih.unset (by simpa using h)
def forgetM (is : List Nat) : M Unit := fun ρ => .ok () (forgetR ρ is)
def dFgE (is : List Nat) (sa : DS) : DS := do
  let f ← sa
  forgetM is
  pure f
def dFgB (is : List Nat) (sa : DS) : DS := do
  forgetM is
  sa
theorem sss_fgE {pj : VK → VK} (is : List Nat) (h : SSsf pj X sts sa) : SSsf pj X sts (dFgE is sa) := fun W tk => PSs.imp (h W tk) fun D σ H ⟨G, O, ρ, hK, R, h⟩ => ⟨G, O, ρ, hK, R, Res.post_ok ((post_bind _ _).mp h) fun f ρ1 q => by
  replace q : FlOk G (D.re pj) [] f (forgetR ρ1 is) := q
  cases f with
  | nx => exact fun O' σ' H' R' => q O' σ' H' (R'.forget is)
  | brk => exact fun O' σ' H' R' => q O' σ' H' (R'.forget is)
  | cnt => exact fun O' σ' H' R' => q O' σ' H' (R'.forget is)
  | ret d b => exact fun O' σ' v H' R' => q O' σ' v H' (R'.forget is)⟩
theorem ss_fgB {pj : VK → VK} (is : List Nat) (h : SSf pj X st sa) : SSf pj X st (dFgB is sa) := fun W tk => PS.imp (h W tk) fun D σ H ⟨G, O, ρ, hK, R, h⟩ => ⟨G, O, forgetR ρ is, hK, R.forget is, h⟩
/-- a, b = e1, e2 -/
def nonm (x : D × Kd) : Option Unit := match x.2 with
  | .nm _ => none
  | _ => some ()
def dPar (i j : Nat) (bi bj : Bool) (ra rb : DE) : DS := do
  let xs ← dA [(bi, ra), (bj, rb)]
  match xs with
  | [x, y] => do
    let _ ← mOpt (nonm x)
    dPut j y
    dPut i x
    pure .nx
  | _ => mStuck
theorem ss_par {pj : VK → VK} (i j : Nat) (bi bj : Bool) {x y : Str} {px py pt : Pos} {kt k2 : Nat} {pt2 : Pos} (hx : CxG X) (ha : SE X a ra) (hb : SE X b rb) (hi : X.N[i]? = some x := by rfl) (hj : X.N[j]? = some y := by rfl) (hij : i ≠ j := by decide)
    (hlx : X.env.scope.names.lookup x = some .local := by rfl) (hly : X.env.scope.names.lookup y = some .local := by rfl)
    (he1 : starEach [a, b] X.env = (false, eval a X.env) :: starEach [b] X.env := by rfl) (he2 : starEach [b] X.env = (false, eval b X.env) :: starEach [] X.env := by rfl)
    (hw : swappedStores [.Tuple [.Name x px, .Name y py] kt pt] (.Tuple [a, b] k2 pt2) X.env = pure (some [x, y]) := by rfl)
    (hs : swapsWithSole [.Tuple [.Name x px, .Name y py] kt pt] (.Tuple [a, b] k2 pt2) pos.line X.env = pure false := by rfl) :
    SSf pj X (.Assign [.Tuple [.Name x px, .Name y py] kt pt] (.Tuple [a, b] k2 pt2) pos) (dPar i j bi bj ra rb) := fun W tk =>
  PS.imp (ps_par hx.calm hx.nd hi hj hij hlx hly (sa_cons (b := bi) ha (sa_cons (b := bj) hb sa_nil he2) he1 W tk) hw hs) fun D σ H ⟨G, O, ρ, hK, R, h⟩ => by
    refine ⟨G, O, ρ, [], hK, R, Res.post_mono ((post_bind _ _).mp h) (fun xs ρ1 q O1 vs H1 hl R1 => ?_) fun x ρ' q => q σ⟩
    split at q
    · rename_i z w
      match vs, hl with
      | [v, u], _ =>
        refine ⟨_, _, rfl, ?_⟩
        obtain ⟨_, e1, q2⟩ := (post_opt _).mp ((post_bind _ _).mp q)
        have R2 : Rel G O1 σ H1 ρ1 [⟨u, w.1, w.2⟩, ⟨v, z.1, z.2⟩] := R1
        have hn : NoNm [⟨v, z.1, z.2⟩] := NoNm.nil.cons fun i e => by
          unfold nonm at e1
          have e' : z.2 = .nm i := e
          rw [e'] at e1
          cases e1
        obtain ⟨O3, ρ3, R3, q3⟩ := put_post hn R2 ((post_bind _ _).mp q2)
        obtain ⟨O4, ρ4, R4, q4⟩ := put_post .nil R3 ((post_bind _ _).mp q3)
        refine q4 O4 _ _ ?_
        rw [List.set_comm _ _ hij]
        exact R4
    · exact q.elim
end
theorem law_sp {K : PySem.W.Frag} {F : Fn} {H : Hp} {a : Addr} {ns : List Int} (hS : SqL K H a (ns.map V.int)) (h : FRes.post (F [shA (.lst (ns.map fun n => .con (.int n)))]) (fun d _ _ => d = .bl true) fun _ _ => False)
    (hT : ∀ P q, tbk K P = some q → LamX.TabS H P q) : spF K F 1 [.ref a] H (fun v _ => v = .bl true) E0 := by
  have out : ∀ b, ownT K b = some .out ↔ (tbk K b).isSome = true := fun b => by
    unfold ownT
    split
    · rename_i c; exact ⟨fun _ => c, fun _ => rfl⟩
    · rename_i c; exact ⟨fun z => (by cases z), fun z => absurd z c⟩
  refine ⟨rfl, frzT K H (fun _ => none), ownT K, [shA (.lst (ns.map fun n => .con (.int n)))], rfl, rfl, ⟨rfl, fun b o e => ?_, out, fun a w e => ?_, fun i v e => (by cases e), fun i s e => ?_, trivial⟩, ?_⟩
  · replace e : (if (tbk K b).isSome = true then none else H b) = some o := e
    split at e
    · cases e
    · rename_i c
      exact ⟨e, .inl (if_neg c)⟩
  · unfold ownT at e
    split at e
    · rename_i c
      obtain ⟨q, hq⟩ := Option.isSome_iff_exists.mp c
      obtain ⟨ps, h1, h2⟩ := hT a q hq
      exact ⟨⟨_, h1⟩, fun q' hq' => by
        have hq' : tbk K a = some q' := hq'
        rw [hq] at hq'
        cases hq'
        exact ⟨ps, h1, h2⟩⟩
    · cases e
  · cases i with
    | zero =>
      cases e
      refine ⟨_, rfl, ?_⟩
      show Rep K H (lin (ownT K)) (.ref a) (.lst _)
      rcases hS with hS | hS
      · refine .obj (fun z => z ?_) hS (.lst (Reps.cons_map V.int ns))
        unfold ownT
        refine if_neg fun c => ?_
        obtain ⟨q, hq⟩ := Option.isSome_iff_exists.mp c
        obtain ⟨ps, h1, _⟩ := hT a q hq
        rcases hS with hS | ⟨o, hS⟩
        · rw [h1] at hS; cases hS
        · rw [h1] at hS; cases hS
      · exact .kl hS (Reps.cons_map V.int ns)
    | succ i => simp at e
  · unfold FRes.post at h ⊢
    cases hF : F [shA (.lst (ns.map fun n => .con (.int n)))] with
    | none => rw [hF] at h; exact h
    | some r =>
      rw [hF] at h
      cases r with
      | exc x outs => exact h.elim
      | ret d b outs =>
        dsimp only at h ⊢
        subst h
        intro O' σ' v H' R'
        have : Vw K H' O' v (.bl true) := R'.view R'.tm.1 (by unfold cur; cases b <;> rfl)
        exact this.con
end L2.VL
end
section
set_option Elab.async false
set_option linter.all false
set_option maxRecDepth 100000
namespace L2.VL
open PySem PySem.Spec PyProof.Rows
section
variable {ρ : Rho} {E : Exn → Rho → Prop}
theorem post_dPut {i : Nat} {x : D × Kd} {Q : Unit → Rho → Prop} : ((dPut i x) ρ).post Q E ↔ ∃ d, cur ρ x = some d ∧ pinned (settleR ρ x.2) i = false ∧ Q () ((settleR ρ x.2).set i (some ⟨d, ownOf x.2, false⟩)) := by
  unfold dPut
  rw [post_bind, post_cur]
  unfold putEnd
  constructor
  · rintro ⟨d, e, q⟩
    refine ⟨d, e, ?_⟩
    cases hp : pinned (settleR ρ x.2) i with
    | true => rw [hp] at q; exact q.elim
    | false => rw [hp] at q; exact ⟨rfl, q⟩
  · rintro ⟨d, e, hp, q⟩
    refine ⟨d, e, ?_⟩
    rw [hp]; exact q
end
theorem FRes.mono {r : Option FRes} {Q Q' : D → Bool → Rho → Prop} {E E' : Exn → Rho → Prop} (h : FRes.post r Q E) (h1 : ∀ d b o, Q d b o → Q' d b o) (h2 : ∀ x o, E x o → E' x o) : FRes.post r Q' E' := by
  unfold FRes.post at h ⊢
  cases r with
  | none => exact h
  | some r => cases r with
    | ret d b o => exact h1 d b o h
    | exc x o => exact h2 x o h
/-- .. where nothing is raised -/
theorem FRes.go {r : Option FRes} {Q Q' : D → Bool → Rho → Prop} {E' : Exn → Rho → Prop} (h : FRes.post r Q fun _ _ => False) (h1 : ∀ d b o, Q d b o → Q' d b o) : FRes.post r Q' E' := FRes.mono h h1 fun _ _ z => z.elim
end L2.VL
end
section
set_option Elab.async false
set_option linter.all false
set_option maxRecDepth 100000
namespace L2.VL
open PySem PySem.Spec PyProof.Rows
section
variable {P : D × Kd → Prop} {B : Bool → Prop} {W : V → Prop} {i j : Int} {xs ys : List D} {s t : Str}
theorem eqD_int : eqD (.con (.int i)) (.con (.int j)) = some (decide (i = j)) := by
  have e : eqD (.con (.int i)) (.con (.int j)) = some (decide (V.int i = V.int j)) := by
    unfold eqD
    dsimp only
    rw [if_pos (by rfl)]
  rw [e]
  simp
theorem eqD_str : eqD (.con (.str s)) (.con (.str t)) = some (decide (s = t)) := by
  have e : eqD (.con (.str s)) (.con (.str t)) = some (decide (V.str s = V.str t)) := by
    unfold eqD
    dsimp only
    rw [if_pos (by rfl)]
  rw [e]
  simp
end
end L2.VL
end
section
set_option Elab.async false
set_option linter.all false
set_option maxRecDepth 100000
namespace L2.VL
open PySem PySem.Spec PyProof.Rows
def lent (o : Option Slot) : Option Slot := o.map fun s => ⟨s.d, false, s.pin⟩
def dBor (r : DE) : DE := fun ρ => match (r >>= dcur) (ρ.map lent) with
  | .ok (.con c) _ => .ok (.con c, .shr) ρ
  | _ => .stuck
theorem Rel.lend {G : Fix} {O : Own} {σ : St} {H : Hp} {ρ : Rho} (R : Rel G O σ H ρ []) : Rel (frzT G.K H G.Pin) (ownT G.K) σ H (ρ.map lent) [] := by
  have off : ∀ a, O a ≠ some .out → ownT G.K a = none := fun a n => if_neg (by rw [tb_sl R n]; simp)
  have st : Stay H H (lin O) (lin (ownT G.K)) := fun a o n e => ⟨e, fun z => z (off a (fun y => n (by unfold lin; rw [y]; simp)))⟩
  refine ⟨by rw [List.length_map]; exact R.len, fun b o e => ?_, fun b => ?_, fun a w e => ?_, fun i v e => ?_, fun i s e => ?_, trivial⟩
  · replace e : (if (tbk G.K b).isSome = true then none else H b) = some o := e
    split at e
    · cases e
    · rename_i c
      exact ⟨e, .inl (if_neg c)⟩
  · show ownT G.K b = some .out ↔ (tbk G.K b).isSome = true
    unfold ownT
    split
    · rename_i c; exact ⟨fun _ => c, fun _ => rfl⟩
    · rename_i c; exact ⟨fun z => (by cases z), fun z => absurd z c⟩
  · unfold ownT at e
    split at e
    · rename_i c
      exact R.tr a _ (tb_is R c)
    · cases e
  · obtain ⟨h1, s, h2, h3⟩ := R.pn i v e
    exact ⟨h1, ⟨s.d, false, s.pin⟩, by rw [List.getElem?_map, h2]; rfl, h3⟩
  · rw [List.getElem?_map] at e
    obtain ⟨o, e1, e2⟩ := Option.map_eq_some_iff.mp e
    obtain ⟨s', rfl, rfl⟩ := Option.map_eq_some_iff.mp e2
    obtain ⟨v, h1, h2⟩ := R.sl i s' e1
    refine ⟨v, h1, ?_⟩
    show Rep G.K H _ v s'.d
    unfold SlotOk at h2
    cases q : s'.own with
    | false => rw [q] at h2; exact h2.mono st
    | true =>
      rw [q] at h2
      exact OwnX.rep st h2 fun a o e1 e2 => ⟨off a (by rw [e1]; simp), e2⟩
/-- what a frozen frame keeps -/
theorem Rel.frzUpT {G : Fix} {O O' : Own} {σ σ' : St} {H H' : Hp} {ρ ρ' : Rho} {T T' : List Tmp} {Pn : Nat → Option V} (_R : Rel G O σ H ρ T') (R' : Rel (frzT G.K H Pn) O' σ' H' ρ' T) {a : Addr} {o : HO} (n : G.Tb a = none) (e : H a = some o) : H' a = some o ∧ O' a = none := by
  obtain ⟨p, q⟩ := R'.fr a o (show (if (tbk G.K a).isSome = true then none else H a) = some o by rw [if_neg (by rw [show tbk G.K a = none from n]; simp)]; exact e)
  refine ⟨p, q.resolve_right fun z => ?_⟩
  have y : (tbk G.K a).isSome = true := (R'.ot a).mp z
  rw [show tbk G.K a = none from n] at y
  cases y
theorem Rel.frzUp {G : Fix} {O O' : Own} {σ σ' : St} {H H' : Hp} {ρ ρ' : Rho} {T T' : List Tmp} {Pn : Nat → Option V} (R : Rel G O σ H ρ T') (R' : Rel (frzT G.K H Pn) O' σ' H' ρ' T) : (∀ a o, O a ≠ some .out → H a = some o → H' a = some o) ∧ ∀ a w, O a = some w → TrOk G H' a := by
  refine ⟨fun a o n e => (R.frzUpT R' (tb_ne R n) e).1, fun a w e => ?_⟩
  cases q : G.Tb a with
  | none =>
    obtain ⟨o, ho⟩ := (R.tr a w e).1
    exact ⟨⟨o, (R.frzUpT R' q ho).1⟩, fun z hz => by rw [q] at hz; cases hz⟩
  | some z => exact R'.tr a .out ((R'.ot a).mpr (by show (tbk G.K a).isSome = true; rw [show tbk G.K a = some z from q]; rfl))
theorem Rel.unlend {G : Fix} {O O' : Own} {σ : St} {H H' : Hp} {ρ ρ' : Rho} {T : List Tmp} {c v : V} (R : Rel G O σ H ρ []) (R' : Rel (frzT G.K H G.Pin) O' σ H' ρ' T) : Rel G O σ H' ρ [⟨c, .con c, .shr⟩] := by
  obtain ⟨up, tt⟩ := R.frzUp R'
  have st : Stay H H' (lin O) (lin O) := fun a o n e => ⟨up a o (fun z => n (by unfold lin; rw [z]; simp)) e, n⟩
  refine ⟨R.len, fun b o e => ⟨(R.frzUpT R' (tb_none e) (R.fr b o e).1).1, (R.fr b o e).2⟩, R.ot, tt, R.pn, fun i s e => ?_, ⟨Rep.con c, trivial⟩⟩
  · obtain ⟨v, h1, h2⟩ := R.sl i s e
    exact ⟨v, h1, slot_mono st (fun a o e1 e2 => ⟨e1, up a o (by rw [e1]; simp) e2⟩) h2⟩
theorem se_bor {X : Cx} {e : Expr} {r : DE} (h : SE X e r) : SE X e (dBor r) := fun W tk => PE.imp (h W tk) fun σ H Q ⟨G, O, ρ, hK, R, h⟩ => by
  refine ⟨(frzT G.K H G.Pin), _, _, hK, R.lend, ?_⟩
  unfold dBor at h
  have key : ((r >>= dcur) (ρ.map lent)).post (fun d ρ' => ∃ c, d = .con c ∧ ∀ O' v H', Rel G O' σ H' ρ [⟨v, .con c, .shr⟩] → Q v H') fun _ _ => False := by
    cases q : (r >>= dcur) (ρ.map lent) with
    | stuck => rw [q] at h; exact h.elim
    | ex x ρ' => rw [q] at h; exact h.elim
    | ok d ρ' =>
      rw [q] at h
      cases d with
      | con c => exact ⟨c, rfl, h⟩
      | lst _ => exact h.elim
      | tup _ => exact h.elim
      | dic _ => exact h.elim
      | dit _ => exact h.elim
      | own _ => exact h.elim
      | exv _ => exact h.elim
      | fnv _ _ _ => exact h.elim
  refine Res.post_mono ((post_bind _ _).mp key) (fun x ρ1 q O1 v H1 R1 => ?_) fun _ _ z => z.elim
  obtain ⟨d, e1, c, rfl, q2⟩ := post_cur.mp q
  have v1 : v = c := (R1.view R1.tm.1 e1).con
  subst v1
  exact q2 O v H1 (R.unlend (v := v) R1)
end L2.VL
end
section
set_option Elab.async false
set_option linter.all false
set_option maxRecDepth 100000
namespace L2.VL
open PySem PySem.Spec PyProof.Rows
end L2.VL
end
section
set_option Elab.async false
set_option linter.all false
set_option maxRecDepth 100000
namespace L2.VL
open PySem PySem.Spec PyProof.Rows
section
variable {X : Cx} {pos : Pos} {a b e : Expr} {ra rb r : DE}
def lrgD (d : D) : Option (D × Kd) := match d with
  | .con (.int n) => if 0 ≤ n ∧ n ≤ 16777216 then some (.lst (rngD 0 n.toNat), .fr) else none
  | _ => none
def dLrg (ra : DE) : DE := do
  let x ← ra
  let d ← dcur x
  mOpt (lrgD d)
theorem rg_reps {K : PySem.W.Frag} {H : Hp} {L : Addr → Prop} {n : Int} : Reps K H L (rgV 0 n) (rngD 0 n.toNat) := by
  unfold rgV rngD
  rw [show n - 0 = n by omega]
  have : ∀ xs : List Nat, Reps K H L (xs.map fun i => V.int (0 + (i : Nat))) (xs.map fun (k : Nat) => D.int (0 + k)) := by
    intro xs
    induction xs with
    | nil => exact .nil
    | cons x xs ih => exact .cons (.con _) ih
  exact this _
theorem se_lrg {p p2 pos2 : Pos} (hc : X.calm = true) (hm : X.mg "list" = none) (hm2 : X.mg "range" = none) (ha : SE X a ra) (hg : Gl X "list" := by rfl) (hg2 : Gl X "range" := by rfl)
    (na2 : starEach [a] X.env = (false, eval a X.env) :: starEach [] X.env := by rfl)
    (na : starEach [.Call (.Name "range" p) [a] [] pos2] X.env = (false, eval (.Call (.Name "range" p) [a] [] pos2) X.env) :: starEach [] X.env := by rfl) :
    SE X (.Call (.Name "list" p2) [.Call (.Name "range" p) [a] [] pos2] [] pos) (dLrg ra) := fun W tk =>
  PE.imp (pe_listRg hc hg hm (prg_1 hg2 hm2 (ha W tk) na2) na) fun σ H Q ⟨G, O, ρ, hK, R, h⟩ => by
    refine tE.at hK R (Res.post_ok ((post_bind _ _).mp h) fun x ρ1 q O1 v H1 R1 => ?_)
    obtain ⟨d, e1, q3⟩ := post_cur.mp ((post_bind _ _).mp q)
    obtain ⟨z, e2, q4⟩ := (post_opt _).mp q3
    have v1 := R1.view R1.tm.1 e1
    unfold lrgD at e2
    split at e2
    · rename_i n
      split at e2
      · rename_i hn
        cases e2
        refine ⟨n, v1.con, RgOk.of_le (by omega) (by omega) (by omega) (by omega), fun p hp => ?_⟩
        obtain ⟨O4, R4⟩ := R1.pop.fresh (d := .lst (rngD 0 n.toNat)) hp (.lst rg_reps)
        exact q4 O4 _ _ R4
      · cases e2
    · cases e2
def popG (ys ds : List D) : Option (List D × D) := match ds with
  | [.con (.int i)] => if small62 i then (ixN ys.length i).bind fun k => (ys[k]?).map fun y => (ys.eraseIdx k, y) else none
  | _ => none
theorem Reps.erase {K : PySem.W.Frag} {H : Hp} {L : Addr → Prop} : ∀ {vs : List V} {ds : List D} {k : Nat}, Reps K H L vs ds → Reps K H L (vs.eraseIdx k) (ds.eraseIdx k)
  | _, _, _, .nil => .nil
  | _, _, 0, .cons _ b => b
  | _, _, k + 1, .cons a b => .cons a b.erase
theorem Reps.at? {K : PySem.W.Frag} {H : Hp} {L : Addr → Prop} : ∀ {vs : List V} {ds : List D} {k : Nat} {d : D}, Reps K H L vs ds → ds[k]? = some d → ∃ v, vs[k]? = some v ∧ Rep K H L v d
  | _, _, 0, d, .cons a b, h => ⟨_, rfl, by cases (Option.some.inj h); exact a⟩
  | _, _, k + 1, d, .cons a b, h => by
    obtain ⟨v, h1, h2⟩ := b.at? (k := k) (by simpa using h)
    exact ⟨v, by simpa using h1, h2⟩
theorem ms_pop {K : PySem.W.Frag} : MutS K rPopAt popG := fun H L a vs as ys ds ys' rt Q h1 r1 r2 e => by
  unfold popG at e
  split at e
  · rename_i i
    split at e
    · rename_i hs
      obtain ⟨k, e1, e2⟩ := Option.bind_eq_some_iff.mp e
      obtain ⟨y, e3, e4⟩ := Option.map_eq_some_iff.mp e2
      cases e4
      obtain ⟨v, h2, h3⟩ := r1.at? e3
      cases r2 with
      | cons c1 c2 =>
        cases c2
        have e5 := c1.con_inv
        subst e5
        rw [← r1.len] at e1
        obtain ⟨q1, q2, q3, q4⟩ := ixN_seq e1
        unfold small62 at hs
        simp only [Bool.and_eq_true, decide_eq_true_eq] at hs
        exact ⟨_, v, r1.erase, h3, fun q => ⟨a, vs, i, k, v, rfl, rfl, h1, by omega, by omega, q1, h2, q⟩⟩
    · cases e
  · cases e
def revG (ys ds : List D) : Option (List D × D) := match ds with
  | [] => some (ys.reverse, .non)
  | _ => none
theorem rmulW (i : Int) (t : Tok) (l : Addr) (its : Array Value) (n : Nat) (sl : Array (Option Value)) :
    Meets (Builtin.«int.__rmul__» ⟨[.int i t, .ref l], []⟩) (fun _ R s => s.heap.get? l = some { cls := .type "list", dict := none, data := .seq its n, slots := sl } ∧
      R (.ok (.ret Value.notImplemented)) s) :=
  .of_wp fun prog w A R s h => by
    obtain ⟨hp, g, d, tk, os⟩ := s
    obtain ⟨hl, h⟩ := h
    wp_walk
    exact ⟨_, rfl, h⟩
theorem lmulW (l : Addr) (its : Array Value) (n : Nat) (sl : Array (Option Value)) (k : Int) (u : Tok) (h0 : ¬(!Builtin.List.listFitsIndex k) = true) (h1 : ¬its.size * k.toNat > (2 ^ 63 - 1) / 8) (h2 : ¬Builtin.List.listTooLong (its.size * k.toNat) = true) :
    Meets (Builtin.«list.__mul__» ⟨[.ref l, .int k u], []⟩) (fun _ R s => s.heap.get? l = some { cls := .type "list", dict := none, data := .seq its n, slots := sl } ∧
      R (.ok (.ret (Value.ref s.heap.objs.size))) { s with heap := s.heap.push { cls := Value.type "list", data := Data.seq (List.foldl (fun x1 x2 => x1 ++ x2) #[] (List.replicate (if its.isEmpty = true then 0 else k.toNat) its)) }, toks := s.toks }) :=
  .of_wp fun prog w A R s h => by
    obtain ⟨hp, g, d, tk, os⟩ := s
    obtain ⟨hl, h⟩ := h
    have hsz := AutoListH.joined_fits h2
    wp_walk
    refine wpAny_ite_false (decide_eq_false (Nat.not_lt.mpr hsz)) ?_
    wp_walk
    exact ⟨_, rfl, h⟩
def rRepL (K : PySem.W.Frag) : R2 := fun x y H Q => ∃ l k xs, x = .ref l ∧ y = .int k ∧ SqL K H l xs ∧ -(2 ^ 63) ≤ k ∧ k < 2 ^ 63 ∧ xs.length * k.toNat ≤ sizeLine ∧
  ∀ p, H p = none → Q (.ref p) (upd H p (.lst (List.replicate k.toNat xs).flatten))
theorem op_repL : OpR X (binaryOp .Mult) (rRepL X.K) := by
  intro pins s σ H x y v u Q I rx ry h
  obtain ⟨p, c, xs, rfl, rfl, hH, h1, h2, hz, q⟩ := h
  cases rx
  obtain ⟨t, rfl⟩ := ry
  obtain ⟨us, r, ⟨o1, n, e, c1, d1, k1⟩, _⟩ := I.list hH
  obtain ⟨cls1, dd1, dt1, sl1⟩ := o1
  dsimp only at c1 d1 k1
  subst c1 d1 k1
  have hl := r.length
  have lenO : us.toArray.size * c.toNat ≤ sizeLine := by rw [List.size_toArray, ← hl]; exact hz
  have capO : ¬ us.toArray.size * c.toNat > (2 ^ 63 - 1) / 8 := by
    have : (sizeLine : Nat) ≤ (2 ^ 63 - 1) / 8 := by decide
    omega
  have fitO : ¬ (!Builtin.List.listFitsIndex c) = true := by
    rw [fitsIndex_both h1 h2]
    exact Bool.false_ne_true
  have tooL : ¬ Builtin.List.listTooLong (us.toArray.size * c.toNat) = true := by
    rw [notLongL lenO]
    exact Bool.false_ne_true
  have newO : List.foldl (fun x1 x2 => x1 ++ x2) #[] (List.replicate (if us.toArray.isEmpty = true then 0 else c.toNat) us.toArray) = (List.replicate c.toNat us).flatten.toArray := by
    have f0 : ∀ m : Nat, List.foldl (fun x1 x2 => x1 ++ x2) #[] (List.replicate m us.toArray) = (List.replicate m us).flatten.toArray := fun m => by
      have w := foldl_rep us m []
      rwa [List.nil_append] at w
    rw [f0]
    cases us with
    | nil => simp
    | cons a r' => rw [if_neg (by simp)]
  refine wpAny_binaryOp_repeat_ref (T := "list") (U := "int") (by decide) ⟨_, e, rfl⟩ (fun s' => typeIs_int s' c t) noFill_list_mul F.fills_int_mul F.slot_int_rmul repeat_list F.slot_int_index.lookup
    (call_meets F.slot_int_rmul (typeIs_int s c t) F.entry_int_rmul (F.args_int_rmul_2 _ _) (rmulW c t p us.toArray n sl1)
      ⟨e, rfl, ⟨_, e, rfl⟩, call_meets F.slot_list_mul ⟨_, e, rfl⟩ F.entry_list_mul (F.args_list_mul_2 _ _) (lmulW p us.toArray n sl1 c t fitO capO tooL) ⟨e, ?_⟩⟩)
  rw [newO]
  exact ⟨.ref _, _, I.lnew (t' := s.toks) (r.rep c.toNat) (by rw [PyProof.Rows.lm_len_rep_flat, Nat.mul_comm]; exact hz), rfl, q _ I.fresh⟩
def mulA (x y : D) : Option (D × Kd) := match x, y with
  | .con (.int i), .con (.int j) => if CMulB i j then some (.con (.int (i * j)), .shr) else none
  | .lst xs, .con (.int k) => if small62 k && decide (xs.length * k.toNat ≤ cap) then some (.lst (List.replicate k.toNat xs).flatten, .fr) else none
  | _, _ => none
theorem Reps.rep {K : PySem.W.Frag} {H : Hp} {L : Addr → Prop} {vs : List V} {ds : List D} (h : Reps K H L vs ds) : ∀ n : Nat, Reps K H L (List.replicate n vs).flatten (List.replicate n ds).flatten
  | 0 => .nil
  | n + 1 => by
    rw [List.replicate_succ, List.replicate_succ, List.flatten_cons, List.flatten_cons]
    exact h.append (h.rep n)
abbrev rMulA (K : PySem.W.Frag) : R2 := fun x y H Q => rI CMul (fun i j => .int (i * j)) x y H Q ∨ rRepL K x y H Q
theorem op_mulA : OpR X (binaryOp .Mult) (rMulA X.K) := OpR.or op_mul op_repL
theorem os_mulA {K : PySem.W.Frag} : OpS2 K (rMulA K) mulA := by
  intro G O σ H ρ a b x y z Q hK R v1 v2 e q
  unfold mulA at e
  split at e
  · rename_i i j
    exact .inl (os_mul G O σ H ρ a b _ _ z Q hK R v1 v2 e q)
  · rename_i xs k
    split at e
    · rename_i hs
      cases e
      rw [Bool.and_eq_true, decide_eq_true_eq] at hs
      obtain ⟨hs1, hs2⟩ := hs
      unfold small62 at hs1
      simp only [Bool.and_eq_true, decide_eq_true_eq] at hs1
      obtain ⟨a1, vs, rfl, s1, r1⟩ := v1.lst
      refine .inr ⟨a1, k, vs, rfl, v2.con, s1, by omega, by omega, by rw [r1.len, ← cap_eq]; exact hs2, fun p hp => ?_⟩
      rw [← hK] at r1
      obtain ⟨O4, R4⟩ := R.fresh (d := .lst (List.replicate k.toNat xs).flatten) hp (.lst (r1.rep _))
      exact q O4 _ _ R4
    · cases e
  · cases e
theorem Reps.rev {K : PySem.W.Frag} {H : Hp} {L : Addr → Prop} : ∀ {vs : List V} {ds : List D}, Reps K H L vs ds → Reps K H L vs.reverse ds.reverse
  | _, _, .nil => .nil
  | _, _, .cons a b => by
    rw [List.reverse_cons, List.reverse_cons]
    exact b.rev.append (.cons a .nil)
def chrs (z : Str) : List D := z.cps.toList.map fun c => .con (.str ⟨#[c]⟩)
def strOf (d : D) : Option (List D) := match d with
  | .con (.str z) => some (chrs z)
  | _ => none
def iStrD (r : DE) : M (List D) := do
  let x ← r
  let y ← keep false x
  mOpt (strOf y.1)
theorem walk_str {K : PySem.W.Frag} {T : List Tmp} {z : Str} : WalkOk K T (Its z) (chrs z) := by
  intro G O σ H ρ i T' hK R
  have hl : (chrs z).length = z.cps.size := by simp [chrs]
  refine ⟨fun hi => by rw [hl] at hi; exact hi, fun hi => by rw [hl] at hi; exact hi, fun x hx v H' y => ?_⟩
  obtain ⟨rfl, c, hc, rfl⟩ := y
  unfold chrs at hx
  rw [List.getElem?_map] at hx
  obtain ⟨c', h1, rfl⟩ := Option.map_eq_some_iff.mp hx
  rw [Array.getElem?_toList] at h1
  rw [h1] at hc
  cases hc
  exact ⟨O, R.con _⟩
theorem si_str {tg : Expr} (he : SE X e r) : SI X tg e (iStrD r) := fun W tk => PI.imp (pi_str (he W tk)) fun σ H Q ⟨G, O, ρ, hK, R, h⟩ =>
  ⟨G, O, ρ, hK, R, Res.post_ok ((post_bind _ _).mp h) fun x ρ1 q O1 v H1 R1 => by
    obtain ⟨d, e1, q2⟩ := keep_false ((post_bind _ _).mp q)
    obtain ⟨xs, e2, q3⟩ := (post_opt _).mp q2
    obtain ⟨O2, R2⟩ := R1.settle (d := d) e1
    unfold strOf at e2
    dsimp only at e2
    split at e2
    · rename_i z
      cases e2
      have v1 : v = .str z := (show Vw G.K H1 O2 v (.con (.str z)) from .inl R2.tm.1).con
      exact ⟨z, v1, q3 O2 H1 _ _ (NoNm.nil.cons fun i z => by cases z) R2 walk_str⟩
    · cases e2⟩
theorem PI.or {tg : Expr} {t t' : TI} (h : PI X tg e t) (h' : PI X tg e t') : PI X tg e fun σ H R => t σ H R ∨ t' σ H R := ⟨fun pins s σ H R I q => by
  rcases q with q | q
  · exact h.run pins s σ H R I q
  · exact h'.run pins s σ H R I q⟩
def anyOf (d : D) : Option (List D) := match d with
  | .lst xs => some xs
  | .tup xs => some xs
  | .con (.str z) => some (chrs z)
  | _ => none
def iAny (r : DE) : M (List D) := do
  let x ← r
  let y ← keep false x
  mOpt (anyOf y.1)
theorem iAny_split {ρ : Rho} {Q : List D → Rho → Prop} {E : Exn → Rho → Prop} (h : ((iAny r) ρ).post Q E) : ((iLst r) ρ).post Q E ∨ ((iTuple r) ρ).post Q E ∨ ((iStrD r) ρ).post Q E := by
  have h1 := (post_bind _ _).mp h
  unfold iLst iTuple iStrD
  simp only [post_bind]
  cases e1 : r ρ with
  | stuck => rw [e1] at h1; exact h1.elim
  | ex x ρ1 => exact .inl (by rw [e1] at h1; exact h1)
  | ok x ρ1 =>
    rw [e1] at h1
    have h2 := (post_bind _ _).mp h1
    simp only [Res.post]
    cases e2 : keep false x ρ1 with
    | stuck => rw [e2] at h2; exact h2.elim
    | ex x ρ1 => exact .inl (by rw [e2] at h2; exact h2)
    | ok y ρ2 =>
      rw [e2] at h2
      obtain ⟨xs, e3, h3⟩ := (post_opt _).mp h2
      unfold anyOf at e3
      split at e3
      · rename_i ys e4
        cases e3
        exact .inl ((post_opt (lstOf y.1)).mpr ⟨_, by rw [e4]; rfl, h3⟩)
      · rename_i ys e4
        cases e3
        exact .inr (.inl ((post_opt (tupOf y.1)).mpr ⟨_, by rw [e4]; rfl, h3⟩))
      · rename_i z e4
        cases e3
        exact .inr (.inr ((post_opt (strOf y.1)).mpr ⟨_, by rw [e4]; rfl, h3⟩))
      · cases e3
theorem si_any {tg : Expr} (he : SE X e r) : SI X tg e (iAny r) := fun W tk => PI.imp (PI.or (si_lst he W tk) (PI.or (si_tup he W tk) (si_str he W tk))) fun σ H Q ⟨G, O, ρ, hK, R, h⟩ => by
  rcases iAny_split h with h | h | h
  · exact .inl ⟨G, O, ρ, hK, R, h⟩
  · exact .inr (.inl ⟨G, O, ρ, hK, R, h⟩)
  · exact .inr (.inr ⟨G, O, ρ, hK, R, h⟩)
theorem vals_pair {a b : Int} {us : List Value} (h : Vals [.int a, .int b] us) : ∃ t1 t2, us = [.int a t1, .int b t2] := by
  cases h with
  | cons r1 h =>
    cases h with
    | cons r2 h =>
      cases h
      obtain ⟨t1, rfl⟩ := r1
      obtain ⟨t2, rfl⟩ := r2
      exact ⟨t1, t2, rfl⟩
theorem eqAt_dec {A : Around} {s : Shared} (i j : Int) (t u : Tok) : SeqAt.EqAt A s (.int i t) (.int j u) (decide (i = j)) := by
  have z : (i == j) = decide (i = j) := by
    by_cases q : i = j
    · rw [decide_eq_true q, q]; simp
    · rw [decide_eq_false q]; simp [q]
  rw [← z]
  exact SeqAt.EqAt.int_int _ _ _ _
def strIn (a b : Str) : Bool := !(Builtin.Str.occurrences b a 0 b.length 1).isEmpty
def inS (x y : D) : Option Bool := match x, y with
  | .con (.str a), .con (.str b) => some (strIn a b)
  | _, _ => none
def inA (x y : D) : Option Bool := (inD x y).or (inS x y)
def notInA (x y : D) : Option Bool := (inA x y).map not
abbrev rInS : R2 := fun x y H Q => ∃ i j, x = .str i ∧ y = .str j ∧ Q (.bl (!(Builtin.Str.occurrences j i 0 j.length 1).isEmpty)) H
abbrev rNotInS : R2 := fun x y H Q => ∃ i j, x = .str i ∧ y = .str j ∧ Q (.bl (!(!(Builtin.Str.occurrences j i 0 j.length 1).isEmpty))) H
theorem op_inA : OpR X (compareOp .In) (fun x y H Q => rIn X.K false x y H Q ∨ rInS x y H Q) := OpR.or op_in_seq op_in_str
theorem op_notInA : OpR X (compareOp .NotIn) (fun x y H Q => rIn X.K true x y H Q ∨ rNotInS x y H Q) := OpR.or op_notIn_seq op_notin_str
theorem inS_of {K : PySem.W.Frag} {H : Hp} {O : Own} {u w : V} {x y : D} {k : Bool} (v1 : Vw K H O u x) (v2 : Vw K H O w y) (e : inS x y = some k) : ∃ i j, u = .str i ∧ w = .str j ∧ strIn i j = k := by
  unfold inS at e
  split at e
  · cases e
    exact ⟨_, _, v1.con, v2.con, rfl⟩
  · cases e
theorem cs_inA {K : PySem.W.Frag} : CmpS K (fun x y H Q => rIn K false x y H Q ∨ rInS x y H Q) inA := fun a b H x y k O Q v1 v2 e q => by
  unfold inA at e
  cases h : inD x y with
  | some j =>
    rw [h] at e
    cases e
    exact .inl (cs_in a b H x y k O Q v1 v2 h q)
  | none =>
    rw [h] at e
    obtain ⟨i, j, e1, e2, e3⟩ := inS_of v1 v2 (show inS x y = some k from e)
    exact .inr ⟨i, j, e1, e2, by subst e3; exact q⟩
theorem cs_notInA {K : PySem.W.Frag} : CmpS K (fun x y H Q => rIn K true x y H Q ∨ rNotInS x y H Q) notInA := fun a b H x y k O Q v1 v2 e q => by
  obtain ⟨k', e1, e0⟩ := Option.map_eq_some_iff.mp e
  unfold inA at e1
  cases h : inD x y with
  | some j =>
    rw [h] at e1
    cases e1
    exact .inl (cs_notin a b H x y k O Q v1 v2 (by unfold notInD; rw [h]; exact congrArg some e0) q)
  | none =>
    rw [h] at e1
    obtain ⟨i, j, e4, e2, e3⟩ := inS_of v1 v2 (show inS x y = some k' from e1)
    refine .inr ⟨i, j, e4, e2, ?_⟩
    subst e3
    rw [← e0] at q
    exact q
theorem ms_rev {K : PySem.W.Frag} : MutS K rReverse revG := fun H L a vs as ys ds ys' rt Q h1 r1 r2 e => by
  unfold revG at e
  split at e
  · cases e
    cases r2
    exact ⟨_, .non, r1.rev, .con _, fun q => ⟨a, vs, rfl, rfl, h1, q⟩⟩
  · cases e
end
end L2.VL
end
section
set_option Elab.async false
set_option linter.all false
set_option maxRecDepth 100000
namespace L2.VL
open PySem PySem.Spec PyProof.Rows
inductive PairsAt (K : PySem.W.Frag) (H : Hp) : List V → List (Int × Int) → Prop
  | nil : PairsAt K H [] []
  | cons {t : Addr} {a b : Int} {xs : List V} {ps : List (Int × Int)} : SqT K H t [.int a, .int b] → PairsAt K H xs ps → PairsAt K H (.ref t :: xs) ((a, b) :: ps)
/-- the pair that stands at a reference -/
def pairIn (h : Heap) (u : Value) : Int × Int := match u with
  | .ref t => match h.get? t with
    | some o => match o.data with
      | .seq its _ => match its.toList with
        | [.int a _, .int b _] => (a, b)
        | _ => (0, 0)
      | _ => (0, 0)
    | none => (0, 0)
  | _ => (0, 0)
def lexLe (p q : Int × Int) : Bool := !SrtO.lexB q p
def rSortP (K : PySem.W.Frag) : List V → Hp → VK → Prop := fun vs H Q => ∃ (a : Addr) (xs : List V) (ps : List (Int × Int)), vs = [V.ref a] ∧ SqL K H a xs ∧ PairsAt K H xs ps ∧
  ∀ (zs : List (V × (Int × Int))) (p : Addr), zs.Perm (xs.zip ps) → (zs.map (·.2)).Pairwise (fun u v => lexLe u v = true) → H p = none → Q (.ref p) (upd H p (.lst (zs.map (·.1))))
section
variable {X : Cx} {pins : List (Addr × Obj)} {σ : St} {H : Hp} {s : Shared}
theorem pairs_in (I : Inv X pins σ H s) : ∀ {xs : List V} {ps : List (Int × Int)} {us : List Value}, PairsAt X.K H xs ps → Vals xs us →
    xs.zip ps = us.map (fun u => (backV u, pairIn s.heap u)) ∧ xs = us.map backV ∧ ∀ u ∈ us, Srt.IsPair s.heap u (pairIn s.heap u).1 (pairIn s.heap u).2 ∧ ∃ a, u = .ref a
  | _, _, _, .nil, .nil => ⟨rfl, rfl, fun u hu => (nomatch hu)⟩
  | _, _, _ :: us, .cons (t := t) (a := a) (b := b) h1 h2, .cons r rr => by
    cases r
    obtain ⟨e1, e2, e3⟩ := pairs_in I h2 rr
    obtain ⟨its, r1, ⟨o, ho, hc, n, hd⟩, _⟩ := I.tuple h1
    obtain ⟨k1, k2, rfl⟩ := vals_pair r1
    have pe : pairIn s.heap (.ref t) = (a, b) := by
      unfold pairIn
      dsimp only
      rw [ho]
      dsimp only
      rw [hd]
    refine ⟨?_, ?_, fun u hu => ?_⟩
    · rw [List.zip_cons_cons, List.map_cons, e1, pe]
      rfl
    · rw [List.map_cons, ← e2]
      rfl
    · rcases List.mem_cons.mp hu with e | e
      · subst e
        rw [pe]
        exact ⟨⟨t, o, k1, k2, n, rfl, ho, hc, hd⟩, t, rfl⟩
      · exact e3 u e
theorem cr_sortP : CallR X (.builtin "sorted") (rSortP X.K) := by
  intro pins s σ H vs us Q I r h
  obtain ⟨a, xs, ps, rfl, hs, hx, q⟩ := h
  obtain ⟨its, rv, hl, hz⟩ := I.list hs
  obtain ⟨u, rfl, ru⟩ := vals1 r
  obtain rfl : u = Value.ref a := ru
  obtain ⟨e1, e2, e3⟩ := pairs_in I hx rv
  refine SrtO.sorted_pairsO (k := pairIn s.heap) hl.isList (by rw [← rv.length]; exact hz) (fun v hv => (e3 v hv).1) fun h' d out h1 h2 kp hd hn => ?_
  obtain ⟨n, hn⟩ := hn
  have h3 : ∀ u ∈ out, ∃ a, u = Value.ref a := fun u hu => (e3 u (h2.perm.mem_iff.mp hu)).2
  have pz : (out.map fun u => (backV u, pairIn s.heap u)).Perm (xs.zip ps) := by
    rw [e1]
    exact h2.perm.map _
  have sz : ((out.map fun u => (backV u, pairIn s.heap u)).map (·.2)).Pairwise (fun u v => lexLe u v = true) := by
    rw [List.map_map, List.pairwise_map]
    refine List.Pairwise.imp ?_ h1
    intro x y hxy
    unfold lexLe
    show (!SrtO.lexB (pairIn s.heap y) (pairIn s.heap x)) = true
    rw [show SrtO.lexB (pairIn s.heap y) (pairIn s.heap x) = false from hxy]
    rfl
  have q' := q _ d pz sz (I.hok.fresh hd)
  have e4 : (out.map fun u => (backV u, pairIn s.heap u)).map (·.1) = out.map backV := by
    rw [List.map_map]
    rfl
  rw [e4] at q'
  refine ⟨.ref d, upd H d (.lst (out.map backV)), I.laid (t' := s.toks) kp hd ⟨?_, out, n, vals_back h3, hn⟩, rfl, q'⟩
  rw [List.length_map, h2.perm.length_eq, ← rv.length]
  exact hz
end
def pairsD : List D → Option (List (Int × Int))
  | [] => some []
  | .tup [.con (.int a), .con (.int b)] :: ds => (pairsD ds).map ((a, b) :: ·)
  | _ => none
abbrev pairD (p : Int × Int) : D := .tup [.con (.int p.1), .con (.int p.2)]
theorem pairsD_of : ∀ {ds : List D} {ps : List (Int × Int)}, pairsD ds = some ps → ds = ps.map pairD
  | [], _, e => by cases e; rfl
  | .tup [.con (.int a), .con (.int b)] :: ds, ps, e => by
    obtain ⟨r, e1, rfl⟩ := Option.map_eq_some_iff.mp (show (pairsD ds).map ((a, b) :: ·) = some ps from e)
    rw [List.map_cons, ← pairsD_of e1]
def sortP (ps : List (Int × Int)) : List (Int × Int) := ps.mergeSort lexLe
theorem lexLe_iff {p q : Int × Int} : lexLe p q = true ↔ p.1 < q.1 ∨ (p.1 = q.1 ∧ p.2 ≤ q.2) := by
  unfold lexLe
  rw [Bool.not_eq_true', SrtO.lexB_no]
  omega
theorem sortP_unique {ps zs : List (Int × Int)} (hp : zs.Perm ps) (hs : zs.Pairwise fun u v => lexLe u v = true) : zs = sortP ps := by
  have p := List.mergeSort_perm ps lexLe
  have s2 := List.pairwise_mergeSort (le := lexLe) (fun a b c h1 h2 => by rw [lexLe_iff] at *; omega) (fun a b => by
    rw [Bool.or_eq_true, lexLe_iff, lexLe_iff]; omega) ps
  refine List.Perm.eq_of_pairwise (fun a b _ _ h1 h2 => ?_) hs s2 (hp.trans p.symm)
  rw [lexLe_iff] at h1 h2
  exact Prod.ext (by omega) (by omega)
theorem Rep.tupAt {K : PySem.W.Frag} {H : Hp} {L : Addr → Prop} {v : V} {ds : List D} (h : Rep K H L v (.tup ds)) : ∃ a vs, v = .ref a ∧ SqT K H a vs ∧ Reps K H L vs ds := by
  cases h with
  | obj n r c =>
    cases c with
    | tup q => exact ⟨_, _, rfl, .inl r, q⟩
  | kt k q => exact ⟨_, _, rfl, .inr k, q⟩
theorem reps_pairs {K : PySem.W.Frag} {H : Hp} {L : Addr → Prop} : ∀ {xs : List V} {ps : List (Int × Int)}, Reps K H L xs (ps.map pairD) → PairsAt K H xs ps ∧ ∀ z ∈ xs.zip ps, Rep K H L z.1 (pairD z.2)
  | _, [], .nil => ⟨.nil, fun z hz => (nomatch hz)⟩
  | _, (a, b) :: ps, .cons c1 c2 => by
    obtain ⟨h1, h2⟩ := reps_pairs c2
    obtain ⟨t, vs, rfl, s1, r1⟩ := Rep.tupAt c1
    have e1 := Reps.con_inv (f := V.int) (xs := [a, b]) r1
    rw [e1] at s1
    refine ⟨.cons s1 h1, fun z hz => ?_⟩
    rw [List.zip_cons_cons] at hz
    rcases List.mem_cons.mp hz with e | e
    · subst e; exact c1
    · exact h2 z e
theorem reps_of {K : PySem.W.Frag} {H : Hp} {L : Addr → Prop} : ∀ {zs : List (V × (Int × Int))}, (∀ z ∈ zs, Rep K H L z.1 (pairD z.2)) → Reps K H L (zs.map (·.1)) ((zs.map (·.2)).map pairD)
  | [], _ => .nil
  | z :: zs, h => .cons (h z List.mem_cons_self) (reps_of fun w hw => h w (List.mem_cons_of_mem _ hw))
def sortPD (ds : List D) : Option (D × Kd) := match ds with
  | [.lst xs] => (pairsD xs).map fun ps => (.lst ((sortP ps).map pairD), .fr)
  | _ => none
theorem zip_snd {α β : Type} : ∀ {xs : List α} {ys : List β}, xs.length = ys.length → (xs.zip ys).map (·.2) = ys
  | [], [], _ => rfl
  | x :: xs, y :: ys, h => by
    rw [List.zip_cons_cons, List.map_cons, zip_snd (Nat.succ.inj h)]
theorem PairsAt.len {K : PySem.W.Frag} {H : Hp} : ∀ {xs : List V} {ps : List (Int × Int)}, PairsAt K H xs ps → xs.length = ps.length
  | _, _, .nil => rfl
  | _, _, .cons _ h => congrArg Nat.succ h.len
theorem os_sortP {K : PySem.W.Frag} : OpS K (rSortP K) sortPD := by
  intro G O σ H ρ vs ds z Q hK R w e q
  unfold sortPD at e
  split at e
  · obtain ⟨ps, e1, rfl⟩ := Option.map_eq_some_iff.mp e
    obtain ⟨v, rfl, v1⟩ := w.one
    obtain ⟨a1, us, rfl, s1, r1⟩ := v1.lst
    rw [pairsD_of e1] at r1
    obtain ⟨h1, h2⟩ := reps_pairs r1
    refine ⟨a1, us, ps, rfl, s1, h1, fun zs p hp hs hl => ?_⟩
    have e2 : zs.map (·.2) = sortP ps := by
      refine sortP_unique ?_ hs
      have := hp.map (fun z : V × (Int × Int) => z.2)
      rwa [zip_snd h1.len] at this
    have r2 := reps_of (K := K) (H := H) (L := lin O) (zs := zs) fun z hz => h2 z (hp.mem_iff.mp hz)
    rw [e2, ← hK] at r2
    obtain ⟨O4, R4⟩ := R.fresh (d := .lst ((sortP ps).map pairD)) hl (.lst r2)
    exact q O4 _ _ R4
  · cases e
def sortA (ds : List D) : Option (D × Kd) := (sortedD ds).or (sortPD ds)
theorem OpS.or {K : PySem.W.Frag} {r1 r2 : List V → Hp → VK → Prop} {g1 g2 : List D → Option (D × Kd)} (h1 : OpS K r1 g1) (h2 : OpS K r2 g2) : OpS K (fun vs H Q => r1 vs H Q ∨ r2 vs H Q) fun ds => (g1 ds).or (g2 ds) := by
  intro G O σ H ρ vs ds z Q hK R w e q
  dsimp only at e
  cases h : g1 ds with
  | some y =>
    rw [h] at e
    cases e
    exact .inl (h1 G O σ H ρ vs ds _ Q hK R w h q)
  | none =>
    rw [h] at e
    exact .inr (h2 G O σ H ρ vs ds z Q hK R w e q)
abbrev rSortA (K : PySem.W.Frag) : List V → Hp → VK → Prop := fun vs H Q => rSortedI K vs H Q ∨ rSortP K vs H Q
theorem os_sortA {K : PySem.W.Frag} : OpS K (rSortA K) sortA := OpS.or os_sorted os_sortP
theorem cr_sortA {X : Cx} : CallR X (.builtin "sorted") (rSortA X.K) := fun pins s σ H vs us Q I r h => by
  rcases h with h | h
  · exact cr_sortedI pins s σ H vs us Q I r h
  · exact cr_sortP pins s σ H vs us Q I r h
end L2.VL
end
section
set_option Elab.async false
set_option linter.all false
set_option maxRecDepth 100000
namespace L2.VL
open PySem PySem.Spec PyProof.Rows
end L2.VL
end
section
set_option Elab.async false
set_option linter.all false
set_option maxRecDepth 100000
namespace L2.VL
open PySem PySem.Spec PyProof.Rows
def ItsE (x : Str) : It := ⟨fun i _ => i < x.cps.size, fun i H v H' => ∃ T c, v = .ref T ∧ H T = none ∧ H' = upd H T (.tup [.int (i : Nat), .str ⟨#[c]⟩]) ∧ x.cps[i]? = some c, fun i _ => x.cps.size ≤ i⟩
theorem draws_str {prog : Program} {w : World} {A : Around} (hh : A.handled = none) (it : Addr) (x : Str) (t : Tok) :
    Draws prog w A it [it] x.cps.size (fun i v => ∃ c u, x.cps[i]? = some c ∧ v = .str ⟨#[c]⟩ u) (fun i h => h.IsStrIter it (strIterType x) x t i) := by
  unfold strIterType
  split
  · exact Draws.strAscii hh it x t
  · exact Draws.strWide hh it x t
theorem turn_enumS {P : Program} {w : World} {K : PySem.W.Frag} {elts : List Expr} {kk : Nat} {tpos : Pos} (e it : Addr) (x : Str) (t : Tok) :
    Turn P w K (.Tuple elts kk tpos) (ItsE x) [e, it] e (fun i h => (∃ old, IsEnum h e it ((i : Nat) : Int) old) ∧ h.IsStrIter it (strIterType x) x t i ∧ e ≠ it ∧ i ≤ x.cps.size) where
  mem := by simp
  obj := fun i h st b hb => by
    obtain ⟨⟨old, he⟩, ⟨o, ho, hc, hd⟩, _⟩ := st
    have e' : b = e ∨ b = it := by simpa using hb
    rcases e' with z | z
    · rw [z]
      exact ⟨_, he, fun v q => nomatch q⟩
    · rw [z]
      exact ⟨o, ho, fun v q => by rw [hd] at q; cases q⟩
  keep := fun i h h' st k => by
    obtain ⟨⟨old, he⟩, ⟨o, ho, r⟩, hne, hi⟩ := st
    exact ⟨⟨old, k e (by simp) _ he⟩, ⟨o, k it (by simp) o ho, r⟩, hne, hi⟩
  item := by
    intro X hP hw hK hc i pins s σ H E I hf st hg
    subst hP hw hK
    obtain ⟨⟨old, he⟩, hit, hne, hi⟩ := st
    have hel : e < s.heap.objs.size := Heap.lt_size he
    have hil : it < s.heap.objs.size := by
      obtain ⟨_, q, _⟩ := hit
      exact Heap.lt_size q
    refine wpAny_pyNext_enum_itemD (draws_str (A := X.A.in1) (I.ok.hd hc) it x t) he hit hg hne (by simpa using hne) fun v h' tk hv ho hit' hT hsz hk => ?_
    obtain ⟨c, u, hcx, rfl⟩ := hv
    refine ⟨_, rfl, wpAny_letOwnedTupleGo_enum (s := { s with heap := h', toks := tk + 1 }) ho fun h2 he' sb => ?_⟩
    have hT2 : h2.get? s.heap.objs.size = some { cls := .type "tuple", data := .seq #[.int i tk, .str ⟨#[c]⟩ u] } := (sb.2 _ (Nat.ne_of_gt hel)).trans hT
    have new : ObjOk X.prog X.w (upd H s.heap.objs.size (.tup [.int (i : Nat), .str ⟨#[c]⟩])) h2 s.heap.objs.size (.tup [.int (i : Nat), .str ⟨#[c]⟩]) :=
      ⟨by show 2 ≤ sizeLine; decide, [.int i tk, .str ⟨#[c]⟩ u], .cons ⟨_, rfl⟩ (.cons ⟨_, rfl⟩ .nil), ⟨_, hT2, rfl, _, rfl⟩⟩
    have I1 : Inv X pins σ (upd H s.heap.objs.size (.tup [.int (i : Nat), .str ⟨#[c]⟩])) { s with heap := h2, toks := tk + 1 } :=
      I.turnedNew (ch := [e, it]) (fun b ob hb q => (sb.2 b (fun z => hb (by simp [z]))).trans (hk b ob (fun z => hb (by simp [z])) (fun z => hb (by simp [z])) q)) hf (Nat.le_refl _) new
    have hlt : i < x.cps.size := hg
    refine ⟨.ref s.heap.objs.size, _, I1, rfl, ⟨_, c, rfl, I.hok.fresh (Nat.le_refl _), rfl, hcx⟩, ⟨⟨.str ⟨#[c]⟩ u, ?_⟩, ?_, hne, hlt⟩, fun b hb => ?_⟩
    · have e1 : ((i + 1 : Nat) : Int) = (i : Int) + 1 := by omega
      rw [e1]
      exact he'
    · obtain ⟨o, ho2, r⟩ := hit'
      exact ⟨o, (sb.2 it (Ne.symm hne)).trans ho2, r⟩
    · have hb' : b < s.heap.objs.size := by
        have e' : b = e ∨ b = it := by simpa using hb
        rcases e' with z | z
        · rw [z]; exact hel
        · rw [z]; exact hil
      rw [upd_ne (Nat.ne_of_lt hb')]
      exact (hf b hb).1
  done := by
    intro X hP hw hK hc i pins s σ H E I hf st hg
    subst hP hw hK
    obtain ⟨⟨old, he⟩, hit, hne, hi⟩ := st
    have ei : i = x.cps.size := Nat.le_antisymm hi hg
    subst ei
    obtain ⟨f0, f1, f2, f3, f4, f5⟩ := hf it (by simp)
    exact wpAny_pyNext_enum_endD (draws_str (A := X.A.in1) (I.ok.hd hc) it x t) he hit fun h' eb => ⟨rfl, I.turned (t' := s.toks) (fun b o hb q => eb b o hb q) f0 f1 f3 f4 f5⟩
  self := fun A i s Q E st h => by
    obtain ⟨⟨_, he⟩, _⟩ := st
    exact wpAny_pyIter_enum he h
def iEnumS (ta : TA) : TI := fun σ H R => ta σ H fun vs H1 => ∃ x, vs = [.str x] ∧ R (ItsE x) H1
theorem pi_enumS {X : Cx} {e : Expr} {ta : TA} {p pos tpos : Pos} {elts : List Expr} {kk : Nat} (hg : Gl X "enumerate") (hm : X.mg "enumerate" = none) (ha : PA X [e] ta) (hs : starEach [e] X.env = [(false, eval e X.env)] := by rfl) :
    PI X (.Tuple elts kk tpos) (.Call (.Name "enumerate" p) [e] [] pos) (iEnumS ta) := by
  refine ⟨fun pins s σ H R I h => ?_⟩
  refine Call_ (ld_blt I hg hm boot_enumerate (PyProof.Rows.callWith_type1 (thn (ha.run pos pins s σ H _ I h) fun us s1 ⟨vs, H1, I1, r1, q1⟩ => ?_) hs rfl))
  obtain ⟨x, ex, q⟩ := q1
  subst ex
  cases r1 with
  | cons r rr =>
    cases rr
    obtain ⟨t, rfl⟩ := r
    refine call_enumerate_str fun h' he hit hsz hk => wpAny_pyIter_enum he ?_
    have I2 : Inv X pins σ H1 { s1 with heap := h' } := I1.kept (t' := s1.toks) hk
    refine ⟨s1.heap.objs.size + 1, [s1.heap.objs.size + 1, s1.heap.objs.size], _, _, H1, rfl, I2, turn_enumS (s1.heap.objs.size + 1) s1.heap.objs.size x t, ⟨⟨.none, he⟩, hit, Nat.succ_ne_self _, Nat.zero_le _⟩, fun b hb => ?_, q⟩
    have e' : b = s1.heap.objs.size + 1 ∨ b = s1.heap.objs.size := by simpa using hb
    have hle : s1.heap.objs.size ≤ b := by
      rcases e' with z | z
      · rw [z]; exact Nat.le_add_right _ _
      · rw [z]; exact Nat.le_refl _
    exact I1.fpOk hle (I1.hok.fresh hle)
def enumS (ds : List D) : Option (List D) := match ds with
  | [.con (.str z)] => some ((chrs z).zipIdx.map fun p => .tup [.int p.2, p.1])
  | _ => none
def enumA (ds : List D) : Option (List D) := match ds with
  | [.lst a] => some (a.zipIdx.map fun p => .tup [.int p.2, p.1])
  | [.con (.str z)] => some ((chrs z).zipIdx.map fun p => .tup [.int p.2, p.1])
  | _ => none
def iEnumSD (l : List (Bool × DE)) : M (List D) := do
  let xs ← dA l
  let ds ← mOpt (shrs xs)
  mOpt (enumS ds)
def iEnumA (l : List (Bool × DE)) : M (List D) := do
  let xs ← dA l
  let ds ← mOpt (shrs xs)
  mOpt (enumA ds)
theorem walk_enumS {K : PySem.W.Frag} {T : List Tmp} {z : Str} : WalkOk K T (ItsE z) ((chrs z).zipIdx.map fun p => .tup [.int p.2, p.1]) := by
  intro G O σ H ρ i T' hK R
  have hl : ((chrs z).zipIdx.map fun p => D.tup [.int p.2, p.1]).length = z.cps.size := by simp [chrs]
  refine ⟨fun hi => by rw [hl] at hi; exact hi, fun hi => by rw [hl] at hi; exact hi, fun x hx v H' y => ?_⟩
  obtain ⟨P, c, rfl, nP, rfl, hc⟩ := y
  rw [List.getElem?_map, List.getElem?_zipIdx] at hx
  unfold chrs at hx
  rw [List.getElem?_map, Array.getElem?_toList, hc] at hx
  cases hx
  refine ⟨O, ?_⟩
  have R2 := R.freshT (d := .tup [.int (i : Nat), .con (.str ⟨#[c]⟩)]) nP (.tup (.cons (.con (.int (i : Nat))) (.cons (.con (.str ⟨#[c]⟩)) .nil)))
  simpa using R2
section
variable {X : Cx} {e : Expr} {p pos : Pos}
theorem si_enumS {elts : List Expr} {kk : Nat} {tpos : Pos} {l : List (Bool × DE)} (hm : X.mg "enumerate" = none) (ha : SA X [e] l) (hg : Gl X "enumerate" := by rfl)
    (hs : starEach [e] X.env = [(false, eval e X.env)] := by rfl) : SI X (.Tuple elts kk tpos) (.Call (.Name "enumerate" p) [e] [] pos) (iEnumSD l) := fun W tk =>
  PI.imp (pi_enumS hg hm (ha W tk) hs) fun σ H Q ⟨G, O, ρ, hK, R, h⟩ => ⟨G, O, ρ, [], hK, R, Res.post_ok ((post_bind _ _).mp h) fun xs ρ1 q O1 vs H1 hl R1 => by
    obtain ⟨ds, e1, q2⟩ := (post_opt _).mp ((post_bind _ _).mp q)
    obtain ⟨z, e2, q3⟩ := (post_opt _).mp q2
    have rp := pushC_reps hl R1 e1
    unfold enumS at e2
    split at e2
    · cases e2
      cases rp with
      | cons r1 rr =>
        cases rr
        exact ⟨_, by rw [r1.con_inv], q3 O1 H1 _ _ NoNm.nil (pushC_pop R1) walk_enumS⟩
    · cases e2⟩
theorem iEnumA_split {l : List (Bool × DE)} {ρ : Rho} {Q : List D → Rho → Prop} {E : Exn → Rho → Prop} (h : ((iEnumA l) ρ).post Q E) : ((iEnum1 l) ρ).post Q E ∨ ((iEnumSD l) ρ).post Q E := by
  have h1 := (post_bind _ _).mp h
  unfold iEnum1 iEnumSD
  simp only [post_bind]
  cases e1 : dA l ρ with
  | stuck => rw [e1] at h1; exact h1.elim
  | ex x ρ1 => exact .inl (by rw [e1] at h1; exact h1)
  | ok x ρ1 =>
    rw [e1] at h1
    simp only [Res.post]
    obtain ⟨ds, e2, h2⟩ := (post_opt _).mp ((post_bind _ _).mp h1)
    obtain ⟨z, e3, h3⟩ := (post_opt _).mp h2
    unfold enumA at e3
    split at e3
    · cases e3
      exact .inl ((post_opt (shrs x)).mpr ⟨_, e2, h3⟩)
    · cases e3
      exact .inr ((post_opt (shrs x)).mpr ⟨_, e2, h3⟩)
    · cases e3
theorem si_enumA {elts : List Expr} {kk : Nat} {tpos : Pos} {l : List (Bool × DE)} (hm : X.mg "enumerate" = none) (ha : SA X [e] l) (hg : Gl X "enumerate" := by rfl)
    (hs : starEach [e] X.env = [(false, eval e X.env)] := by rfl) : SI X (.Tuple elts kk tpos) (.Call (.Name "enumerate" p) [e] [] pos) (iEnumA l) := fun W tk =>
  PI.imp (PI.or (si_enum hm ha hg hs W tk) (si_enumS hm ha hg hs W tk)) fun σ H Q ⟨G, O, ρ, hK, R, h⟩ => by
    rcases iEnumA_split h with h | h
    · exact .inl ⟨G, O, ρ, hK, R, h⟩
    · exact .inr ⟨G, O, ρ, hK, R, h⟩
end
end L2.VL
end
section
set_option Elab.async false
set_option linter.all false
set_option maxRecDepth 100000
namespace L2.VL
open PySem PySem.Spec PyProof.Rows
section
variable {α : Type} {own : List Nat} {t : Tg} {q : M Bool} {r : DE} {xs : List D} {ρ : Rho} {V1 : D × Kd → Rho → Prop} {E : Exn → Rho → Prop}
theorem rng_map (lo : Int) (n : Nat) : rngD lo n = (List.range n).map fun (k : Nat) => D.int (lo + k) := rfl
theorem zip_map {α β : Type} (f : α → D) (g : β → D) (as : List α) (bs : List β) : (((as.map f).zip (bs.map g)).map fun p => D.tup [p.1, p.2]) = (as.zip bs).map fun p => D.tup [f p.1, g p.2] := by
  rw [List.zip_map, List.map_map]
  rfl
def cutL {α : Type} (as : List α) (lo hi : Option Int) : List α := (as.drop (HT.sIx as.length 0 lo)).take (HT.sIx as.length as.length hi - HT.sIx as.length 0 lo)
theorem cutD_map (f : α → D) (as : List α) (lo hi : Option Int) : cutD (as.map f) lo hi = (cutL as lo hi).map f := by
  unfold cutD cutL
  rw [List.length_map, ← List.map_drop, ← List.map_take]
theorem okL_fs {cs : List Nat} (h : ∀ c ∈ cs, c < 0x110000) (n : Nat) : okD n (.con (.str ⟨cs.toArray⟩)) = true := by
  have : PyData.strOk ⟨cs.toArray⟩ = true := by
    unfold PyData.strOk
    simp only [List.all_toArray, List.all_eq_true, decide_eq_true_eq]
    exact h
  cases n <;> exact this
theorem okL_map {α : Type} {f : α → D} (as : List α) (n : Nat) (h : ∀ a ∈ as, okD n (f a) = true) : okD (n + 1) (.lst (as.map f)) = true := by
  unfold okD
  rw [List.all_eq_true]
  intro d hd
  obtain ⟨a, ha, rfl⟩ := List.mem_map.mp hd
  exact h a ha
end
end L2.VL
end
section
set_option Elab.async false
set_option linter.all false
set_option maxRecDepth 100000
namespace L2.VL
open PySem PySem.Spec PyProof.Rows
section
variable {X : Cx} {pos : Pos}
theorem Vw.dic {K : PySem.W.Frag} {H : Hp} {O : Own} {v : V} {ds : List (Key × D)} (h : Vw K H O v (.dic ds)) : ∃ a vs, v = .ref a ∧ Rd H a (.dK vs) ∧ RepK K H (lin O) vs ds := by
  rcases h with h | ⟨a, ho, e, h1, c⟩ | ⟨_, _, _, z⟩
  · cases h with
    | obj n r c =>
      cases c with
      | dic q => exact ⟨_, _, rfl, r, q⟩
  · cases c with
    | dic q => exact ⟨a, _, e, .inl h1, q⟩
  · cases z
end
end L2.VL
end
section
set_option Elab.async false
set_option linter.all false
set_option maxRecDepth 100000
namespace L2.VL
open PySem PySem.Spec PyProof.Rows
end L2.VL
end
section
set_option Elab.async false
set_option linter.all false
set_option maxRecDepth 100000
namespace L2.VL
open PySem PySem.Spec PyProof.Rows
def repS (s : Str) (n : Nat) : Str := ⟨(List.replicate n s.cps.toList).flatten.toArray⟩
def rMulS : R2 := fun x y H Q => ∃ s k, x = .str s ∧ y = .int k ∧ 0 ≤ k ∧ k ≤ 1000 ∧ s.length ≤ 1000 ∧ Q (.str (repS s k.toNat)) H
theorem foldl_app (n : Nat) (a : Array Nat) (acc : Array Nat) : (List.replicate n a).foldl (· ++ ·) acc = acc ++ (List.replicate n a.toList).flatten.toArray := by
  induction n generalizing acc with
  | zero => simp
  | succ n ih =>
    rw [List.replicate_succ, List.foldl_cons, ih, List.replicate_succ, List.flatten_cons]
    apply Array.toList_inj.mp
    simp
theorem op_mulS {X : Cx} : OpR X (binaryOp .Mult) rMulS := by
  intro pins s σ H x y v u Q I rx ry h
  obtain ⟨z, k, rfl, rfl, h0, h1, hl, q⟩ := h
  obtain ⟨t1, rfl⟩ := rx
  obtain ⟨t2, rfl⟩ := ry
  refine P.mul_str (by simp; omega) (fun a b => ?_) (fun a b => ?_) ?_
  · have hk : 0 < k := by omega
    have : (9223372036854775807 : Int) / k ≥ 9223372036854775 := by
      refine Int.le_ediv_of_mul_le hk ?_
      have : (9223372036854775 : Int) * k ≤ 9223372036854775 * 1000 := by omega
      omega
    have e : ((2 : Int) ^ 63 - 1) = 9223372036854775807 := by decide
    rw [e]
    omega
  · have : z.length * k.toNat ≤ 1000 * 1000 := Nat.mul_le_mul hl (by omega)
    unfold Builtin.Str.tooLong
    rw [decide_eq_false_iff_not]
    have e := sizeLine_eq
    omega
  · by_cases a : k < 1
    · rw [if_pos a]
      have : k = 0 := by omega
      subst this
      exact ⟨by decide, .str Str.empty, _, I.tok _, ⟨_, rfl⟩, q⟩
    · rw [if_neg a]
      by_cases b : (k == 1 || z.length == 0) = true
      · rw [if_pos b]
        refine ⟨.str z, H, I, ⟨_, rfl⟩, ?_⟩
        have e : repS z k.toNat = z := by
          rw [Bool.or_eq_true] at b
          unfold repS
          rcases b with b | b
          · have : k = 1 := by simpa using b
            subst this
            simp
          · have b : z.cps.size = 0 := by have b : (z.length == 0) = true := b; exact eq_of_beq b
            have : z.cps = #[] := Array.eq_empty_of_size_eq_zero b
            have e2 : (List.replicate k.toNat ([] : List Nat)).flatten = [] := by simp
            cases z
            simp at this
            subst this
            simp
        rw [e] at q
        exact q
      · rw [if_neg b]
        refine ⟨?_, .str _, _, I.tok _, ⟨_, rfl⟩, ?_⟩
        · show (_ : Array Nat).size ≤ _
          rw [foldl_app]
          rw [Array.empty_append, List.size_toArray, List.length_flatten, List.map_replicate, List.sum_replicate_nat]
          have : k.toNat * z.cps.toList.length ≤ 1000 * 1000 := Nat.mul_le_mul (by omega) hl
          have e := sizeLine_eq
          omega
        · rw [foldl_app]
          simpa [repS] using q
def mulSD (x y : D) : Option (D × Kd) := match x, y with
  | .con (.str s), .con (.int k) => if 0 ≤ k ∧ k ≤ 1000 ∧ s.length ≤ 1000 then some (.con (.str (repS s k.toNat)), .shr) else none
  | _, _ => none
theorem os_mulS {K : PySem.W.Frag} : OpS2 K rMulS mulSD := by
  intro G O σ H ρ a b x y z Q hK R v1 v2 e q
  unfold mulSD at e
  split at e
  · rename_i s k
    split at e
    · rename_i h
      cases e
      rw [v1.con, v2.con]
      exact ⟨s, k, rfl, rfl, h.1, h.2.1, h.2.2, q O _ H (R.con _)⟩
    · cases e
  · cases e
def mulT (x y : D) : Option (D × Kd) := (mulA x y).or (mulSD x y)
theorem op_mulT {X : Cx} : OpR X (binaryOp .Mult) fun x y H Q => rMulA X.K x y H Q ∨ rMulS x y H Q := OpR.or op_mulA op_mulS
theorem os_mulT {K : PySem.W.Frag} : OpS2 K (fun x y H Q => rMulA K x y H Q ∨ rMulS x y H Q) mulT := OpS2.or os_mulA os_mulS
end L2.VL
end
section
set_option Elab.async false
set_option linter.all false
set_option maxRecDepth 100000
namespace L2.VL
open PySem PySem.Spec PyProof.Rows
end L2.VL
end
section
set_option Elab.async false
set_option linter.all false
set_option maxRecDepth 100000
namespace L2.VL
open PySem PySem.Spec PyProof.Rows
def tBor (q : M Bool) : M Bool := fun ρ => match q (ρ.map lent) with
  | .ok b _ => .ok b ρ
  | _ => .stuck
theorem st_bor {X : Cx} {e : Expr} {q : M Bool} (h : ST X e q) : ST X e (tBor q) := fun W tk => PT.imp (h W tk) fun σ H Q ⟨G, O, ρ, hK, R, h⟩ => by
  refine ⟨(frzT G.K H G.Pin), _, _, hK, R.lend, ?_⟩
  unfold tBor at h
  have key : (q (ρ.map lent)).post (fun b ρ' => ∀ O' H', Rel G O' σ H' ρ [] → Q b H') fun _ _ => False := by
    cases e1 : q (ρ.map lent) with
    | stuck => rw [e1] at h; exact h.elim
    | ex x ρ' => rw [e1] at h; exact h.elim
    | ok b ρ' => rw [e1] at h; exact h
  exact Res.post_mono key (fun b ρ1 q O1 H1 R1 => q O H1 (R.unlend (v := .non) (c := .non) R1).nil) fun _ _ z => z.elim
end L2.VL
end
section
set_option Elab.async false
set_option linter.all false
set_option maxRecDepth 100000
namespace L2.VL
open PySem PySem.Spec PyProof.Rows
end L2.VL
end
section
set_option Elab.async false
set_option linter.all false
set_option maxRecDepth 100000
set_option maxHeartbeats 2000000
namespace L2.VL
open PySem PySem.Spec PyProof.Rows L2 PpSet
end L2.VL
end
section
set_option Elab.async false
set_option linter.all false
set_option maxRecDepth 100000
namespace L2.VL
open PySem PySem.Spec PyProof.Rows L2
/-- each number once, as first met -/
def nubI (ns : List Int) : List Int := ns.foldl (fun l k => if k ∈ l then l else l ++ [k]) []
theorem snoc_ind {α : Type} {P : List α → Prop} (h0 : P []) (h1 : ∀ l a, P l → P (l ++ [a])) (l : List α) : P l := by
  rw [← List.reverse_reverse l]
  generalize l.reverse = r
  induction r with
  | nil => exact h0
  | cons a r ih => rw [List.reverse_cons]; exact h1 _ a ih
/-- rising lists with the same members are the same -/
theorem rise_uniq : ∀ {xs ys : List Int}, xs.Pairwise (· < ·) → ys.Pairwise (· < ·) → (∀ k, k ∈ xs ↔ k ∈ ys) → xs = ys
  | [], [], _, _, _ => rfl
  | [], y :: ys, _, _, h => absurd ((h y).mpr List.mem_cons_self) (by simp)
  | x :: xs, [], _, _, h => absurd ((h x).mp List.mem_cons_self) (by simp)
  | x :: xs, y :: ys, hx, hy, h => by
    obtain ⟨a1, a2⟩ := List.pairwise_cons.mp hx
    obtain ⟨b1, b2⟩ := List.pairwise_cons.mp hy
    have e : x = y := by
      rcases List.mem_cons.mp ((h x).mp List.mem_cons_self) with z | z
      · exact z
      · rcases List.mem_cons.mp ((h y).mpr List.mem_cons_self) with w | w
        · exact w.symm
        · have := b1 x z
          have := a1 y w
          omega
    subst e
    rw [rise_uniq a2 b2 fun k => ?_]
    constructor
    · intro q
      rcases List.mem_cons.mp ((h k).mp (List.mem_cons_of_mem _ q)) with z | z
      · have := a1 k q
        omega
      · exact z
    · intro q
      rcases List.mem_cons.mp ((h k).mpr (List.mem_cons_of_mem _ q)) with z | z
      · have := b1 k q
        omega
      · exact z
def sortU (ns : List Int) : List Int := (nubI ns).mergeSort fun a b => decide (a ≤ b)
end L2.VL
end
section
set_option Elab.async false
set_option linter.all false
set_option maxRecDepth 100000
namespace L2.VL
open PySem PySem.Spec PyProof.Rows L2
end L2.VL
end
section
set_option Elab.async false
set_option linter.all false
set_option maxRecDepth 100000
namespace L2.VL
open PySem PySem.Spec PyProof.Rows L2
/-- where k stands first -/
def at1 : List Int → Int → Option Nat
  | [], _ => none
  | a :: r, k => if a = k then some 0 else (at1 r k).map (· + 1)
theorem at1_some : ∀ {ns : List Int} {k : Int} {j : Nat}, at1 ns k = some j → ns[j]? = some k ∧ ∀ m : Nat, m < j → ns[m]? ≠ some k
  | [], _, _, h => by cases h
  | a :: r, k, j, h => by
    unfold at1 at h
    split at h
    · rename_i e
      cases h
      exact ⟨by rw [e]; rfl, fun m hm => absurd hm (Nat.not_lt_zero _)⟩
    · rename_i e
      obtain ⟨i, h1, rfl⟩ := Option.map_eq_some_iff.mp h
      obtain ⟨h2, h3⟩ := at1_some h1
      refine ⟨by simpa using h2, fun m hm => ?_⟩
      cases m with
      | zero => intro z; exact e (Option.some.inj z)
      | succ m => simpa using h3 m (by omega)
def idxD (d : D) (ds : List D) : Option (D × Kd) := match d, ds with
  | .lst xs, [.con (.int k)] => (intsD xs).bind fun ns => (at1 ns k).map fun j => (.con (.int (j : Nat)), .shr)
  | _, _ => none
theorem om_index {K : PySem.W.Frag} : OpM K "list" (rIndex K) isLst idxD := ⟨ty_lst, by
  intro G O σ H ρ v vs d ds z Q hK R v1 w e q
  unfold idxD at e
  split at e
  · rename_i xs k
    obtain ⟨ns, e1, e2⟩ := Option.bind_eq_some_iff.mp e
    obtain ⟨j, e3, e4⟩ := Option.map_eq_some_iff.mp e2
    cases e4
    obtain ⟨b1, b2⟩ := at1_some e3
    obtain ⟨a1, us, rfl, s1, r1⟩ := v1.lst
    rw [intsD_of e1] at r1
    rw [r1.con_inv] at s1
    obtain ⟨u, rfl, v2⟩ := w.one
    rw [v2.con]
    have all : (ns.map V.int).all flatV = true := by
      rw [List.all_eq_true]
      intro y hy
      obtain ⟨n, _, rfl⟩ := List.mem_map.mp hy
      rfl
    refine ⟨a1, ns.map V.int, .int k, j, .int k, rfl, rfl, s1, rfl, all, by rw [List.getElem?_map, b1]; rfl, by show (k == k) = true; simp, fun m z' hm hz => ?_, q O _ H (R.con _)⟩
    rw [List.getElem?_map] at hz
    obtain ⟨n, hn, rfl⟩ := Option.map_eq_some_iff.mp hz
    show (n == k) = false
    rw [beq_eq_false_iff_ne]
    rintro rfl
    exact b2 m hm hn
  · cases e⟩
end L2.VL
end
section
set_option Elab.async false
set_option linter.all false
set_option maxRecDepth 100000
namespace L2.VL
open PySem PySem.Spec PyProof.Rows L2
/-- greater by the first place that differs; of two of which one begins the other, the longer one -/
def lexG : List Int → List Int → Bool
  | [], _ => false
  | _ :: _, [] => true
  | a :: r, b :: s => if a = b then lexG r s else decide (b < a)
theorem first_lexG (f : Nat → Nat) (e r : Nat → Bool) (hf : True) : ∀ (ns ms : List Int) (k : Nat), (∀ j, j < ns.length → j < ms.length → e (k + j) = decide (ns.getD j 0 = ms.getD j 0)) → (∀ j, j < ns.length → j < ms.length → r (k + j) = decide (ms.getD j 0 < ns.getD j 0)) →
    SeqAt.firstLt e r (decide (ns.length > ms.length)) (List.range' k (min ns.length ms.length)) = lexG ns ms
  | [], ms, k, _, _ => by simp [SeqAt.firstLt, lexG]
  | a :: ns, [], k, _, _ => by simp [SeqAt.firstLt, lexG]
  | a :: ns, b :: ms, k, he, hr => by
    have e0 := he 0 (by simp) (by simp)
    have r0 := hr 0 (by simp) (by simp)
    have ih := first_lexG f e r hf ns ms (k + 1) (fun j h1 h2 => by
      have := he (j + 1) (by simp; omega) (by simp; omega)
      rw [show k + 1 + j = k + (j + 1) by omega, this]
      simp) (fun j h1 h2 => by
      have := hr (j + 1) (by simp; omega) (by simp; omega)
      rw [show k + 1 + j = k + (j + 1) by omega, this]
      simp)
    simp only [List.getD_cons_zero, Nat.add_zero] at e0 r0
    rw [show min (a :: ns).length (b :: ms).length = min ns.length ms.length + 1 by simp only [List.length_cons]; omega, List.range'_succ]
    unfold SeqAt.firstLt lexG
    rw [e0, r0]
    by_cases h : a = b
    · rw [if_pos (decide_eq_true h), if_pos h, ← ih]
      congr 1
      rw [decide_eq_decide]
      simp only [List.length_cons]
      omega
    · rw [if_neg (fun z => h (of_decide_eq_true z)), if_neg h]
def rGtL (K : PySem.W.Frag) : R2 := fun x y H Q => ∃ (p p2 : Addr) (ns ms : List Int), x = .ref p ∧ y = .ref p2 ∧ SqL K H p (ns.map V.int) ∧ SqL K H p2 (ms.map V.int) ∧ Q (.bl (lexG ns ms)) H
theorem ints_get : ∀ {vs : List Value} {ns : List Int}, IntsAre vs ns → ∀ (j : Nat) (h : j < vs.length), ∃ t, vs[j] = Value.int (ns.getD j 0) t
  | _, _, .cons n t r, 0, _ => ⟨t, rfl⟩
  | _, _, .cons n t r, j + 1, h => by
    obtain ⟨u, e⟩ := ints_get r j (by simpa using h)
    exact ⟨u, by simpa using e⟩
theorem op_gtL {X : Cx} (hu : X.A.units < cLine) : OpR X (compareOp .Gt) (rGtL X.K) := by
  intro pins s σ H x y v u Q I rx ry h
  obtain ⟨p, p2, ns, ms, rfl, rfl, h1, h2, q⟩ := h
  cases rx
  cases ry
  obtain ⟨us, r1, t1, _⟩ := I.list h1
  obtain ⟨ws, r2, t2, _⟩ := I.list h2
  have i1 := r1.ints
  have i2 := r2.ints
  have l1 : us.length = ns.length := by rw [← r1.length, List.length_map]
  have l2 : ws.length = ms.length := by rw [← r2.length, List.length_map]
  have R := SeqAt.RcOp.lists_gt (A := X.A) (s := s) (e := fun j => decide (ns.getD j 0 = ms.getD j 0)) (r := fun j => decide (ms.getD j 0 < ns.getD j 0)) t1.isList t2.isList hu
    (fun j g1 g2 => by
      obtain ⟨k1, e1⟩ := ints_get i1 j (by simpa using g1)
      obtain ⟨k2, e2⟩ := ints_get i2 j (by simpa using g2)
      simp only [List.getElem_toArray, e1, e2]
      exact eqAt_dec _ _ _ _)
    (fun j g1 g2 _ => by
      obtain ⟨k1, e1⟩ := ints_get i1 j (by simpa using g1)
      obtain ⟨k2, e2⟩ := ints_get i2 j (by simpa using g2)
      simp only [List.getElem_toArray, e1, e2]
      exact fun _ _ _ _ h => PyProof.Rows.gt_int h)
  refine R X.prog X.w X.xe (EP X pins σ Q) ⟨.bl _, H, I, rfl, ?_⟩
  have e := first_lexG id (fun j => decide (ns.getD j 0 = ms.getD j 0)) (fun j => decide (ms.getD j 0 < ns.getD j 0)) trivial ns ms 0 (fun j _ _ => by rw [Nat.zero_add]) (fun j _ _ => by rw [Nat.zero_add])
  rw [← List.range_eq_range'] at e
  rw [show us.toArray.size = ns.length by rw [List.size_toArray]; exact l1, show ws.toArray.size = ms.length by rw [List.size_toArray]; exact l2, e]
  exact q
def gtA (x y : D) : Option Bool := match x, y with
  | .con (.int i), .con (.int j) => some (decide (j < i))
  | .lst xs, .lst ys => (intsD xs).bind fun ns => (intsD ys).map fun ms => lexG ns ms
  | _, _ => none
abbrev rGtA (K : PySem.W.Frag) : R2 := fun x y H Q => rI0 (fun i j => .bl (decide (j < i))) x y H Q ∨ rGtL K x y H Q
theorem op_gtA {X : Cx} {k : Nat} (hr : Room k X.A) : OpR X (compareOp .Gt) (rGtA X.K) := OpR.or op_gt (op_gtL (by have := hr.units; omega))
theorem cs_gtA {K : PySem.W.Frag} : CmpS K (rGtA K) gtA := fun x y H d1 d2 k O Q v1 v2 e q => by
  unfold gtA at e
  split at e
  · cases e
    exact .inl ⟨_, _, v1.con, v2.con, q⟩
  · rename_i xs ys
    obtain ⟨ns, e1, e2⟩ := Option.bind_eq_some_iff.mp e
    obtain ⟨ms, e3, rfl⟩ := Option.map_eq_some_iff.mp e2
    obtain ⟨a1, vs, rfl, s1, r1⟩ := v1.lst
    obtain ⟨a2, us, rfl, s2, r2⟩ := v2.lst
    rw [intsD_of e1] at r1
    rw [intsD_of e3] at r2
    rw [r1.con_inv] at s1
    rw [r2.con_inv] at s2
    exact .inr ⟨a1, a2, _, _, rfl, rfl, s1, s2, q⟩
  · cases e
end L2.VL
end
section
set_option Elab.async false
set_option linter.all false
set_option maxRecDepth 100000
namespace L2.VL
open PySem PySem.Spec PyProof.Rows L2
end L2.VL
end
section
set_option Elab.async false
set_option linter.all false
set_option maxRecDepth 100000
namespace L2.VL
open PySem PySem.Spec PyProof.Rows L2
theorem readsAll_zip {h : Heap} : ∀ {us : List Value} {ds : List PyData} {as : List Addr}, ReadsAll h us ds as → us.length = ds.length ∧ ∀ q ∈ us.zip ds, ∃ bs, Reads h q.1 q.2 bs
  | [], [], _, _ => ⟨rfl, fun q hq => by cases hq⟩
  | u :: us, d :: ds, _, r => by
    cases r with
    | cons r1 r2 =>
      obtain ⟨h1, h2⟩ := readsAll_zip r2
      refine ⟨by simp [h1], fun q hq => ?_⟩
      rcases List.mem_cons.mp hq with rfl | hq
      · exact ⟨_, r1⟩
      · exact h2 q hq
  | [], _ :: _, _, r => by cases r
  | _ :: _, [], _, r => by cases r
def rInN (K : PySem.W.Frag) (neg : Bool) : R2 := fun x y H Q => ∃ d p xs ds, Dp K H x d ∧ y = .ref p ∧ SqL K H p xs ∧ DpAll K H xs ds ∧ SeqAt.shaped d = true ∧ ds.all SeqAt.shaped = true ∧ Q (.bl (if neg then !(ds.any fun e => PyData.eqv e d) else ds.any fun e => PyData.eqv e d)) H
open Classical in
theorem in_pick {A : Around} {s : Shared} {u : Value} {d : PyData} {as bs : List Addr} {us : List Value} {ds : List PyData} (hu : A.units + 64 < cLine) (ra : Reads s.heap u d as) (rb : ReadsAll s.heap us ds bs) (hd : SeqAt.shaped d = true) (hs : ds.all SeqAt.shaped = true) :
    ∃ e : Value → Bool, (∀ y ∈ us, SeqAt.EqAt A s y u (e y)) ∧ us.any e = ds.any fun e => PyData.eqv e d := by
  obtain ⟨hl, hz⟩ := readsAll_zip rb
  have at_ : ∀ q ∈ us.zip ds, SeqAt.EqAt A s q.1 u (PyData.eqv q.2 d) := fun q hq => by
    obtain ⟨cs, rq⟩ := hz q hq
    have sq : SeqAt.shaped q.2 = true := List.all_eq_true.mp hs q.2 (List.of_mem_zip hq).2
    exact SeqAt.eqAt_reads q.2 d A s q.1 u cs as rq ra (SeqAt.canLay_of_shaped sq) (SeqAt.canLay_of_shaped hd) (SeqAt.room_of_shaped sq hu)
  have left : ∀ y ∈ us, ∃ q ∈ us.zip ds, q.1 = y := fun y hy => by
    obtain ⟨i, hi, e⟩ := List.mem_iff_getElem.mp hy
    exact ⟨(us[i], ds[i]'(by omega)), List.mem_iff_getElem.mpr ⟨i, by rw [List.length_zip]; omega, by rw [List.getElem_zip]⟩, e⟩
  have right : ∀ z ∈ ds, ∃ q ∈ us.zip ds, q.2 = z := fun y hy => by
    obtain ⟨i, hi, e⟩ := List.mem_iff_getElem.mp hy
    exact ⟨(us[i]'(by omega), ds[i]), List.mem_iff_getElem.mpr ⟨i, by rw [List.length_zip]; omega, by rw [List.getElem_zip]⟩, e⟩
  refine ⟨fun y => decide (∃ q ∈ us.zip ds, q.1 = y ∧ PyData.eqv q.2 d = true), fun y hy => ?_, ?_⟩
  · by_cases h : ∃ q ∈ us.zip ds, q.1 = y ∧ PyData.eqv q.2 d = true
    · obtain ⟨q, h1, h2, h3⟩ := id h
      dsimp only
      rw [decide_eq_true h, ← h3, ← h2]
      exact at_ q h1
    · obtain ⟨q, h1, h2⟩ := left y hy
      have h3 : PyData.eqv q.2 d = false := by
        cases e : PyData.eqv q.2 d with
        | false => rfl
        | true => exact absurd ⟨q, h1, h2, e⟩ h
      dsimp only
      rw [decide_eq_false h, ← h3, ← h2]
      exact at_ q h1
  · rw [Bool.eq_iff_iff, List.any_eq_true, List.any_eq_true]
    constructor
    · rintro ⟨y, _, h⟩
      obtain ⟨q, h1, _, h3⟩ := of_decide_eq_true h
      exact ⟨q.2, (List.of_mem_zip h1).2, h3⟩
    · rintro ⟨z, hz, h⟩
      obtain ⟨q, h1, rfl⟩ := right z hz
      exact ⟨q.1, (List.of_mem_zip h1).1, decide_eq_true ⟨q, h1, rfl, h⟩⟩
section
variable {X : Cx}
theorem op_inN (hu : X.A.units + 65 < cLine) : OpR X (compareOp .In) (rInN X.K false) := by
  intro pins s σ H x y v u Q I rx ry h
  obtain ⟨d, p, xs, ds, hd, rfl, hq, hds, sd, sds, q⟩ := h
  cases ry
  obtain ⟨its, r, pl, hz⟩ := I.list hq
  obtain ⟨as, ra⟩ := Dp.reads I d x v hd rx
  obtain ⟨bs, rb⟩ := Dp.readsAll I ds xs its hds r
  obtain ⟨e, h1, h2⟩ := in_pick (A := X.A.in1) (by show X.A.units + 1 + 64 < _; omega) ra rb sd sds
  refine SeqAt.in_listAt e pl.isList (fun w hw => h1 w (by simpa using hw)) ⟨.bl _, H, I, rfl, ?_⟩
  rw [show its.toArray.any e = its.any e by simp, h2]
  exact q
theorem op_notInN (hu : X.A.units + 65 < cLine) : OpR X (compareOp .NotIn) (rInN X.K true) := by
  intro pins s σ H x y v u Q I rx ry h
  obtain ⟨d, p, xs, ds, hd, rfl, hq, hds, sd, sds, q⟩ := h
  cases ry
  obtain ⟨its, r, pl, hz⟩ := I.list hq
  obtain ⟨as, ra⟩ := Dp.reads I d x v hd rx
  obtain ⟨bs, rb⟩ := Dp.readsAll I ds xs its hds r
  obtain ⟨e, h1, h2⟩ := in_pick (A := X.A.in1) (by show X.A.units + 1 + 64 < _; omega) ra rb sd sds
  refine SeqAt.notIn_listAt e pl.isList (fun w hw => h1 w (by simpa using hw)) ⟨.bl _, H, I, rfl, ?_⟩
  rw [show its.toArray.any e = its.any e by simp, h2]
  exact q
end
def inN (x y : D) : Option Bool := match y with
  | .lst ds => if (okD 60 x && ds.all (okD 60)) = true then some (ds.any fun d => same d x) else none
  | _ => none
theorem reps_dp {K : PySem.W.Frag} {H : Hp} {O : Own} : ∀ {vs : List V} {ds : List D}, Reps K H (lin O) vs ds → ds.all (okD 60) = true → DpAll K H vs (ds.map toPy)
  | [], [], .nil, _ => .nil
  | v :: vs, d :: ds, .cons a b, h => by
    rw [List.all_cons, Bool.and_eq_true] at h
    exact .cons (Rep.dp 60 h.1 (.inl a)) (reps_dp b h.2)
theorem inN_of {K : PySem.W.Frag} {H : Hp} {O : Own} {u w : V} {x y : D} {k : Bool} (v1 : Vw K H O u x) (v2 : Vw K H O w y) (e : inN x y = some k) :
    ∃ d p xs ds, Dp K H u d ∧ w = .ref p ∧ SqL K H p xs ∧ DpAll K H xs ds ∧ SeqAt.shaped d = true ∧ ds.all SeqAt.shaped = true ∧ (ds.any fun e => PyData.eqv e d) = k := by
  unfold inN at e
  split at e
  · rename_i ds
    split at e
    · rename_i h
      rw [Bool.and_eq_true] at h
      cases e
      obtain ⟨a, vs, rfl, s, r⟩ := v2.lst
      have up : ∀ d, okD 60 d = true → okD 60 d = true := fun d h => h
      refine ⟨toPy x, a, vs, ds.map toPy, Rep.dp 60 h.1 v1, rfl, s, reps_dp r h.2, ok_shaped (up _ h.1), ?_, ?_⟩
      · rw [List.all_map, List.all_eq_true]
        intro d hd
        exact ok_shaped (up _ (List.all_eq_true.mp h.2 d hd))
      · rw [List.any_map]
        have : ∀ l : List D, l.all (okD 60) = true → (l.any ((fun e => PyData.eqv e (toPy x)) ∘ toPy)) = l.any fun d => same d x := by
          intro l
          induction l with
          | nil => intro _; rfl
          | cons d l ih =>
            intro hl
            rw [List.all_cons, Bool.and_eq_true] at hl
            rw [List.any_cons, List.any_cons, ih hl.2]
            show (PyData.eqv (toPy d) (toPy x) || _) = _
            rw [same_eqv 60 60 d x hl.1 h.1]
        exact this ds h.2
    · cases e
  · cases e
def inB (x y : D) : Option Bool := (inA x y).or (inN x y)
def notInB (x y : D) : Option Bool := (inB x y).map not
abbrev rInB (K : PySem.W.Frag) : R2 := fun x y H Q => (rIn K false x y H Q ∨ rInS x y H Q) ∨ rInN K false x y H Q
abbrev rNotInB (K : PySem.W.Frag) : R2 := fun x y H Q => (rIn K true x y H Q ∨ rNotInS x y H Q) ∨ rInN K true x y H Q
theorem op_inB {X : Cx} {k : Nat} (hr : Room k X.A) : OpR X (compareOp .In) (rInB X.K) := OpR.or op_inA (op_inN (by have := hr.un; omega))
theorem op_notInB {X : Cx} {k : Nat} (hr : Room k X.A) : OpR X (compareOp .NotIn) (rNotInB X.K) := OpR.or op_notInA (op_notInN (by have := hr.un; omega))
theorem cs_inB {K : PySem.W.Frag} : CmpS K (rInB K) inB := fun a b H x y k O Q v1 v2 e q => by
  unfold inB at e
  cases h : inA x y with
  | some j =>
    rw [h] at e
    cases e
    exact .inl (cs_inA a b H x y k O Q v1 v2 h q)
  | none =>
    rw [h] at e
    obtain ⟨d, p, xs, ds, e1, e2, e3, e4, e5, e6, e7⟩ := inN_of v1 v2 (show inN x y = some k from e)
    exact .inr ⟨d, p, xs, ds, e1, e2, e3, e4, e5, e6, by rw [e7]; exact q⟩
theorem cs_notInB {K : PySem.W.Frag} : CmpS K (rNotInB K) notInB := fun a b H x y k O Q v1 v2 e q => by
  obtain ⟨k', e1, e0⟩ := Option.map_eq_some_iff.mp e
  unfold inB at e1
  cases h : inA x y with
  | some j =>
    rw [h] at e1
    cases e1
    exact .inl (cs_notInA a b H x y k O Q v1 v2 (by unfold notInA; rw [h]; exact congrArg some e0) q)
  | none =>
    rw [h] at e1
    obtain ⟨d, p, xs, ds, e2, e3, e4, e5, e6, e7, e8⟩ := inN_of v1 v2 (show inN x y = some k' from e1)
    refine .inr ⟨d, p, xs, ds, e2, e3, e4, e5, e6, e7, ?_⟩
    rw [e8, if_pos rfl, e0]
    exact q
section
variable {B : Bool → Prop}
/-- a number in a list of numbers -/
theorem in_ints (k : Int) (ns : List Int) : inD (.con (.int k)) (.lst (ns.map fun n => D.con (.int n))) = some (decide (k ∈ ns)) := by
  have e : ∀ ns : List Int, flatDs (ns.map fun n => D.con (.int n)) = some (ns.map V.int) := by
    intro ns
    induction ns with
    | nil => rfl
    | cons a r ih =>
      rw [List.map_cons]
      unfold flatDs
      rw [show flatD (D.con (.int a)) = some (V.int a) from rfl, ih]
      rfl
  unfold inD
  dsimp only
  rw [show flatD (D.con (.int k)) = some (V.int k) from rfl, e]
  dsimp only
  congr 1
  induction ns with
  | nil => rfl
  | cons a r ih =>
    show (_ || _) = _
    have ih : ((r.map V.int).any fun y => eqV y (V.int k)) = decide (k ∈ r) := ih
    rw [ih, Bool.eq_iff_iff]
    show (a == k || decide (k ∈ r)) = true ↔ _
    simp only [Bool.or_eq_true, beq_iff_eq, decide_eq_true_eq, List.mem_cons]
    constructor
    · rintro (h | h)
      · exact .inl h.symm
      · exact .inr h
    · rintro (h | h)
      · exact .inl h.symm
      · exact .inr h
end
end L2.VL
end
section
set_option Elab.async false
set_option linter.all false
set_option maxRecDepth 100000
set_option maxHeartbeats 2000000
namespace L2.VL
open PySem PySem.Spec PyProof.Rows L2
section
variable {G : Fix} {O : Own} {σ : St} {H : Hp} {ρ : Rho} {T : List Tmp}
/-- a new object that the data do not show -/
theorem Rel.freshX {p : Addr} {ho : HO} (R : Rel G O σ H ρ T) (hp : H p = none) : Rel G O σ (upd H p ho) ρ T := by
  have ne : ∀ {a : Addr} {o : HO}, H a = some o → a ≠ p := fun e z => by rw [z, hp] at e; cases e
  have hs : Stay H (upd H p ho) (lin O) (lin O) := fun a o n e => ⟨by rw [upd_ne (ne e)]; exact e, n⟩
  refine ⟨R.len, fun b o e => ?_, R.ot, fun a w e => ?_, R.pn, fun i s e => ?_, ?_⟩
  · obtain ⟨h1, h2⟩ := R.fr b o e
    rw [upd_ne (ne h1)]; exact ⟨h1, h2⟩
  · exact (R.tr a w e).fresh hp
  · obtain ⟨v, h1, h2⟩ := R.sl i s e
    refine ⟨v, h1, slot_mono hs (fun a o e1 e2 => ?_) h2⟩
    rw [upd_ne (ne e2)]; exact ⟨e1, e2⟩
  · refine tmps_mono hs (fun a o n _ e1 e2 => ?_) R.tm
    rw [upd_ne (ne e2)]; exact ⟨e1, e2⟩
/-- a slot of which nothing is said -/
theorem Rel.setN {i : Nat} {v : Option V} (R : Rel G O σ H ρ []) (hi : ρ[i]? = some none) : Rel G O (σ.set i v) H ρ [] := by
  refine ⟨by rw [List.length_set]; exact R.len, R.fr, R.ot, R.tr, fun j u e => ?_, fun j s e => ?_, trivial⟩
  · obtain ⟨h1, s, h2, h3⟩ := R.pn j u e
    have hj : j ≠ i := fun z => by rw [z, hi] at h2; cases h2
    exact ⟨by rw [List.getElem?_set_ne (Ne.symm hj)]; exact h1, s, h2, h3⟩
  · have hj : j ≠ i := fun z => by rw [z, hi] at e; cases e
    obtain ⟨u, h1, h2⟩ := R.sl j s e
    exact ⟨u, by rw [List.getElem?_set_ne (Ne.symm hj)]; exact h1, h2⟩
end
def dRaise (x : Exn) : DS := fun ρ => .ex x ρ
/-- what the written part says of an own class without own __init__ -/
structure ExcT (K : PySem.W.Frag) (mg : Str → Option Value) (x : Str) : Prop where
  g : mg x = some (.ref (He.ga K x))
  q : PySem.W.excIn K (He.ga K x) He.veBase "ValueError.__new__" = true
  k : PySem.W.keepIn K (.ref (He.ga K x)) = true
  b : PySem.W.subIn K (.ref (He.ga K x)) (.type "BaseException") = some true
  ty : PySem.W.typeIn K (.ref (He.ga K x)) = some (.type "type")
theorem ss_raise0 {X : Cx} {pj : VK → VK} {x m : Str} {j : Nat} {p p2 pos pos' : Pos} (hx : CxG X) (t : ExcT X.K X.mg x) (hg : Gl X x := by rfl) (hdb : (x == ("__debug__" : Str)) = false := by decide) :
    SSf pj X (.Raise (some (.Call (.Name x p) [.Constant (.str m) j p2] [] pos)) none pos') (dRaise ⟨x, none⟩) := fun W tk =>
  PS.imp (ps_raise hx.calm tk (pmk_own PySem.F.excBase_ValueError t.q t.g t.k (raises_own t.b t.ty) hg hdb)) fun D σ H ⟨G, O, ρ, hK, R, h⟩ => by
    have h : EXs G W ⟨x, none⟩ ρ := h
    have := h σ O H none R rfl
    rw [hK] at this
    exact this
def dTry (i : Nat) (tab : List (Str × Bool)) (b : DS) (u : Exn → DS) : DS := fun ρ => match b ρ with
  | .stuck => .stuck
  | .ok f ρ' => .ok f ρ'
  | .ex x ρ' => match tab.lookup x.c, ρ'[i]? with
    | some true, some none => u x ρ'
    | some false, _ => .ex x ρ'
    | _, _ => .stuck
theorem CxG.tr {X : Cx} (c : CxG X) {pn : List (Addr × Obj)} {xe : Value → Shared → Prop} (h : PassesOwn (model X.prog X.w) X.A X.env xe) : CxG (X.tr pn xe) := ⟨c.calm, c.nd, h, c.gu⟩
theorem FnCx.tr {X : Cx} {k : Nat} (c : FnCx X k) {pn : List (Addr × Obj)} {xe : Value → Shared → Prop} (h : PassesOwn (model X.prog X.w) X.A X.env xe) : FnCx (X.tr pn xe) k := ⟨c.g.tr h, c.room⟩
end L2.VL
end
section
set_option Elab.async false
set_option linter.all false
set_option maxRecDepth 100000
namespace L2.VL
open PySem PySem.Spec PyProof.Rows L2
def oexB (K : PySem.W.Frag) (C : Addr) : Bool := match K.lookup C with
  | some ⟨.type "type", _, .cls cd, sl⟩ => (match cd.mro, sl.toList with
    | .ref C' :: bm, [_, _, _, _, some (.builtin n), _] => C' == C && n == "ValueError.__new__" && !cd.hasDel && cd.hasDict && PySem.HandSPX.refsVE bm
    | _, _ => false)
  | _ => false
inductive Fc where
  | rk (x : Str)
  | ini (x f : Str)
  /-- isinstance may ask its instances; the answer for an own class, for a built-in one -/
  | kx (x : Str)
  | ko (x t : Str) (b : Bool)
  | kb (x : Str) (t : String) (b : Bool)
def valB (r : Option PySem.W.CFound) (v : Value) : Bool := match r with
  | some (.val u) => u == v
  | _ => false
def Fc.ok (K : PySem.W.Frag) : Fc → Bool
  | .rk x => He.eqO (PySem.W.specialIn K (.ref (He.ga K x)) "__getattribute__") (some (some (.builtin "type.__getattribute__"))) && (PySem.W.readsIn K (He.ga K x) (.type "type") && valB (PySem.W.findCls K (.ref (He.ga K x)) (.type "type") "__init__") (.builtin "ValueError.__init__"))
  | .ini x f => oexB K (He.ga K x) && (He.eqO (PySem.W.findIn K (.ref (He.ga K x)) "__setattr__") (some (some (.builtin "object.__setattr__"))) && (decide (PySem.W.subIn K (.ref (He.ga K x)) (.type "BaseException") = some true) && (decide (PySem.W.typeIn K (.ref (He.ga K x)) = some (.type "type")) && (PySem.W.keepIn K (.ref (He.ga K x)) &&
      (He.eqO (PySem.W.findIn K (.ref (He.ga K x)) "__init__") (some (some (.ref (He.ma K (He.ga K x) "__init__")))) && (decide (PySem.W.typeIn K (.ref (He.ma K (He.ga K x) "__init__")) = some (.type "function")) && (He.eqO (PySem.W.findIn K (.ref (He.ga K x)) f) (some none) && xfB K (He.ga K x))))))))
  | .kx x => (PySem.W.clsIn K (He.ga K x)).isSome && (He.eqO (PySem.W.findIn K (.ref (He.ga K x)) "__getattribute__") (some (some (.builtin "BaseException.__getattribute__"))) && (He.eqO (PySem.W.findIn K (.ref (He.ga K x)) "__getattr__") (some none) && (decide (PySem.W.subIn K (.ref (He.ga K x)) (.type "BaseException") = some true) &&
      (He.eqO (PySem.W.findIn K (.ref (He.ga K x)) "__class__") (some (some (.builtin "object.__class__"))) && (He.eqO (PySem.W.specialIn K (.builtin "object.__class__") "__get__") (some (some (.builtin "getset_descriptor.__get__"))) && (decide (PySem.W.takesIn K (.builtin "object.__class__") = some true) && decide (PySem.W.mroIn K (He.ga K x) (.type "object") = some true)))))))
  | .ko x t b => decide (PySem.W.kitOne K (.ref (He.ga K x)) (.ref (He.ga K t)) = some b)
  | .kb x t b => decide (PySem.W.kitOne K (.ref (He.ga K x)) (.type t) = some b)
/-- what the written part says of the class x, whose instances isinstance asks -/
structure KiT (K : PySem.W.Frag) (x : Str) : Prop where
  cl : (PySem.W.clsIn K (He.ga K x)).isSome = true
  hg : PySem.W.findIn K (.ref (He.ga K x)) "__getattribute__" = some (some (.builtin "BaseException.__getattribute__"))
  hk : PySem.W.findIn K (.ref (He.ga K x)) "__getattr__" = some none
  hs : PySem.W.subIn K (.ref (He.ga K x)) (.type "BaseException") = some true
  ha : PySem.W.findIn K (.ref (He.ga K x)) "__class__" = some (some (.builtin "object.__class__"))
  hn : PySem.W.specialIn K (.builtin "object.__class__") "__get__" = some (some (.builtin "getset_descriptor.__get__"))
  ht : PySem.W.takesIn K (.builtin "object.__class__") = some true
  hm : PySem.W.mroIn K (He.ga K x) (.type "object") = some true
theorem kx_ok {K : PySem.W.Frag} {x : Str} (h : (Fc.kx x).ok K = true) : KiT K x := by
  obtain ⟨h1, h⟩ := He.ba h
  obtain ⟨h2, h⟩ := He.ba h
  obtain ⟨h3, h⟩ := He.ba h
  obtain ⟨h4, h⟩ := He.ba h
  obtain ⟨h5, h⟩ := He.ba h
  obtain ⟨h6, h⟩ := He.ba h
  obtain ⟨h7, h8⟩ := He.ba h
  exact ⟨h1, He.eqO_ok h2, He.eqO_ok h3, of_decide_eq_true h4, He.eqO_ok h5, He.eqO_ok h6, of_decide_eq_true h7, of_decide_eq_true h8⟩
theorem ko_ok {K : PySem.W.Frag} {x t : Str} {b : Bool} (h : (Fc.ko x t b).ok K = true) : PySem.W.kitOne K (.ref (He.ga K x)) (.ref (He.ga K t)) = some b := of_decide_eq_true h
theorem kb_ok {K : PySem.W.Frag} {x : Str} {t : String} {b : Bool} (h : (Fc.kb x t b).ok K = true) : PySem.W.kitOne K (.ref (He.ga K x)) (.type t) = some b := of_decide_eq_true h
section
variable {K : PySem.W.Frag} {mg : Str → Option Value} {x f qual : Str} {st : Stmt}
theorem exct_ok (g : mg x = some (.ref (He.ga K x))) (h : (He.Fa.exc x).ok K = true) : ExcT K mg x := by
  obtain ⟨h1, h2, h3, h4⟩ := He.exc_ok h
  exact ⟨g, h1, h2, h3, h4⟩
end
theorem fc_at {fc : List Fc} {K : PySem.W.Frag} (h : (fc.all fun f => f.ok K) = true) (i : Nat) {f : Fc} (e : fc[i]? = some f := by rfl) : f.ok K = true := List.all_eq_true.mp h f (List.mem_of_getElem? e)
end L2.VL
end
section
set_option Elab.async false
set_option linter.all false
set_option maxRecDepth 100000
namespace L2.VL
open PySem PySem.Spec PyProof.Rows L2
def isCon : D → Bool
  | .con _ => true
  | _ => false
theorem conL_map {α : Type} (f : α → V) : ∀ as : List α, (as.map fun a => D.con (f a)).all isCon = true
  | [] => rfl
  | _ :: as => by rw [List.map_cons, List.all_cons, conL_map f as]; rfl
theorem reps_con {K : PySem.W.Frag} {H H' : Hp} {L L' : Addr → Prop} : ∀ {vs : List V} {ds : List D}, ds.all isCon = true → Reps K H L vs ds → Reps K H' L' vs ds
  | [], [], _, .nil => .nil
  | v :: vs, d :: ds, h, .cons a b => by
    rw [List.all_cons, Bool.and_eq_true] at h
    cases d with
    | con c => rw [a.con_inv]; exact .cons (.con c) (reps_con h.2 b)
    | lst _ => cases h.1
    | tup _ => cases h.1
    | dic _ => cases h.1
    | dit _ => cases h.1
    | own _ => cases h.1
    | exv _ => cases h.1
    | fnv _ _ _ => cases h.1
def dLnd (r : DE) : DE := fun ρ => match r (ρ.map lent) with
  | .ok (.lst ds, .fr) _ => if ds.all isCon = true then .ok (.lst ds, .fr) ρ else .stuck
  | _ => .stuck
theorem Rel.unlendL {G : Fix} {O O' : Own} {σ : St} {H H' : Hp} {ρ ρ' : Rho} {v : V} {ds : List D} (R : Rel G O σ H ρ []) (R' : Rel (frzT G.K H G.Pin) O' σ H' ρ' [⟨v, .lst ds, .fr⟩]) (hc : ds.all isCon = true) : ∃ O2, Rel G O2 σ H' ρ [⟨v, .lst ds, .fr⟩] := by
  obtain ⟨up, tt⟩ := R.frzUp R'
  have ow : Owned G.K H' O' (.tp 0) v (.lst ds) := OwnX.flat (show OwnX _ _ _ _ _ _ from R'.tm.1)
  obtain ⟨a, ho, rfl, h1, h2, c⟩ := ow
  have ha : H a = none := by
    cases e : H a with
    | none => rfl
    | some o =>
      have nt : G.Tb a = none := by
        cases et : G.Tb a with
        | none => rfl
        | some q =>
          have y := (R'.ot a).mpr (show (tbk G.K a).isSome = true by rw [show tbk G.K a = some q from et]; rfl)
          rw [h1] at y; cases y
      rw [(R.frzUpT R' nt e).2] at h1
      cases h1
  have oa : O a = none := R.lout a ha
  have ne : ∀ {b : Addr} {o : HO}, H b = some o → b ≠ a := fun e z => by rw [z, ha] at e; cases e
  have st : Stay H H' (lin O) (lin (oset O a (some (.tp 0)))) := fun b o n e => ⟨up b o (fun z => n (by unfold lin; rw [z]; simp)) e, by
    unfold lin at n ⊢
    rw [oset_ne (ne e)]; exact n⟩
  refine ⟨oset O a (some (.tp 0)), R.len, fun b o e => ?_, fun b => ?_, fun b w e => ?_, R.pn, fun i s e => ?_, .inl ⟨a, ho, rfl, oset_eq rfl, h2, ?_⟩, trivial⟩
  · obtain ⟨p, q⟩ := R.fr b o e
    rw [oset_ne (ne p)]
    exact ⟨(R.frzUpT R' (tb_none e) p).1, q⟩
  · by_cases z : b = a
    · rw [oset_eq z]
      constructor
      · intro y; cases y
      · intro y
        have := (R.ot b).mpr y
        rw [z, oa] at this; cases this
    · rw [oset_ne z]; exact R.ot b
  · by_cases z : b = a
    · refine ⟨⟨ho, by rw [z]; exact h2⟩, fun q hq => ?_⟩
      have := tb_out R hq
      rw [z, oa] at this; cases this
    · rw [oset_ne z] at e
      exact tt b w e
  · obtain ⟨u, p, q⟩ := R.sl i s e
    refine ⟨u, p, slot_mono st (fun b o e1 e2 => ⟨?_, up b o (by rw [e1]; simp) e2⟩) q⟩
    rw [oset_ne (ne e2)]; exact e1
  · cases c with
    | lst r => exact .lst (reps_con hc r)
theorem se_lnd {X : Cx} {e : Expr} {r : DE} (h : SE X e r) : SE X e (dLnd r) := fun W tk => PE.imp (h W tk) fun σ H Q ⟨G, O, ρ, hK, R, h⟩ => by
  refine ⟨(frzT G.K H G.Pin), _, _, hK, R.lend, ?_⟩
  unfold dLnd at h
  cases q : r (ρ.map lent) with
  | stuck => rw [q] at h; exact h.elim
  | ex x ρ' => rw [q] at h; exact h.elim
  | ok x ρ' =>
    rw [q] at h
    obtain ⟨d, k⟩ := x
    cases d with
    | lst ds =>
      cases k with
      | fr =>
        dsimp only at h
        by_cases hc : ds.all isCon = true
        · rw [if_pos hc] at h
          intro O1 v H1 R1
          obtain ⟨O2, R2⟩ := R.unlendL R1 hc
          exact h O2 v H1 R2
        · rw [if_neg hc] at h
          exact h.elim
      | shr => exact h.elim
      | nm i => exact h.elim
    | con _ => exact h.elim
    | tup _ => exact h.elim
    | dic _ => exact h.elim
    | dit _ => exact h.elim
    | own _ => exact h.elim
    | exv _ => exact h.elim
    | fnv _ _ _ => exact h.elim
end L2.VL
end
section
set_option Elab.async false
set_option linter.all false
set_option maxRecDepth 100000
set_option maxHeartbeats 2000000
namespace L2.VL
open PySem PySem.Spec PyProof.Rows L2 PySem.W
end L2.VL
end
section
set_option Elab.async false
set_option linter.all false
set_option maxRecDepth 100000
set_option maxHeartbeats 2000000
namespace L2.VL
open PySem PySem.Spec PyProof.Rows L2
def putD (kvs : List (Key × D)) (k : Key) (d : D) : List (Key × D) :=
  if (kvs.any fun kv => decide (kv.1 = k)) = true then kvs.map (fun kv => if kv.1 = k then (kv.1, d) else kv) else kvs ++ [(k, d)]
theorem RepK.any {K : PySem.W.Frag} {H : Hp} {L : Addr → Prop} {k : Key} : ∀ {vs : List (Key × V)} {ds : List (Key × D)}, RepK K H L vs ds → (vs.any fun kv => decide (kv.1 = k)) = ds.any fun kv => decide (kv.1 = k)
  | _, _, .nil => rfl
  | _, _, .cons _ rs => by rw [List.any_cons, List.any_cons, RepK.any rs]
theorem RepK.mapK {K : PySem.W.Frag} {H : Hp} {L : Addr → Prop} {k : Key} {v : V} {d : D} (r : Rep K H L v d) : ∀ {vs : List (Key × V)} {ds : List (Key × D)}, RepK K H L vs ds → RepK K H L (vs.map fun kv => if kv.1 = k then (kv.1, v) else kv) (ds.map fun kv => if kv.1 = k then (kv.1, d) else kv)
  | _, _, .nil => .nil
  | (a, _) :: _, _, .cons r0 rs => by
    rw [List.map_cons, List.map_cons]
    by_cases q : a = k
    · rw [if_pos q, if_pos q]
      exact .cons r (RepK.mapK r rs)
    · rw [if_neg q, if_neg q]
      exact .cons r0 (RepK.mapK r rs)
theorem RepK.snoc {K : PySem.W.Frag} {H : Hp} {L : Addr → Prop} {k : Key} {v : V} {d : D} (r : Rep K H L v d) : ∀ {vs : List (Key × V)} {ds : List (Key × D)}, RepK K H L vs ds → RepK K H L (vs ++ [(k, v)]) (ds ++ [(k, d)])
  | _, _, .nil => .cons r .nil
  | _, _, .cons r0 rs => .cons r0 (RepK.snoc r rs)
theorem RepK.put {K : PySem.W.Frag} {H : Hp} {L : Addr → Prop} {k : Key} {v : V} {d : D} (r : Rep K H L v d) {vs : List (Key × V)} {ds : List (Key × D)} (rs : RepK K H L vs ds) : RepK K H L (putK vs k v) (putD ds k d) := by
  unfold putK putD
  rw [RepK.any rs]
  split
  · exact RepK.mapK r rs
  · exact RepK.snoc r rs
theorem RepK.len {K : PySem.W.Frag} {H : Hp} {L : Addr → Prop} : ∀ {vs : List (Key × V)} {ds : List (Key × D)}, RepK K H L vs ds → vs.length = ds.length
  | _, _, .nil => rfl
  | _, _, .cons _ rs => congrArg Nat.succ (RepK.len rs)
end L2.VL
end
section
set_option Elab.async false
set_option linter.all false
set_option maxRecDepth 100000
namespace L2.VL
open PySem PySem.Spec PyProof.Rows L2
end L2.VL
end
section
set_option Elab.async false
set_option linter.all false
set_option maxRecDepth 100000
namespace L2.VL
open PySem PySem.Spec PyProof.Rows L2
theorem lookup_mem {tab : List (Str × Bool)} {c : Str} {bb : Bool} (h : tab.lookup c = some bb) : (c, bb) ∈ tab := by
  induction tab with
  | nil => cases h
  | cons p l ih =>
    obtain ⟨g, k⟩ := p
    by_cases y : (c == g) = true
    · simp [List.lookup, y] at h
      have : c = g := by simpa using y
      rw [this, h]
      exact List.mem_cons_self
    · have y : (c == g) = false := by simpa using y
      simp [List.lookup, y] at h
      exact List.mem_cons_of_mem _ (ih h)
section
variable {X : Cx} {a b : Expr} {ra rb : DE} {pos : Pos}
theorem ss_parC {pj : VK → VK} (i j : Nat) (bi bj : Bool) {x y : Str} {px py pt : Pos} {kt k2 : Nat} {pt2 : Pos} (hx : CxG X) (ha : SE X a ra) (hb : SE X b rb) (hi : X.N[i]? = some x := by rfl) (hj : X.N[j]? = some y := by rfl) (hij : i ≠ j := by decide)
    (hlx : Loc X.env.scope x := by first | exact Or.inl rfl | exact Or.inr rfl) (hly : Loc X.env.scope y := by first | exact Or.inl rfl | exact Or.inr rfl)
    (hfx : X.fn x = true ∨ X.env.scope.names.lookup x = some .local := by first | exact .inl rfl | exact .inr rfl) (hfy : X.fn y = true ∨ X.env.scope.names.lookup y = some .local := by first | exact .inl rfl | exact .inr rfl)
    (he1 : starEach [a, b] X.env = (false, eval a X.env) :: starEach [b] X.env := by rfl) (he2 : starEach [b] X.env = (false, eval b X.env) :: starEach [] X.env := by rfl)
    (hw : swappedStores [.Tuple [.Name x px, .Name y py] kt pt] (.Tuple [a, b] k2 pt2) X.env = pure none := by rfl)
    (hs : swapsWithSole [.Tuple [.Name x px, .Name y py] kt pt] (.Tuple [a, b] k2 pt2) pos.line X.env = pure false := by rfl)
    (hz1 : (assignEach [.Name x px, .Name y py] X.env).map (·.2) = assign (.Name x px) X.env :: (assignEach [.Name y py] X.env).map (·.2) := by rfl) (hz2 : (assignEach [.Name y py] X.env).map (·.2) = assign (.Name y py) X.env :: (assignEach [] X.env).map (·.2) := by rfl)
    (hn2 : (assignEach [.Name x px, .Name y py] X.env).length = 2 := by rfl) (hst : (assignEach [.Name x px, .Name y py] X.env).findIdx? (·.1) = none := by rfl)
    (h1 : (assignEach [.Tuple [.Name x px, .Name y py] kt pt] X.env).map (·.2) = [assign (.Tuple [.Name x px, .Name y py] kt pt) X.env] := by rfl) :
    SSf pj X (.Assign [.Tuple [.Name x px, .Name y py] kt pt] (.Tuple [a, b] k2 pt2) pos) (dPar i j bi bj ra rb) := fun W tk =>
  PS.imp (ps_asg (pe_tup (sa_cons (b := bi) ha (sa_cons (b := bj) hb sa_nil he2) he1 W tk)) (pg_tup hx.calm (pgs_cons (pg_name hx.nd hi hlx hfx) (pgs_cons (pg_name hx.nd hj hly hfy) pgs_nil hz2) hz1) hn2 hst) hs hw h1) fun D σ H ⟨G, O, ρ, hK, R, h⟩ => by
    refine ⟨G, O, ρ, [], hK, R, Res.post_mono ((post_bind _ _).mp h) (fun xs ρ1 q O1 vs H1 hl R1 => ?_) fun x ρ' q => q σ⟩
    split at q
    · rename_i z w
      match vs, hl with
      | [v, u], _ =>
        refine ⟨by show 2 ≤ sizeLine; decide, fun p hp => ⟨p, [v, u], rfl, .inl (.inl upd_same), rfl, v, [u], rfl, u, [], rfl, rfl, ?_⟩⟩
        obtain ⟨_, e1, q2⟩ := (post_opt _).mp ((post_bind _ _).mp q)
        have R2 : Rel G O1 σ (upd H1 p (.tup [v, u])) ρ1 [⟨u, w.1, w.2⟩, ⟨v, z.1, z.2⟩] := Rel.freshX (show Rel G O1 σ H1 ρ1 [⟨u, w.1, w.2⟩, ⟨v, z.1, z.2⟩] from R1) hp
        have hn : NoNm [⟨v, z.1, z.2⟩] := NoNm.nil.cons fun i e => by
          unfold nonm at e1
          have e' : z.2 = .nm i := e
          rw [e'] at e1
          cases e1
        obtain ⟨O3, ρ3, R3, q3⟩ := put_post hn R2 ((post_bind _ _).mp q2)
        obtain ⟨O4, ρ4, R4, q4⟩ := put_post .nil R3 ((post_bind _ _).mp q3)
        refine q4 O4 _ _ ?_
        rw [List.set_comm _ _ hij]
        exact R4
    · exact q.elim
end
end L2.VL
end
section
set_option Elab.async false
set_option linter.all false
set_option maxRecDepth 100000
namespace L2.VL
open PySem PySem.Spec PyProof.Rows L2
def rngM (i : Int) (n : Nat) : List D := (List.range n).map fun (k : Nat) => D.int (i - k)
def rng3 (ds : List D) : Option (List D) := match ds with
  | [.con (.int i), .con (.int j), .con (.int c)] => if small62 i && small62 j && decide (c = -1) then some (rngM i (i - j).toNat) else none
  | _ => none
theorem walk_rngM {K : PySem.W.Frag} {lo : Int} {n : Nat} {T : List Tmp} : WalkOk K T (Itc lo (-1) n) (rngM lo n) := fun G O σ H ρ i T' hK R => by
  have hl : (rngM lo n).length = n := by unfold rngM; simp
  refine ⟨fun hi => (by rw [hl] at hi; exact hi), fun hi => (by rw [hl] at hi; exact hi), fun x hx v H' y => ?_⟩
  obtain ⟨rfl, rfl⟩ := y
  unfold rngM at hx
  rw [List.getElem?_map] at hx
  cases q : (List.range n)[i]? with
  | none => rw [q] at hx; cases hx
  | some k =>
    rw [q] at hx
    cases hx
    obtain ⟨h1, h2⟩ := List.getElem?_eq_some_iff.mp q
    simp at h2
    subst h2
    rw [show lo + (i : Int) * -1 = lo - i by omega]
    exact ⟨O, R.con _⟩
theorem si_rng3 {X : Cx} {tg e e2 e3 : Expr} {p pos : Pos} {l : List (Bool × DE)} (hm : X.mg "range" = none) (ha : SA X [e, e2, e3] l) (hg : Gl X "range" := by rfl) (hs : starEach [e, e2, e3] X.env = (false, eval e X.env) :: starEach [e2, e3] X.env := by rfl)
    (hpl : (backTo pos (starEach [e2, e3] X.env)).any (·.1) = false := by rfl) : SI X tg (.Call (.Name "range" p) [e, e2, e3] [] pos) (iRng rng3 l) := fun W tk =>
  PI.imp (pi_range3 hg hm (ha W tk) hs hpl) fun σ H Q ⟨G, O, ρ, hK, R, h⟩ => ⟨G, O, ρ, [], hK, R, Res.post_ok ((post_bind _ _).mp h) fun xs ρ1 q O1 vs H1 hl R1 => by
    obtain ⟨ds, e1, q2⟩ := post_curs.mp ((post_bind _ _).mp q)
    obtain ⟨z, e2, q3⟩ := (post_opt _).mp q2
    have v1 := pushC_vws hl R1 e1
    unfold rng3 at e2
    split at e2
    · rename_i i j c
      obtain ⟨v, u, w', rfl, w, w2, w3⟩ := v1.three
      split at e2
      · rename_i hj
        cases e2
        rw [Bool.and_eq_true, Bool.and_eq_true] at hj
        have b := small62_of hj.1.1
        have c' := small62_of hj.1.2
        have hc : c = -1 := of_decide_eq_true hj.2
        subst hc
        exact ⟨i, j, -1, (i - j).toNat, by rw [w.con, w2.con, w3.con], RgC.neg b.1 b.2 c'.1 c'.2, q3 O1 H1 _ [] .nil (pushC_pop R1) walk_rngM⟩
      · cases e2
    · cases e2⟩
end L2.VL
end
section
set_option Elab.async false
set_option linter.all false
set_option maxRecDepth 100000
namespace L2.VL
open PySem PySem.Spec PyProof.Rows L2
def optAll {α β : Type} (f : α → Option β) : List α → Option (List β)
  | [] => some []
  | x :: xs => match f x with
    | some y => (optAll f xs).map (y :: ·)
    | none => none
theorem optAll_cons {α β : Type} {f : α → Option β} {x : α} {xs : List α} {zs : List β} (h : optAll f (x :: xs) = some zs) : ∃ y ys, f x = some y ∧ optAll f xs = some ys ∧ zs = y :: ys := by
  unfold optAll at h
  split at h
  · rename_i y e
    obtain ⟨ys, e2, rfl⟩ := Option.map_eq_some_iff.mp h
    exact ⟨y, ys, e, e2, rfl⟩
  · cases h
def keyPy : Key → PyData
  | .inl i => .int i
  | .inr x => .str x
def entPy (f : D → Option PyData) (e : Key × D) : Option (PyData × PyData) := (f e.2).map fun y => (keyPy e.1, y)
/-- data as plain Python data, at most n deep -/
def toPyN : Nat → D → Option PyData
  | _, .con .non => some .none
  | _, .con (.bl b) => some (.bool b)
  | _, .con (.int i) => some (.int i)
  | _, .con (.str x) => some (.str x)
  | n + 1, .lst ds => (optAll (toPyN n) ds).map .list
  | n + 1, .tup ds => (optAll (toPyN n) ds).map .tuple
  | n + 1, .dic kvs => (optAll (entPy (toPyN n)) kvs).map .dict
  | _, _ => none
def Shw (P : Program) (w : World) (h : Heap) (u : Value) (p : PyData) : Prop := (∃ as, Reads h u p as) ∧ ∃ bs, ReadAtMost h p.depth bs ∧ ReprK P w bs h p.depth u p.shown
def ShwA (P : Program) (w : World) (h : Heap) (us : List Value) (ps : List PyData) : Prop := (∃ as, ReadsAll h us ps as) ∧ ∃ bs, ReadAtMost h (PyData.depthAll ps) bs ∧ ReprAllK P w bs h (PyData.depthAll ps) us (PyData.shownAll ps)
section
variable {P : Program} {w : World} {h : Heap} {u : Value} {us : List Value} {p : PyData} {ps : List PyData}
theorem ShwA.nil : ShwA P w h [] [] := ⟨⟨[], .nil⟩, [], (fun _ z => nomatch z), by simp only [PyData.shownAll]; exact .nil⟩
theorem ShwA.cons (h1 : Shw P w h u p) (h2 : ShwA P w h us ps) : ShwA P w h (u :: us) (p :: ps) := by
  obtain ⟨⟨as, r⟩, bs, m, k⟩ := h1
  obtain ⟨⟨as2, r2⟩, bs2, m2, k2⟩ := h2
  refine ⟨⟨_, .cons r r2⟩, bs ++ bs2, ?_, ?_⟩
  · simp only [PyData.depthAll]
    exact (m.mono (Nat.le_max_left _ _)).append (m2.mono (Nat.le_max_right _ _))
  · simp only [PyData.depthAll, PyData.shownAll]
    exact .cons ((k.more fun b z => List.mem_append_left _ z).level_le (Nat.le_max_left _ _)) (k2.more_le (fun b z => List.mem_append_right _ z) (Nat.le_max_right _ _))
theorem shw_list {a : Addr} {o : Obj} {its : List Value} {n : Nat} (g : h.get? a = some o) (c : o.cls = .type "list") (d : o.data = .seq its.toArray n) (A : ShwA P w h its ps) : Shw P w h (.ref a) (.list ps) := by
  obtain ⟨⟨as, r⟩, bs, m, k⟩ := A
  have rd : Reads h (.ref a) (.list ps) (a :: as) := .list g c d (by simpa using r)
  have far : a ∉ bs := not_mem_of_deeper rd (by simp only [PyData.depth]; omega) m
  refine ⟨⟨_, rd⟩, a :: bs, ReadAtMost.cons rd (by simp only [PyData.depth]; omega) m, ?_⟩
  simp only [PyData.depth, PyData.shown]
  cases its with
  | nil =>
    cases r
    simp only [PyData.shownAll, listText_nil]
    exact ReprK.listEmpty g c d
  | cons x l => exact ReprK.list g c d far (by simpa using k.length_eq) fun i y e => k.item i y (by simpa using e)
theorem shw_tuple {a : Addr} {o : Obj} {its : List Value} {n : Nat} (g : h.get? a = some o) (c : o.cls = .type "tuple") (d : o.data = .seq its.toArray n) (A : ShwA P w h its ps) : Shw P w h (.ref a) (.tuple ps) := by
  obtain ⟨⟨as, r⟩, bs, m, k⟩ := A
  have rd : Reads h (.ref a) (.tuple ps) as := .tuple g c d (by simpa using r)
  have far : a ∉ bs := not_mem_of_deeper rd (by simp only [PyData.depth]; omega) m
  refine ⟨⟨_, rd⟩, a :: bs, ReadAtMost.cons rd (by simp only [PyData.depth]; omega) m, ?_⟩
  simp only [PyData.depth, PyData.shown]
  exact ReprK.tuple g c d far (by simpa using k)
theorem shw_key {k : Key} (e : keyIs k u = true) (hs : (keyPy k).showable = true) (hz : (keyPy k).shown.length ≤ sizeLine) : Shw P w h u (keyPy k) := by
  rcases keyIs_shape e with ⟨i, t, rfl, rfl⟩ | ⟨x, t, rfl, rfl⟩
  · refine ⟨⟨[], .int i t⟩, [], (fun _ z => nomatch z), ?_⟩
    show ReprK P w [] h _ _ (PyData.shown (.int i))
    simp only [PyData.shown]
    exact .of_is (ReprIs.int t (by simpa [PyData.showable, keyPy] using hs)) _ _ _
  · refine ⟨⟨[], .str x t⟩, [], (fun _ z => nomatch z), ?_⟩
    show ReprK P w [] h _ _ (PyData.shown (.str x))
    simp only [PyData.shown]
    exact .of_is (ReprIs.str x t (by simpa only [PyData.shown, keyPy] using hz)) _ _ _
theorem shw_dict {a : Addr} {o : Obj} {es : Array DictEntry} {n : Nat} {kvs : List (PyData × PyData)} (g : h.get? a = some o) (c : o.cls = .type "dict") (d : o.data = .dict es n) (low : (a == sysModules) = false) (K : ShwA P w h (es.toList.map (·.key)) (kvs.map (·.1))) (V : ShwA P w h (es.toList.map (·.val)) (kvs.map (·.2))) :
    Shw P w h (.ref a) (.dict kvs) := by
  obtain ⟨⟨as, r⟩, bs, m, k⟩ := K
  obtain ⟨⟨as2, r2⟩, bs2, m2, k2⟩ := V
  have rd : Reads h (.ref a) (.dict kvs) _ := .dict g c d r r2
  have mm : ReadAtMost h (PyData.depthKv kvs) (bs ++ bs2) := (m.mono (PyData.depthAll_keys_le kvs)).append (m2.mono (PyData.depthAll_vals_le kvs))
  have far : a ∉ bs ++ bs2 := not_mem_of_deeper rd (by simp only [PyData.depth]; omega) mm
  refine ⟨⟨_, rd⟩, a :: (bs ++ bs2), ReadAtMost.cons rd (by simp only [PyData.depth]; omega) mm, ?_⟩
  simp only [PyData.depth, PyData.shown, PyData.shownKv_eq]
  exact ReprK.dict g c d low far (ReprEntriesK.of_two es.toList _ _ (k.more_le (fun b z => List.mem_append_left _ z) (PyData.depthAll_keys_le kvs)) (k2.more_le (fun b z => List.mem_append_right _ z) (PyData.depthAll_vals_le kvs)))
end
section
variable {X : Cx} {pins : List (Addr × Obj)} {σ : St} {H : Hp} {s : Shared} {O : Own}
theorem shw_all (f : D → Option PyData) (ih : ∀ v d u p, Vw X.K H O v d → RelV v u → f d = some p → p.showable = true → p.shown.length ≤ sizeLine → Shw X.prog X.w s.heap u p) :
    ∀ {vs : List V} {ds : List D} {us : List Value} {ps : List PyData}, Reps X.K H (lin O) vs ds → Vals vs us → optAll f ds = some ps → PyData.showableAll ps = true → (∀ t ∈ PyData.shownAll ps, t.length ≤ sizeLine) → ShwA X.prog X.w s.heap us ps
  | _, _, _, _, .nil, .nil, e, _, _ => by cases e; exact .nil
  | _, _, _, _, .cons r rs, .cons v vs, e, hs, hz => by
    obtain ⟨p, ps, e1, e2, rfl⟩ := optAll_cons e
    simp only [PyData.showableAll, Bool.and_eq_true] at hs
    simp only [PyData.shownAll, List.mem_cons, forall_eq_or_imp] at hz
    exact .cons (ih _ _ _ _ (.inl r) v e1 hs.1 hz.1) (shw_all f ih rs vs e2 hs.2 hz.2)
theorem shw_ents (f : D → Option PyData) (ih : ∀ v d u p, Vw X.K H O v d → RelV v u → f d = some p → p.showable = true → p.shown.length ≤ sizeLine → Shw X.prog X.w s.heap u p) :
    ∀ {vs : List (Key × V)} {ds : List (Key × D)} {us : List (Key × Value)} {es : List DictEntry} {ps : List (PyData × PyData)}, RepK X.K H (lin O) vs ds → KV vs us → Pairs (mixKind X.prog X.w) es us → optAll (entPy f) ds = some ps → PyData.showableKv ps = true →
      (∀ t ∈ PyData.shownKv ps, t.length ≤ sizeLine) → ShwA X.prog X.w s.heap (es.map (·.key)) (ps.map (·.1)) ∧ ShwA X.prog X.w s.heap (es.map (·.val)) (ps.map (·.2))
  | _, _, _, _, _, .nil, .nil, .nil, e, _, _ => by cases e; exact ⟨.nil, .nil⟩
  | _, _, _, _, _, .cons r rs, .cons v vs, .cons k q es, e, hs, hz => by
    obtain ⟨p, ps, e1, e2, rfl⟩ := optAll_cons e
    obtain ⟨y, e3, rfl⟩ := Option.map_eq_some_iff.mp e1
    simp only [PyData.showableKv, Bool.and_eq_true] at hs
    simp only [PyData.shownKv, List.mem_cons, forall_eq_or_imp, strLen_append] at hz
    obtain ⟨A, B⟩ := shw_ents f ih rs vs es e2 hs.2 hz.2
    have hz1 := hz.1
    obtain ⟨v1, v2⟩ := v
    rw [← v1] at k
    dsimp only at k q v2 e3 hs hz ⊢
    rw [← q] at v2
    exact ⟨.cons (shw_key k hs.1.1 (by omega)) A, .cons (ih _ _ _ _ (.inl r) v2 e3 hs.1.2 (by show y.shown.length ≤ _; omega)) B⟩
theorem shw_of (I : Inv X pins σ H s) : ∀ (n : Nat) (v : V) (d : D) (u : Value) (p : PyData), Vw X.K H O v d → RelV v u → toPyN n d = some p → p.showable = true → p.shown.length ≤ sizeLine → Shw X.prog X.w s.heap u p := by
  have plain : ∀ (c : V) (v : V) (u : Value) (p : PyData), Vw X.K H O v (.con c) → RelV v u → toPyN 0 (.con c) = some p → p.showable = true → p.shown.length ≤ sizeLine → Shw X.prog X.w s.heap u p := by
    intro c v u p vw rv e hs hz
    have ev := vw.con
    subst ev
    cases v <;> try (cases e; done)
    case non => cases e; cases (show u = Value.none from rv); exact ⟨⟨[], .none⟩, [], (fun _ z => nomatch z), by simp only [PyData.shown]; exact .of_is ReprIs.none _ _ _⟩
    case bl b => cases e; cases (show u = Value.bool b from rv); exact ⟨⟨[], .bool b⟩, [], (fun _ z => nomatch z), by simp only [PyData.shown]; exact .of_is (ReprIs.bool b) _ _ _⟩
    case int i => cases e; obtain ⟨t, rfl⟩ := rv; exact ⟨⟨[], .int i t⟩, [], (fun _ z => nomatch z), by simp only [PyData.shown]; exact .of_is (ReprIs.int t (by simpa [PyData.showable] using hs)) _ _ _⟩
    case str x => cases e; obtain ⟨t, rfl⟩ := rv; exact ⟨⟨[], .str x t⟩, [], (fun _ z => nomatch z), by simp only [PyData.shown]; exact .of_is (ReprIs.str x t (by simpa only [PyData.shown] using hz)) _ _ _⟩
  intro n
  induction n with
  | zero =>
    intro v d u p vw rv e hs hz
    cases d with
    | con c => exact plain c v u p vw rv e hs hz
    | _ => cases e
  | succ n ih =>
    intro v d u p vw rv e hs hz
    cases d with
    | con c => exact plain c v u p vw rv (by cases c <;> exact e) hs hz
    | dit _ => cases e
    | own _ => cases e
    | exv _ => cases e
    | fnv _ _ _ => cases e
    | lst ds =>
      obtain ⟨ps, e1, rfl⟩ := Option.map_eq_some_iff.mp e
      obtain ⟨a, vs, rfl, sq, rp⟩ := vw.lst
      cases (show u = Value.ref a from rv)
      obtain ⟨its, vals, ⟨o, k, g, c, _, dt⟩, _⟩ := I.list sq
      exact shw_list g c dt (shw_all (toPyN n) ih rp vals e1 (by simpa [PyData.showable] using hs) fun t m => Nat.le_trans (listText_mem_le m) (by simpa only [PyData.shown] using hz))
    | tup ds =>
      obtain ⟨ps, e1, rfl⟩ := Option.map_eq_some_iff.mp e
      obtain ⟨a, vs, rfl, sq, rp⟩ := vw.tup
      cases (show u = Value.ref a from rv)
      obtain ⟨its, vals, tupO, _⟩ := I.tuple sq
      obtain ⟨o, g, c, k, dt⟩ := tupO
      exact shw_tuple g c dt (shw_all (toPyN n) ih rp vals e1 (by simpa [PyData.showable] using hs) fun t m => Nat.le_trans (tupleText_mem_le m) (by simpa only [PyData.shown] using hz))
    | dic ds =>
      obtain ⟨ps, e1, rfl⟩ := Option.map_eq_some_iff.mp e
      have : ∃ a vs, v = .ref a ∧ Rd H a (.dK vs) ∧ RepK X.K H (lin O) vs ds := by
        rcases vw with r | ⟨a, ho, ev, g, c⟩ | ⟨_, _, _, z⟩
        · cases r with
          | obj n r c => cases c with | dic c => exact ⟨_, _, rfl, r, c⟩
        · cases c with | dic c => exact ⟨a, _, ev, .inl g, c⟩
        · cases z
      obtain ⟨a, vs, rfl, rd, rp⟩ := this
      cases (show u = Value.ref a from rv)
      obtain ⟨_, low, us, kv, o, es, k, g, c, dt, _, prs, _⟩ := dk_rd I.hok rd
      obtain ⟨A, B⟩ := shw_ents (toPyN n) ih rp kv prs e1 (by simpa [PyData.showable] using hs) fun t m => Nat.le_trans (dictText_mem_le m) (by simpa only [PyData.shown] using hz)
      exact shw_dict g c.1 dt low A B
/-- repr(e) -/
def rRepr (K : PySem.W.Frag) : List V → Hp → VK → Prop := fun xs H Q => ∃ v O d p, xs = [v] ∧ Vw K H O v d ∧ toPyN 60 d = some p ∧ p.showable = true ∧ p.shown.length ≤ sizeLine ∧ p.depth ≤ 100 ∧ (∀ kvs, p ≠ .dict kvs) ∧ Q (.str p.shown) H
theorem cr_repG {X : Cx} (gu : X.A.guards = some []) (room : Room 0 X.A) : CallR X (.builtin "repr") (rRepr X.K) := by
  intro pins s σ H xs us Q I r h
  obtain ⟨v, O, d, p, rfl, vw, e, hs, hz, dp, nd, q⟩ := h
  cases r with
  | cons r0 rr =>
    cases rr
    rename_i u
    have fin : ∀ (h' : Heap) (t tk : Nat), (∀ b o, s.heap.get? b = some o → h'.get? b = some o) → EP X pins σ Q (.str p.shown t) { s with heap := h', toks := tk } := fun h' t tk kp => ⟨.str p.shown, H, I.kept kp, ⟨t, rfl⟩, q⟩
    have un := room.un
    cases d with
    | dit _ => cases e
    | own _ => cases e
    | exv _ => cases e
    | fnv _ _ _ => cases e
    | dic ds =>
      obtain ⟨ps, _, rfl⟩ := Option.map_eq_some_iff.mp e
      exact absurd rfl (nd _)
    | con c =>
      have ev := vw.con
      subst ev
      cases v <;> try (cases e; done)
      case non => cases e; cases (show u = Value.none from r0); simp only [PyData.shown] at fin; exact PySem.P.repr_of_none (fin _ _ _ fun _ _ z => z)
      case bl b => cases e; cases (show u = Value.bool b from r0); simp only [PyData.shown] at fin; exact PySem.P.repr_of_bool (fin _ _ _ fun _ _ z => z)
      case int i => cases e; obtain ⟨t, rfl⟩ := r0; simp only [PyData.shown] at fin; exact PySem.P.repr_of_int (by simpa [PyData.showable] using hs) (fin _ _ _ fun _ _ z => z)
      case str x => cases e; obtain ⟨t, rfl⟩ := r0; simp only [PyData.shown] at fin hz; exact PySem.P.repr_of_str (fin _ _ _ fun _ _ z => z) hz
    | lst ds =>
      obtain ⟨ps, e1, rfl⟩ := Option.map_eq_some_iff.mp e
      obtain ⟨a, vs, rfl, sq, rp⟩ := vw.lst
      cases (show u = Value.ref a from r0)
      obtain ⟨its, vals, ⟨o, k, g, c, _, dt⟩, _⟩ := I.list sq
      obtain ⟨⟨as, rd⟩, bs, m, al⟩ := shw_all (toPyN 59) (shw_of I 59) rp vals e1 (by simpa [PyData.showable] using hs) fun t m => Nat.le_trans (listText_mem_le m) (by simpa only [PyData.shown] using hz)
      have far : a ∉ bs := not_mem_of_deeper (Reads.list g c dt (by simpa using rd)) (by simp only [PyData.depth]; omega) m
      simp only [PyData.depth] at dp
      simp only [PyData.shown] at fin hz
      refine call_repr_slot (by omega) ⟨o, g, c⟩ F.slot_list_repr.toG ?_
      cases its with
      | nil =>
        cases rd
        simp only [PyData.shownAll, listText_nil] at fin
        exact call_list_repr_empty ⟨o, g, c⟩ g dt ⟨_, _, rfl, fin _ _ _ fun _ _ z => z⟩
      | cons x l => exact call_list_reprK g c dt far (by simpa using al.length_eq) (fun i y e => al.item i y (by simpa using e)) gu (fun b _ => Clear.nil b) (by show X.A.units + 1 + _ < _; omega) (fun _ _ z => z) (fun h' t tk kp => ⟨_, _, rfl, fin h' t tk kp⟩) hz
    | tup ds =>
      obtain ⟨ps, e1, rfl⟩ := Option.map_eq_some_iff.mp e
      obtain ⟨a, vs, rfl, sq, rp⟩ := vw.tup
      cases (show u = Value.ref a from r0)
      obtain ⟨its, vals, tupO, _⟩ := I.tuple sq
      obtain ⟨o, g, c, k, dt⟩ := tupO
      obtain ⟨⟨as, rd⟩, bs, m, al⟩ := shw_all (toPyN 59) (shw_of I 59) rp vals e1 (by simpa [PyData.showable] using hs) fun t m => Nat.le_trans (tupleText_mem_le m) (by simpa only [PyData.shown] using hz)
      have far : a ∉ bs := not_mem_of_deeper (Reads.tuple g c dt (by simpa using rd)) (by simp only [PyData.depth]; omega) m
      simp only [PyData.depth] at dp
      simp only [PyData.shown] at fin hz
      exact call_repr_slot (by omega) ⟨o, g, c⟩ F.slot_tuple_repr (call_tuple_reprK g c dt far (by simpa using al) gu (fun b _ => Clear.nil b) (by show X.A.units + 1 + _ < _; omega) (fun _ _ z => z) (fun h' t tk kp => ⟨_, _, rfl, fin h' t tk kp⟩) hz)
def isDic : PyData → Bool
  | .dict _ => true
  | _ => false
/-- the text of data, where there is one -/
def reprOf (d : D) : Option Str := match toPyN 60 d with
  | some p => if p.showable = true ∧ p.shown.length ≤ sizeLine ∧ p.depth ≤ 100 ∧ isDic p = false then some p.shown else none
  | none => none
def reprGD (ds : List D) : Option (D × Kd) := match ds with
  | [d] => (reprOf d).map fun t => (.con (.str t), .shr)
  | _ => none
theorem os_repG {K : PySem.W.Frag} : OpS K (rRepr K) reprGD := fun G O σ H ρ vs ds z Q hK R w e q => by
  unfold reprGD at e
  split at e
  · obtain ⟨t, e1, e2⟩ := Option.map_eq_some_iff.mp e
    subst e2
    obtain ⟨u, rfl, v1⟩ := w.one
    unfold reprOf at e1
    split at e1
    · rename_i p ep
      split at e1
      · rename_i hl
        cases e1
        exact ⟨_, O, _, p, rfl, hK ▸ v1, ep, hl.1, hl.2.1, hl.2.2.1, fun kvs z => by (have := hl.2.2.2; rw [z] at this; cases this), q O _ H (R.con _)⟩
      · cases e1
    · cases e1
  · cases e
end
end L2.VL
end
section
set_option Elab.async false
set_option linter.all false
set_option maxRecDepth 100000
namespace L2.VL
open PySem PySem.Spec PyProof.Rows L2
end L2.VL
end
section
set_option Elab.async false
set_option linter.all false
set_option maxRecDepth 100000
namespace L2.VL
open PySem PySem.Spec PyProof.Rows L2
end L2.VL
end
section
set_option Elab.async false
set_option linter.all false
set_option maxRecDepth 100000
namespace L2.VL
open PySem PySem.Spec PyProof.Rows L2
def SET (X : Cx) (e : Expr) (r : DE) : Prop := ∀ W, Takes X W → PET X e (tE X.K W r)
def SST (X : Cx) (st : Stmt) (r : DS) : Prop := ∀ W, Takes X W → PST X st fun D => tS X.K W r (D.re id)
def SSsT (X : Cx) (st : List Stmt) (r : DS) : Prop := ∀ W, Takes X W → PSsT X st fun D => tS X.K W r (D.re id)
section
variable {X : Cx} {e o : Expr} {st : Stmt} {sts : List Stmt} {r ro : DE} {sa sb : DS} {pos : Pos}
theorem PET.imp {t t' : TE} (h : PET X e t) (i : ∀ σ H Q, t' σ H Q → t σ H Q) : PET X e t' := fun pins s σ H Q h0 I q => h pins s σ H Q h0 I (i σ H Q q)
theorem PST.imp {t t' : TS} (h : PST X st t) (i : ∀ D σ H, t' D σ H → t D σ H) : PST X st t' := fun pins s σ H D h0 I q => h pins s σ H D h0 I (i D σ H q)
theorem PSsT.imp {t t' : TS} (h : PSsT X sts t) (i : ∀ D σ H, t' D σ H → t D σ H) : PSsT X sts t' := fun pins s σ H D h0 I q => h pins s σ H D h0 I (i D σ H q)
theorem sst_of (h : SS X st sa) : SST X st sa := fun W tk => PST.of (h W tk)
theorem ssst_of (h : SSs X sts sa) : SSsT X sts sa := fun W tk => PSsT.of (h W tk)
theorem sst_cons (h1 : SST X st sa) (h2 : SSsT X sts sb) : SSsT X (st :: sts) (dSeq sa sb) := fun W tk => PSsT.imp (psst_cons (h1 W tk) (h2 W tk)) fun D σ H ⟨G, O, ρ, hK, R, h⟩ =>
  ⟨G, O, ρ, hK, R, Res.post_ok ((post_bind _ _).mp h) fun f ρ1 q => by
    cases f with
    | nx => exact fun O' σ' H' R' => ⟨G, O', ρ1, hK, R', q⟩
    | brk => exact q
    | cnt => exact q
    | ret d b => exact q⟩
theorem sst_one (h1 : SST X st sa) : SSsT X [st] sa := fun W tk => by
  have := psst_cons (h1 W tk) (PSsT.of (X := X) pss_nil)
  exact PSsT.imp this fun D σ H ⟨G, O, ρ, hK, R, h⟩ => ⟨G, O, ρ, hK, R, Res.post_mono h (fun f ρ1 q => by
    cases f with
    | nx => exact q
    | brk => exact q
    | cnt => exact q
    | ret d b => exact q) fun x ρ1 q => q⟩
def replV (y z : Str) (d : D) : Option D := match d with
  | .con (.str x) => if x.length + (x.length + 1) * z.length ≤ 16777216 then some (.con (.str (Txt.replace x y z))) else none
  | _ => none
def dRep (y z : Str) (r : DE) : DE := do
  let x ← r
  let d ← dcur x
  let u ← mOpt (replV y z d)
  pure (u, .shr)
theorem set_repl {y z : Str} {j k : Nat} {c0 c1 apos : Pos} (ho : SE X o ro) (hyz : (y == z) = false := by decide)
    (hst : starEach [.Constant (.str y) j c0, .Constant (.str z) k c1] X.env = [(false, eval (.Constant (.str y) j c0) X.env), (false, eval (.Constant (.str z) k c1) X.env)] := by rfl)
    (hbase : attributeBase o "replace" X.env (eval o X.env) = eval o X.env := by rfl) (hline : (apos.endLine == pos.line) = true := by rfl) :
    SET X (.Call (.Attribute o "replace" apos) [.Constant (.str y) j c0, .Constant (.str z) k c1] [] pos) (dRep y z ro) := fun W tk =>
  PET.imp (CwR.pet_replC (ho W tk) hyz hst hbase hline) fun σ H Q ⟨G, O, ρ, hK, R, h⟩ => by
    refine tE.at hK R (Res.post_ok ((post_bind _ _).mp h) fun y ρ1 q O1 v H1 R1 => ?_)
    obtain ⟨d, e1, q2⟩ := post_cur.mp ((post_bind _ _).mp q)
    obtain ⟨u, e2, q3⟩ := (post_opt _).mp ((post_bind _ _).mp q2)
    have v1 := R1.view R1.tm.1 e1
    unfold replV at e2
    split at e2
    · split at e2
      · rename_i hb
        cases e2
        exact ⟨_, v1.con, hb, q3 O1 _ H1 (R1.pop.con _)⟩
      · cases e2
    · cases e2
/-- x = (what wants a token) -/
theorem sst_set (i : Nat) {x : Str} {pos' : Pos} (hx : CxG X) (he : SET X e r) (hi : X.N[i]? = some x := by rfl) (hl : Loc X.env.scope x := by first | exact Or.inl rfl | exact Or.inr rfl) (hs : swapsWith e (some (.Name x pos')) pos.line X.env = pure false := by rfl)
    (hf : X.fn x = true ∨ X.env.scope.names.lookup x = some .local := by first | exact .inl rfl | exact .inr rfl) : SST X (.Assign [.Name x pos'] e pos) (dSet i r) := fun W tk =>
  PST.imp (t := tAsg (tE X.K W r) (gName i)) (fun pins s σ H D h0 I h => wpAny_Assign_Name (thn (he W tk pins s σ H _ h0 I h) fun v s1 ⟨y, H1, I1, r1, q1⟩ => store_ok I1 hx.nd hi hl r1 (fun s2 I2 => ⟨_, H1, I2, q1⟩) hf) hs) fun D σ H ⟨G, O, ρ, hK, R, h⟩ =>
  ⟨G, O, ρ, hK, R, Res.post_mono ((post_bind _ _).mp h) (fun y ρ1 q O' v H' R' => by
    obtain ⟨O2, ρ2, R2, q2⟩ := put_post .nil R' ((post_bind _ _).mp q)
    exact q2 O2 _ H' R2) fun x ρ' q => q σ⟩
end
section
variable {P : Program} {w : World} {K : PySem.W.Frag} {mg : Str → Option Value} {base : Heap} {x qual : Str} {params : Arguments} {body : List Stmt} {scope : Scope} {dvs : List V} {kws : List (Str × V)} {f : Addr} {fd : FuncData}
theorem fnG_ofT {cx : CXT} {k : Nat} {sp : Sp} {N ps : List Str} (F : FunD K x qual params body scope dvs kws f fd) (S : FnScope N ps scope) (hnc : ∀ y ∈ scope.names, y.2 ≠ .cell) (hps : 1 ≤ ps.length) (len : ∀ vs H Q E, sp vs H Q E → vs.length = ps.length)
    (hb : ∀ (cdv : Value) (A : Around) (below : List Env) (s : Shared) (H : Hp) (vs : List V) (Q : VK) (E : XK), A.guards = some [] → Room k (A.deeper (envOfC qual scope s.heap.objs.size f cdv)) → sp vs H Q E →
      ∃ t, PSsT (cxOf cx P w K mg base N qual scope f cdv A below s H E) body t ∧ t { rt := Q, nx := fun _ h => Q .non h } (start N vs) H) : FnG P w K mg base cx (k + 1) f fd ps sp := by
  obtain ⟨oc, od, dV, kV, doc, pm, an, cdv, ct, osl, rfl, look, code, _⟩ := F.ex
  refine ⟨len, fun A gu room below s H e0 as us bind vs vals Q E z => ?_⟩
  have hl := len _ _ _ _ z
  have hul : us.length = ps.length := by rw [← vals.length, hl]
  have stays : ∀ b o, base.get? b = some o → s.heap.get? b = some o := fun b o e => (e0.bs b o e).1
  have inK : K.In s.heap := e0.mod.kin.keeps stays
  have lim : s.heap.NoLimit := e0.mod.nolimit.keeps stays
  have hloc : ∀ y ∈ ps.zip us, scope.names.lookup y.1 = some .local := fun ⟨n, v⟩ hy => by
    rcases S.par n (List.of_mem_zip hy).1 with q | q
    · exact q
    · exact absurd rfl (hnc _ (PySem.mem_of_lookup q))
  obtain ⟨t, walk, ends⟩ := hb cdv A below s H vs Q E gu (room.deeper _) z
  refine codeAny_call_function room.depth (inK _ _ look) rfl S.co S.gen rfl (PySem.W.codeRec_of inK code) (bind _ _ _ _ ?_)
  refine wpAny_newFunctionEnv hnc hloc (fun h1 hns hsb => ?_) S.kind
  have hz : (ps.zip us).length = ps.length := by rw [List.length_zip, hul, Nat.min_self]
  have keep : ∀ b o, s.heap.get? b = some o → h1.get? b = some o := fun b o e => hsb.extBut b o (Nat.ne_of_lt (Heap.lt_size e)) (Heap.get?_push_of_some _ e)
  have hcl : cellsFrom (s.heap.objs.size + 1) scope.names [] = [] := cells_none _ _ _ hnc
  have hkl : ∀ y ∈ ps.zip us, (envOfC qual scope s.heap.objs.size f cdv).kindOf y.1 = some .local := fun y hy => by
    first
    | exact hloc y hy
    | (simp only [Env.kindOf]; exact hloc y hy)
    | (unfold Env.kindOf; rw [if_pos S.kind]; exact hloc y hy)
    | simpa [Env.kindOf, envOfC, newEnv, S.kind] using hloc y hy
  have hm : (bindL (envOfC qual scope s.heap.objs.size f cdv).kindOf (ps.zip us) fun _ => none) = fun x => (ps.zip us).reverse.lookup x := by
    funext y
    rw [bindL_loc _ _ hkl y]
    cases (ps.zip us).reverse.lookup y <;> rfl
  have bound : InCallC s s.heap.objs.size (bindL (envOfC qual scope s.heap.objs.size f cdv).kindOf (ps.zip us) fun _ => none) (cellsFrom (s.heap.objs.size + 1) scope.names [])
      (bindC (envOfC qual scope s.heap.objs.size f cdv).kindOf (ps.zip us) fun _ => none) ({ s with heap := h1, toks := s.toks + (ps.zip us).length } : Shared) := by
    rw [hm, hcl]
    exact ⟨⟨⟨_, _, rfl⟩, hns, keep, Nat.le_refl _⟩, fun n c hc => absurd hc (by simp), .nil, fun n c hc => absurd hc (by simp)⟩
  have henv : newEnv scope s.heap.objs.size mainGlobals [] (qual ++ ".<locals>.") (some f) cdv none builtinsNs = envOfC qual scope s.heap.objs.size f cdv := by
    unfold envOfC
    rw [hcl] <;> rfl
  have hto : 1 ≤ ({ s with heap := h1, toks := s.toks + (ps.zip us).length } : Shared).toks := by
    show 1 ≤ s.toks + (ps.zip us).length
    omega
  show ({ s with heap := h1, toks := s.toks + (ps.zip us).length } : Shared).heap.NoLimit ∧ codeAny (model P w) A (.func body (newEnv scope s.heap.objs.size mainGlobals [] (qual ++ ".<locals>.") (some f) cdv none builtinsNs)) _ ({ s with heap := h1, toks := s.toks + (ps.zip us).length } : Shared)
  rw [henv]
  generalize ({ s with heap := h1, toks := s.toks + (ps.zip us).length } : Shared) = s1 at bound hto ⊢
  have first : Inv (cxOf cx P w K mg base N qual scope f cdv A below s H E) [] (start N vs) H s1 := inv_start S room.hd e0 (len _ _ _ _ z) vals bound
  refine ⟨(e0.mod.nolimit.keeps stays).keeps bound.toInCall.keep, codeAny_func (wpAny_mono (walk [] s1 (start N vs) H _ hto first ends) (fun g s2 q => ?_) fun _ _ q => q)⟩
  match g, q with
  | .ret u, ⟨v, _, h, J, r, q⟩ => exact ⟨v, h, J.os, J.bare, J.base, J.hok, r, q⟩
  | .next, ⟨_, h, J, q⟩ => exact ⟨.non, h, J.os, J.bare, J.base, J.hok, rfl, q⟩
  | .brk, ⟨_, _, _, q⟩ => exact q.elim
  | .cont, ⟨_, _, _, q⟩ => exact q.elim
end
section
variable {P : Program} {w : World} {K : PySem.W.Frag} {mg : Str → Option Value} {base : Heap} {x : Str} {st : Stmt}
/-- from the def's text to its promise: a def that wants a token -/
theorem def_okT {N ps : List Str} {k np : Nat} {r : DS} (F : FnAt K mg x st [] []) (S : FnScope N ps (defScope st)) (hn : ps.length = np)
    (hb : ∀ (kV doc pm : Value) (an : Option Addr) (cdv ct : Value) (us : List Value), us.length = ps.length → bindArgs (PySem.W.fnOf x x (defArgs st) (defBody st) (defScope st) .none kV doc pm an cdv ct) ⟨us, []⟩ = pure (ps.zip us))
    (h : ∀ (f : Addr) (cdv : Value) (A : Around) (outer : List Env) (s : Shared) (H : Hp) (E : XK), FnCx (cxOf (L2.CX P w) P w K mg base N x (defScope st) f cdv A outer s H E) k → SSsT (cxOf (L2.CX P w) P w K mg base N x (defScope st) f cdv A outer s H E) (defBody st) r)
    (hnc : ∀ y ∈ (defScope st).names, y.2 ≠ .cell := by decide +kernel) (h1 : 1 ≤ np := by decide) :
    Def P w K mg base x (k + 1) (runFn N.length r) np [] := by
  obtain ⟨f, fd, hm, F⟩ := F.ex
  subst hn
  refine ⟨f, fd, ps, [], hm, F.kp, rfl, fnG_ofT F S hnc h1 (fun vs H Q E h => h.1) (fun cdv A outer s H vs Q E gu hr hsp => ?_), F.bindsN hb, .nil⟩
  have hl : ps.length ≤ N.length := by have := congrArg List.length S.pre; rw [List.length_take] at this; omega
  have tk : Takes (cxOf (L2.CX P w) P w K mg base N x (defScope st) f cdv A outer s H E) (fun cls d _ H => E cls d H) := takes_of rfl rfl rfl rfl
  exact ⟨_, h f cdv A outer s H E ⟨⟨rfl, S.nd, passes_of rfl, gu⟩, hr⟩ _ tk, body_of hsp hl⟩
end
end L2.VL
end
section
set_option Elab.async false
set_option linter.all false
set_option maxRecDepth 100000
set_option maxHeartbeats 3200000
namespace L2.VL
open PySem PySem.Spec PyProof.Rows L2 PpSet
end L2.VL
end
section
set_option Elab.async false
set_option linter.all false
set_option maxRecDepth 100000
namespace L2.VL
open PySem PySem.Spec PyProof.Rows L2 PpSet
end L2.VL
end
section
set_option Elab.async false
set_option linter.all false
set_option maxRecDepth 100000
namespace L2.VL
open PySem PySem.Spec PyProof.Rows L2
def CPw (i j : Int) : Prop := 0 ≤ j ∧ (Builtin.Int.intBits i : Int) * j ≤ 2 ^ 27
theorem op_powW {X : Cx} : OpR X (binaryOp .Pow) (rI CPw fun i j => .int (i ^ j.toNat)) := opI fun _ _ _ _ _ _ _ hc q => pow_int hc.1 hc.2 q
def CPwB (i j : Int) : Bool := decide (0 ≤ j) && (decide (j ≤ 1000) && decide (i.natAbs < 2 ^ 200))
theorem CPwB_of {i j : Int} (h : CPwB i j = true) : CPw i j := by
  unfold CPwB at h
  simp only [Bool.and_eq_true, decide_eq_true_eq] at h
  refine ⟨h.1, ?_⟩
  have hb : Builtin.Int.intBits i ≤ 200 := intBits_le h.2.2
  have h1 : (Builtin.Int.intBits i : Int) * j ≤ 200 * j := Int.mul_le_mul_of_nonneg_right (by omega) h.1
  omega
def powW := gIb CPwB fun i j => .int (i ^ j.toNat)
theorem os_powW {K : PySem.W.Frag} : OpS2 K (rI CPw fun i j => .int (i ^ j.toNat)) powW := os_Ib fun _ _ => CPwB_of
end L2.VL
end
section
set_option Elab.async false
set_option linter.all false
set_option maxRecDepth 100000
namespace L2.VL
open PySem PySem.Spec PyProof.Rows L2
/-- behind e a token is out -/
def PE1 (X : Cx) (e : Expr) (t : TE) : Prop := ∀ (pins : List (Addr × Obj)) (s : Shared) (σ : St) (H : Hp) (Q : VK), Inv X pins σ H s → t σ H Q → wpAny (model X.prog X.w) X.A (eval e X.env) (fun v s' => 1 ≤ s'.toks ∧ EP X pins σ Q v s') X.xe s
def SE1 (X : Cx) (e : Expr) (r : DE) : Prop := ∀ W, Takes X W → PE1 X e (tE X.K W r)
section
variable {X : Cx} {o e : Expr} {es : List Expr} {to te : TE} {ta : TA} {ro : DE} {cpos apos pos : Pos}
theorem PE1.imp {t t' : TE} (h : PE1 X e t) (i : ∀ σ H Q, t' σ H Q → t σ H Q) : PE1 X e t' := fun pins s σ H Q I q => h pins s σ H Q I (i σ H Q q)
theorem pe1_str {x : Str} {j : Nat} : PE1 X (.Constant (.str x) j pos) (tC (.str x)) := fun pins s σ H Q I h => Calls.Constant_str ⟨by show 1 ≤ s.toks + 1; omega, .str x, H, I.tok _, ⟨s.toks, rfl⟩, h⟩
theorem se1_str {x : Str} {j : Nat} : SE1 X (.Constant (.str x) j pos) (dCon (.str x)) := fun W tk => PE1.imp pe1_str fun σ H Q ⟨G, O, ρ, hK, R, h⟩ => h O _ H (R.con _)
theorem pe1_bm {T id : String} {name : Str} {r : V → List V → Hp → VK → Prop} (pa : PlainAttrs T) (slot : PySem.Slot T name id) (hty : typeOf (.builtin id) = pure (.type "method_descriptor")) (hm : MtR X id r) (ho : PE1 X o to) (ha : PA X (e :: es) ta)
    (hbase : attributeBase o name X.env (eval o X.env) = eval o X.env := by rfl)
    (hfew : ((backTo cpos (starEach (e :: es) X.env)).all (fun x => !x.1) && (backToKw cpos (keywordEach [] X.env)).all (fun x => x.1.isSome)
      && decide ((e :: es).length + ([] : List Keyword).length + (if ([] : List Keyword).isEmpty then 0 else 1) < 30)) = true := by rfl)
    (hline : (apos.endLine == cpos.line) = true := by rfl) (hs : starEach (e :: es) X.env = (false, eval e X.env) :: starEach es X.env := by rfl) (hplain : (backTo cpos (starEach es X.env)).any (·.1) = false := by rfl) :
    PE1 X (.Call (.Attribute o name apos) (e :: es) [] cpos) (tBM X.K T r to ta) := fun pins s σ H Q I h => by
  refine wpAny_Call_method_late hbase hfew hline rfl (thn (ho pins s σ H _ I h) fun v s1 ⟨out, x, H1, I1, r1, ty, q1⟩ => ?_)
  obtain ⟨h1, h2⟩ := tyV_is I1 r1 ty
  refine ⟨T, id, pa, slot, hty, h1, h2, ?_⟩
  have hA := ha.run cpos pins s1 σ H1 _ I1 q1
  rw [hs] at hA ⊢
  refine wpAny_mono (PySem.wpAny_toks_of out (Q := EP X pins σ Q) (E := X.xe) ?_) (fun _ _ q => q) fun _ _ q => q.2
  refine Calls.callWith_builtin (by show (false || (backTo cpos (starEach es X.env)).any (·.1)) = false; rw [hplain] <;> rfl) (Calls.evalArgs_plain ?_)
  exact thn hA fun us s2 ⟨vs, H2, I2, r2, q2⟩ => hm pins s2 σ H2 x vs v us Q I2 r1 r2 q2
theorem pe_repl1 {y z : Str} {j k : Nat} {c0 c1 : Pos} (ho : PE1 X o to) (hyz : (y == z) = false := by decide)
    (hst : starEach [.Constant (.str y) j c0, .Constant (.str z) k c1] X.env = [(false, eval (.Constant (.str y) j c0) X.env), (false, eval (.Constant (.str z) k c1) X.env)] := by rfl)
    (hbase : attributeBase o "replace" X.env (eval o X.env) = eval o X.env := by rfl) (hline : (apos.endLine == pos.line) = true := by rfl) :
    PE X (.Call (.Attribute o "replace" apos) [.Constant (.str y) j c0, .Constant (.str z) k c1] [] pos) (CwR.tReplC to y z) := ⟨fun pins s σ H Q I h => by
  refine PySem.Call_method2 hbase hst hline (thn (ho pins s σ H _ I h) fun v s1 q => ?_)
  obtain ⟨out, v', H1, I1, r1, x, rfl, few, q⟩ := q
  obtain ⟨tx, rfl⟩ := r1
  refine ⟨"str", _, PySem.F.plainAttrs_str, PySem.F.slot_str_replace, PySem.F.type_str_replace, typeIs_str _ _ _, (fun _ e => nomatch e), Calls.callWith_builtin rfl (Calls.evalArgs_plain (Calls.spliced_cons (Calls.Constant_str (Calls.spliced_cons (Calls.Constant_str (Calls.spliced_nil ?_))))))⟩
  exact PySem.SC.replace (by show s1.toks ≠ 0; omega) (by show s1.toks + 1 ≠ 0; omega) (by show s1.toks ≠ s1.toks + 1; omega) hyz few fun t' k => ⟨.str (Txt.replace x y z), H1, I1.tok k, ⟨t', rfl⟩, q⟩⟩
theorem se_rep1 {y z : Str} {j k : Nat} {c0 c1 : Pos} (ho : SE1 X o ro) (hyz : (y == z) = false := by decide)
    (hst : starEach [.Constant (.str y) j c0, .Constant (.str z) k c1] X.env = [(false, eval (.Constant (.str y) j c0) X.env), (false, eval (.Constant (.str z) k c1) X.env)] := by rfl)
    (hbase : attributeBase o "replace" X.env (eval o X.env) = eval o X.env := by rfl) (hline : (apos.endLine == pos.line) = true := by rfl) :
    SE X (.Call (.Attribute o "replace" apos) [.Constant (.str y) j c0, .Constant (.str z) k c1] [] pos) (dRep y z ro) := fun W tk =>
  PE.imp (pe_repl1 (ho W tk) hyz hst hbase hline) fun σ H Q ⟨G, O, ρ, hK, R, h⟩ => by
    refine tE.at hK R (Res.post_ok ((post_bind _ _).mp h) fun y ρ1 q O1 v H1 R1 => ?_)
    obtain ⟨d, e1, q2⟩ := post_cur.mp ((post_bind _ _).mp q)
    obtain ⟨u, e2, q3⟩ := (post_opt _).mp ((post_bind _ _).mp q2)
    have v1 := R1.view R1.tm.1 e1
    unfold replV at e2
    split at e2
    · split at e2
      · rename_i hb
        cases e2
        exact ⟨_, v1.con, hb, q3 O1 _ H1 (R1.pop.con _)⟩
      · cases e2
    · cases e2
theorem se1_mt {T id : String} {name : Str} {l : List (Bool × DE)} {rr : V → List V → Hp → VK → Prop} {ty : D → Bool} {g : D → List D → Option (D × Kd)} (pa : PlainAttrs T) (slot : PySem.Slot T name id) (hty : typeOf (.builtin id) = pure (.type "method_descriptor")) (hm : MtR X id rr)
    (hs : OpM X.K T rr ty g) (ho : SE1 X o ro) (ha : SA X (e :: es) l)
    (hbase : attributeBase o name X.env (eval o X.env) = eval o X.env := by rfl)
    (hfew : ((backTo pos (starEach (e :: es) X.env)).all (fun x => !x.1) && (backToKw pos (keywordEach [] X.env)).all (fun x => x.1.isSome)
      && decide ((e :: es).length + ([] : List Keyword).length + (if ([] : List Keyword).isEmpty then 0 else 1) < 30)) = true := by rfl)
    (hline : (apos.endLine == pos.line) = true := by rfl) (hst : starEach (e :: es) X.env = (false, eval e X.env) :: starEach es X.env := by rfl) (hplain : (backTo pos (starEach es X.env)).any (·.1) = false := by rfl) :
    SE1 X (.Call (.Attribute o name apos) (e :: es) [] pos) (dMt ty g ro l) := fun W tk =>
  PE1.imp (pe1_bm pa slot hty hm (ho W tk) (ha W tk) hbase hfew hline hst hplain) fun σ H Q ⟨G, O, ρ, hK, R, h⟩ => by
    refine tE.at hK R (Res.post_ok ((post_bind _ _).mp h) fun y ρ1 q O1 v H1 R1 => ?_)
    obtain ⟨d0, e1, q2⟩ := post_cur.mp ((post_bind _ _).mp q)
    obtain ⟨_, e2, q3⟩ := (post_opt _).mp ((post_bind _ _).mp q2)
    have v1 := R1.view R1.tm.1 e1
    rw [hK] at v1
    have ht : ty d0 = true := by
      split at e2
      · assumption
      · cases e2
    refine ⟨hs.1 _ _ _ _ v1 ht, G, O1, ρ1, _, hK, R1, Res.post_ok ((post_bind _ _).mp q3) fun xs ρ2 q4 O2 vs H2 hl R2 => ?_⟩
    obtain ⟨d, e3, q5⟩ := post_cur.mp ((post_bind _ _).mp q4)
    obtain ⟨ds, e4, q6⟩ := post_curs.mp ((post_bind _ _).mp q5)
    obtain ⟨z, e5, q7⟩ := (post_opt _).mp q6
    have R3 := pushC_pop R2
    have v2 := R3.view R3.tm.1 e3
    have w2 := pushC_vws hl R2 e4
    rw [hK] at v2 w2
    exact hs.2 G O2 σ H2 ρ2 v vs d ds z Q hK R3.nil v2 w2 e5 q7
end
end L2.VL
end
section
set_option Elab.async false
set_option linter.all false
set_option maxRecDepth 100000
namespace L2.VL
open PySem PySem.Spec PyProof.Rows L2
open PySem.W (keyToks keyToksAll dataLt minD alike alikeAll AlikeAll min_list_data reads_keeps)
/-- place by place, the shorter first -/
def lexI : List Int → List Int → Bool
  | [], [] => false
  | [], _ :: _ => true
  | _ :: _, [] => false
  | a :: r, b :: s => if a = b then lexI r s else decide (a < b)
end L2.VL
end
section
set_option Elab.async false
set_option linter.all false
set_option maxRecDepth 100000
set_option maxHeartbeats 1000000
namespace L2.VL
open PySem PySem.Spec PyProof.Rows L2
end L2.VL
end
section
set_option Elab.async false
set_option linter.all false
set_option maxRecDepth 100000
namespace L2.VL
open PySem PySem.Spec PyProof.Rows L2
section
variable {X : Cx} {e o : Expr} {st : Stmt} {sts : List Stmt} {r ro : DE} {sa sb : DS} {pos : Pos}
theorem set_replT {y z : Str} {j k : Nat} {c0 c1 apos : Pos} (ho : SET X o ro) (hyz : (y == z) = false := by decide)
    (hst : starEach [.Constant (.str y) j c0, .Constant (.str z) k c1] X.env = [(false, eval (.Constant (.str y) j c0) X.env), (false, eval (.Constant (.str z) k c1) X.env)] := by rfl)
    (hbase : attributeBase o "replace" X.env (eval o X.env) = eval o X.env := by rfl) (hline : (apos.endLine == pos.line) = true := by rfl) :
    SET X (.Call (.Attribute o "replace" apos) [.Constant (.str y) j c0, .Constant (.str z) k c1] [] pos) (dRep y z ro) := fun W tk =>
  PET.imp (CwR.pet_replT (ho W tk) hyz hst hbase hline) fun σ H Q ⟨G, O, ρ, hK, R, h⟩ => by
    refine tE.at hK R (Res.post_ok ((post_bind _ _).mp h) fun y ρ1 q O1 v H1 R1 => ?_)
    obtain ⟨d, e1, q2⟩ := post_cur.mp ((post_bind _ _).mp q)
    obtain ⟨u, e2, q3⟩ := (post_opt _).mp ((post_bind _ _).mp q2)
    have v1 := R1.view R1.tm.1 e1
    unfold replV at e2
    split at e2
    · split at e2
      · rename_i hb
        cases e2
        exact ⟨_, v1.con, hb, q3 O1 _ H1 (R1.pop.con _)⟩
      · cases e2
    · cases e2
theorem sst_if {t : Expr} {A B : List Stmt} {qa : M Bool} (ht : ST X t qa) (ha : SSsT X A sa) (hb : SSsT X B sb) : SST X (.If t A B pos) (dIf qa sa sb) := fun W tk => PST.imp (CwR.pst_if (ht W tk) (ha W tk) (hb W tk)) fun D σ H ⟨G, O, ρ, hK, R, h⟩ =>
  ⟨G, O, ρ, hK, R, Res.post_mono ((post_bind _ _).mp h) (fun b ρ1 q O1 H1 R1 => by
    cases b with
    | true => rw [if_pos rfl] at q ⊢; exact ⟨G, O1, ρ1, hK, R1, q⟩
    | false => rw [if_neg Bool.false_ne_true] at q ⊢; exact ⟨G, O1, ρ1, hK, R1, q⟩) fun x ρ' q => q σ⟩
theorem thnT {α : Type} {n : Nat} {t : Sem α} {Q Q' : α → Shared → Prop} {M : Model} {A : Around} {E : Value → Shared → Prop} {s : Shared} (h0 : n ≤ s.toks) (h : wpAny M A t Q E s) (hQ : ∀ a s', n ≤ s'.toks → Q a s' → Q' a s') : wpAny M A t Q' E s :=
  wpAny_mono (PySem.wpAny_toks h) (fun a s' q => hQ a s' (Nat.le_trans h0 q.1) q.2) fun _ _ x => x.2
theorem pst_forT {tg iter : Expr} {body : List Stmt} {wi : TI} {g : TG} {tb : TS} {pos : Pos} (hp : PassesOwn (model X.prog X.w) X.A X.env X.xe) (hc : X.calm = true) (hi : PI X tg iter wi) (hg : PG X tg g) (hb : PSsT X body tb)
    (hs : ∀ x, foldedSetIterable iter X.env x = pure x := by intro _; rfl) : PST X (.For tg iter body [] pos) (tFor wi g tb) := by
  intro pins s σ H D h0 I h
  refine wpAny_For (thnT h0 (hi.run pins s σ H _ I h) fun v s1 k1 h1 => thnT k1 h1 fun itv s2 k2 h2 => ?_) hs
  obtain ⟨it, fp, tn, J, H2, e, I2, T, st2, f2, W, ⟨m0, w0⟩, turn⟩ := h2
  subst e
  have stat : ∀ {H' : Hp}, (∀ b ∈ fp, H' b = none) → ∀ b ∈ fp, FpOk X pins H' b := fun hn b hb => ⟨hn b hb, (f2 b hb).2⟩
  refine codeAny_forLoop_any (fun n s' => 1 ≤ s'.toks ∧ ∃ i σ' H', Inv X pins σ' H' s' ∧ tn i s'.heap ∧ (∀ b ∈ fp, H' b = none) ∧ W i n σ' H') ?_ m0 ⟨k2, 0, σ, H2, I2, st2, fun b hb => (f2 b hb).1, w0⟩
  rintro n s3 ⟨k3, i, σ3, H3, I3, st3, fr3, w3⟩
  rcases turn i n σ3 H3 w3 with ⟨stop, qn⟩ | ⟨go, N, hN, step⟩
  · refine wpAny_passesOwn hp (thn (T.done X rfl rfl rfl hc i pins s3 σ3 H3 X.xe I3 (stat fr3) st3 stop) fun r s4 ⟨hr, I4⟩ => ?_)
    subst hr
    exact wpAny_execs_nil ⟨σ3, H3, I4, qn⟩
  · refine wpAny_passesOwn hp (thnT k3 (T.item X rfl rfl rfl hc i pins s3 σ3 H3 X.xe I3 (stat fr3) st3 go) fun r s4 k4 ⟨u, hr, h4⟩ => ?_)
    subst hr
    refine wpAny_passesOwn hp (thnT k4 h4 fun _ s5 k5 ⟨x, H5, I5, r5, y5, st5, fr5⟩ => ?_)
    have I5' := I5.pinned (stat fr5) (T.obj _ _ st5)
    refine wpAny_passesOwn hp (thnT k5 (hg.run _ s5 σ3 H5 x u _ I5' r5 (step x H5 y5)) fun _ s6 k6 ⟨σ6, H6, I6, q6⟩ => ?_)
    refine wpAny_passesOwn hp (thnT k6 (hb _ s6 σ6 H6 _ k6 I6 q6) fun f s7 k7 q7 => ?_)
    have again : ∀ {σ7 : St} {H7 : Hp}, Inv X (pins ++ pinsAt fp s5.heap) σ7 H7 s7 → N σ7 H7 → ∃ m, m < n ∧ 1 ≤ s7.toks ∧ ∃ i σ' H', Inv X pins σ' H' s7 ∧ tn i s7.heap ∧ (∀ b ∈ fp, H' b = none) ∧ W i m σ' H' := fun {σ7 H7} I7 n7 => by
      obtain ⟨m', hm, w7⟩ := hN σ7 H7 n7
      refine ⟨m', hm, k7, i + 1, σ7, H7, I7.unpinned, T.keep _ _ _ st5 fun b hb o e => (I7.pin (b, o) (List.mem_append_right _ (List.mem_append_right _ (mem_pinsAt hb e)))).1, fun b hb => ?_, w7⟩
      obtain ⟨o, e, d⟩ := T.obj _ _ st5 b hb
      exact (I7.pin (b, o) (List.mem_append_right _ (List.mem_append_right _ (mem_pinsAt hb e)))).2.1
    cases f with
    | next => obtain ⟨σ7, H7, I7, n7⟩ := q7; exact again I7 n7
    | cont => obtain ⟨σ7, H7, I7, n7⟩ := q7; exact again I7 n7
    | brk => obtain ⟨σ7, H7, I7, q7⟩ := q7; exact ⟨σ7, H7, I7.unpinned, q7⟩
    | ret v => obtain ⟨x7, σ7, H7, I7, r7, q7⟩ := q7; exact ⟨x7, σ7, H7, I7.unpinned, r7, q7⟩
theorem sst_for {tg iter : Expr} {body : List Stmt} {it : M (List D)} {t : Tg} {sb : DS} {pos : Pos} (hx : CxG X) (hi : SI X tg iter it) (hg : SG X tg t) (hb : SSsT X body sb)
    (hs : ∀ x, foldedSetIterable iter X.env x = pure x := by intro _; rfl) : SST X (.For tg iter body [] pos) (dFor it t sb) := fun W tk => PST.imp (pst_forT hx.pass hx.calm (hi W tk) hg (hb W tk) hs) fun D σ H ⟨G, O, ρ, hK, R, h⟩ => by
  refine ⟨G, O, ρ, hK, R, Res.post_mono ((post_bind _ _).mp h) (fun xs ρ1 q O1 H1 J T hT R1 wk => ?_) fun x ρ' q => q σ⟩
  refine ⟨fun i m σ H => m = xs.length - i ∧ i ≤ xs.length ∧ ∃ O ρ, Rel G O σ H ρ T ∧ ((forD t sb (xs.drop i)) ρ).post (FlOk G (D.re id) []) (EXs G W), ⟨xs.length, by simp, Nat.zero_le _, O1, ρ1, R1, q⟩, ?_⟩
  rintro i m σ2 H2 ⟨rfl, hi2, O2, ρ2, R2, q2⟩
  obtain ⟨w1, w2, w3⟩ := wk G O2 σ2 H2 ρ2 i [] hK R2
  by_cases hlt : i < xs.length
  · refine .inr ⟨w1 hlt, fun σ' H' => ∃ O ρ, Rel G O σ' H' ρ T ∧ ((forD t sb (xs.drop (i + 1))) ρ).post (FlOk G (D.re id) []) (EXs G W), fun σ' H' p => ⟨xs.length - (i + 1), by omega, rfl, hlt, p⟩, fun v H' y => ?_⟩
    obtain ⟨O3, R3⟩ := w3 xs[i] (List.getElem?_eq_getElem hlt) v H' y
    rw [List.drop_eq_getElem_cons hlt] at q2
    refine ⟨G, O3, ρ2, T, xs[i], hK, hT, R3, noex (fun ρ x ρ' => tg_noex ρ x ρ') ((post_bind _ _).mp q2) fun ρ3 q3 O4 σ4 H4 _ R4 => ?_⟩
    refine tS.at hT hK R4 (Res.post_ok ((post_bind _ _).mp q3) fun f ρ4 q4 => ?_)
    cases f with
    | nx => exact fun O5 σ5 H5 R5 => ⟨O5, ρ4, R5, q4⟩
    | cnt => exact fun O5 σ5 H5 R5 => ⟨O5, ρ4, R5, q4⟩
    | brk => exact fun O5 σ5 H5 R5 => q4 O5 σ5 H5 R5.nil
    | ret d b => exact fun O5 σ5 v5 H5 R5 => let ⟨O6, R6⟩ := R5.only; q4 O6 σ5 v5 H5 R6
  · have e : i = xs.length := by omega
    subst e
    rw [List.drop_length] at q2
    exact .inl ⟨w2 (Nat.le_refl _), q2 O2 σ2 H2 R2.nil⟩
theorem sst_fgB (is : List Nat) (h : SST X st sa) : SST X st (dFgB is sa) := fun W tk => PST.imp (h W tk) fun D σ H ⟨G, O, ρ, hK, R, h⟩ => ⟨G, O, forgetR ρ is, hK, R.forget is, h⟩
theorem ssst_fgE (is : List Nat) (h : SSsT X sts sa) : SSsT X sts (dFgE is sa) := fun W tk => PSsT.imp (h W tk) fun D σ H ⟨G, O, ρ, hK, R, h⟩ => ⟨G, O, ρ, hK, R, Res.post_ok ((post_bind _ _).mp h) fun f ρ1 q => by
  replace q : FlOk G (D.re id) [] f (forgetR ρ1 is) := q
  cases f with
  | nx => exact fun O' σ' H' R' => q O' σ' H' (R'.forget is)
  | brk => exact fun O' σ' H' R' => q O' σ' H' (R'.forget is)
  | cnt => exact fun O' σ' H' R' => q O' σ' H' (R'.forget is)
  | ret d b => exact fun O' σ' v H' R' => q O' σ' v H' (R'.forget is)⟩
end
end L2.VL
end
section
set_option Elab.async false
set_option linter.all false
set_option maxRecDepth 100000
namespace L2.VL
open PySem PySem.Spec PyProof.Rows
section
variable {K : PySem.W.Frag} {H H' : Hp} {O O' : Own} {w w' : Ow}
theorem Itm.at {u : V} {d : D} {b : Addr} (hs : Stay H H' (lin O) (lin O')) (h : Itm K H O w u d b) (hw : ∀ o, H b = some o → O' b = some w' ∧ H' b = some o) : Itm K H' O' w' u d b := by
  obtain ⟨h0, h⟩ := h
  have nl : ∀ c, O c = none → ¬ lin O c := fun c e z => z e
  rcases h with ⟨ho, es, he, h1, h2, h3⟩ | ⟨c, x, ho, d1, d2, h1, h2, h3, h4, h5, h6, h7⟩
  · exact ⟨(hw ho h2).1, .inl ⟨ho, es, he, h1, (hw ho h2).2, h3.mono hs⟩⟩
  · exact ⟨(hw ho h6).1, .inr ⟨c, x, ho, d1, d2, h1, h2, stay_none hs c _ h3 h4, (hs c _ (nl c h3) h4).1, h5.mono hs, (hw ho h6).2, h7.mono hs⟩⟩
theorem Itms.at (hs : Stay H H' (lin O) (lin O')) : ∀ {vs : List V} {ds : List D} {bs : List Addr}, Itms K H O w vs ds bs → (∀ b ∈ bs, ∀ o, H b = some o → O' b = some w' ∧ H' b = some o) → Itms K H' O' w' vs ds bs
  | _, _, _, .nil, _ => .nil
  | _, _, _, .cons a b, h => .cons (a.at hs (h _ List.mem_cons_self)) (Itms.at hs b fun c hc => h c (List.mem_cons_of_mem _ hc))
theorem Itms.snoc {u : V} {d : D} {b : Addr} (hi : Itm K H O w u d b) : ∀ {vs : List V} {ds : List D} {bs : List Addr}, Itms K H O w vs ds bs → Itms K H O w (vs ++ [u]) (ds ++ [d]) (bs ++ [b])
  | _, _, _, .nil => .cons hi .nil
  | _, _, _, .cons a b => .cons a (Itms.snoc hi b)
theorem Itms.len : ∀ {vs : List V} {ds : List D} {bs : List Addr}, Itms K H O w vs ds bs → vs.length = ds.length
  | _, _, _, .nil => rfl
  | _, _, _, .cons _ b => congrArg (· + 1) b.len
theorem Itms.owner : ∀ {vs : List V} {ds : List D} {bs : List Addr}, Itms K H O w vs ds bs → ∀ b ∈ bs, O b = some w
  | _, _, _, .nil, _, h => by cases h
  | _, _, _, .cons a b, c, h => by
    rcases List.mem_cons.mp h with e | e
    · rw [e]; exact a.1
    · exact b.owner c e
theorem Itms.get : ∀ {vs : List V} {ds : List D} {bs : List Addr} {j : Nat} {d : D}, Itms K H O w vs ds bs → ds[j]? = some d → ∃ u b, vs[j]? = some u ∧ bs[j]? = some b ∧ Itm K H O w u d b
  | _, _, _, _, _, .nil, e => by simp at e
  | _, _, _, 0, _, .cons a b, e => by simp at e; subst e; exact ⟨_, _, rfl, rfl, a⟩
  | _, _, _, j + 1, d, .cons a b, e => by
    obtain ⟨u, c, h1, h2, h3⟩ := Itms.get (j := j) (d := d) b (by simpa using e)
    exact ⟨u, c, by simpa using h1, by simpa using h2, h3⟩
/-- one item is written -/
theorem Itms.upd (hs : Stay H H' (lin O) (lin O)) {b : Addr} (hk : ∀ c o, c ≠ b → H c = some o → H' c = some o) : ∀ {vs : List V} {ds : List D} {bs : List Addr} {j : Nat} {u : V} {d' : D}, Itms K H O w vs ds bs → bs.Nodup → bs[j]? = some b → vs[j]? = some u → Itm K H' O w u d' b → Itms K H' O w vs (ds.set j d') bs
  | _, _, _, _, _, _, .nil, _, e, _, _ => by simp at e
  | _, _, _, 0, _, _, .cons a t, nd, e1, e2, hi => by
    simp at e1 e2
    subst e1 e2
    have nd := List.nodup_cons.mp nd
    exact .cons hi (t.at hs fun c hc o e => ⟨t.owner c hc, hk c o (fun z => nd.1 (z ▸ hc)) e⟩)
  | _, _, _, j + 1, _, _, .cons (b := b0) (bs := bs0) a t, nd, e1, e2, hi => by
    have nd := List.nodup_cons.mp nd
    have e1 : bs0[j]? = some b := by simpa using e1
    refine .cons (a.at hs fun o e => ⟨a.1, hk b0 o (fun z => nd.1 (z ▸ List.mem_of_getElem? e1)) e⟩) (Itms.upd hs hk t nd.2 e1 (by simpa using e2) hi)
end
section
variable {G : Fix} {O : Own} {σ σ' : St} {H : Hp} {ρ : Rho} {T Tx : List Tmp}
theorem deep_of {K : PySem.W.Frag} {w : Ow} {v : V} {ds : List D} (h : OwnX K H O w v (.own ds)) : DeepO K H O w v ds := by
  rcases h with ⟨_, _, _, _, _, c⟩ | ⟨ds', e, h⟩
  · cases c
  · cases e; exact h
end
end L2.VL
end
section
set_option Elab.async false
set_option linter.all false
set_option maxRecDepth 100000
namespace L2.VL
open PySem PySem.Spec PyProof.Rows
def unOwn (d : D) : Option (D × Kd) := match d with
  | .own ds => some (.lst ds, .shr)
  | _ => none
def dUn (r : DE) : DE := do
  let x ← r
  let y ← keep false x
  mOpt (unOwn y.1)
section
variable {X : Cx} {e : Expr} {r : DE} {pos : Pos}
theorem se_un (he : SE X e r) : SE X e (dUn r) := fun W tk => PE.imp (he W tk) fun σ H Q ⟨G, O, ρ, hK, R, h⟩ =>
  ⟨G, O, ρ, hK, R, Res.post_ok ((post_bind _ _).mp h) fun x ρ1 q O1 v H1 R1 => by
    obtain ⟨d, e1, q2⟩ := keep_false ((post_bind _ _).mp q)
    obtain ⟨z, e2, q3⟩ := (post_opt _).mp q2
    obtain ⟨O2, R2⟩ := R1.settle (d := d) e1
    unfold unOwn at e2
    dsimp only at e2
    split at e2
    · cases e2
      have rp : Rep G.K H1 (lin O2) v (.own _) := R2.tm.1
      cases rp with
      | obj _ _ c => cases c
      | ow rp => exact q3 O2 v H1 (R2.pop.push rp)
    · cases e2⟩
end
end L2.VL
end
section
set_option Elab.async false
set_option linter.all false
set_option maxRecDepth 100000
namespace L2.VL
open PySem PySem.Spec PyProof.Rows
section
variable {G : Fix} {O : Own} {σ : St} {H : Hp} {ρ : Rho} {T : List Tmp}
/-- one of an own list's lists is written -/
theorem Rel.witL {i j : Nat} {ds es : List D} {p : Bool} (R : Rel G O σ H ρ T) (e : ρ[i]? = some (some ⟨.own ds, true, p⟩)) (hj : ds[j]? = some (.lst es)) :
    ∃ a vs b ws, σ[i]? = some (some (.ref a)) ∧ H a = some (.lst vs) ∧ vs.length = ds.length ∧ vs[j]? = some (.ref b) ∧ O b = some (.sl i) ∧ H b = some (.lst ws) ∧ Reps G.K H (lin O) ws es ∧
      ∀ ws' es', Reps G.K H (lin O) ws' es' → Rel G O σ (upd H b (.lst ws')) (ρ.set i (some ⟨.own (ds.set j (.lst es')), true, p⟩)) T := by
  have hi : i < ρ.length := (List.getElem?_eq_some_iff.mp e).1
  obtain ⟨v, s1, s2⟩ := R.sl i _ e
  obtain ⟨a, vs, bs, rfl, h1, h2, h3, h4⟩ := deep_of (show OwnX _ _ _ _ _ _ from s2)
  obtain ⟨u, b, g1, g2, hit⟩ := h4.get hj
  have nd := List.nodup_cons.mp h3
  obtain ⟨ob, hb⟩ := hit
  rcases hb with ⟨ho, es', he, rfl, c3, c4⟩ | ⟨c, x, ho, d1', d2', he, _⟩
  · cases he
    cases c4 with
    | lst rw_ =>
      rename_i ws
      refine ⟨a, vs, b, ws, s1, h2, h4.len, g1, ob, c3, rw_, fun ws' es' rr => ?_⟩
      have hs : Stay H (upd H b (.lst ws')) (lin O) (lin O) := fun y o n eb => by
        refine ⟨?_, n⟩
        rw [upd_ne]
        · exact eb
        · intro z; exact n (by unfold lin; rw [z, ob]; simp)
      have keep : ∀ y o, y ≠ b → H y = some o → upd H b (.lst ws') y = some o := fun y o n e => by rw [upd_ne n]; exact e
      have ab : a ≠ b := fun z => nd.1 (z ▸ List.mem_of_getElem? g2)
      refine ⟨by simpa using R.len, fun y o eb => ?_, R.ot, fun y w eb => ?_, fun k u hk => ?_, fun k u hk => ?_, ?_⟩
      · obtain ⟨p1, p2⟩ := R.fr y o eb
        rw [upd_ne]
        · exact ⟨p1, p2⟩
        · intro z
          rw [z, ob] at p2
          rcases p2 with p2 | p2 <;> cases p2
      · exact (R.tr y w eb).upd c3 plain_lst
      · obtain ⟨p1, s', q1, q2⟩ := R.pn k u hk
        refine ⟨p1, ?_⟩
        by_cases z : k = i
        · subst z
          rw [e] at q1; cases q1
          exact ⟨_, List.getElem?_set_self hi, q2⟩
        · exact ⟨s', by rw [List.getElem?_set_ne (Ne.symm z)]; exact q1, q2⟩
      · by_cases z : k = i
        · subst z
          rw [List.getElem?_set_self hi] at hk
          cases hk
          refine ⟨_, s1, .inr ⟨_, rfl, a, vs, bs, rfl, h1, keep a _ ab h2, h3, ?_⟩⟩
          exact Itms.upd hs keep h4 nd.2 g2 g1 ⟨ob, .inl ⟨_, es', rfl, rfl, upd_same, .lst (rr.mono hs)⟩⟩
        · rw [List.getElem?_set_ne (Ne.symm z)] at hk
          obtain ⟨v', p1, p2⟩ := R.sl k u hk
          refine ⟨v', p1, slot_mono hs (fun y o e1 e2 => ⟨e1, keep y o (fun q => ?_) e2⟩) p2⟩
          rw [q, ob] at e1
          cases e1
          exact z rfl
      · refine tmps_mono hs (fun y o n hn e1 e2 => ⟨e1, keep y o (fun q => ?_) e2⟩) R.tm
        rw [q, ob] at e1
        cases e1
  · cases he
end
def getOwnO (ρ : Rho) (i : Nat) : Option (List D × Bool) := match ρ[i]? with
  | some (some ⟨.own ds, true, p⟩) => some (ds, p)
  | _ => none
theorem getOwnO_of {ρ : Rho} {i : Nat} {z : List D × Bool} (e : getOwnO ρ i = some z) : ρ[i]? = some (some ⟨.own z.1, true, z.2⟩) := by
  unfold getOwnO at e
  split at e
  · rename_i h; cases e; exact h
  · cases e
end L2.VL
end
section
set_option Elab.async false
set_option linter.all false
set_option maxRecDepth 100000
namespace L2.VL
open PySem PySem.Spec PyProof.Rows L2
def chkDeep (i : Nat) : M Unit := fun ρ => match getOwnO ρ i with
  | some _ => .ok () ρ
  | none => .stuck
theorem post_chkDeep {i : Nat} {Q : Unit → Rho → Prop} {E : Exn → Rho → Prop} {ρ : Rho} (h : ((chkDeep i) ρ).post Q E) : ∃ z, getOwnO ρ i = some z ∧ Q () ρ := by
  unfold chkDeep at h
  cases q : getOwnO ρ i with
  | none => rw [q] at h; exact h.elim
  | some z => rw [q] at h; exact ⟨z, rfl, h⟩
end L2.VL
end
section
set_option Elab.async false
set_option linter.all false
set_option maxRecDepth 100000
set_option maxHeartbeats 2000000
namespace L2.VL
open PySem PySem.Spec PyProof.Rows L2
/-- what an expression gives where the exception x stands in slot i -/
def HE (X : Cx) (i : Nat) (e : Expr) (g : Exn → Option (D × Kd)) : Prop := ∃ T : Addr → Value → Option Addr → TE,
  (∀ (a : Addr) (oe : Obj) (cls : Value) (d : Option Addr) (pn : List (Addr × Obj)), L2.Zc cls d oe → (∃ vs, oe.data = .fields vs) → PE (X.suite a ((a, oe) :: pn)) e (T a cls d)) ∧
  ∀ (a : Addr) (cls : Value) (d : Option Addr) (x : Exn) (G : Fix) (O : Own) (σ : St) (H : Hp) (ρ : Rho) (y : D × Kd) (Q : VK), G.K = X.K → Rel G O σ H ρ [] → σ[i]? = some (some (.ref a)) → cls = clsV X.K x.c → ExnRep X.K H O x d → g x = some y →
    (∀ O' v H', Rel G O' σ H' ρ [⟨v, y.1, y.2⟩] → Q v H') → T a cls d σ H Q
section
variable {X : Cx} {xn en yn f : Str} {C : Str} {i j : Nat} {body : List Stmt} {np ep pos pos' yp ap ap2 ps : Pos} {b : DS} {tab : List (Str × Bool)}
theorem settle_none {ρ : Rho} {i : Nat} {k : Kd} (h : ρ[i]? = some none) : (settleR ρ k)[i]? = some none := by
  cases k with
  | shr => exact h
  | fr => exact h
  | nm j =>
    show (shareR ρ j)[i]? = _
    unfold shareR
    cases e : ρ[j]? with
    | none => exact h
    | some o =>
      cases o with
      | none => exact h
      | some s =>
        have hij : j ≠ i := fun z => by rw [z, h] at e; cases e
        show (ρ.set j _)[i]? = _
        rw [List.getElem?_set_ne hij]
        exact h
def dH (g : Exn → Option (D × Kd)) (x : Exn) : DE := fun ρ => match g x with
  | some y => .ok y ρ
  | none => .stuck
theorem ss_tryE {g : Exn → Option (D × Kd)} {he : Expr} (hst : X.stack = X.env :: X.outer) (hfr : X.env.frame = some X.env.locals) (hx : CxG X) (hi : X.N[i]? = some en) (hln : X.env.kindOf en = some .local) (hn : Names X xn (.ref (He.ga X.K xn)))
    (ht : ∀ p ∈ tab, PySem.W.exmOne X.K (.ref (He.ga X.K p.1)) (.ref (He.ga X.K xn)) = some p.2)
    (hb : ∀ (pn : List (Addr × Obj)) (xe : Value → Shared → Prop), PassesOwn (model X.prog X.w) X.A X.env xe → SSs (X.tr pn xe) body b)
    (hh : HE X i he g) (hj : X.N[j]? = some yn) (hl : Loc X.env.scope yn) (hfj : X.fn yn = true ∨ X.env.scope.names.lookup yn = some .local) (hij : j ≠ i)
    (hsw : ∀ a pn, swapsWith he (some (.Name yn yp)) ps.line (X.suite a pn).env = pure false := by intros; rfl) :
    SS X (.Try body [.ExceptHandler (some (.Name xn np)) (some en) [.Assign [.Name yn yp] he ps] pos'] [] [] pos) (dTry i tab b fun x => dSet j (dH g x)) := fun W tk => by
  obtain ⟨T, hT1, hT2⟩ := hh
  refine PS.imp (ps_try_as (i := i) (tb := fun W' D => tS X.K W' b D) (ts := fun a cls d => tSeq (tAsg (T a cls d) (gName j)) tNext) hst hfr hx.nd hi hln hn tk (fun W' pn xe tk' po => hb pn xe po W' tk')
    (fun a oe cls d pn hz hf => pss_cons (ps_set hx.nd hj hl (hT1 a oe cls d pn hz hf) (hsw a ((a, oe) :: pn)) hfj) pss_nil)) fun D σ H ⟨G, O, ρ, hK, R, h⟩ => ?_
  refine ⟨G, O, ρ, hK, R, ?_⟩
  unfold dTry at h
  cases e : b ρ with
  | stuck => rw [e] at h; exact h
  | ok fl ρ' => rw [e] at h; exact h
  | ex x ρ' =>
    rw [e] at h
    dsimp only at h
    intro σ' O' H' dd R' er
    cases e1 : tab.lookup x.c with
    | none =>
      rw [e1] at h
      cases e2 : ρ'[i]? with
      | none => rw [e2] at h; exact h.elim
      | some o => rw [e2] at h; cases o <;> exact h.elim
    | some bb =>
      have mem := lookup_mem e1
      refine ⟨bb, by have := ht _ mem; rw [← hK] at this ⊢; exact this, fun hbt a ha => ?_, fun hbf => ?_⟩
      · subst hbt
        rw [e1] at h
        cases e2 : ρ'[i]? with
        | none => rw [e2] at h; exact h.elim
        | some o =>
          cases o with
          | some s => rw [e2] at h; exact h.elim
          | none =>
            rw [e2] at h
            dsimp only at h
            have h2 := (post_bind _ _).mp h
            unfold dH at h2
            cases e3 : g x with
            | none => rw [e3] at h2; exact h2.elim
            | some y =>
              rw [e3] at h2
              have h3 := (post_bind _ _).mp (show ((dPut j y >>= fun _ => pure Fl.nx) ρ').post (FlOk G D []) (EXs G W) from h2)
              have hil : i < σ'.length := by
                rw [← R'.len]
                exact (List.getElem?_eq_some_iff.mp e2).1
              refine hT2 a _ dd x G O' _ H' ρ' y _ hK (R'.setN (v := some (.ref a)) e2) (by rw [List.getElem?_set_self hil]) (by rw [hK]) (by rw [← hK]; exact er) e3 fun O4 v H4 R4 => ?_
              obtain ⟨d', c1, c2, c3⟩ := post_dPut.mp h3
              obtain ⟨O3, ρ3, R3, q3, e5⟩ := put_post (Q := fun _ ρ => FlOk G D [] .nx ρ ∧ ρ[i]? = some none) (E := fun _ _ => False) .nil R4 (post_dPut.mpr ⟨d', c1, c2, c3, by
                show ((settleR ρ' y.2).set j _)[i]? = some none
                rw [List.getElem?_set_ne hij]
                exact settle_none e2⟩)
              exact q3 O3 _ H4 (R3.setN e5)
      · subst hbf
        rw [e1] at h
        cases e2 : ρ'[i]? with
        | none => rw [e2] at h; exact h σ' O' H' dd R' er
        | some o => rw [e2] at h; cases o <;> exact h σ' O' H' dd R' er
end
end L2.VL
end
section
set_option Elab.async false
set_option linter.all false
set_option maxRecDepth 100000
set_option maxHeartbeats 2000000
namespace L2.VL
open PySem PySem.Spec PyProof.Rows L2
theorem ob_there {P : Program} {w : World} {H : Hp} {h : Heap} {a : Addr} {o : HO} (x : ObjOk P w H h a o) : ∃ ob, h.get? a = some ob := by
  cases o with
  | lst xs => obtain ⟨_, _, _, _, e⟩ := x; exact ⟨_, e⟩
  | tup xs => obtain ⟨_, _, _, ob, e, _⟩ := x; exact ⟨_, e⟩
  | dK kvs => obtain ⟨_, _, _, _, o, _, _, e, _⟩ := x; exact ⟨_, e⟩
  | dT kvs => obtain ⟨_, _, _, _, o, _, _, e, _⟩ := x; exact ⟨_, e⟩
  | set S n => obtain ⟨o, _, _, _, e, _⟩ := x; exact ⟨_, e⟩
  | ins C dx fs => obtain ⟨_, _, _, e, _⟩ := x; exact ⟨_, e⟩
  | own y => exact x
  | xd fs => obtain ⟨_, ⟨_, _, _, e, _⟩, _⟩ := x; exact ⟨_, e⟩
  | rng lo hi => obtain ⟨_, _, _, e⟩ := x; exact ⟨_, e⟩
  | frz ob u => obtain ⟨e, _⟩ := x; exact ⟨_, e⟩
  | tbl ps => exact ⟨_, show h.get? a = some _ from x⟩
  | met f y => exact ⟨_, show h.get? a = some _ from x⟩
  | ext φ => exact x.2.1
end L2.VL
end
section
set_option Elab.async false
set_option linter.all false
set_option maxRecDepth 100000
set_option maxHeartbeats 2000000
namespace L2.VL
open PySem PySem.Spec PyProof.Rows L2
theorem among_in {pos : Pos} {cv : Value} (l r : List Value) (t : TriplesOk l) (h : codeAmong pos l = some cv) : codeAmong pos (l ++ r) = some cv := by
  fun_induction TriplesOk l with
  | case1 => exact absurd h (by simp [codeAmong])
  | case2 a ta b tb w rest ih =>
    simp only [List.cons_append, codeAmong] at h ⊢
    by_cases q : (a == pos.line && b == pos.col) = true
    · rw [if_pos q] at h ⊢; exact h
    · rw [if_neg q] at h ⊢; exact ih t h
  | case3 l h1 h2 => exact t.elim
section
variable {X : Cx} {pins : List (Addr × Obj)} {σ : St} {H : Hp} {s : Shared}
/-- the lambda is made: only its table grows; its code object stands in the table -/
theorem lam_mk {c P : Addr} {params : Arguments} {body : Expr} {scope : Scope} {pos : Pos} {E Q : Value → Shared → Prop} (I : Inv X pins σ H s) (TB : LamX.TabB X.base X.mg c P) (hcd : X.env.code = .ref c) (tab : LamX.TabS H P (X.env.qual ++ "<lambda>"))
    (hdf : defaultsOf params X.env = ([], [])) (free : ∀ y ∈ scope.names, y.2 = .free → ∃ c, X.env.cells.lookup y.1 = some c)
    (go : ∀ (f c' : Addr) (pm ctv : Value) (H1 : Hp) (s1 : Shared), Inv X pins σ H1 s1 → (∀ b o, b ≠ P → H b = some o → H1 b = some o) → LamX.TabS H1 P (X.env.qual ++ "<lambda>") → (∃ ps : Array Value, H1 P = some (.tbl ps) ∧ codeAmong pos ps.toList = some (.ref c')) →
      s1.heap.get? f = some (PySem.W.kla_obj "<lambda>" (X.env.qual ++ "<lambda>") params body scope (cloFrom X.env.cells scope.names []) pm c' ctv) → H1 f = none → f ∉ frs X.stack → Q (.ref f) s1) :
    wpAny (model X.prog X.w) X.A (eval (.Lambda params body scope pos) X.env) Q E s := by
  obtain ⟨ps, atP, tri, ent⟩ := tab
  have hp : s.heap.get? P = some { cls := .none, data := .fields ps } := I.hok P _ atP
  have off : ∀ f, s.heap.objs.size ≤ f → f ∉ frs X.stack := fun f big z => by
    cases List.mem_cons.mp (I.stkSub _ z) with
    | inl e => rw [e] at big; exact absurd (Nat.lt_of_lt_of_le I.lt big) (Nat.lt_irrefl _)
    | inr e => exact I.nofs big e
  refine PySem.W.kla_eval hdf ?_
  cases known : codeAmong pos ps.toList with
  | some cv =>
    obtain ⟨c', rfl, _⟩ := ent pos cv known
    refine PySem.W.kla_makeFunctionHit (mg := X.mg) (c := c) (P := P) (ps := ps) (closure_ok free) I.ok.glob (I.mod.glob.keeps I.bk) hcd (TB.code.keeps I.bk) hp tri known (TB.bm.keeps I.bk) ?_
    intro ctv h1 tk up sz
    refine go h1.objs.size c' _ ctv H _ (I.kept fun b o e => Heap.get?_push_of_some _ (up b o e)) (fun _ _ _ e => e) ⟨ps, atP, tri, ent⟩ ⟨ps, atP, known⟩ (Heap.get?_push_size _ rfl) (I.hok.fresh sz) (off _ sz)
  | none =>
    refine PySem.W.kla_makeFunction (mg := X.mg) (c := c) (P := P) (ps := ps) (closure_ok free) I.ok.glob (I.mod.glob.keeps I.bk) hcd (TB.code.keeps I.bk) hp tri known TB.gP (TB.bm.keeps I.bk) ?_
    intro c' ctv h1 tk up ge lt rec tb
    obtain ⟨_, oc, vs, t, e2, g1, g2, g3⟩ := rec
    cases e2
    have nC : H c' = none := I.hok.fresh ge
    have pc : P ≠ c' := fun z => by rw [← z, atP] at nC; cases nC
    have J := LamX.inv_table (t' := tk) (more := #[rawInt pos.line, rawInt pos.col, .ref c']) (h' := h1.push (PySem.W.kla_obj "<lambda>" (X.env.qual ++ "<lambda>") params body scope (cloFrom X.env.cells scope.names []) ((X.mg "__name__").getD .none) c' ctv)) I atP
      (fun b o nb e => Heap.get?_push_of_some _ (up b o nb e)) (Heap.get?_push_of_some _ tb) ge ⟨oc, vs, t, Heap.get?_push_of_some _ g1, g2, g3⟩
    have keep : ∀ b o, b ≠ P → H b = some o → L2.upd (L2.upd H P (.tbl (ps ++ #[rawInt pos.line, rawInt pos.col, .ref c']))) c' (LamX.CodeO c' (X.env.qual ++ "<lambda>")) b = some o := fun b o nb e => by
      rw [upd_ne (fun z => by rw [z, nC] at e; cases e), upd_ne nb]
      exact e
    have eL : (ps ++ #[rawInt pos.line, rawInt pos.col, .ref c']).toList = ps.toList ++ [rawInt pos.line, rawInt pos.col, .ref c'] := by simp
    have atP1 : L2.upd (L2.upd H P (.tbl (ps ++ #[rawInt pos.line, rawInt pos.col, .ref c']))) c' (LamX.CodeO c' (X.env.qual ++ "<lambda>")) P = some (.tbl (ps ++ #[rawInt pos.line, rawInt pos.col, .ref c'])) := by rw [upd_ne pc, upd_same]
    have big : s.heap.objs.size ≤ h1.objs.size := Nat.le_of_lt (Nat.lt_of_le_of_lt ge lt)
    refine go h1.objs.size c' _ ctv _ _ J keep ⟨_, atP1, by rw [eL]; exact PySem.TriplesOk_snoc _ _ _ _ tri, fun p cv z => ?_⟩ ⟨_, atP1, ?_⟩ (Heap.get?_push_size _ rfl) ?_ (off _ big)
    · rw [eL] at z
      rcases LamX.among_app _ tri z with y | y
      · obtain ⟨c0, e1, e2⟩ := ent p cv y
        exact ⟨c0, e1, keep c0 _ (fun z => LamX.codeO_ne ps (Option.some.inj ((congrArg H z).symm.trans e2 |>.symm.trans atP))) e2⟩
      · exact ⟨c', y, upd_same⟩
    · rw [eL]; exact codeAmong_snoc _ tri known
    · rw [upd_ne (Nat.ne_of_gt lt), upd_ne (Nat.ne_of_gt (Nat.lt_of_lt_of_le (Heap.lt_size hp) big))]
      exact I.hok.fresh big
end
theorem tbk_uniq {K : PySem.W.Frag} {a b : Addr} {q q' : Str} (h : tbk K a = some q) (h' : tbk K b = some q') : a = b ∧ q = q' := by
  unfold tbk at h h'
  cases e : lamN with
  | none => rw [e] at h; cases h
  | some x =>
    rw [e] at h h'
    dsimp only at h h'
    split at h
    · rename_i z
      split at h'
      · rename_i z'
        cases h
        cases h'
        exact ⟨z.trans z'.symm, rfl⟩
      · cases h'
    · cases h
section
variable {G : Fix} {O : Own} {σ : St} {H H1 : Hp} {ρ : Rho} {T : List Tmp}
/-- a table has grown -/
theorem Rel.tabStep {P : Addr} {q : Str} (R : Rel G O σ H ρ T) (hP : tbk G.K P = some q) (k : ∀ b o, b ≠ P → H b = some o → H1 b = some o) (t : LamX.TabS H1 P q) : Rel G O σ H1 ρ T := by
  have oP : O P = some .out := tb_out R hP
  have st : Stay H H1 (lin O) (lin O) := fun a o n e => ⟨k a o (fun z => n (by unfold lin; rw [z, oP]; simp)) e, n⟩
  refine ⟨R.len, fun b o e => ?_, R.ot, fun a w e => ?_, R.pn, fun i s e => ?_, ?_⟩
  · obtain ⟨p1, p2⟩ := R.fr b o e
    refine ⟨k b o (fun z => ?_) p1, p2⟩
    have := tb_none e
    rw [z] at this
    rw [show G.Tb P = some q from hP] at this
    cases this
  · by_cases z : a = P
    · subst z
      refine ⟨?_, fun q' hq' => ?_⟩
      · obtain ⟨ps, h1, _⟩ := t
        exact ⟨_, h1⟩
      · rw [← (tbk_uniq hP hq').2]; exact t
    · obtain ⟨o, ho⟩ := (R.tr a w e).1
      exact ⟨⟨o, k a o z ho⟩, fun q' hq' => absurd (tbk_uniq hq' hP).1 z⟩
  · obtain ⟨v, h1, h2⟩ := R.sl i s e
    exact ⟨v, h1, slot_mono st (fun a o e1 e2 => ⟨e1, k a o (fun z => by rw [z, oP] at e1; cases e1) e2⟩) h2⟩
  · exact tmps_mono st (fun a o n hn e1 e2 => ⟨e1, k a o (fun z => by rw [z, oP] at e1; cases e1) e2⟩) R.tm
end
def capsV (σ : St) : List Nat → Option (List V)
  | [] => some []
  | i :: is => match σ[i]? with
    | some (some v) => (capsV σ is).map (v :: ·)
    | _ => none
/-- their data: they are shared -/
def capsOf (ρ : Rho) : List Nat → Option (List D)
  | [] => some []
  | i :: is => match ρ[i]? with
    | some (some s) => if s.own = true then none else (capsOf ρ is).map (s.d :: ·)
    | _ => none
def shareL (ρ : Rho) : List Nat → Rho
  | [] => ρ
  | i :: is => shareL (shareR ρ i) is
/-- the slots as the lambda's body finds them -/
def capR (n : Nat) : List Nat → List D → Rho
  | i :: is, d :: ds => (capR n is ds).set i (some ⟨d, false, false⟩)
  | _, _ => List.replicate n none
theorem capR_len (n : Nat) : ∀ (is : List Nat) (ds : List D), (capR n is ds).length = n
  | [], _ => by simp [capR]
  | i :: is, d :: ds => by simp [capR, capR_len n is ds]
  | i :: is, [] => by simp [capR]
section
variable {G : Fix} {O : Own} {σ : St} {H : Hp} {ρ : Rho} {T : List Tmp}
theorem caps_rel (R : Rel G O σ H ρ T) : ∀ {is : List Nat} {ds : List D}, capsOf ρ is = some ds → ∃ us, capsV σ is = some us ∧ Reps G.K H (lin O) us ds
  | [], ds, e => by cases e; exact ⟨[], rfl, .nil⟩
  | i :: is, ds, e => by
    unfold capsOf at e
    split at e
    · rename_i s hs
      split at e
      · cases e
      · rename_i ho
        obtain ⟨ds', e1, rfl⟩ := Option.map_eq_some_iff.mp e
        obtain ⟨us, h1, h2⟩ := caps_rel R e1
        obtain ⟨v, p1, p2⟩ := R.sl i s hs
        refine ⟨v :: us, ?_, .cons ?_ h2⟩
        · unfold capsV
          rw [p1, h1]
          rfl
        · unfold SlotOk at p2
          cases q : s.own with
          | false => rw [q] at p2; exact p2
          | true => exact absurd q ho
    · cases e
theorem Rel.shareAll : ∀ (is : List Nat) {O : Own} {ρ : Rho}, Rel G O σ H ρ T → ∃ O', Rel G O' σ H (shareL ρ is) T
  | [], O, ρ, R => ⟨O, R⟩
  | i :: is, O, ρ, R => by
    have one : ∃ O', Rel G O' σ H (shareR ρ i) T := by
      cases e : ρ[i]? with
      | none => exact ⟨O, by unfold shareR; rw [e]; exact R⟩
      | some o =>
        cases o with
        | none => exact ⟨O, by unfold shareR; rw [e]; exact R⟩
        | some s =>
          obtain ⟨O', v, R', _⟩ := R.share e
          exact ⟨O', R'⟩
    obtain ⟨O1, R1⟩ := one
    exact Rel.shareAll is R1
/-- the frame of the lambda's body: all stands still, what is owned stands outside -/
def lamG (G : Fix) (O : Own) (H : Hp) : Fix :=
  { K := G.K, Fr := fun b => if (G.Tb b).isSome = true then none else H b, Out := fun b => O b ≠ none ∨ (G.Tb b).isSome = true, Pin := fun _ => none, tbo := fun P q h => by
      have h : G.Tb P = some q := h
      rw [h]
      exact ⟨.inr rfl, if_pos rfl⟩ }
def lamO (O : Own) : Own := fun b => match O b with
  | none => none
  | some _ => some .out
theorem lin_lamO {a : Addr} : lin (lamO O) a ↔ lin O a := by
  unfold lin lamO
  cases O a with
  | none => exact Iff.rfl
  | some w => simp
theorem capR_at {K : PySem.W.Frag} {L : Addr → Prop} {σm : St} : ∀ {is : List Nat} {us : List V} {ds : List D}, capsV σm is = some us → Reps K H L us ds → ∀ {i : Nat} {s : Slot}, (capR σm.length is ds)[i]? = some (some s) → ∃ v, σm[i]? = some (some v) ∧ s.own = false ∧ Rep K H L v s.d
  | [], us, ds, e, r, i, s, h => by
    have : (List.replicate σm.length (none : Option Slot))[i]? = some (some s) := by
      unfold capR at h; exact h
    rw [List.getElem?_replicate] at this
    split at this <;> cases this
  | j :: is, us, ds, e, r, i, s, h => by
    unfold capsV at e
    split at e
    · rename_i v hv
      obtain ⟨us', e1, rfl⟩ := Option.map_eq_some_iff.mp e
      cases r with
      | cons r1 r2 =>
        unfold capR at h
        by_cases z : i = j
        · subst z
          rw [List.getElem?_set_self (by rw [capR_len]; exact (List.getElem?_eq_some_iff.mp hv).1)] at h
          cases h
          exact ⟨v, hv, rfl, r1⟩
        · rw [List.getElem?_set_ne (Ne.symm z)] at h
          exact capR_at e1 r2 h
    · cases e
theorem Rel.intoLam {σm : St} {is : List Nat} {us : List V} {ds : List D} (R : Rel G O σ H ρ T) (hc : capsV σm is = some us) (r : Reps G.K H (lin O) us ds) : Rel (lamG G O H) (lamO O) σm H (capR σm.length is ds) [] := by
  have st : Stay H H (lin O) (lin (lamO O)) := fun a o n e => ⟨e, fun z => n (lin_lamO.mp z)⟩
  refine ⟨by rw [capR_len], fun b o e => ?_, fun b => ?_, fun a w e => ?_, fun i v e => (by cases e), fun i s e => ?_, trivial⟩
  · replace e : (if (G.Tb b).isSome = true then none else H b) = some o := e
    split at e
    · cases e
    · refine ⟨e, ?_⟩
      unfold lamO
      cases O b with
      | none => exact .inl rfl
      | some w => exact .inr rfl
  · show lamO O b = some .out ↔ (O b ≠ none ∨ (G.Tb b).isSome = true)
    have tb : (G.Tb b).isSome = true → O b = some .out := tb_is R
    unfold lamO
    cases q : O b with
    | none =>
      rw [q] at tb
      exact ⟨fun z => (by cases z), fun z => z.elim (fun z => absurd rfl z) fun z => absurd (tb z) (by simp)⟩
    | some w => exact ⟨fun _ => .inl (by simp), fun _ => rfl⟩
  · have l : lin O a := lin_lamO.mp (by unfold lin; rw [e]; simp)
    unfold lin at l
    cases q : O a with
    | none => exact absurd q l
    | some w' => exact R.tr a w' q
  · obtain ⟨v, h1, h2, h3⟩ := capR_at hc r e
    refine ⟨v, h1, ?_⟩
    unfold SlotOk
    rw [h2]
    exact h3.mono st
/-- behind the lambda -/
theorem Rel.fromLam {O2 : Own} {σ2 : St} {H2 : Hp} {ρ2 : Rho} {T2 : List Tmp} (R : Rel G O σ H ρ T) (R2 : Rel (lamG G O H) O2 σ2 H2 ρ2 T2) : Rel G O σ H2 ρ T ∧ ∀ a, ¬ lin O2 a → ¬ lin O a := by
  have up : ∀ {a o}, G.Tb a = none → H a = some o → H2 a = some o := fun {a o} n e => (R2.fr a o (show (if (G.Tb a).isSome = true then none else H a) = some o by rw [if_neg (by rw [n]; simp)]; exact e)).1
  have out : ∀ {a}, lin O a → O2 a = some .out := fun {a} l => (R2.ot a).mpr (.inl l)
  have st : Stay H H2 (lin O) (lin O) := fun a o n e => ⟨up (tb_ne R (fun z => n (by unfold lin; rw [z]; simp))) e, n⟩
  have keep : ∀ a o w, O a = some w → w ≠ .out → H a = some o → H2 a = some o := fun a o w e n e2 => up (tb_ne R (by rw [e]; exact fun z => n (Option.some.inj z))) e2
  refine ⟨⟨R.len, fun b o e => ⟨up (tb_none e) (R.fr b o e).1, (R.fr b o e).2⟩, R.ot, fun a w e => ?_, R.pn, fun i s e => ?_, ?_⟩, fun a n l => n (by unfold lin; rw [out l]; simp)⟩
  · exact R2.tr a .out (out (by unfold lin; rw [e]; simp))
  · obtain ⟨v, h1, h2⟩ := R.sl i s e
    exact ⟨v, h1, slot_mono st (fun a o e1 e2 => ⟨e1, keep a o _ e1 (by simp) e2⟩) h2⟩
  · exact tmps_mono st (fun a o n hn e1 e2 => ⟨e1, keep a o _ e1 (by simp) e2⟩) R.tm
theorem ExnRep.fromLam {O2 : Own} {H2 : Hp} {x : Exn} {dd : Option Addr} {K : PySem.W.Frag} (n : ∀ a, ¬ lin O2 a → ¬ lin O a) (er : ExnRep K H2 O2 x dd) : ExnRep K H2 O x dd := by
  unfold ExnRep at er ⊢
  cases q : x.fs with
  | none => rw [q] at er; exact er
  | some fs =>
    rw [q] at er
    obtain ⟨d, vs, e1, e2, e3, e4, e5⟩ := er
    exact ⟨d, vs, e1, e2, e3, e4.mono fun a o m e => ⟨e, n a m⟩, n d e5⟩
end
end L2.VL
end
section
set_option Elab.async false
set_option linter.all false
set_option maxRecDepth 100000
set_option maxHeartbeats 2000000
namespace L2.VL
open PySem PySem.Spec PyProof.Rows L2
/-- x(), where x got the lambda: the lambda's body upon what it took along -/
def dLamC (i : Nat) (f : Addr) (us : List V) (rb : DE) (is : List Nat) (n : Nat) : DS := fun ρ => match ρ[i]? with
  | some (some ⟨.fnv f1 us1 ds, _, _⟩) => if f1 = f ∧ us1 = us then match rb (capR n is ds) with
      | .stuck => .stuck
      | .ok _ _ => .ok .nx ρ
      | .ex x _ => .ex x ρ
    else .stuck
  | _ => .stuck
section
variable {X : Cx} {pins : List (Addr × Obj)} {σ : St} {H : Hp} {s : Shared}
theorem lam_call {Eg : XK} {E : St → XK} {Ng : List Str} {qg a : Str} {sg scope : Scope} {g f c' P : Addr} {cdg pm ctv : Value} {params : Arguments} {body : Expr} {k i : Nat} {pn : List (Addr × Obj)} {xe : Value → Shared → Prop} {tb : St → TE} {p1 p2 lpos : Pos} {ps : Array Value}
    (I : Inv X pins σ H s) (L : LamX.LamS X.env.scope scope) (obj : s.heap.get? f = some (PySem.W.kla_obj "<lambda>" (X.env.qual ++ "<lambda>") params body scope (cloFrom X.env.cells scope.names []) pm c' ctv)) (nf : H f = none) (off : f ∉ frs X.stack)
    (nul : bindArgs (PySem.W.kla_fn "<lambda>" (X.env.qual ++ "<lambda>") params body scope (cloFrom X.env.cells scope.names []) pm (.ref c') ctv) ⟨[], []⟩ = pure [])
    (tP : H P = some (.tbl ps)) (tri : TriplesOk ps.toList) (tc : codeAmong lpos ps.toList = some (.ref c'))
    (out : ∀ σ1, PassesAt (L2.CX X.prog X.w) ((cxOf (L2.CX X.prog X.w) X.prog X.w X.K X.mg X.base Ng qg sg g cdg X.A X.stack s H Eg).tr pn xe) σ1 (E σ1)) (room : Room (k + 1) (X.A.deeper (envOfC qg sg s.heap.objs.size g cdg)))
    (walk : ∀ (s1 : Shared) (H1 : Hp) (σ1 : St), PE (LamX.lamCx X (X.A.deeper (envOfC qg sg s.heap.objs.size g cdg)) (envOfC qg sg s.heap.objs.size g cdg :: X.stack) s1 H1 (E σ1) scope f c') body (tb σ1))
    (hN : Ng[i]? = some a) (vis : Vis sg a) (db : (a == ("__debug__" : Str)) = false) (dc : (a == ("__classdict__" : Str)) = false) :
    PE ((cxOf (L2.CX X.prog X.w) X.prog X.w X.K X.mg X.base Ng qg sg g cdg X.A X.stack s H Eg).tr pn xe) (.Call (.Name a p1) [] [] p2)
      (fun σ1 H1 Q => σ1[i]? = some (some (.ref f)) ∧ LamX.TabS H1 P (X.env.qual ++ "<lambda>") ∧ tb σ1 σ H1 Q) := ⟨fun pins1 s1 σ1 H1 Q I1 ⟨h1, h2, h3⟩ => by
  refine wpAny_Call_Name_kw (thn ((pe_var (pos := p1) (i := i) hN vis db dc).run pins1 s1 σ1 H1 (fun v h => v = .ref f ∧ h = H1) I1 ⟨.ref f, h1, rfl, rfl⟩) ?_)
  rintro u s2 ⟨v, H2, I2, r2, e1, e2⟩
  subst e1 e2
  cases (show u = Value.ref f from r2)
  have un : Un (frs X.stack) [] H H2 s.heap s2.heap := I2.base
  have obj2 := un.keep f _ obj nf off (fun z => nomatch z)
  have cod : H2 c' = some (LamX.CodeO c' (X.env.qual ++ "<lambda>")) := by
    obtain ⟨qs, g1, g2, g3⟩ := h2
    obtain ⟨more, g4⟩ := un.tbls P ps tP
    rw [g1] at g4
    obtain rfl : qs = ps ++ more := by injection Option.some.inj g4
    obtain ⟨c0, e, hc⟩ := g3 lpos (.ref c') (by rw [Array.toList_append]; exact among_in _ _ tri tc)
    cases e
    exact hc
  obtain ⟨⟨oc, vs, t, b1, b2, b3⟩, _⟩ := I2.hok c' _ cod
  refine PySem.W.callWith_F0 ⟨_, _, _, _, obj2⟩ (wpAny_call (codeAny_mono (R := CR (L2.CX X.prog X.w) (envOfC qg sg s.heap.objs.size g cdg :: X.stack) X.prog X.w H2 s2 Q (E σ1)) ?_ fun r s3 hq => ?_))
  · refine PySem.W.kla_callFunE room.depth obj2 rfl L.co L.gen rfl ⟨c', oc, vs, t, rfl, b1, b2, b3⟩ ?_
    rw [List.append_nil, nul]
    refine wpAny_pure (wpAny_newFunctionEnv (fun y hy => (L.own y hy).2) (fun y hy => absurd hy (by simp)) (fun h5 nsn sb => ⟨I2.nolimit.fresh _ sb, ?_⟩) L.kind)
    have up : ∀ b o, s2.heap.get? b = some o → h5.get? b = some o := fun b o e => sb.extBut b o (Nat.ne_of_lt (Heap.lt_size e)) (Heap.get?_push_of_some _ e)
    have start := LamX.lam_start2 (A := X.A.deeper (envOfC qg sg s.heap.objs.size g cdg)) (outer := envOfC qg sg s.heap.objs.size g cdg :: X.stack) (E := E σ1) (f := f) (c' := c') (tk := s2.toks + ([] : List (Str × Value)).length) I L I2.env0 room.hd un nsn up
    exact PySem.W.kla_codeExpr (wpAny_mono ((walk s2 H2 σ1).run [] _ _ H2 Q start h3) (fun v s6 ⟨w', H6, J, rv, q⟩ => ⟨w', H6, J.os, J.bare, J.base, J.hok, rv, q⟩) fun _ _ z => z)
  · match r, hq with
    | .error e, hq => exact out σ1 pins1 H2 s2 e s3 I2 hq
    | .ok (.ret u), hq => exact I2.after hq
    | .ok .next, hq => exact hq.elim
    | .ok .brk, hq => exact hq.elim
    | .ok .cont, hq => exact hq.elim⟩
/-- within the def that got the lambda f: what calling it means -/
def LamAct (Y : Cx) (a : Str) (i : Nat) (f : Addr) (us : List V) (rb : DE) (is : List Nat) (n : Nat) : Prop :=
  ∀ (pn : List (Addr × Obj)) (xe : Value → Shared → Prop) (p1 p2 p3 : Pos), SS (Y.tr pn xe) (.Expr (.Call (.Name a p1) [] [] p2) p3) (dLamC i f us rb is n)
theorem slot_fnv {K : PySem.W.Frag} {H : Hp} {O : Own} {i : Nat} {v : V} {f : Addr} {us : List V} {ds : List D} {b p : Bool} (h : SlotOk K H O i v ⟨.fnv f us ds, b, p⟩) : v = .ref f ∧ Reps K H (lin O) us ds := by
  unfold SlotOk at h
  cases b with
  | true =>
    dsimp only at h
    rcases h with ⟨a, ho, e, h1, h2, c⟩ | ⟨es, e, _⟩
    · cases c
    · cases e
  | false =>
    dsimp only at h
    cases h with
    | obj _ _ c => cases c
    | fnv r => exact ⟨rfl, r⟩
theorem lam_act {Eg : XK} {Ng : List Str} {qg a : Str} {sg scope : Scope} {g f c' P : Addr} {cdg pm ctv : Value} {params : Arguments} {body : Expr} {k i : Nat} {lpos : Pos} {ps : Array Value} {rb : DE} {is : List Nat} {us : List V}
    (hx : CxG X) (I : Inv X pins σ H s) (L : LamX.LamS X.env.scope scope) (obj : s.heap.get? f = some (PySem.W.kla_obj "<lambda>" (X.env.qual ++ "<lambda>") params body scope (cloFrom X.env.cells scope.names []) pm c' ctv)) (nf : H f = none) (off : f ∉ frs X.stack)
    (nul : bindArgs (PySem.W.kla_fn "<lambda>" (X.env.qual ++ "<lambda>") params body scope (cloFrom X.env.cells scope.names []) pm (.ref c') ctv) ⟨[], []⟩ = pure [])
    (tP : H P = some (.tbl ps)) (tri : TriplesOk ps.toList) (tc : codeAmong lpos ps.toList = some (.ref c')) (hP : tbk X.K P = some (X.env.qual ++ "<lambda>")) (room : Room (k + 1) (X.A.deeper (envOfC qg sg s.heap.objs.size g cdg))) (caps : capsV σ is = some us)
    (walk : ∀ (A : Around) (outer : List Env) (s1 : Shared) (H1 : Hp) (E : XK), FnCx (LamX.lamCx X A outer s1 H1 E scope f c') k → SE (LamX.lamCx X A outer s1 H1 E scope f c') body rb)
    (hN : Ng[i]? = some a) (vis : Vis sg a) (db : (a == ("__debug__" : Str)) = false) (dc : (a == ("__classdict__" : Str)) = false) :
    LamAct (cxOf (L2.CX X.prog X.w) X.prog X.w X.K X.mg X.base Ng qg sg g cdg X.A X.stack s H Eg) a i f us rb is σ.length := fun pn xe p1 p2 p3 W tk => by
  let E : St → XK := fun σ1 cls d h => W cls d σ1 h
  have pe := lam_call (p1 := p1) (p2 := p2) (E := E) (k := k) (tb := fun σ1 => tE X.K (fun cls d _ h => E σ1 cls d h) rb) I L obj nf off nul tP tri tc (fun σ1 => passAt tk σ1) room
    (fun s1 H1 σ1 => walk (X.A.deeper (envOfC qg sg s.heap.objs.size g cdg)) (envOfC qg sg s.heap.objs.size g cdg :: X.stack) s1 H1 (E σ1) ⟨⟨rfl, hx.nd, passes_of rfl, hx.gu⟩, room.deeper _⟩ _ (takes_of rfl rfl rfl rfl)) hN vis db dc
  refine PS.imp (ps_expr pe rfl) fun D σ1 H1 ⟨G, O, ρ, hK, R, h⟩ => ?_
  have hK : G.K = X.K := hK
  unfold dLamC at h
  split at h
  · rename_i f1 us1 ds b p hs
    split at h
    · rename_i eq
      obtain ⟨rfl, rfl⟩ := eq
      obtain ⟨v, g1, g2⟩ := R.sl i _ hs
      obtain ⟨rfl, rp⟩ := slot_fnv g2
      have tt : LamX.TabS H1 P (X.env.qual ++ "<lambda>") := (R.tr P _ (tb_out R (show G.Tb P = _ by show tbk G.K P = _; rw [hK]; exact hP))).2 _ (by show tbk G.K P = _; rw [hK]; exact hP)
      have R1 := R.intoLam caps rp
      refine ⟨g1, tt, lamG G O H1, lamO O, _, hK, R1, ?_⟩
      cases e : rb (capR σ.length is ds) with
      | stuck => rw [e] at h; exact h.elim
      | ok x ρ' =>
        rw [e] at h
        exact fun O2 v H2 R2 => h O σ1 H2 (R.fromLam R2).1
      | ex x ρ' =>
        rw [e] at h
        exact fun O2 H2 dd R2 er => h σ1 O H2 dd (R.fromLam R2).1 (ExnRep.fromLam (K := G.K) (R.fromLam R2).2 er)
    · exact h.elim
  · exact h.elim
end
def stripF : Option FRes → Option (Sum (D × Bool) Exn)
  | some (.ret d b _) => some (.inl (d, b))
  | some (.exc x _) => some (.inr x)
  | none => none
open Classical in
/-- what the def hands back, whichever the function object is -/
noncomputable def lamRes (F : Addr → List V → Fn) (args : List Arg) (ds : List D) : Option (Sum (D × Bool) Exn) :=
  if h : ∃ r, ∀ f us, stripF (F f us (args ++ [shA (.fnv f us ds)])) = some r then some (Classical.choose h) else none
theorem lamRes_of {F : Addr → List V → Fn} {args : List Arg} {ds : List D} {r : Sum (D × Bool) Exn} (h : ∀ f us, stripF (F f us (args ++ [shA (.fnv f us ds)])) = some r) : lamRes F args ds = some r := by
  unfold lamRes
  have e : ∃ r, ∀ f us, stripF (F f us (args ++ [shA (.fnv f us ds)])) = some r := ⟨r, h⟩
  rw [dif_pos e]
  have := Classical.choose_spec e 0 []
  rw [h 0 []] at this
  exact this.symm
theorem lamRes_at {F : Addr → List V → Fn} {args : List Arg} {ds : List D} {r : Sum (D × Bool) Exn} (h : lamRes F args ds = some r) (f : Addr) (us : List V) : stripF (F f us (args ++ [shA (.fnv f us ds)])) = some r := by
  unfold lamRes at h
  split at h
  · rename_i e
    cases h
    exact Classical.choose_spec e f us
  · cases h
/-- no name's own object is handed over -/
def noOwn (ρ : Rho) (xs : List (D × Kd)) : Bool := xs.all fun x => match x.2 with
  | .nm i => (match ρ[i]? with
    | some (some s) => !s.own
    | _ => true)
  | _ => true
noncomputable def lamEnd (F : Addr → List V → Fn) (np : Nat) (is : List Nat) (xs : List (D × Kd)) : DE := fun ρ0 => 
  if uniqW (wsOf (shareL ρ0 is) 0 xs) && decide (xs.length + 1 = np) && noOwn (shareL ρ0 is) xs then match argsOf (shareL ρ0 is) xs, capsOf (shareL ρ0 is) is with
    | some args, some ds => match lamRes F args ds with
      | none => .stuck
      | some (.inl (d, b)) => .ok (d, frK b) (shareL ρ0 is)
      | some (.inr x) => .ex x (shareL ρ0 is)
    | _, _ => .stuck
  else .stuck
noncomputable def dCallLam (F : Addr → List V → Fn) (np : Nat) (is : List Nat) (l : List (Bool × DE)) : DE := do
  let xs ← dA l
  lamEnd F np is xs
theorem backs_same {xs : List (D × Kd)} {outs ρ : Rho} (h : noOwn ρ xs = true) : backs xs outs 0 ρ = ρ := by
  refine List.ext_getElem? fun i => ?_
  rw [backs_at]
  cases e : ρ[i]? with
  | none => rfl
  | some o =>
    cases o with
    | none => rfl
    | some s =>
      refine congrArg some ?_
      unfold back1
      dsimp only
      cases q : s.own with
      | false => rfl
      | true =>
        dsimp only
        rw [Nat.zero_add]
        cases ql : lookNm xs i with
        | none => rfl
        | some j =>
          exfalso
          obtain ⟨d, hx⟩ := lookNm_at ql
          have := List.all_eq_true.mp h _ (List.mem_of_getElem? hx)
          dsimp only at this
          rw [e] at this
          dsimp only at this
          rw [q] at this
          cases this
/-- the arguments, a lambda behind them -/
structure PAl (X : Cx) (es : List Expr) (lam : Expr) (t : TA) : Prop where
  run : ∀ (pos : Pos) (pins : List (Addr × Obj)) (s : Shared) (σ : St) (H : Hp) (Q : List V → Hp → Prop) (Z : List Value → Shared → Prop), Inv X pins σ H s → t σ H Q →
    (∀ (vs : List V) (us : List Value) (H1 : Hp) (s1 : Shared), Inv X pins σ H1 s1 → Vals vs us → Q vs H1 → wpAny (model X.prog X.w) X.A (eval lam X.env) (fun v s2 => Z (us ++ [v]) s2) X.xe s1) →
    wpAny (model X.prog X.w) X.A (spliced (backTo pos (starEach (es ++ [lam]) X.env))) Z X.xe s
section
variable {X : Cx} {lam e : Expr} {es : List Expr} {t : TA} {te : TE} {r : DE} {l : List (Bool × DE)} {b : Bool}
theorem pal_nil (hs : starEach [lam] X.env = [(false, eval lam X.env)]) : PAl X [] lam (fun σ H Q => Q [] H) := ⟨fun pos pins s σ H Q Z I h go => by
  show wpAny _ _ (spliced (backTo pos (starEach [lam] X.env))) _ _ s
  rw [hs]
  exact Calls.spliced_cons (thn (go [] [] H s I .nil h) fun v s2 z => Calls.spliced_nil z)⟩
theorem PAl.imp {t t' : TA} (h : PAl X es lam t) (i : ∀ σ H Q, t' σ H Q → t σ H Q) : PAl X es lam t' := ⟨fun pos pins s σ H Q Z I q go => h.run pos pins s σ H Q Z I (i σ H Q q) go⟩
def SAl (X : Cx) (es : List Expr) (lam : Expr) (l : List (Bool × DE)) : Prop := ∀ W, Takes X W → PAl X es lam (tA X.K W (dA l))
theorem sal_nil (hs : starEach [lam] X.env = [(false, eval lam X.env)] := by rfl) : SAl X [] lam [] := fun W tk => PAl.imp (pal_nil hs) fun σ H Q ⟨G, O, ρ, T, hK, R, h⟩ => h O [] H rfl R
end
/-- one call of a def, at one state -/
theorem fn_at {P : Program} {w : World} {K : PySem.W.Frag} {mg : Str → Option Value} {base : Heap} {x qual : Str} {params : Arguments} {body : List Stmt} {scope : Scope} {dvs : List V} {kws : List (Str × V)} {f : Addr} {fd : FuncData} {cx : CXT} {k : Nat} {N ps : List Str}
    (F : FunD K x qual params body scope dvs kws f fd) (S : FnScope N ps scope) {A : Around} {below : List Env} {s : Shared} {H : Hp} {as : Args} {us : List Value} {vs : List V} {Q : VK} {E : XK} (room : Room (k + 1) A) (e0 : Env0 P w K mg base A below s H)
    (bind : BindsTo s fd as (ps.zip us)) (vals : Vals vs us) (len : vs.length = ps.length)
    (hb : ∀ cdv : Value, fd.code = cdv → Room k (A.deeper (envOfC qual scope s.heap.objs.size f cdv)) → ∃ t, PSs (cxOf cx P w K mg base N qual scope f cdv A below s H E) body t ∧ t { rt := Q, nx := fun _ h => Q .non h } (start N vs) H) :
    codeAny (model P w) A (.call (.ref f) as) (CR cx below P w H s Q E) s := by
  obtain ⟨oc, od, dV, kV, doc, pm, an, cdv, ct, osl, rfl, look, code, _⟩ := F.ex
  have stays : ∀ b o, base.get? b = some o → s.heap.get? b = some o := fun b o e => (e0.bs b o e).1
  have inK : K.In s.heap := e0.mod.kin.keeps stays
  have kinds : ∀ y ∈ ps.zip us, scope.names.lookup y.1 = some .local ∨ (scope.names.lookup y.1 = some .cell ∧ ((cellsFrom (s.heap.objs.size + 1) scope.names []).lookup y.1).isSome = true) :=
    fun y m => (S.par y.1 (List.of_mem_zip (b := y.2) m).1).imp_right fun q => ⟨q, PySem.W.cellsFrom_some _ _ _ (.inl q)⟩
  obtain ⟨t, walk, ends⟩ := hb cdv rfl (room.deeper _)
  refine codeAny_call_function room.depth (inK _ _ look) rfl S.co S.gen rfl (PySem.W.codeRec_of inK code) (bind _ _ _ _ (wpAny_newFunctionEnv_cells S.kind kinds fun env e s1 bound => ?_))
  cases e
  have first : Inv (cxOf cx P w K mg base N qual scope f cdv A below s H E) [] (start N vs) H s1 := inv_start S room.hd e0 len vals bound
  refine ⟨(e0.mod.nolimit.keeps stays).keeps bound.toInCall.keep, codeAny_func (wpAny_mono (walk.run [] s1 (start N vs) H _ first ends) (fun g s2 q => ?_) fun _ _ q => q)⟩
  match g, q with
  | .ret u, ⟨v, _, h, J, r, q⟩ => exact ⟨v, h, J.os, J.bare, J.base, J.hok, r, q⟩
  | .next, ⟨_, h, J, q⟩ => exact ⟨.non, h, J.os, J.bare, J.base, J.hok, rfl, q⟩
  | .brk, ⟨_, _, _, q⟩ => exact q.elim
  | .cont, ⟨_, _, _, q⟩ => exact q.elim
/-- the maker of the lambda: its code object and its table -/
structure LamK (X : Cx) (P : Addr) : Prop where
  ex : ∃ c, X.env.code = .ref c ∧ LamX.TabB X.base X.mg c P
  tb : tbk X.K P = some (X.env.qual ++ "<lambda>")
section
variable {X : Cx}
theorem se_callLam {np k : Nat} {x a : Str} {st : Stmt} {N ps : List Str} {rc : Addr → List V → DS} {rb : DE} {is : List Nat} {es rest : List Expr} {e0 : Expr} {l : List (Bool × DE)} {P : Addr} {i : Nat} {params : Arguments} {body : Expr} {scope : Scope} {p pos lpos : Pos}
    (hx : CxG X) (LK : LamK X P) (F : FnAt X.K X.mg x st [] []) (S : FnScope N ps (defScope st)) (hn : ps.length = np) 
    (hb : ∀ (kV doc pm : Value) (an : Option Addr) (cdv ct : Value) (us : List Value), us.length = ps.length → bindArgs (PySem.W.fnOf x x (defArgs st) (defBody st) (defScope st) .none kV doc pm an cdv ct) ⟨us, []⟩ = pure (ps.zip us))
    (hw : ∀ (g : Addr) (cdv : Value) (A : Around) (outer : List Env) (s : Shared) (H : Hp) (E : XK) (f : Addr) (us : List V), FnCx (cxOf (L2.CX X.prog X.w) X.prog X.w X.K X.mg X.base N x (defScope st) g cdv A outer s H E) (k + 1) →
      LamAct (cxOf (L2.CX X.prog X.w) X.prog X.w X.K X.mg X.base N x (defScope st) g cdv A outer s H E) a i f us rb is X.N.length → SSs (cxOf (L2.CX X.prog X.w) X.prog X.w X.K X.mg X.base N x (defScope st) g cdv A outer s H E) (defBody st) (rc f us))
    (hbody : ∀ (A : Around) (outer : List Env) (s : Shared) (H : Hp) (E : XK) (f c' : Addr), FnCx (LamX.lamCx X A outer s H E scope f c') k → SE (LamX.lamCx X A outer s H E scope f c') body rb)
    (hr : Room (k + 2) X.A) (L : LamX.LamS X.env.scope scope) (hdf : defaultsOf params X.env = ([], []))
    (nul : ∀ (q : Str) (cl : List (Str × Addr)) (pm cv ctv : Value), bindArgs (PySem.W.kla_fn "<lambda>" q params body scope cl pm cv ctv) ⟨[], []⟩ = pure [])
    (hN : N[i]? = some a) (vis : Vis (defScope st) a) (al : SAl X es (.Lambda params body scope lpos) l) (he : e0 :: rest = es ++ [.Lambda params body scope lpos] := by rfl)
    (hg : Gl X x := by rfl) (hdb : (x == ("__debug__" : Str)) = false := by decide) (db : (a == ("__debug__" : Str)) = false := by decide) (dc : (a == ("__classdict__" : Str)) = false := by decide)
    (hst : starEach (e0 :: rest) X.env = (false, eval e0 X.env) :: starEach rest X.env := by rfl) (hpl : (backTo pos (starEach rest X.env)).any (·.1) = false := by rfl) :
    SE X (.Call (.Name x p) (e0 :: rest) [] pos) (dCallLam (fun f us => runFn N.length (rc f us)) np is l) := fun W tk => ⟨fun pins s σ H Q I z => by
  obtain ⟨g, fd, hm, FD⟩ := F.ex
  obtain ⟨c, hcd, TB⟩ := LK.ex
  obtain ⟨G, O, ρ, hK, R, h⟩ := z
  refine wpAny_Call_Name_kw (ld_glob I hg hm (PySem.W.callWith_K (h₀ := X.base) I.ok.mod.kin FD.kp ?_ hst hpl) hdb)
  rw [he]
  refine (al W tk).run pos pins s σ H (fun vs H1 => ∃ O1 ρ1 xs, vs.length = xs.length ∧ Rel G O1 σ H1 ρ1 (pushC vs xs []) ∧ ((lamEnd (fun f us => runFn N.length (rc f us)) np is xs) ρ1).post (fun x ρ' => ∀ O' v H', Rel G O' σ H' ρ' [⟨v, x.1, x.2⟩] → Q v H') (EX G σ W)) _ I
    ⟨G, O, ρ, [], hK, R, Res.post_ok ((post_bind _ _).mp h) fun xs ρ1 q O1 vs H1 hl R1 => ⟨O1, ρ1, xs, hl, R1, q⟩⟩ ?_
  rintro vs us H1 s1 I1 rv ⟨O1, ρ1, xs, hl, R1, q⟩
  unfold lamEnd at q
  obtain ⟨O2, R2⟩ := Rel.shareAll is R1
  generalize shareL ρ1 is = ρ2 at q R2
  by_cases hu0 : (uniqW (wsOf ρ2 0 xs) && decide (xs.length + 1 = np) && noOwn ρ2 xs) = true
  · rw [if_pos hu0] at q
    rw [Bool.and_eq_true, Bool.and_eq_true, decide_eq_true_eq] at hu0
    obtain ⟨hu, hno⟩ := hu0
    cases ha : argsOf ρ2 xs with
    | none => rw [ha] at q; exact q.elim
    | some args =>
      cases hc : capsOf ρ2 is with
      | none => rw [ha, hc] at q; exact q.elim
      | some ds =>
        rw [ha, hc] at q
        dsimp only at q
        cases hl2 : lamRes (fun f us => runFn N.length (rc f us)) args ds with
        | none => rw [hl2] at q; exact q.elim
        | some fr =>
          rw [hl2] at q
          obtain ⟨cus, hcus, rps⟩ := caps_rel R2 hc
          have hP : tbk G.K P = some (X.env.qual ++ "<lambda>") := by rw [hK]; exact LK.tb
          have tt : LamX.TabS H1 P (X.env.qual ++ "<lambda>") := (R2.tr P _ (tb_out R2 hP)).2 _ hP
          refine lam_mk I1 TB hcd tt hdf (L.has I1.ok) ?_
          intro f c' pm ctv H2 s2 I2 kp t2 ⟨ps2, tP, tc⟩ obj nf off
          refine ⟨I2.kIn, ?_⟩
          have R3 := R2.tabStep hP kp t2
          have hal := argsOf_len ha
          have tri : TriplesOk ps2.toList := by
            obtain ⟨ps3, g1, g2, _⟩ := t2
            rw [tP] at g1
            cases g1
            exact g2
          have rps3 : Reps G.K H2 (lin (cO (wsOf ρ2 0 xs) O2)) cus ds := rps.mono fun b o n e => by
            have nb : b ≠ P := fun z => n (by unfold lin; rw [z, tb_out R2 hP]; simp)
            exact ⟨kp b o nb e, fun z => n (lin_cO.mp z)⟩
          have R4 := call_in (dvs := [.ref f]) (dfl := [.fnv f cus ds]) R3 hl hu.1 ha (.cons (.fnv rps3) .nil)
          have stp := lamRes_at hl2 f cus
          have spf : spF X.K (runFn N.length (rc f cus)) ps.length (vs ++ [.ref f]) H2 Q (fun cls d H => W cls d σ H) := by
            refine ⟨by rw [List.length_append, hl, hn]; exact hu.2, cG G (wsOf ρ2 0 xs) O2 H2 vs, cO (wsOf ρ2 0 xs) O2, args ++ [shA (.fnv f cus ds)], hK, by rw [List.length_append, hal, hn]; exact hu.2, R4, ?_⟩
            have key : ∀ {outs : Rho}, backs xs outs 0 ρ2 = ρ2 := backs_same hno
            cases hF : runFn N.length (rc f cus) (args ++ [shA (.fnv f cus ds)]) with
            | none => rw [hF] at stp; cases stp
            | some fr2 =>
              rw [hF] at stp
              cases fr2 with
              | ret d b outs =>
                cases stp
                exact fun O' σ' v H' R' => q _ v H' (by
                  have := (call_out R3 hl hu.1 (NoNm.nil.cons fun i z => by cases b <;> cases z) R').1
                  rwa [key] at this)
              | exc x outs =>
                cases stp
                intro O' σ' H' dd R' er
                rw [← hK]
                refine q _ H' dd (by
                  have := (call_out R3 hl hu.1 .nil R').1
                  rwa [key] at this) ?_
                have nn := (call_out R3 hl hu.1 .nil R').2
                unfold ExnRep at er ⊢
                cases qf : x.fs with
                | none => rw [qf] at er; exact er
                | some fs =>
                  rw [qf] at er
                  obtain ⟨d, us', e1, e2, e3, e4, e5⟩ := er
                  refine ⟨d, us', e1, e2, e3, ?_, fun z => e5 fun z2 => z (nn d z2)⟩
                  rw [hK]
                  refine e4.mono fun a o n e => ⟨e, fun z => n ?_⟩
                  unfold lin at z ⊢
                  exact fun z2 => z (nn a z2)
          have lenA : (vs ++ [V.ref f]).length = ps.length := by rw [List.length_append, hl, hn]; exact hu.2
          have run : codeAny (model X.prog X.w) X.A (.call (.ref g) ⟨us ++ [.ref f], []⟩) (CR (L2.CX X.prog X.w) X.stack X.prog X.w H2 s2 Q (fun cls d H => W cls d σ H)) s2 := by
            have bs := FD.bindsN hb
            have va : Vals (vs ++ [.ref f]) (us ++ [.ref f]) := rv.append (.cons rfl .nil)
            refine fn_at (k := k + 1) FD S hr I2.env0 (by simpa using bs s2 (us ++ [.ref f]) I2.kIn (by rw [List.append_nil, ← va.length]; exact lenA)) va lenA fun cdv _ room => ?_
            have fcx : FnCx (cxOf (L2.CX X.prog X.w) X.prog X.w X.K X.mg X.base N x (defScope st) g cdv X.A X.stack s2 H2 (fun cls d H => W cls d σ H)) (k + 1) := ⟨⟨rfl, S.nd, passes_of rfl, hx.gu⟩, room⟩
            refine ⟨_, hw g cdv X.A X.stack s2 H2 _ f cus fcx ?_ _ (takes_of rfl rfl rfl rfl), body_of spf (by have := congrArg List.length S.pre; rw [List.length_take] at this; omega)⟩
            have := lam_act (Eg := fun cls d H => W cls d σ H) (Ng := N) (qg := x) (sg := defScope st) (g := g) (cdg := cdv) (a := a) (i := i) (is := is) (us := cus) (rb := rb) hx I2 L obj nf off (nul _ _ _ _ _) tP tri tc LK.tb room hcus (fun A outer s1 H1 E fc => hbody A outer s1 H1 E f c' fc) hN vis db dc
            rwa [I2.len] at this
          refine wpAny_call (codeAny_mono run fun r s3 y => ?_)
          match r, y with
          | .ok (.ret u), y => exact I2.after y
          | .error v, y => exact passAt tk σ pins H2 s2 v s3 I2 y
          | .ok .next, y => exact y.elim
          | .ok .brk, y => exact y.elim
          | .ok .cont, y => exact y.elim
  · rw [if_neg hu0] at q; exact q.elim⟩
end
end L2.VL
end
section
set_option Elab.async false
set_option linter.all false
set_option maxRecDepth 100000
namespace L2.VL
open PySem PySem.Spec PyProof.Rows L2
/-- the maker's code object, its table -/
abbrev tabB (base : Heap) (mg : Str → Option Value) (K : PySem.W.Frag) (x : Str) : Prop := LamX.TabB base mg (He.cT K (x, none)).1 (He.cT K (x, none)).2
theorem def_okL {P : Program} {w : World} {K : PySem.W.Frag} {mg : Str → Option Value} {base : Heap} {x : Str} {st : Stmt} {N ps : List Str} {k np : Nat} {r : DS} (is : lamN = some x) (F : FnAt K mg x st [] []) (at_ : mg x = some (.ref (He.ga K x))) (TB : tabB base mg K x) (S : FnScope N ps (defScope st)) (hn : ps.length = np)
    (hb : ∀ (kV doc pm : Value) (an : Option Addr) (cdv ct : Value) (us : List Value), us.length = ps.length → bindArgs (PySem.W.fnOf x x (defArgs st) (defBody st) (defScope st) .none kV doc pm an cdv ct) ⟨us, []⟩ = pure (ps.zip us))
    (h : ∀ (f : Addr) (cdv : Value) (A : Around) (outer : List Env) (s : Shared) (H : Hp) (E : XK), FnCx (cxOf (L2.CX P w) P w K mg base N x (defScope st) f cdv A outer s H E) k → LamK (cxOf (L2.CX P w) P w K mg base N x (defScope st) f cdv A outer s H E) (He.cT K (x, none)).2 →
      SSs (cxOf (L2.CX P w) P w K mg base N x (defScope st) f cdv A outer s H E) (defBody st) r) :
    Def P w K mg base x (k + 1) (runFn N.length r) np [] := by
  obtain ⟨f, fd, hm, FD⟩ := F.ex
  rw [at_] at hm
  obtain rfl : He.ga K x = f := by injection Option.some.inj hm
  subst hn
  have hl : ps.length ≤ N.length := by have := congrArg List.length S.pre; rw [List.length_take] at this; omega
  refine ⟨_, fd, ps, [], at_, FD.kp, rfl, ⟨fun vs H Q E h => h.1, fun A gu room below s H e0 as us bind vs vals Q E z => ?_⟩, FD.bindsN hb, .nil⟩
  refine fn_at (k := k) FD S room e0 bind vals z.1 fun cdv hc rm => ?_
  have tk : Takes (cxOf (L2.CX P w) P w K mg base N x (defScope st) (He.ga K x) cdv A below s H E) (fun cls d _ H => E cls d H) := takes_of rfl rfl rfl rfl
  refine ⟨_, h (He.ga K x) cdv A below s H E ⟨⟨rfl, S.nd, passes_of rfl, gu⟩, rm⟩ ?_ _ tk, body_of z hl⟩
  obtain ⟨oc, od, dV, kV, doc, pm, an, cd2, ct, osl, rfl, look, code, _⟩ := FD.ex
  have e2 : cd2 = cdv := hc
  subst e2
  obtain ⟨c, rfl⟩ := He.codeIn_ref code
  have ec : He.codeOf K (x, none) = c := He.codeOf_eq (p := (x, none)) look rfl
  refine ⟨⟨c, rfl, ?_⟩, ?_⟩
  · have : (He.cT K (x, none)).1 = c := ec
    rw [← this]
    exact TB
  · show tbk K (He.cT K (x, none)).2 = some ((x ++ ".<locals>.") ++ "<lambda>")
    unfold tbk
    rw [is]
    exact if_pos rfl
def obL (n : Nat) (fa : List He.Fa) (fn : List He.DefD) (fc : List Fc) (x : Str) (g : Addr → Option Obj) : He.AlD × Bool :=
  (He.obsD fa fn (He.frT g (cStatics :: He.asD g n)), (fc.all fun f => f.ok (He.frT g (cStatics :: He.asD g n))) && He.tabsB g [(x, none)] (He.frT g (cStatics :: He.asD g n)))
/-- what the head tells: the facts, the maker's empty table -/
structure SaysL (fa : List He.Fa) (fn : List He.DefD) (fc : List Fc) (x : Str) (h : Heap) (K : PySem.W.Frag) : Prop where
  inK : K.In h
  d : He.SaysD fa fn K
  c : (fc.all fun f => f.ok K) = true
  hd : PySem.W.codeHdIn K (He.cT K (x, none)).1 (He.cT K (x, none)).2 = true
  out : K.lookup (He.cT K (x, none)).2 = none
  empty : h.get? (He.cT K (x, none)).2 = some { cls := .none, data := .fields #[] }
theorem saysL_of {n : Nat} {fa : List He.Fa} {fn : List He.DefD} {fc : List Fc} {x : Str} {h : Heap} (e : obL n fa fn fc x h.get? = (He.valD fn, true)) : SaysL fa fn fc x h (He.frT h.get? (cStatics :: He.asD h.get? n)) := by
  have e2 := congrArg Prod.snd e
  obtain ⟨h1, h2⟩ := He.ba (show ((fc.all fun f => f.ok (He.frT h.get? (cStatics :: He.asD h.get? n))) && He.tabsB h.get? [(x, none)] (He.frT h.get? (cStatics :: He.asD h.get? n))) = true from e2)
  obtain ⟨h3, h4⟩ := He.ba (List.all_eq_true.mp h2 (x, none) List.mem_cons_self)
  cases q : h.get? (He.cT (He.frT h.get? (cStatics :: He.asD h.get? n)) (x, none)).2 with
  | none =>
    rw [q] at h4
    cases h4
  | some o =>
    rw [q] at h4
    exact ⟨He.frT_in, congrArg Prod.fst e, h1, h3, He.frT_none q h4, by rw [q, He.emptyTab_eq h4]⟩
def hookL (n : Nat) (fa : List He.Fa) (fn : List He.DefD) (fc : List Fc) (x : Str) : PySem.W.Hook where
  α := He.AlD × Bool
  obs := fun s => obL n fa fn fc x s.heap.get?
  val := fun _ => (He.valD fn, true)
  says := fun _ h => ∃ K : PySem.W.Frag, SaysL fa fn fc x h K
  of := fun _ _ e => ⟨_, saysL_of e⟩
  keeps := fun _ _ _ ⟨K, c⟩ k => ⟨K, PySem.W.Frag.In.keeps c.inK k, c.d, c.c, c.hd, c.out, k _ _ c.empty⟩
theorem obL_eq {n : Nat} {fa : List He.Fa} {fn : List He.DefD} {fc : List Fc} {x : Str} {g : Addr → Option Obj} {s : Shared} (h : ∀ a, g a = s.heap.get? a) : obL n fa fn fc x g = (hookL n fa fn fc x).obs s := by
  have e : g = s.heap.get? := funext h
  rw [e] <;> rfl
/-- THE HEAD where a table may grow -/
theorem headT {P : Program} {w : World} {K : PySem.W.Frag} {mg mb : Str → Option Value} {k : Nat} {fa a c T : Addr} {fd : FuncData} {x : Str} {F : Fn} {s1 : Shared} {vs : List Value} {ns : List Int}
    (X : K.In s1.heap) (gl : s1.heap.Ns mainGlobals mg) (bl : s1.heap.Ns builtinsNs mb) (bb : ∀ y : Str, y ≠ "__name__" → mb y = bootBuiltins y) (lim : s1.heap.NoLimit) (gens : s1.gens = #[])
    (hT : s1.heap.get? T = some { cls := .none, data := .fields #[] }) (nT : K.lookup T = none) (C : PySem.W.CodeHd s1.heap c T)
    (hbm : ∃ (bm : Addr) (ob : Obj), mg "__builtins__" = some (.ref bm) ∧ bm ≠ builtinsNs ∧ s1.heap.get? bm = some ob ∧ ob.cls = .type "module" ∧ ob.dict = some builtinsNs ∧ ob.data = .plain)
    (script : s1.heap.get? a = some { cls := .type "list", data := .seq vs.toArray }) (iar : IntsAre vs ns) (short : ns.length ≤ sizeLine) (room : Room k callerA)
    (fn : ∀ base : Heap, LamX.TabB base mg c T → FnG P w K mg base (L2.CX P w) k fa fd [x] (spF K F 1)) (bind : ∀ (s : Shared) (u : Value), BindsTo s fd ⟨[u], []⟩ [(x, u)])
    (sp : ∀ H : Hp, H T = some (.tbl #[]) → SqL K H a (ns.map V.int) → spF K F 1 [.ref a] H (fun v _ => v = .bl true) E0) :
    codeAny (model P w) callerA (.call (.ref fa) ⟨[.ref a], []⟩) (fun r s' => r = .ok (.ret (.bool true)) ∧ OldK s1.heap s'.heap ∧ s'.os = s1.os ∧ AllBare s'.gens) s1 := by
  have vals := vals_ints iar
  have aT : a ≠ T := fun z => by
    rw [z, hT] at script
    cases script
  -- H tracks the table, and the script at most
  have main : ∀ H : Hp, (∀ b u, H b = some u → (b = T ∧ u = .tbl #[]) ∨ (b = a ∧ u = .frz { cls := .type "list", data := .seq vs.toArray } (.lst (ns.map V.int)) ∧ K.lookup a = none)) → H T = some (.tbl #[]) → SqL K H a (ns.map V.int) →
      codeAny (model P w) callerA (.call (.ref fa) ⟨[.ref a], []⟩) (fun r s' => r = .ok (.ret (.bool true)) ∧ OldK s1.heap s'.heap ∧ s'.os = s1.os ∧ AllBare s'.gens) s1 := by
    intro H only hHT sq
    have free : ∀ b, b ≠ T → (b ≠ a ∨ K.lookup b ≠ none) → H b = none := fun b n z => by
      cases q : H b with
      | none => rfl
      | some u =>
        rcases only b u q with ⟨e, _⟩ | ⟨e, _, m⟩
        · exact absurd e n
        · subst e
          exact (z.elim (fun z => z rfl) (fun z => z m)).elim
    have notT : ∀ {b : Addr} {o : Obj}, s1.heap.get? b = some o → o.data ≠ .fields #[] → b ≠ T := fun g n z => by
      rw [z, hT] at g
      cases g
      exact n rfl
    have notA : ∀ {b : Addr} {o : Obj}, s1.heap.get? b = some o → (∀ v n, o.data ≠ .seq v n) → b ≠ a := fun g n z => by
      rw [z, script] at g
      cases g
      exact n _ _ rfl
    have vis : ∀ {b : Addr} {o : Obj}, s1.heap.get? b = some o → o.data ≠ .fields #[] → (∀ v n, o.data ≠ .seq v n) → (hidT s1.heap H).get? b = some o := fun {b o} g n1 n2 => hidT_get g (free b (notT g n1) (.inl (notA g n2)))
    have names : ∀ {b : Addr} {m : Str → Option Value}, s1.heap.Ns b m → (hidT s1.heap H).Ns b m := fun {b m} ⟨o, es, n, g, d, r⟩ => ⟨o, es, n, vis g (fun z => by rw [d] at z; cases z) (fun v n z => by rw [d] at z; cases z), d, r⟩
    have inK : K.In (hidT s1.heap H) := fun b o l => hidT_get (X b o l) (free b (fun z => by rw [z, nT] at l; cases l) (.inr (by rw [l]; exact fun z => by cases z)))
    have ok : HOk P w H s1.heap := fun b u z => by
      rcases only b u z with ⟨rfl, rfl⟩ | ⟨rfl, rfl, _⟩
      · exact hT
      · exact ⟨script, by rw [List.length_map]; exact short, vs, _, vals, script⟩
    have TB : LamX.TabB (hidT s1.heap H) mg c T := by
      refine ⟨?_, ?_, fun z => ?_⟩
      · obtain ⟨o, us, file, tf, flags, tg, inF, text, tt, e1, r1, r2, r⟩ := C
        refine ⟨o, us, file, tf, flags, tg, inF, text, tt, vis e1 (fun z => ?_) (fun v n z => by rw [r2] at z; cases z), r1, r2, r⟩
        rw [r2] at z
        cases z
        simp at r
      · obtain ⟨bm, ob, b1, b2, b3, b4, b5, b6⟩ := hbm
        refine ⟨bm, ob, b1, b2, fun q => ?_, notT b3 (fun z => by rw [b6] at z; cases z), vis b3 (fun z => by rw [b6] at z; cases z) (fun v n z => by rw [b6] at z; cases z), b4, b5, b6⟩
        obtain ⟨o, es, n, g, d, _⟩ := gl
        rw [q, g] at b3
        cases b3
        rw [d] at b6
        cases b6
      · obtain ⟨o, es, n, g, d, _⟩ := gl
        rw [z, hT] at g
        cases g
        cases d
    have env : Env0 P w K mg (hidT s1.heap H) callerA [] s1 H :=
      ⟨rfl, ⟨inK, names gl, ⟨mb, names bl, bb⟩, lim.elim fun mc q => ⟨mc, names q.1, q.2⟩⟩, fun _ _ z => of_hidT z, Nat.le_of_eq (hidT_size _ _), trivial, fun _ z => (nomatch (show _ ∈ ([] : List Addr) from z)), ok, .of_eq gens⟩
    refine codeAny_mono ((fn _ TB).run callerA rfl room [] s1 H env ⟨[.ref a], []⟩ [.ref a] (bind s1 (.ref a)) [.ref a] (.cons rfl .nil) _ _ (sp H hHT sq)) fun r s' q => ?_
    match r, q with
    | .error e, q => obtain ⟨_, _, _, _, _, _, _, _, _, _, _, _, z⟩ := q; exact z.elim
    | .ok .next, q => exact q.elim
    | .ok .brk, q => exact q.elim
    | .ok .cont, q => exact q.elim
    | .ok (.ret u), ⟨v, H', os, bare, un, ok', rv, q⟩ =>
      subst q
      cases (show u = Value.bool true from rv)
      obtain ⟨more, hm⟩ := un.tbls T #[] hHT
      have grown : s'.heap.get? T = some { cls := .none, data := .fields more } := ok' T _ (show H' T = some (.tbl more) by rw [hm, Array.empty_append])
      have same : ∀ b o, b ≠ T → s1.heap.get? b = some o → s'.heap.get? b = some o := fun b o n g => by
        cases hb : H b with
        | none => exact un.keep b o g hb (fun z => nomatch (show b ∈ ([] : List Addr) from z)) (fun z => nomatch z)
        | some u =>
          rcases only b u hb with ⟨e, _⟩ | ⟨rfl, rfl, _⟩
          · exact absurd e n
          · rw [script] at g
            cases g
            exact (ok' b _ (un.frzs b _ _ hb)).1
      refine ⟨rfl, ⟨fun b o g => ?_, fun b o g => ?_⟩, os, bare⟩
      · by_cases z : b = T
        · subst z
          rw [hT] at g
          cases g
          exact .inr (.inl ⟨(C.tab hT).isCodeTable, rfl, #[], more, rfl, by rw [Array.empty_append]; exact grown⟩)
        · exact .inl (same b o z g)
      · by_cases z : b = T
        · subst z
          exact ⟨_, grown⟩
        · exact ⟨o, same b o z g⟩
  cases hk : K.lookup a with
  | some o =>
    have g := X a o hk
    rw [script] at g
    cases g
    refine main (fun b => if b = T then some (.tbl #[]) else none) (fun b u z => ?_) (if_pos rfl) (.inr ⟨_, vs.toArray, _, hk, rfl, rfl, rfl, by rw [List.size_toArray, iar.length]; exact short, by simpa using vals⟩)
    split at z
    · rename_i e
      cases z
      exact .inl ⟨e, rfl⟩
    · cases z
  | none =>
    refine main (fun b => if b = T then some (.tbl #[]) else if b = a then some (.frz { cls := .type "list", data := .seq vs.toArray } (.lst (ns.map V.int))) else none) (fun b u z => ?_) (if_pos rfl) (.inl (.inr ⟨_, (if_neg aT).trans (if_pos rfl)⟩))
    split at z
    · rename_i e
      cases z
      exact .inl ⟨e, rfl⟩
    · split at z
      · rename_i e
        cases z
        exact .inr ⟨e, rfl, hk⟩
      · cases z
theorem walkT {l : PySem.W.OpenLaw} {n k : Nat} {q : Program} {loose : List Str} {XP : (Str → Option Value) → Heap → Prop} {YP : World → Heap → Prop} {d : DefRec} {x : Str} (most : l.most = some n) (small : n ≤ sizeLine) (df : d.params.defaults = []) (room : Room k callerA)
    (G : ∀ (w : World) (mg : Str → Option Value) (fa : Addr) (h : Heap), YP w h → h.Ns mainGlobals mg → mg d.name = some (.ref fa) → ∃ (K : PySem.W.Frag) (fd : FuncData) (F : Fn) (c T : Addr), K.In h ∧ h.get? T = some { cls := .none, data := .fields #[] } ∧ K.lookup T = none ∧ PySem.W.CodeHd h c T ∧ (∀ (s : Shared) (u : Value), BindsTo s fd ⟨[u], []⟩ [(x, u)]) ∧
      (∀ (H : Hp) (a : Addr) (ns : List Int), ns.length ≤ n → H T = some (.tbl #[]) → SqL K H a (ns.map V.int) → spF K F 1 [.ref a] H (fun v _ => v = .bl true) E0) ∧ ∀ base : Heap, LamX.TabB base mg c T → FnG l.prog w K mg base (L2.CX l.prog w) k fa fd [x] (spF K F 1)) :
    PySem.W.WalkO q loose XP YP l.row.toRowW d [] (fun f vs => PySem.call f vs) :=
  Att.attach_callB most df fun w s0 s1 mg mb fa o pm cd doc a vs ns Gr Y _ _ _ hmg script iar len _ gens => by
    obtain ⟨K, fd, F, c, T, X, hT, nT, C, bind, sp, fn⟩ := G w mg fa _ Y Gr.T.g hmg
    exact headT X Gr.T.g Gr.T.b Gr.T.builtins Gr.T.nolimit gens hT nT C Gr.T.bmain script iar (Nat.le_trans len small) room fn bind fun H hH sq => sp H a ns len hH sq
/-- the law's end, where the lambda's table stands at T -/
theorem law_spT {K : PySem.W.Frag} {F : Fn} {H : Hp} {a : Addr} {ns : List Int} {x : Str} (is : lamN = some x) (hT : H (He.cT K (x, none)).2 = some (.tbl #[])) (hS : SqL K H a (ns.map V.int)) (h : FRes.post (F [shA (.lst (ns.map fun n => .con (.int n)))]) (fun d _ _ => d = .bl true) fun _ _ => False) :
    spF K F 1 [.ref a] H (fun v _ => v = .bl true) E0 := law_sp hS h fun P q z => by
  unfold tbk at z
  rw [is] at z
  dsimp only at z
  split at z
  · rename_i e
    rw [e]
    exact .nil hT
  · cases z
end L2.VL
end
section
set_option Elab.async false
set_option linter.all false
set_option maxRecDepth 100000
set_option maxHeartbeats 1000000
namespace L2.VL
open PySem PySem.Spec PyProof.Rows L2
section
variable {X : Cx}
def PTT (X : Cx) (e : Expr) (t : TT) : Prop := ∀ (pins : List (Addr × Obj)) (s : Shared) (σ : St) (H : Hp) (Q : Bool → Hp → Prop), 1 ≤ s.toks → Inv X pins σ H s → t σ H Q → wpAny (model X.prog X.w) X.A (isTrue e X.env (eval e X.env)) (TP X pins σ Q) X.xe s
theorem PTT.imp {e : Expr} {t t' : TT} (h : PTT X e t) (i : ∀ σ H Q, t' σ H Q → t σ H Q) : PTT X e t' := fun pins s σ H Q h0 I q => h pins s σ H Q h0 I (i σ H Q q)
end
end L2.VL
end
section
set_option Elab.async false
set_option linter.all false
set_option maxRecDepth 100000
set_option maxHeartbeats 2000000
namespace L2.VL
open PySem PySem.Spec PyProof.Rows L2
section
variable {G : Fix} {O : Own} {σ : St} {H : Hp} {ρ : Rho} {T : List Tmp}
/-- a new list within a new list -/
theorem Rel.wrap1 {p b : Addr} {es : List D} (R : Rel G O σ H ρ (⟨.ref b, .lst es, .fr⟩ :: T)) (hp : H p = none) :
    Rel G (oset O p (some (.tp T.length))) σ (upd H p (.lst [.ref b])) ρ (⟨.ref p, .own [.lst es], .fr⟩ :: T) := by
  have op := R.lout p hp
  have ne : ∀ {a : Addr} {o : HO}, H a = some o → a ≠ p := fun e z => by rw [z, hp] at e; cases e
  obtain ⟨b', ho, ev, b1, b2, b3⟩ := OwnX.flat (show OwnX _ _ _ _ _ _ from R.tm.1)
  cases ev
  have bp := ne b2
  have hs : Stay H (upd H p (.lst [.ref b])) (lin O) (lin (oset O p (some (.tp T.length)))) := fun a o n e => by
    refine ⟨by rw [upd_ne (ne e)]; exact e, ?_⟩
    unfold lin at n ⊢
    rw [oset_ne (ne e)]; exact n
  refine ⟨R.len, fun b o e => ?_, fun b => ?_, fun a w e => ?_, R.pn, fun i s e => ?_, ⟨?_, ?_⟩⟩
  · obtain ⟨h1, h2⟩ := R.fr b o e
    rw [oset_ne (ne h1), upd_ne (ne h1)]; exact ⟨h1, h2⟩
  · by_cases e : b = p
    · rw [oset_eq e]
      constructor
      · intro z; cases z
      · intro z
        have := (R.ot b).mpr z
        rw [e, op] at this; cases this
    · rw [oset_ne e]; exact R.ot b
  · by_cases z : a = p
    · subst z
      refine ⟨⟨_, upd_same⟩, fun q hq => ?_⟩
      have := (R.ot a).mpr (G.tbo a q hq).1
      rw [op] at this; cases this
    · rw [oset_ne z] at e
      exact (R.tr a w e).fresh hp
  · obtain ⟨v, h1, h2⟩ := R.sl i s e
    refine ⟨v, h1, slot_mono hs (fun a o e1 e2 => ?_) h2⟩
    rw [oset_ne (ne e2), upd_ne (ne e2)]; exact ⟨e1, e2⟩
  · refine .inr ⟨[.lst es], rfl, p, [.ref b], [b], rfl, oset_eq rfl, upd_same, ?_, .cons ⟨by rw [oset_ne bp]; exact b1, .inl ⟨ho, es, rfl, rfl, by rw [upd_ne bp]; exact b2, b3.mono hs⟩⟩ .nil⟩
    refine List.nodup_cons.mpr ⟨fun z => bp (List.mem_singleton.mp z).symm, by simp⟩
  · refine tmps_mono hs (fun a o n _ e1 e2 => ?_) R.tm.2
    rw [oset_ne (ne e2), upd_ne (ne e2)]; exact ⟨e1, e2⟩
/-- a new list goes behind an own list -/
theorem Rel.dpushT {i : Nat} {b : Addr} {ds es : List D} {p : Bool} (R : Rel G O σ H ρ (⟨.ref b, .lst es, .fr⟩ :: T)) (ei : ρ[i]? = some (some ⟨.own ds, true, p⟩)) :
    ∃ a vs O', σ[i]? = some (some (.ref a)) ∧ H a = some (.lst vs) ∧ vs.length = ds.length ∧ Rel G O' σ (upd H a (.lst (vs ++ [.ref b]))) (ρ.set i (some ⟨.own (ds ++ [.lst es]), true, p⟩)) T := by
  have hi : i < ρ.length := (List.getElem?_eq_some_iff.mp ei).1
  obtain ⟨v, s1, s2⟩ := R.sl i _ ei
  obtain ⟨a, vs, bs, rfl, h1, h2, h3, h4⟩ := deep_of (show OwnX _ _ _ _ _ _ from s2)
  obtain ⟨b', ho, ev, b1, b2, b3⟩ := OwnX.flat (show OwnX _ _ _ _ _ _ from R.tm.1)
  cases ev
  have b1 : O b = some (.tp T.length) := b1
  have sij : (Ow.sl i) ≠ .tp T.length := fun z => by cases z
  have nd := List.nodup_cons.mp h3
  have ne : ∀ {c : Addr} {w : Ow}, O c = some w → w ≠ .sl i → c ≠ a := fun e n z => by
    rw [z, h1] at e
    exact n (Option.some.inj e).symm
  have hs : Stay H (upd H a (.lst (vs ++ [.ref b]))) (lin O) (lin (reO O (.tp T.length) (some (.sl i)))) := fun c o n e => by
    have nD : c ≠ a := fun z => n (by rw [z]; unfold lin; rw [h1]; simp)
    refine ⟨by rw [upd_ne nD]; exact e, ?_⟩
    unfold lin at n ⊢
    rw [reO_ne (fun z => n (by rw [z]; simp))]; exact n
  have hit : Itm G.K H O (.tp T.length) (.ref b) (.lst es) b := ⟨b1, .inl ⟨ho, es, rfl, rfl, b2, b3⟩⟩
  refine ⟨a, vs, reO O (.tp T.length) (some (.sl i)), s1, h2, h4.len, by simpa using R.len, fun c o e => ?_, fun c => ?_, fun c w e => ?_, fun k u hk => ?_, fun k s e => ?_, ?_⟩
  · obtain ⟨p1, p2⟩ := R.fr c o e
    rw [reO_ne (fun z => ?_), upd_ne (fun z => ?_)]
    · exact ⟨p1, p2⟩
    · rw [z, h1] at p2
      rcases p2 with p2 | p2 <;> cases p2
    · rw [z] at p2
      rcases p2 with p2 | p2 <;> cases p2
  · by_cases z : O c = some (.tp T.length)
    · rw [reO_eq z]
      constructor
      · intro q; cases q
      · intro q
        have := (R.ot c).mpr q
        rw [z] at this; cases this
    · rw [reO_ne z]; exact R.ot c
  · have t : TrOk G H c := by
      by_cases z : O c = some (.tp T.length)
      · exact R.tr c _ z
      · rw [reO_ne z] at e; exact R.tr c w e
    exact t.upd h2 plain_lst
  · obtain ⟨p1, s', q1, q2⟩ := R.pn k u hk
    refine ⟨p1, ?_⟩
    by_cases z : k = i
    · subst z
      rw [ei] at q1; cases q1
      exact ⟨_, List.getElem?_set_self hi, q2⟩
    · exact ⟨s', by rw [List.getElem?_set_ne (Ne.symm z)]; exact q1, q2⟩
  · by_cases z : k = i
    · subst z
      rw [List.getElem?_set_self hi] at e
      cases e
      refine ⟨_, s1, .inr ⟨_, rfl, a, vs ++ [.ref b], bs ++ [b], rfl, reO_other h1 sij, upd_same, ?_, ?_⟩⟩
      · refine List.nodup_cons.mpr ⟨fun z => ?_, List.nodup_append.mpr ⟨nd.2, by simp, fun x hx y hy e => ?_⟩⟩
        · rcases List.mem_append.mp z with z | z
          · exact nd.1 z
          · rw [← List.mem_singleton.mp z, h1] at b1
            exact sij (Option.some.inj b1)
        · have e1 := h4.owner x hx
          rw [← List.mem_singleton.mp hy, ← e, e1] at b1
          exact sij (Option.some.inj b1)
      · refine Itms.snoc (hit.at hs fun o e => ⟨reO_eq b1, ?_⟩) (h4.at hs fun c hc o e => ⟨reO_other (h4.owner c hc) sij, ?_⟩)
        · rw [upd_ne (ne b1 fun y => sij y.symm)]; exact e
        · rw [upd_ne (fun z => nd.1 (by rw [← z]; exact hc))]; exact e
    · rw [List.getElem?_set_ne (Ne.symm z)] at e
      obtain ⟨v', p1, p2⟩ := R.sl k s e
      exact ⟨v', p1, slot_mono hs (fun c o e1 e2 => ⟨reO_other e1 fun y => (by cases y), by rw [upd_ne (ne e1 fun y => z (Ow.sl.inj y))]; exact e2⟩) p2⟩
  · exact tmps_mono hs (fun c o n hn e1 e2 => ⟨reO_other e1 fun y => (by cases y; exact Nat.lt_irrefl _ hn), by rw [upd_ne (ne e1 fun y => (by cases y))]; exact e2⟩) R.tm.2
end
def own1 (x : D × Kd) : Option (D × Kd) := match x with
  | (.lst es, .fr) => some (.own [.lst es], .fr)
  | _ => none
def dOwn1 (r : DE) : DE := do
  let x ← r
  mOpt (own1 x)
def pushF (i : Nat) (x : D × Kd) : DE := fun ρ => match x, getOwnO ρ i with
  | (.lst es, .fr), some z => if z.1.length < cap then .ok (.con .non, .shr) (ρ.set i (some ⟨.own (z.1 ++ [.lst es]), true, z.2⟩)) else .stuck
  | _, _ => .stuck
def dPushF (i : Nat) (r : DE) : DE := do
  chkDeep i
  let x ← r
  pushF i x
def mutI (i : Nat) (g : List D → List D → Option (List D × D)) (d1 : D) : DE := fun ρ => match getOwnO ρ i, d1 with
  | some z, .con (.int m) => match ixN z.1.length m with
    | some j => match z.1[j]? with
      | some (.lst es) => match g es [] with
        | some w => .ok (w.2, .shr) (ρ.set i (some ⟨.own (z.1.set j (.lst w.1)), true, z.2⟩))
        | none => .stuck
      | _ => .stuck
    | none => .stuck
  | _, _ => .stuck
def dMutI (i : Nat) (r : DE) (g : List D → List D → Option (List D × D)) : DE := do
  chkDeep i
  let x ← r
  let d1 ← dcur x
  mutI i g d1
section
variable {X : Cx} {pos : Pos}
theorem se_own1 {e : Expr} {r : DE} (h : SE X e r) (hst : starEach [e] X.env = (false, eval e X.env) :: starEach [] X.env := by rfl) : SE X (.List [e] pos) (dOwn1 r) := fun W tk => PE.imp (pe_lst (pa_cons (h W tk) pa_nil hst)) fun σ H Q ⟨G, O, ρ, hK, R, h⟩ => by
  refine tE.at hK R (Res.post_ok ((post_bind _ _).mp h) fun x ρ1 q O1 v H1 R1 => ?_)
  obtain ⟨y, e1, q⟩ := (post_opt _).mp q
  unfold own1 at e1
  split at e1
  · rename_i es
    cases e1
    obtain ⟨b, ho, rfl, _⟩ := OwnX.flat (show OwnX _ _ _ _ _ _ from R1.tm.1)
    exact ⟨by show 1 ≤ sizeLine; decide, fun p hp => q _ _ _ (R1.wrap1 hp)⟩
  · cases e1
theorem se_pushF (i : Nat) {x : Str} {xpos apos : Pos} {e : Expr} {r : DE} (hm : MtR X "list.append" rAppend) (he : SE X e r)
    (hN : X.N[i]? = some x := by rfl) (hv : Vis X.env.scope x := by first | exact Or.inl rfl | exact Or.inr (Or.inl rfl) | exact Or.inr (Or.inr rfl)) (hd : (x == ("__debug__" : Str)) = false := by decide) (hcd : (x == ("__classdict__" : Str)) = false := by decide)
    (hbase : attributeBase (.Name x xpos) "append" X.env (eval (.Name x xpos) X.env) = eval (.Name x xpos) X.env := by rfl)
    (hfew : ((backTo pos (starEach [e] X.env)).all (fun x => !x.1) && (backToKw pos (keywordEach [] X.env)).all (fun x => x.1.isSome)
      && decide ([e].length + ([] : List Keyword).length + (if ([] : List Keyword).isEmpty then 0 else 1) < 30)) = true := by rfl)
    (hline : (apos.endLine == pos.line) = true := by rfl) (hst : starEach [e] X.env = (false, eval e X.env) :: starEach [] X.env := by rfl) (hplain : (backTo pos (starEach [] X.env)).any (·.1) = false := by rfl) :
    SE X (.Call (.Attribute (.Name x xpos) "append" apos) [e] [] pos) (dPushF i r) := fun W tk =>
  PE.imp (pe_bm PySem.F.plainAttrs_list PySem.F.slot_list_append PySem.F.type_list_append hm (pe_var hN hv hd hcd) (pa_cons (he W tk) pa_nil hst) hbase hfew hline hst hplain) fun σ H Q ⟨G, O, ρ, hK, R, h⟩ => by
    obtain ⟨z, ez, q⟩ := post_chkDeep ((post_bind _ _).mp h)
    obtain ⟨v, g1, t2⟩ := R.sl i _ (getOwnO_of ez)
    obtain ⟨a, vs0, bs, rfl, _, g2, _⟩ := deep_of (show OwnX _ _ _ _ _ _ from t2)
    refine ⟨.ref a, g1, .inl ⟨rfl, vs0, .inl (.inl g2)⟩, tE.at hK R (Res.post_ok ((post_bind _ _).mp q) fun x ρ1 q1 O1 v H1 R1 => ?_)⟩
    unfold pushF at q1
    split at q1
    · rename_i es z1 eo
      split at q1
      · rename_i hc
        obtain ⟨b, ho, rfl, _⟩ := OwnX.flat (show OwnX _ _ _ _ _ _ from R1.tm.1)
        obtain ⟨a1, vs, O', k1, k2, k3, R2⟩ := R1.dpushT (getOwnO_of eo)
        rw [g1] at k1
        cases k1
        exact ⟨a, vs, .ref b, rfl, rfl, k2, by rw [k3, ← cap_eq]; exact hc, q1 O' .non _ (R2.con _)⟩
      · exact q1.elim
    · exact q1.elim
theorem se_mutI (i : Nat) {id : String} {name x : Str} {rr : V → List V → Hp → VK → Prop} {g : List D → List D → Option (List D × D)} {apos xpos opos : Pos} {k1 : Expr} {r : DE} (slot : PySem.Slot "list" name id) (hty : typeOf (.builtin id) = pure (.type "method_descriptor")) (hm : MtR X id rr)
    (hs : MutS X.K rr g) (hk : SE X k1 r) (hN : X.N[i]? = some x := by rfl) (hv : Vis X.env.scope x := by first | exact Or.inl rfl | exact Or.inr (Or.inl rfl) | exact Or.inr (Or.inr rfl)) (hd : (x == ("__debug__" : Str)) = false := by decide)
    (hcd : (x == ("__classdict__" : Str)) = false := by decide) (hp : PlainIx k1 := by exact fun _ _ => rfl)
    (hbase : attributeBase (.Subscript (.Name x xpos) k1 opos) name X.env (eval (.Subscript (.Name x xpos) k1 opos) X.env) = eval (.Subscript (.Name x xpos) k1 opos) X.env := by rfl) (hline : (apos.endLine == pos.line) = true := by rfl) :
    SE X (.Call (.Attribute (.Subscript (.Name x xpos) k1 opos) name apos) [] [] pos) (dMutI i r g) := fun W tk =>
  PE.imp (pe_bm0 PySem.F.plainAttrs_list slot hty hm (pe_ix ix_list (pe_var hN hv hd hcd) (hk W tk) hp) hbase hline) fun σ H Q ⟨G, O, ρ, hK, R, h⟩ => by
    obtain ⟨z, ez, q⟩ := post_chkDeep ((post_bind _ _).mp h)
    obtain ⟨v, g1, t2⟩ := R.sl i _ (getOwnO_of ez)
    obtain ⟨a, vs0, bs, rfl, _, g2, _⟩ := deep_of (show OwnX _ _ _ _ _ _ from t2)
    refine ⟨.ref a, g1, tE.at hK R (Res.post_ok ((post_bind _ _).mp q) fun x ρ1 q1 O1 u H1 R1 => ?_)⟩
    obtain ⟨d1, e4, q2⟩ := post_cur.mp ((post_bind _ _).mp q1)
    have vu := R1.view R1.tm.1 e4
    have R1 := R1.pop
    unfold mutI at q2
    split at q2
    · rename_i z1 m eo
      split at q2
      · rename_i j ej
        split at q2
        · rename_i es ees
          split at q2
          · rename_i w ew
            obtain ⟨a1, vs, b, ws, k1, k2, k3, k4, k5, k6, k7, k8⟩ := R1.witL (getOwnO_of eo) ees
            rw [g1] at k1
            cases k1
            refine ⟨a, vs, m, .ref b, rfl, vu.con, .inl (.inl k2), ?_, .inl ⟨rfl, ws, .inl (.inl k6)⟩, ?_⟩
            · unfold atI
              rw [k3, ej]
              exact k4
            obtain ⟨vs', rv, p1, p2, p3⟩ := hs H1 (lin O1) b ws [] es [] w.1 w.2 Q k6 (by rw [← hK]; exact k7) .nil ew
            refine p3 (q2 O1 rv _ ((k8 vs' w.1 (by rw [hK]; exact p1)).push ?_))
            have p2 : Rep G.K H1 (lin O1) rv w.2 := by rw [hK]; exact p2
            refine Rep.mono (fun c ob n eb => ⟨?_, n⟩) p2
            rw [upd_ne]
            · exact eb
            · exact fun z => n (by rw [z]; unfold lin; rw [k5]; simp)
          · exact q2.elim
        · exact q2.elim
      · exact q2.elim
    · exact q2.elim
end
def rIsS (K : PySem.W.Frag) (a : Addr) (cls : Value) (d : Option Addr) : List V → Hp → VK → Prop := fun xs H Q => ∃ (x : Str) (c : V) (cv : Value) (r : Bool), xs = [.ref a, c] ∧ cls = .ref (He.ga K x) ∧ (∀ e, d = some e → ∃ ho, H e = some ho) ∧ KiT K x ∧ (∀ u, RelV c u → u = cv) ∧ PySem.W.kitOne K (.ref (He.ga K x)) cv = some r ∧ Q (.bl r) H
theorem call_isS {X : Cx} {a : Addr} {oe : Obj} {cls : Value} {d : Option Addr} {pn : List (Addr × Obj)} (hz : Zc cls d oe) (hf : ∃ vs, oe.data = .fields vs) : CallR (X.suite a ((a, oe) :: pn)) (.builtin "isinstance") (rIsS X.K a cls d) := by
  intro pins s σ H xs us Q I r h
  obtain ⟨x, c, cv, b, rfl, rfl, hd, C, hcv, e, q⟩ := h
  cases r with
  | cons rx rr =>
    cases rr with
    | cons rt rr =>
      cases rr
      cases rx
      obtain rfl := hcv _ rt
      obtain ⟨hget, _⟩ := I.pin (a, oe) (List.mem_append.mpr (.inl List.mem_cons_self))
      obtain ⟨vs, hv⟩ := hf
      obtain ⟨z1, z2⟩ := hz
      have J : ∃ od, PySem.W.InstAt s.heap a oe (He.ga X.K x) od := by
        obtain ⟨oc, odi, oda, osl⟩ := oe
        dsimp only at z1 z2 hv
        subst z1 z2 hv
        cases odi with
        | none => exact ⟨none, hget, rfl, rfl, trivial⟩
        | some da =>
          obtain ⟨ho, hh⟩ := hd da rfl
          obtain ⟨o, ho⟩ := ob_there (I.hok da ho hh)
          exact ⟨some o, hget, rfl, rfl, ho⟩
      obtain ⟨od, J⟩ := J
      exact PySem.W.kia_one (PySem.W.kitx_exc (od := od) C.cl C.hg C.hk C.hs C.ha C.hn C.ht C.hm) I.kIn J e (fun z => nomatch z) fun tk => ⟨.bl b, H, I.kept (t' := tk) fun _ _ z => z, rfl, q⟩
/-- one test -/
def HEb (X : Cx) (i : Nat) (e : Expr) (tab : List (Str × Bool)) : Prop := ∃ T : Addr → Value → Option Addr → TE,
  (∀ (a : Addr) (oe : Obj) (cls : Value) (d : Option Addr) (pn : List (Addr × Obj)), L2.Zc cls d oe → (∃ vs, oe.data = .fields vs) → PE (X.suite a ((a, oe) :: pn)) e (T a cls d)) ∧
  ∀ (a : Addr) (c : Str) (d : Option Addr) (σ : St) (H : Hp) (b : Bool) (Q : VK), σ[i]? = some (some (.ref a)) → (∀ e, d = some e → ∃ ho, H e = some ho) → tab.lookup c = some b → Q (.bl b) H → T a (clsV X.K c) d σ H Q
def HEs (X : Cx) (i : Nat) (es : List Expr) (tabs : List (List (Str × Bool))) : Prop := ∃ T : Addr → Value → Option Addr → TA,
  (∀ (a : Addr) (oe : Obj) (cls : Value) (d : Option Addr) (pn : List (Addr × Obj)), L2.Zc cls d oe → (∃ vs, oe.data = .fields vs) → PA (X.suite a ((a, oe) :: pn)) es (T a cls d)) ∧
  ∀ (a : Addr) (c : Str) (d : Option Addr) (σ : St) (H : Hp) (bs : List Bool) (Q : List V → Hp → Prop), σ[i]? = some (some (.ref a)) → (∀ e, d = some e → ∃ ho, H e = some ho) → optAll (fun t => List.lookup c t) tabs = some bs → Q (bs.map V.bl) H → T a (clsV X.K c) d σ H Q
def isLB (tabs : List (List (Str × Bool))) (x : Exn) : Option (List Bool) := if tabs.length ≤ 1000 then optAll (fun t => List.lookup x.c t) tabs else none
theorem optAll_len {α β : Type} {f : α → Option β} : ∀ {xs : List α} {ys : List β}, optAll f xs = some ys → ys.length = xs.length
  | [], _, h => by cases h; rfl
  | x :: xs, _, h => by
    obtain ⟨y, ys, _, e, rfl⟩ := optAll_cons h
    rw [List.length_cons, List.length_cons, optAll_len e]
def isLG (k : Kd) (tabs : List (List (Str × Bool))) (x : Exn) : Option (D × Kd) := (isLB tabs x).map fun bs => (.lst (bs.map fun b => .con (.bl b)), k)
section
variable {X : Cx} {en : Str} {i : Nat} {tab : List (Str × Bool)} {tabs : List (List (Str × Bool))} {e : Expr} {es : List Expr} {pos : Pos}
theorem heb_own {x : Str} {p1 p2 p3 : Pos} (hi : X.N[i]? = some en) (hvi : Vis X.env.scope en) (h1 : X.mg "isinstance" = none) (hg : X.mg x = some (.ref (He.ga X.K x)))
    (ht : ∀ p ∈ tab, KiT X.K p.1 ∧ PySem.W.kitOne X.K (.ref (He.ga X.K p.1)) (.ref (He.ga X.K x)) = some p.2) (hg1 : Gl X "isinstance" := by rfl) (hg2 : Gl X x := by rfl) (hdb : (x == ("__debug__" : Str)) = false := by decide)
    (hd : (en == ("__debug__" : Str)) = false := by decide) (hcd : (en == ("__classdict__" : Str)) = false := by decide)
    (he : ∀ a pn, starEach [.Name en p3, .Name x p2] (X.suite a pn).env = (false, eval (.Name en p3) (X.suite a pn).env) :: starEach [.Name x p2] (X.suite a pn).env := by intros; rfl) (he2 : ∀ a pn, starEach [.Name x p2] (X.suite a pn).env = (false, eval (.Name x p2) (X.suite a pn).env) :: starEach [] (X.suite a pn).env := by intros; rfl)
    (hpl : ∀ a pn, (backTo pos (starEach [.Name x p2] (X.suite a pn).env)).any (·.1) = false := by intros; rfl) :
    HEb X i (.Call (.Name "isinstance" p1) [.Name en p3, .Name x p2] [] pos) tab :=
  ⟨fun a cls d => tCB (rIsS X.K a cls d) (tCons (tVar i) (tCons (tC (.ref (He.ga X.K x))) tNil)), fun a oe cls d pn hz hf =>
    pe_callB (X := X.suite a ((a, oe) :: pn)) (call_isS hz hf) hg1 h1 (by decide +kernel) (pa_cons (pe_var (X := X.suite a ((a, oe) :: pn)) hi hvi hd hcd) (pa_cons (pe_glob (X := X.suite a ((a, oe) :: pn)) (v := .ref (He.ga X.K x)) hg2 hg rfl hdb) pa_nil (he2 a _)) (he a _)) (by decide) (by decide) (he a _) (hpl a _),
  fun a c d σ H b Q hs hd e q => by
    obtain ⟨k1, k2⟩ := ht _ (lookup_mem e)
    exact ⟨.ref a, hs, c, .ref (He.ga X.K x), _, b, rfl, rfl, hd, k1, fun u z => z, k2, q⟩⟩
theorem heb_bi {x : Str} (T : String) {p1 p2 p3 : Pos} (hi : X.N[i]? = some en) (hvi : Vis X.env.scope en) (h1 : X.mg "isinstance" = none) (h2 : X.mg x = none) (hx : bootBuiltins x = some (.type T))
    (ht : ∀ p ∈ tab, KiT X.K p.1 ∧ PySem.W.kitOne X.K (.ref (He.ga X.K p.1)) (.type T) = some p.2) (hg1 : Gl X "isinstance" := by rfl) (hg2 : Gl X x := by rfl) (hn : x ≠ "__name__" := by decide) (hdb : (x == ("__debug__" : Str)) = false := by decide)
    (hd : (en == ("__debug__" : Str)) = false := by decide) (hcd : (en == ("__classdict__" : Str)) = false := by decide)
    (he : ∀ a pn, starEach [.Name en p3, .Name x p2] (X.suite a pn).env = (false, eval (.Name en p3) (X.suite a pn).env) :: starEach [.Name x p2] (X.suite a pn).env := by intros; rfl) (he2 : ∀ a pn, starEach [.Name x p2] (X.suite a pn).env = (false, eval (.Name x p2) (X.suite a pn).env) :: starEach [] (X.suite a pn).env := by intros; rfl)
    (hpl : ∀ a pn, (backTo pos (starEach [.Name x p2] (X.suite a pn).env)).any (·.1) = false := by intros; rfl) :
    HEb X i (.Call (.Name "isinstance" p1) [.Name en p3, .Name x p2] [] pos) tab :=
  ⟨fun a cls d => tCB (rIsS X.K a cls d) (tCons (tVar i) (tCons (tC (.ty T)) tNil)), fun a oe cls d pn hz hf =>
    pe_callB (X := X.suite a ((a, oe) :: pn)) (call_isS hz hf) hg1 h1 (by decide +kernel) (pa_cons (pe_var (X := X.suite a ((a, oe) :: pn)) hi hvi hd hcd) (pa_cons (pe_bltn (X := X.suite a ((a, oe) :: pn)) (v := .ty T) hg2 h2 hx rfl hn hdb) pa_nil (he2 a _)) (he a _)) (by decide) (by decide) (he a _) (hpl a _),
  fun a c d σ H b Q hs hd e q => by
    obtain ⟨k1, k2⟩ := ht _ (lookup_mem e)
    exact ⟨.ref a, hs, c, .ty T, _, b, rfl, rfl, hd, k1, fun u z => z, k2, q⟩⟩
theorem hes_nil : HEs X i [] [] := ⟨fun _ _ _ => tNil, fun a oe cls d pn hz hf => pa_nil, fun a c d σ H bs Q hs hd e q => by cases e; exact q⟩
theorem hes_cons (h : HEb X i e tab) (hr : HEs X i es tabs) (hst : ∀ a pn, starEach (e :: es) (X.suite a pn).env = (false, eval e (X.suite a pn).env) :: starEach es (X.suite a pn).env := by intros; rfl) : HEs X i (e :: es) (tab :: tabs) := by
  obtain ⟨T, h1, h2⟩ := h
  obtain ⟨T2, h3, h4⟩ := hr
  refine ⟨fun a cls d => tCons (T a cls d) (T2 a cls d), fun a oe cls d pn hz hf => pa_cons (h1 a oe cls d pn hz hf) (h3 a oe cls d pn hz hf) (hst a _), fun a c d σ H bs Q hs hd e q => ?_⟩
  obtain ⟨b, bs', e1, e2, rfl⟩ := optAll_cons e
  exact h2 a c d σ H b _ hs hd e1 (h4 a c d σ H bs' _ hs hd e2 q)
theorem he_isL {k : Bool} (h : HEs X i es tabs) : HE X i (.List es pos) (isLG (frK k) tabs) := by
  obtain ⟨T, h1, h2⟩ := h
  refine ⟨fun a cls d => tLst (T a cls d), fun a oe cls d pn hz hf => pe_lst (h1 a oe cls d pn hz hf), fun a cls d x G O σ H ρ y Q hK R hs hc er e q => ?_⟩
  obtain ⟨bs, e1, rfl⟩ := Option.map_eq_some_iff.mp e
  unfold isLB at e1
  split at e1
  · rename_i hl
    have hd : ∀ e, d = some e → ∃ ho, H e = some ho := fun e he => by
      unfold ExnRep at er
      cases qf : x.fs with
      | none => rw [qf] at er; rw [er] at he; cases he
      | some fs =>
        rw [qf] at er
        obtain ⟨da, vs, g1, g2, _⟩ := er
        rw [g1] at he
        cases he
        exact ⟨_, g2⟩
    subst hc
    refine h2 a x.c d σ H bs _ hs hd e1 ⟨?_, fun p hp => ?_⟩
    · rw [List.length_map, optAll_len e1]
      have : 1000 ≤ sizeLine := by decide
      omega
    · obtain ⟨O4, R4⟩ := R.fresh (d := .lst (bs.map fun b => .con (.bl b))) hp (.lst (Reps.cons_map V.bl bs))
      cases k with
      | true => exact q O4 _ _ R4
      | false =>
        obtain ⟨O5, R5⟩ := R4.settle (d := .lst (bs.map fun b => .con (.bl b))) rfl
        exact q O5 _ _ R5
  · cases e1
end
end L2.VL
end
section
set_option Elab.async false
set_option linter.all false
set_option maxRecDepth 100000
set_option maxHeartbeats 2000000
namespace L2.VL
open PySem PySem.Spec PyProof.Rows L2
open PySem.W (keyToks keyToksAll dataLt minD alike alikeAll AlikeAll reads_keeps cmpIn_lt iter_tupleW moved_old readsAll_atA)
end L2.VL
end
section
set_option Elab.async false
set_option linter.all false
set_option maxRecDepth 100000
namespace L2.SG
open PySem PySem.Spec PyProof.Rows L2
def geo : Nat → Nat
  | 0 => 0
  | k + 1 => geo k * 5 + 1
theorem geo_add (a : Nat) : ∀ b, geo (a + b) = geo a * 5 ^ b + geo b
  | 0 => by simp [geo]
  | b + 1 => by
    show geo (a + b) * 5 + 1 = geo a * 5 ^ (b + 1) + (geo b * 5 + 1)
    rw [geo_add a b, Nat.pow_succ, Nat.add_mul, Nat.mul_assoc, Nat.add_assoc]
theorem geo_five : ∀ b, 5 ^ b = 4 * geo b + 1
  | 0 => rfl
  | b + 1 => by
    rw [Nat.pow_succ, geo_five b]
    show _ = 4 * (geo b * 5 + 1) + 1
    omega
/-- at 2^n it is an odd multiple of 2^n -/
theorem geo_two : ∀ n, ∃ q, geo (2 ^ n) = 2 ^ n * (2 * q + 1)
  | 0 => ⟨0, rfl⟩
  | n + 1 => by
    obtain ⟨q, e⟩ := geo_two n
    refine ⟨q + geo (2 ^ n) * (2 * q + 1), ?_⟩
    have h : geo (2 ^ (n + 1)) = geo (2 ^ n) * (2 * (2 * geo (2 ^ n) + 1)) := by
      rw [Nat.pow_succ, Nat.mul_two, geo_add, geo_five]
      have : geo (2 ^ n) * (4 * geo (2 ^ n) + 1) + geo (2 ^ n) = geo (2 ^ n) * (4 * geo (2 ^ n) + 1 + 1) := (Nat.mul_succ _ _).symm
      rw [this]
      congr 1
      omega
    rw [h]
    generalize hg : geo (2 ^ n) = g at e ⊢
    have h2 : 2 * (q + g * (2 * q + 1)) + 1 = (2 * q + 1) * (2 * g + 1) := by grind
    rw [h2, Nat.pow_succ]
    rw [show g * (2 * (2 * g + 1)) = g * 2 * (2 * g + 1) from (Nat.mul_assoc _ _ _).symm]
    rw [show 2 ^ n * 2 * ((2 * q + 1) * (2 * g + 1)) = 2 ^ n * (2 * q + 1) * 2 * (2 * g + 1) by
      rw [← Nat.mul_assoc, Nat.mul_right_comm (2 ^ n) 2 (2 * q + 1)], ← e]
theorem geo_hits : ∀ n j, j < 2 ^ n → ∃ b, b < 2 ^ n ∧ geo b % 2 ^ n = j
  | 0, j, h => ⟨0, by decide, by simp [geo]; omega⟩
  | n + 1, j, h => by
    have hp : 0 < 2 ^ n := Nat.pow_pos (by decide)
    have e2 : 2 ^ (n + 1) = 2 ^ n + 2 ^ n := by rw [Nat.pow_succ]; omega
    obtain ⟨b, hb, e⟩ := geo_hits n (j % 2 ^ n) (Nat.mod_lt _ hp)
    obtain ⟨q, eq⟩ := geo_two n
    -- the two candidates
    have two : geo (2 ^ n + b) = geo b + 2 ^ n * (2 * (q * 5 ^ b + 2 * geo b) + 1) := by
      rw [geo_add, eq, geo_five b]
      grind
    have split : ∀ x, x % 2 ^ n = j % 2 ^ n → x % 2 ^ (n + 1) = j ∨ (x + 2 ^ n) % 2 ^ (n + 1) = j := by
      intro x hx
      have m1 := Nat.mod_lt x (show 0 < 2 ^ (n + 1) by omega)
      have d1 : x % 2 ^ (n + 1) % 2 ^ n = x % 2 ^ n := by
        rw [Nat.pow_succ, Nat.mod_mul_right_mod]
      have hj : j % 2 ^ n = j ∨ j % 2 ^ n + 2 ^ n = j := by
        by_cases c : j < 2 ^ n
        · exact .inl (Nat.mod_eq_of_lt c)
        · right
          rw [Nat.mod_eq_sub_mod (by omega), Nat.mod_eq_of_lt (by omega)]; omega
      have hx2 : x % 2 ^ (n + 1) = j % 2 ^ n ∨ x % 2 ^ (n + 1) = j % 2 ^ n + 2 ^ n := by
        by_cases c : x % 2 ^ (n + 1) < 2 ^ n
        · left; rw [← Nat.mod_eq_of_lt c, d1, hx]
        · right
          rw [← hx, ← d1]
          generalize x % 2 ^ (n + 1) = y at m1 c
          rw [Nat.mod_eq_sub_mod (by omega), Nat.mod_eq_of_lt (show y - 2 ^ n < 2 ^ n by omega)]
          omega
      have ad : (x + 2 ^ n) % 2 ^ (n + 1) = (x % 2 ^ (n + 1) + 2 ^ n) % 2 ^ (n + 1) := by
        rw [Nat.mod_add_mod]
      rcases hx2 with a | a <;> rcases hj with c | c
      · left; omega
      · right; rw [ad, a, c, Nat.mod_eq_of_lt h]
      · right
        rw [ad, a, Nat.add_assoc, ← e2, Nat.add_mod_right, c, Nat.mod_eq_of_lt h]
      · left; omega
    rcases split (geo b) e with a | a
    · exact ⟨b, by omega, a⟩
    · refine ⟨2 ^ n + b, by omega, ?_⟩
      rw [two, ← a, Nat.mul_succ, Nat.add_comm (2 ^ n * _), ← Nat.add_assoc]
      rw [show 2 ^ n * (2 * (q * 5 ^ b + 2 * geo b)) = 2 ^ (n + 1) * (q * 5 ^ b + 2 * geo b) by rw [Nat.pow_succ, Nat.mul_assoc]]
      rw [Nat.add_mul_mod_self_left]
/-- one less than a power of two, at least 7 and at most 2047 -/
def Msk (m : Nat) : Prop := ∃ n, (n = 3 ∨ n = 5 ∨ n = 7 ∨ n = 9 ∨ n = 11) ∧ m + 1 = 2 ^ n
theorem Msk.bd {m : Nat} (h : Msk m) : 7 ≤ m ∧ m ≤ 2047 := by
  obtain ⟨n, h1, e⟩ := h
  have a := Nat.pow_le_pow_right (n := 2) (by decide) (show 3 ≤ n by omega)
  have b := Nat.pow_le_pow_right (n := 2) (by decide) (show n ≤ 11 by omega)
  simp only [Nat.reducePow] at a b
  omega
theorem lcg_geo (m : Nat) : ∀ k, lcgN m k = geo k % (m + 1)
  | 0 => by show 0 = 0 % _; rw [Nat.zero_mod]
  | k + 1 => by
    show (lcgN m k * 5 + 1) % (m + 1) = (geo k * 5 + 1) % (m + 1)
    rw [lcg_geo m k, Nat.add_mod, Nat.mod_mul_mod, ← Nat.add_mod]
theorem lcg_turn {m : Nat} (h : Msk m) : lcgN m (m + 1) = 0 := by
  obtain ⟨n, _, e⟩ := h
  rw [lcg_geo, e]
  obtain ⟨q, eq⟩ := geo_two n
  rw [eq, Nat.mul_mod_right]
theorem lcg_more {m : Nat} (h : Msk m) : ∀ k, lcgN m (m + 1 + k) = lcgN m k
  | 0 => lcg_turn h
  | k + 1 => by
    show (lcgN m (m + 1 + k) * 5 + 1) % (m + 1) = (lcgN m k * 5 + 1) % (m + 1)
    rw [lcg_more h k]
theorem lcg_from {m i j : Nat} (h : Msk m) (hi : i ≤ m) (hj : j ≤ m) : ∃ k, k ≤ m ∧ lcgI m i k = j := by
  have hh := h
  obtain ⟨n, _, e⟩ := h
  obtain ⟨a, ha, ea⟩ := geo_hits n i (by omega)
  obtain ⟨b, hb, eb⟩ := geo_hits n j (by omega)
  rw [← e, ← lcg_geo] at ea eb
  rw [← e] at ha hb
  by_cases c : a ≤ b
  · refine ⟨b - a, by omega, ?_⟩
    rw [← ea, lcgN_add, show a + (b - a) = b by omega, eb]
  · refine ⟨m + 1 + b - a, by omega, ?_⟩
    rw [← ea, lcgN_add, show a + (m + 1 + b - a) = m + 1 + b by omega, lcg_more hh, eb]
theorem run_hits {m j : Nat} (hm : Msk m) (h : Int) (hj : j ≤ m) : ∃ n, n ≤ m + 12 ∧ runI m (SetTable.bits h) n = j := by
  obtain ⟨k, hk, e⟩ := lcg_from hm (runI_le m (SetTable.bits h) 12) hj
  refine ⟨12 + k, by omega, ?_⟩
  rw [runI_tail (bits_lt h)]; exact e
theorem way_hits {m j : Nat} (hm : Msk m) (h : Int) (hj : j ≤ m) : ∃ k, k < 10 * SetTable.turns m ∧ way m h k = j := by
  obtain ⟨n, hn, e⟩ := run_hits hm h hj
  obtain ⟨k, hk, e2⟩ := run_nth m (SetTable.bits h) n
  refine ⟨k, ?_, ?_⟩
  · unfold SetTable.turns
    omega
  · show (nth m _ k).j = j
    rw [e2]; exact e
theorem way_in {m : Nat} {h : Int} {k : Nat} : way m h k ≤ m := by
  have hi : SetTable.bits h % (m + 1) ≤ m := Nat.le_of_lt_succ (Nat.mod_lt _ (Nat.succ_pos _))
  have b := runEnd_bd hi
  have c : (runAt m (SetTable.bits h % (m + 1)) (SetTable.bits h)).j + (runAt m (SetTable.bits h % (m + 1)) (SetTable.bits h)).more ≤ m := by
    show SetTable.bits h % (m + 1) + (SetTable.runEnd m (SetTable.bits h % (m + 1)) - SetTable.bits h % (m + 1)) ≤ m
    omega
  have := nth_in (m := m) k _ c
  exact Nat.le_trans (Nat.le_add_right _ _) this
structure Tab (t : SetTable) (hs : List Int) : Prop where
  ris : Ris t.place.toList
  dm : t.dummies = #[]
  sz : t.place.toList.length = hs.length
  msk : Msk t.mask
  bd : ∀ x ∈ t.place.toList, x ≤ t.mask
  met : ∀ (i : Nat) (h : Int) (j : Nat), hs[i]? = some h → t.place.toList[i]? = some j → ∃ k, way t.mask h k = j ∧ ∀ k', k' < k → way t.mask h k' ∈ t.place.toList
section
variable {t : SetTable} {hs : List Int} {h : Int} {K : Nat}
/-- the first slot of the way that is free -/
theorem Tab.free (T : Tab t hs) (hl : hs.length ≤ t.mask) (h : Int) : ∃ K, K < 10 * SetTable.turns t.mask ∧ way t.mask h K ∉ t.place.toList ∧ ∀ k, k < K → way t.mask h k ∈ t.place.toList := by
  obtain ⟨j, hj, out⟩ := st_missing t.place.toList (t.mask + 1) (by rw [T.sz]; omega)
  obtain ⟨k, hk, e⟩ := way_hits T.msk h (Nat.le_of_lt_succ hj)
  obtain ⟨K, a, b, c⟩ := st_least (p := fun k => way t.mask h k ∉ t.place.toList) k (fun z => out (e ▸ z))
  exact ⟨K, by omega, b, fun k' hk' => Classical.byContradiction fun z => c k' hk' z⟩
/-- one entry more, at the first free slot -/
theorem Tab.more (T : Tab t hs) (hK : way t.mask h K ∉ t.place.toList) (hb : ∀ k, k < K → way t.mask h k ∈ t.place.toList) (p : Nat) (hp : p = SetTable.below t.place (way t.mask h K)) :
    p ≤ hs.length ∧ Tab (t.put (way t.mask h K)).1 (hs.take p ++ h :: hs.drop p) ∧ (t.put (way t.mask h K)).1.fill = hs.length + 1 := by
  subst hp
  have hw : way t.mask h K ≤ t.mask := way_in
  generalize hj : way t.mask h K = j at hK hw ⊢
  obtain ⟨c, _, _⟩ := below_cut T.ris j
  have l1 : SetTable.below t.place j ≤ t.place.toList.length := by rw [Array.length_toList]; exact c
  have l2 : SetTable.below t.place j ≤ hs.length := by rw [← T.sz]; exact l1
  have new : t.place[SetTable.below t.place j]? ≠ some j := fun z => hK (List.mem_of_getElem? (i := SetTable.below t.place j) (by rw [Array.getElem?_toList]; exact z))
  have ep := put_place t j
  have len : (t.put j).1.place.toList.length = hs.length + 1 := by rw [ep, len_ins _ l1, T.sz]
  have up : ∀ x, x ∈ t.place.toList → x ∈ (t.put j).1.place.toList := fun x hx => by rw [ep]; exact mem_ins.2 (.inr hx)
  refine ⟨l2, ⟨ris_insert T.ris new, put_dm T.dm j, by rw [len, len_ins _ l2], T.msk, fun x hx => ?_, fun i h' j' h1 h2 => ?_⟩, ?_⟩
  · rw [ep] at hx
    rcases mem_ins.1 hx with z | z
    · rw [z]; exact hw
    · exact T.bd x z
  · rw [tins_get hs l2] at h1
    rw [ep, tins_get _ l1] at h2
    split at h1
    · rename_i q
      rw [if_pos q] at h2
      obtain ⟨k, e, z⟩ := T.met i h' j' h1 h2
      exact ⟨k, e, fun k' hk' => up _ (z k' hk')⟩
    · rename_i q
      rw [if_neg q] at h2
      split at h1
      · rename_i q2
        rw [if_pos q2] at h2
        cases h1; cases h2
        exact ⟨K, hj, fun k' hk' => up _ (hb k' hk')⟩
      · rename_i q2
        rw [if_neg q2] at h2
        obtain ⟨k, e, z⟩ := T.met (i - 1) h' j' h1 h2
        exact ⟨k, e, fun k' hk' => up _ (z k' hk')⟩
  · have : (t.put j).1.place.size = hs.length + 1 := by rw [← Array.length_toList]; exact len
    show (t.put j).1.place.size + (t.put j).1.dummies.size = _
    rw [this, put_dm T.dm j]
    rfl
end
end L2.SG
end
section
set_option Elab.async false
set_option linter.all false
set_option maxRecDepth 100000
set_option maxHeartbeats 1600000
namespace L2.SG
open PySem PySem.Spec PyProof.Rows L2
/-- what a kind of keys must tell beside hash and == -/
structure KX {P : Program} {w : World} {κ : Type} [DecidableEq κ] (knd : HeapKind P w κ) : Prop where
  ofA : ∀ {A : Around} {E : Value → Shared → Prop} {s : Shared} {k : κ} {b : Addr} {Q : Bool → Shared → Prop}, knd.is s.heap k b → Q false s → wpAny (model P w) A (ofAClassStatement 8 (.ref b)) Q E s
  hbv : ∀ {A : Around} {E : Value → Shared → Prop} {s : Shared} {k : κ} {b : Addr} {Q : Bool → Shared → Prop}, knd.is s.heap k b → Q true s → wpAny (model P w) A (hashByValue 8 (.ref b)) Q E s
  stay : ∀ {h h' : Heap} {k : κ} {a b : Addr} {o : Obj} {es : Array (Int × Value)} {ep : Nat} {t : SetTable}, knd.is h k b → h.get? a = some o → o.data = .set es ep t → Heap.SameBut a h h' → knd.is h' k b
  keep : ∀ {h h' : Heap} {k : κ} {b : Addr}, knd.is h k b → (∀ c o, h.get? c = some o → h'.get? c = some o) → knd.is h' k b
section
variable {P : Program} {w : World} {κ : Type} [DecidableEq κ] {knd : HeapKind P w κ} {A : Around} {E : Value → Shared → Prop} {s : Shared}
/-- the members' rows -/
abbrev rws (knd : HeapKind P w κ) (L : List (Addr × κ)) : List (Int × Value) := L.map fun p => (knd.hash p.2, Value.ref p.1)
abbrev hss (knd : HeapKind P w κ) (L : List (Addr × κ)) : List Int := L.map fun p => knd.hash p.2
structure KSet (knd : HeapKind P w κ) (h : Heap) (a : Addr) (L : List (Addr × κ)) (es : Array (Int × Value)) (ep : Nat) (t : SetTable) : Prop where
  ob : ∃ o, h.get? a = some o ∧ o.ExactSet ∧ o.data = .set es ep t
  rows : es.toList = rws knd L
  tab : Tab t (hss knd L)
  nd : (L.map (·.2)).Nodup
  key : ∀ p ∈ L, knd.is h p.2 p.1
  plain : t.plain = true
  led : w.params.followText "set-order" = true ∨ t.led = true
  room : L.length * 5 < t.mask * 3
  few : L.length < 1200
variable {a : Addr} {L : List (Addr × κ)} {es : Array (Int × Value)} {ep : Nat} {t : SetTable}
theorem KSet.size (R : KSet knd s.heap a L es ep t) : es.size = L.length := by
  rw [← Array.length_toList, R.rows, List.length_map]
theorem KSet.at (R : KSet knd s.heap a L es ep t) {i : Nat} {p : Addr × κ} (h : L[i]? = some p) : es[i]? = some (knd.hash p.2, Value.ref p.1) := by
  rw [← Array.getElem?_toList, R.rows, List.getElem?_map, h]; rfl
/-- the state of a probe behind c steps -/
abbrev stp (m : Nat) (h : Int) (c : Nat) : SetTable.Probe := nth m (runAt m (SetTable.bits h % (m + 1)) (SetTable.bits h)) c
end
end L2.SG
end
section
set_option Elab.async false
set_option linter.all false
set_option maxRecDepth 100000
set_option maxHeartbeats 3200000
namespace L2.SG
open PySem PySem.Spec PyProof.Rows L2 PpSet
section
variable {P : Program} {w : World}
/-- at a stands the tuple (r, (..ns)) -/
def IsRT (h : Heap) (k : Int × List Int) (a : Addr) : Prop := ∃ (t : Addr) (o o2 : Obj) (its : Array Value) (n m : Nat) (tk : Tok), (h.get? a = some o ∧ o.cls = .type "tuple" ∧ o.data = .seq #[.int k.1 tk, .ref t] n) ∧
  (h.get? t = some o2 ∧ o2.cls = .type "tuple" ∧ o2.data = .seq its m) ∧ IntsAre its.toList k.2
abbrev rtKey (k : Int × List Int) : NestedKey := .tup [.num k.1, .tup (k.2.map .num)]
theorem nums_all {h : Heap} {vs : List Value} {ns : List Int} (x : IntsAre vs ns) : NestedAll h (ns.map .num) vs := by
  induction x with
  | nil => exact .nil
  | cons n t _ ih => exact .cons (.int _ _) ih
theorem IsRT.key {h : Heap} {k : Int × List Int} {a : Addr} (x : IsRT h k a) : NestedIs h (rtKey k) (.ref a) := by
  obtain ⟨t, o, o2, its, n, m, tk, ⟨h1, h2, h3⟩, ⟨g1, g2, g3⟩, r⟩ := x
  exact .tup h1 h2 h3 (.cons (.int _ _) (.cons (.tup g1 g2 g3 (nums_all r)) .nil))
theorem IsRT.moved {h h' : Heap} {k : Int × List Int} {a : Addr} (x : IsRT h k a) (hk : ∀ b o vs n, h.get? b = some o → o.data = .seq vs n → h'.get? b = some o) : IsRT h' k a := by
  obtain ⟨t, o, o2, its, n, m, tk, ⟨h1, h2, h3⟩, ⟨g1, g2, g3⟩, r⟩ := x
  exact ⟨t, o, o2, its, n, m, tk, ⟨hk _ _ _ _ h1 h3, h2, h3⟩, ⟨hk _ _ _ _ g1 g3, g2, g3⟩, r⟩
theorem IsRT.kept {h h' : Heap} {k : Int × List Int} {a : Addr} (x : IsRT h k a) (hk : ∀ b o, h.get? b = some o → h'.get? b = some o) : IsRT h' k a := x.moved fun b o _ _ e _ => hk b o e
end
section
variable {P : Program} {w : World} {κ : Type} [DecidableEq κ] {knd : HeapKind P w κ} {A : Around} {E : Value → Shared → Prop} {s : Shared}
theorem KSet.keep (X : KX knd) {h h' : Heap} {a : Addr} {L : List (Addr × κ)} {es : Array (Int × Value)} {ep : Nat} {t : SetTable} (R : KSet knd h a L es ep t) (k : ∀ o, h.get? a = some o → h'.get? a = some o) (kk : ∀ p ∈ L, knd.is h' p.2 p.1) : KSet knd h' a L es ep t := by
  obtain ⟨⟨o, ho, r⟩, b, c, d, e, f, g, i, j⟩ := R
  exact ⟨⟨o, k o ho, r⟩, b, c, d, kk, f, g, i, j⟩
end
end L2.SG
end
section
set_option Elab.async false
set_option linter.all false
set_option maxRecDepth 100000
set_option maxHeartbeats 3200000
namespace L2.SG
open PySem PySem.Spec PyProof.Rows L2 L2.VL SrtO
open PySem.W (keyToks keyToksAll dataLt alike alikeAll reads_keeps lt_data)
end L2.SG
end
section
set_option Elab.async false
set_option linter.all false
set_option maxRecDepth 100000
set_option maxHeartbeats 1600000
namespace L2.VL
open PySem PySem.Spec PyProof.Rows L2
open PySem.W (keyToks dataLt alike lt_data)
end L2.VL
end
section
set_option Elab.async false
set_option linter.all false
set_option maxRecDepth 100000
set_option maxHeartbeats 4000000
namespace Law_strictranks_k26_ways_of_exchanges
open PySem PySem.Spec PyProof.Rows L2 L2.VL L2.TX
def topS (i : Nat) : Stmt := PySem.Challenge.pw_strictranks_k26_ways_of_exchanges.main.body.getD i (.Pass ⟨0, 0, 0, 0⟩)
abbrev s__law_pick : Stmt := topS 28
abbrev s__law_order : Stmt := topS 29
abbrev s__law_fact : Stmt := topS 31
abbrev s__law_holds : Stmt := topS 30
abbrev s__law_facts : Stmt := topS 32
abbrev s__law_can : Stmt := topS 33
abbrev s__law_wandered : Stmt := topS 34
abbrev s_is_integer : Stmt := topS 12
abbrev s_need_count : Stmt := topS 13
abbrev s_fits_fact : Stmt := topS 14
abbrev s_need_facts : Stmt := topS 15
abbrev s_need_count_and_facts : Stmt := topS 16
abbrev s_is_order : Stmt := topS 17
abbrev s_need_order : Stmt := topS 18
abbrev s_holds_along : Stmt := topS 19
abbrev s_need_holding : Stmt := topS 22
abbrev s_way_between : Stmt := topS 25
abbrev s__law_pairs : Stmt := topS 35
abbrev s__law_is_step : Stmt := topS 36
abbrev s__law_way : Stmt := topS 37
abbrev s__law_fails : Stmt := topS 38
abbrev s_turned_pairs : Stmt := topS 23
abbrev s_exchanges_between : Stmt := topS 24
abbrev s__law_far : Stmt := topS 39
abbrev s__law_right : Stmt := topS 40
abbrev s__law_well : Stmt := topS 27
abbrev s_law : Stmt := topS 41
end Law_strictranks_k26_ways_of_exchanges
end
section
set_option Elab.async false
set_option linter.all false
set_option maxRecDepth 100000
set_option maxHeartbeats 0
namespace Law_strictranks_k26_ways_of_exchanges
open PySem PySem.Spec PyProof.Rows L2 L2.VL L2.TX
def d__law_pick : He.DefD := ⟨("_law_pick", none), "_law_pick", "_law_pick", defArgs s__law_pick, defBody s__law_pick, defScope s__law_pick, [], []⟩
def d__law_order : He.DefD := ⟨("_law_order", none), "_law_order", "_law_order", defArgs s__law_order, defBody s__law_order, defScope s__law_order, [], []⟩
def d__law_fact : He.DefD := ⟨("_law_fact", none), "_law_fact", "_law_fact", defArgs s__law_fact, defBody s__law_fact, defScope s__law_fact, [], []⟩
def d__law_holds : He.DefD := ⟨("_law_holds", none), "_law_holds", "_law_holds", defArgs s__law_holds, defBody s__law_holds, defScope s__law_holds, [], []⟩
def d__law_facts : He.DefD := ⟨("_law_facts", none), "_law_facts", "_law_facts", defArgs s__law_facts, defBody s__law_facts, defScope s__law_facts, [], []⟩
def d__law_can : He.DefD := ⟨("_law_can", none), "_law_can", "_law_can", defArgs s__law_can, defBody s__law_can, defScope s__law_can, [], []⟩
def d__law_wandered : He.DefD := ⟨("_law_wandered", none), "_law_wandered", "_law_wandered", defArgs s__law_wandered, defBody s__law_wandered, defScope s__law_wandered, [], []⟩
def d_is_integer : He.DefD := ⟨("is_integer", none), "is_integer", "is_integer", defArgs s_is_integer, defBody s_is_integer, defScope s_is_integer, [.non], []⟩
def d_need_count : He.DefD := ⟨("need_count", none), "need_count", "need_count", defArgs s_need_count, defBody s_need_count, defScope s_need_count, [.int 60], []⟩
def d_fits_fact : He.DefD := ⟨("fits_fact", none), "fits_fact", "fits_fact", defArgs s_fits_fact, defBody s_fits_fact, defScope s_fits_fact, [], []⟩
def d_need_facts : He.DefD := ⟨("need_facts", none), "need_facts", "need_facts", defArgs s_need_facts, defBody s_need_facts, defScope s_need_facts, [], []⟩
def d_need_count_and_facts : He.DefD := ⟨("need_count_and_facts", none), "need_count_and_facts", "need_count_and_facts", defArgs s_need_count_and_facts, defBody s_need_count_and_facts, defScope s_need_count_and_facts, [.int 60], []⟩
def d_is_order : He.DefD := ⟨("is_order", none), "is_order", "is_order", defArgs s_is_order, defBody s_is_order, defScope s_is_order, [], []⟩
def d_need_order : He.DefD := ⟨("need_order", none), "need_order", "need_order", defArgs s_need_order, defBody s_need_order, defScope s_need_order, [.non], []⟩
def d_holds_along : He.DefD := ⟨("holds_along", none), "holds_along", "holds_along", defArgs s_holds_along, defBody s_holds_along, defScope s_holds_along, [], []⟩
def d_need_holding : He.DefD := ⟨("need_holding", none), "need_holding", "need_holding", defArgs s_need_holding, defBody s_need_holding, defScope s_need_holding, [], []⟩
def d_way_between : He.DefD := ⟨("way_between", none), "way_between", "way_between", defArgs s_way_between, defBody s_way_between, defScope s_way_between, [], []⟩
def d__law_pairs : He.DefD := ⟨("_law_pairs", none), "_law_pairs", "_law_pairs", defArgs s__law_pairs, defBody s__law_pairs, defScope s__law_pairs, [], []⟩
def d__law_is_step : He.DefD := ⟨("_law_is_step", none), "_law_is_step", "_law_is_step", defArgs s__law_is_step, defBody s__law_is_step, defScope s__law_is_step, [], []⟩
def d__law_way : He.DefD := ⟨("_law_way", none), "_law_way", "_law_way", defArgs s__law_way, defBody s__law_way, defScope s__law_way, [], []⟩
def d__law_fails : He.DefD := ⟨("_law_fails", none), "_law_fails", "_law_fails", defArgs s__law_fails, defBody s__law_fails, defScope s__law_fails, [], []⟩
def d_turned_pairs : He.DefD := ⟨("turned_pairs", none), "turned_pairs", "turned_pairs", defArgs s_turned_pairs, defBody s_turned_pairs, defScope s_turned_pairs, [], []⟩
def d_exchanges_between : He.DefD := ⟨("exchanges_between", none), "exchanges_between", "exchanges_between", defArgs s_exchanges_between, defBody s_exchanges_between, defScope s_exchanges_between, [], []⟩
def d__law_far : He.DefD := ⟨("_law_far", none), "_law_far", "_law_far", defArgs s__law_far, defBody s__law_far, defScope s__law_far, [], []⟩
def d__law_right : He.DefD := ⟨("_law_right", none), "_law_right", "_law_right", defArgs s__law_right, defBody s__law_right, defScope s__law_right, [], []⟩
def d__law_well : He.DefD := ⟨("_law_well", none), "_law_well", "_law_well", defArgs s__law_well, defBody s__law_well, defScope s__law_well, [], []⟩
def d_law : He.DefD := ⟨("law", none), "law", "law", defArgs s_law, defBody s_law, defScope s_law, [], []⟩
def fn : List He.DefD := [d__law_pick, d__law_order, d__law_fact, d__law_holds, d__law_facts, d__law_can, d__law_wandered, d_is_integer, d_need_count, d_fits_fact, d_need_facts, d_need_count_and_facts, d_is_order, d_need_order, d_holds_along, d_need_holding, d_way_between, d__law_pairs, d__law_is_step, d__law_way, d__law_fails, d_turned_pairs, d_exchanges_between, d__law_far, d__law_right, d__law_well, d_law]
def fa : List He.Fa := [.glo "_law_pick", .glo "_law_order", .glo "_law_fact", .glo "_law_holds", .glo "_law_facts", .glo "_law_can", .glo "_law_wandered", .glo "is_integer", .glo "need_count", .glo "fits_fact", .glo "need_facts", .glo "need_count_and_facts", .glo "is_order", .glo "need_order", .glo "holds_along", .glo "need_holding", .glo "way_between", .glo "_law_pairs", .glo "_law_is_step", .glo "_law_way", .glo "_law_fails", .glo "turned_pairs", .glo "exchanges_between", .glo "_law_far", .glo "_law_right", .glo "_law_well", .glo "law", .free "ValueError", .free "abs", .free "all"] ++ [.free "bool", .free "enumerate", .free "int", .free "isinstance", .free "len", .free "list", .free "max", .free "min", .free "range", .free "repr", .free "sorted", .free "str", .free "sum", .free "zip", .str "AGAINST" "L", .str "FOR" "W", .int "MOST_COUNTED" 14, .int "MOST_FACTS" 200, .int "MOST_RULES" 60, .str "SILENT" ".", .glo "Fails", .glo "InvalidCount", .glo "InvalidFacts", .glo "InvalidOrder", .glo "RankError", .exc "Fails", .exc "InvalidCount", .exc "InvalidFacts", .exc "InvalidOrder", .exc "RankError"] ++ [.exm "Fails" "RankError" true, .exm "InvalidCount" "RankError" true, .exm "InvalidFacts" "RankError" true, .exm "InvalidOrder" "RankError" true]
def loose : List Str := [("RankError" : Str), ("InvalidCount" : Str), ("InvalidFacts" : Str), ("InvalidOrder" : Str), ("Fails" : Str), ("MOST_RULES" : Str), ("MOST_FACTS" : Str), ("FOR" : Str), ("AGAINST" : Str), ("SILENT" : Str), ("is_integer" : Str), ("need_count" : Str), ("fits_fact" : Str), ("need_facts" : Str), ("need_count_and_facts" : Str), ("is_order" : Str), ("need_order" : Str), ("holds_along" : Str), ("MOST_COUNTED" : Str), ("need_holding" : Str)] ++ [("turned_pairs" : Str), ("exchanges_between" : Str), ("way_between" : Str), ("_law_well" : Str), ("_law_pick" : Str), ("_law_order" : Str), ("_law_holds" : Str), ("_law_fact" : Str), ("_law_facts" : Str), ("_law_can" : Str), ("_law_wandered" : Str), ("_law_pairs" : Str), ("_law_is_step" : Str), ("_law_way" : Str), ("_law_fails" : Str), ("_law_far" : Str), ("_law_right" : Str)]
abbrev R : PySem.W.OpenRow := PySem.W.OpenLaw.row PySem.Challenge.rw_strictranks_k26_ways_of_exchanges
def fc : List Fc := [.kx "Fails", .kx "InvalidCount", .kx "InvalidFacts", .kx "InvalidOrder", .ko "Fails" "Fails" true, .ko "Fails" "InvalidOrder" false, .ko "InvalidCount" "Fails" false, .ko "InvalidCount" "InvalidOrder" false, .ko "InvalidFacts" "Fails" false, .ko "InvalidFacts" "InvalidOrder" false, .ko "InvalidOrder" "Fails" false, .ko "InvalidOrder" "InvalidOrder" true, .kb "Fails" "ValueError" true, .kb "InvalidCount" "ValueError" true, .kb "InvalidFacts" "ValueError" true, .kb "InvalidOrder" "ValueError" true]
abbrev hk : PySem.W.Hook := hookL 5 fa fn fc "_law_right"
def ob (s : PySem.W.SharedT) : He.AlD × Bool := obL 5 fa fn fc "_law_right" (HandSHeadRun.getT s)
theorem ob_eq (s : PySem.W.SharedT) : ob s = hk.obs s.abs := obL_eq (HandSHeadRun.getT_eq s)
theorem run (w : World) : HandSHeadRun.RunEq R (PySem.W.view R.prog [41]) hk ob 2812 loose w := by
  intro os
  kernel_rfl
end Law_strictranks_k26_ways_of_exchanges
end
section
set_option Elab.async false
set_option linter.all false
set_option maxRecDepth 100000
namespace L2.TX
open PySem PySem.Spec PyProof.Rows L2 L2.VL
abbrev rI (i : Int) : D := .con (.int i)
abbrev rB (b : Bool) : D := .con (.bl b)
abbrev sx (cs : List Nat) : Str := ⟨cs.toArray⟩
abbrev rS (cs : List Nat) : D := .con (.str (sx cs))
abbrev rN (_ : Unit) : D := .con .non
abbrev rL {α : Type} (f : α → D) (xs : List α) : D := .lst (xs.map f)
abbrev rP {α β : Type} (f : α → D) (g : β → D) (p : α × β) : D := .tup [f p.1, g p.2]
abbrev rTu {α : Type} (f : α → D) (xs : List α) : D := .tup (xs.map f)
def rO {α : Type} (f : α → D) : Option α → D
  | none => .con .non
  | some a => f a
abbrev sl_ {α : Type} (f : α → D) (a : α) : Option Slot := some ⟨f a, false, false⟩
abbrev so_ {α : Type} (f : α → D) (a : α) : Option Slot := some ⟨f a, true, false⟩
abbrev sp_ {α : Type} (f : α → D) (a : α) : Option Slot := some ⟨f a, true, true⟩
/-- a name for a value -/
@[irreducible] def lt {α : Type} {β : Sort u} (v : α) (h : α → β) : β := h v
theorem lt_eq {α : Type} {β : Sort u} (v : α) (h : α → β) : lt v h = h v := by unfold lt; rfl
inductive Fw (σ α : Type) where
  | nx (s : σ) | brk (s : σ) | ret (a : α)
section
variable {α β γ σ τ : Type}
def fo (b : σ → β → Option σ) : List β → σ → Option σ
  | [], s => some s
  | x :: xs, s => (b s x).bind (fo b xs)
def fwNext (k : σ → Option (Fw σ α)) : Fw σ α → Option (Fw σ α)
  | .nx s => k s
  | .brk s => some (.nx s)
  | .ret a => some (.ret a)
def foW (b : σ → β → Option (Fw σ α)) : List β → σ → Option (Fw σ α)
  | [], s => some (.nx s)
  | x :: xs, s => (b s x).bind (fwNext (foW b xs))
def whN (t : σ → Option Bool) (b : σ → Option (Fw σ α)) : Nat → σ → Option (Fw σ α)
  | 0, _ => none
  | n + 1, s => (t s).bind fun c => if c then (b s).bind (fwNext (whN t b n)) else some (.nx s)
open Classical in
noncomputable def wh (t : σ → Option Bool) (b : σ → Option (Fw σ α)) (s : σ) : Option (Fw σ α) :=
  if h : ∃ n w, whN t b n s = some w then whN t b h.choose s else none
/-- behind a loop: on, or out -/
def fwOut {ω : Type} (k : σ → Option ω) (r : α → Option ω) : Fw σ α → Option ω
  | .nx s => k s
  | .brk s => k s
  | .ret a => r a
def chk (ys : List α) : Option (List α) := if ys.length ≤ cap then some ys else none
def lc (q : β → Option Bool) (e : β → Option γ) : List β → Option (List γ)
  | [] => some []
  | x :: xs => (q x).bind fun c => if c then (e x).bind fun y => (lc q e xs).bind fun ys => some (y :: ys) else lc q e xs
def lcC (q : β → Option Bool) (e : β → Option γ) (xs : List β) : Option (List γ) := (lc q e xs).bind chk
/-- .. with a state that goes along -/
def lcX (q : τ → β → Option (Bool × τ)) (e : τ → β → Option (γ × τ)) : List β → τ → Option (List γ × τ)
  | [], t => some ([], t)
  | x :: xs, t => (q t x).bind fun c => if c.1 then (e c.2 x).bind fun y => (lcX q e xs y.2).bind fun ys => some (y.1 :: ys.1, ys.2) else lcX q e xs c.2
def chkX (p : List α × τ) : Option (List α × τ) := if p.1.length ≤ cap then some p else none
def lcXC (q : τ → β → Option (Bool × τ)) (e : τ → β → Option (γ × τ)) (xs : List β) (t : τ) : Option (List γ × τ) := (lcX q e xs t).bind chkX
end
def divI (i j : Int) : Option Int := if CDivB i j then some (i / j) else none
def modI (i j : Int) : Option Int := if 0 < j then some (i % j) else none
def ixL {α : Type} (xs : List α) (i : Int) : Option α := atI xs i
def ixS (cs : List Nat) (i : Int) : Option (List Nat) := if cs.length ≤ cap then (atI cs i).map fun c => [c] else none
def lenS (cs : List Nat) : Option Int := if cs.length ≤ cap then some cs.length else none
def catL {α : Type} (xs ys : List α) : Option (List α) := if xs.length + ys.length ≤ cap then some (xs ++ ys) else none
def appL {α : Type} (xs : List α) (x : α) : Option (List α) := if xs.length < cap then some (xs ++ [x]) else none
def setL {α : Type} (xs : List α) (n : Int) (x : α) : Option (List α) := (ixN xs.length n).map fun k => xs.set k x
def popL {α : Type} (xs : List α) (i : Int) : Option (α × List α) := if small62 i then (ixN xs.length i).bind fun k => (xs[k]?).map fun x => (x, xs.eraseIdx k) else none
def rng (i j : Int) : Option (List Int) := if small62 i && small62 j then some ((List.range (j - i).toNat).map fun (k : Nat) => i + k) else none
def enm {α : Type} (xs : List α) : List (Int × α) := xs.zipIdx.map fun p => ((p.2 : Int), p.1)
def okS (cs : List Nat) : Bool := cs.all fun c => decide (c < 0x110000)
def chs (cs : List Nat) : List (List Nat) := cs.map fun c => [c]
def eqG {α : Type} [DecidableEq α] (ok : α → Bool) (a b : α) : Option Bool := if ok a && ok b then some (decide (a = b)) else none
section
variable {α β : Type} {m : M α} {f : α → M β} {ρ ρ1 ρ2 ρ3 : Rho} {a : α}
theorem bind_ok (h : m ρ = .ok a ρ1) : (m >>= f) ρ = f a ρ1 := by
  show M.bind m f ρ = _
  unfold M.bind
  rw [h]
theorem bind_ex {x : Exn} (h : m ρ = .ex x ρ1) : (m >>= f) ρ = .ex x ρ1 := by
  show M.bind m f ρ = _
  unfold M.bind
  rw [h]
theorem cur_ok {x : D × Kd} {d : D} (h : cur ρ x = some d) : dcur x ρ = .ok d ρ := by unfold dcur; rw [h]
theorem opt_ok {o : Option α} (h : o = some a) : (mOpt o) ρ = .ok a ρ := by subst h; rfl
end
section
variable {ρ ρ1 ρ2 ρ3 ρ4 : Rho} {ra rb rc r : DE} {da db dc d da0 db0 dc0 d0 e : D} {ka kb kc k : Kd} {z : D × Kd} {i : Nat} {o p : Bool} {l : List (Bool × DE)} {xs ys : List (D × Kd)} {qa qb q : M Bool} {a b c : Bool}
theorem q_var (h : ρ[i]? = some (some ⟨d, o, p⟩)) : dVar i ρ = .ok (d, .nm i) ρ := by unfold dVar; rw [h]
theorem q_con {v : V} : dCon v ρ = .ok (.con v, .shr) ρ := rfl
theorem q_op2 {g : D → D → Option (D × Kd)} (ha : ra ρ = .ok (da0, ka) ρ1) (hb : rb ρ1 = .ok (db0, kb) ρ2) (ca : cur ρ2 (da0, ka) = some da) (cb : cur ρ2 (db0, kb) = some db) (hg : g da db = some z) : dOp2 g ra rb ρ = .ok z ρ2 := by
  unfold dOp2
  rw [bind_ok ha, bind_ok hb, bind_ok (cur_ok ca), bind_ok (cur_ok cb), opt_ok hg]
theorem q_cmp {g : D → D → Option Bool} (ha : ra ρ = .ok (da0, ka) ρ1) (hb : rb ρ1 = .ok (db0, kb) ρ2) (ca : cur ρ2 (da0, ka) = some da) (cb : cur ρ2 (db0, kb) = some db) (hg : g da db = some b) : dCmp g ra rb ρ = .ok (.con (.bl b), .shr) ρ2 :=
  q_op2 ha hb ca cb (by show (g da db).map _ = _; rw [hg]; rfl)
theorem q_chain {g g' : D → D → Option Bool} (ha : ra ρ = .ok (da0, ka) ρ1) (hb : rb ρ1 = .ok (db0, kb) ρ2) (hc : rc ρ2 = .ok (dc0, kc) ρ2) (ca : cur ρ2 (da0, ka) = some da) (cb : cur ρ2 (db0, kb) = some db) (cc : cur ρ2 (dc0, kc) = some dc)
    (hg : g da db = some a) (hg' : g' db dc = some b) : dChain g g' ra rb rc ρ = .ok (.con (.bl (a && b)), .shr) ρ2 := by
  unfold dChain
  rw [bind_ok ha, bind_ok hb, bind_ok (cur_ok ca), bind_ok (cur_ok cb), bind_ok (opt_ok hg)]
  cases a with
  | false => rfl
  | true =>
    show (rc >>= _) ρ2 = _
    rw [bind_ok hc, bind_ok (cur_ok cb), bind_ok (cur_ok cc), bind_ok (opt_ok hg')]
    rfl
theorem q_op1 {g : D → Option V} {v : V} (ha : ra ρ = .ok (da0, ka) ρ1) (ca : cur ρ1 (da0, ka) = some da) (hg : g da = some v) : dOp1 g ra ρ = .ok (.con v, .shr) ρ1 := by
  unfold dOp1
  rw [bind_ok ha, bind_ok (cur_ok ca), bind_ok (opt_ok hg)]
  rfl
theorem q_dB (ha : ra ρ = .ok (da0, ka) ρ1) (ca : cur ρ1 (da0, ka) = some (.con (.bl b))) : dB ra ρ = .ok b ρ1 := by
  unfold dB
  rw [bind_ok ha, bind_ok (cur_ok ca)]
  rfl
theorem q_dTr (ha : ra ρ = .ok (da0, ka) ρ1) (ca : cur ρ1 (da0, ka) = some da) (hg : truthD da = some b) : dTr ra ρ = .ok b ρ1 := by
  unfold dTr
  rw [bind_ok ha, bind_ok (cur_ok ca), opt_ok hg]
theorem q_not (h : q ρ = .ok b ρ1) : dNot q ρ = .ok (!b) ρ1 := by unfold dNot; rw [bind_ok h]; rfl
theorem q_and (h1 : qa ρ = .ok a ρ1) (h2 : qb ρ1 = .ok b ρ1) : dAnd qa qb ρ = .ok (a && b) ρ1 := by
  unfold dAnd
  rw [bind_ok h1]
  cases a with
  | false => rfl
  | true => show qb ρ1 = _; rw [h2]; rfl
theorem q_or (h1 : qa ρ = .ok a ρ1) (h2 : qb ρ1 = .ok b ρ1) : dOr qa qb ρ = .ok (a || b) ρ1 := by
  unfold dOr
  rw [bind_ok h1]
  cases a with
  | true => rfl
  | false => show qb ρ1 = _; rw [h2]; rfl
/-- a partial reading: its value, its test -/
structure VT (ρ : Rho) (q : M Bool) (o : Option Bool) : Prop where
  run : ∀ c, o = some c → q ρ = .ok c ρ
structure VE {α : Type} (ρ : Rho) (r : DE) (f : α → D) (o : Option α) : Prop where
  run : ∀ y, o = some y → ∃ d0 k, r ρ = .ok (d0, k) ρ ∧ cur ρ (d0, k) = some (f y) ∧ settleR ρ k = ρ
theorem vt_ret (h : q ρ = .ok c ρ) : VT ρ q (some c) := ⟨fun _ e => by cases e; exact h⟩
theorem vt_bind {α : Type} {o : Option α} {h : α → Option Bool} (hh : ∀ a, o = some a → VT ρ q (h a)) : VT ρ q (o.bind h) := ⟨fun c e => by
  obtain ⟨a, e1, e2⟩ := Option.bind_eq_some_iff.mp e
  exact (hh a e1).run c e2⟩
theorem ve_ret {α : Type} {f : α → D} {y : α} (h : r ρ = .ok (d0, k) ρ) (hc : cur ρ (d0, k) = some (f y)) (hs : settleR ρ k = ρ) : VE ρ r f (some y) := ⟨fun _ e => by cases e; exact ⟨d0, k, h, hc, hs⟩⟩
theorem ve_bind {α β : Type} {f : α → D} {o : Option β} {h : β → Option α} (hh : ∀ a, o = some a → VE ρ r f (h a)) : VE ρ r f (o.bind h) := ⟨fun c e => by
  obtain ⟨a, e1, e2⟩ := Option.bind_eq_some_iff.mp e
  exact (hh a e1).run c e2⟩
theorem q_andP {ob : Option Bool} (h1 : qa ρ = .ok a ρ1) (h2 : VT ρ1 qb ob) (hv : (if a = true then ob else some false) = some b) : dAnd qa qb ρ = .ok b ρ1 := by
  unfold dAnd
  rw [bind_ok h1]
  cases a with
  | false => cases hv; rfl
  | true => exact h2.run b hv
theorem q_orP {ob : Option Bool} (h1 : qa ρ = .ok a ρ1) (h2 : VT ρ1 qb ob) (hv : (if a = true then some true else ob) = some b) : dOr qa qb ρ = .ok b ρ1 := by
  unfold dOr
  rw [bind_ok h1]
  cases a with
  | true => cases hv; rfl
  | false => exact h2.run b hv
/-- a value of a kind that says nothing of names: of a test that is a value -/
structure VB (ρ : Rho) (r : DE) (o : Option Bool) : Prop where
  run : ∀ c, o = some c → r ρ = .ok (.con (.bl c), .shr) ρ
theorem vb_ret (h : r ρ = .ok (.con (.bl c), .shr) ρ) : VB ρ r (some c) := ⟨fun _ e => by cases e; exact h⟩
theorem vb_bind {α : Type} {o : Option α} {h : α → Option Bool} (hh : ∀ a, o = some a → VB ρ r (h a)) : VB ρ r (o.bind h) := ⟨fun c e => by
  obtain ⟨a, e1, e2⟩ := Option.bind_eq_some_iff.mp e
  exact (hh a e1).run c e2⟩
theorem q_andVP {ob : Option Bool} (h1 : dB ra ρ = .ok a ρ1) (h2 : VB ρ1 rb ob) (hv : (if a = true then ob else some false) = some b) : dAndV ra rb ρ = .ok (.con (.bl b), .shr) ρ1 := by
  unfold dAndV
  rw [bind_ok h1]
  cases a with
  | false => cases hv; rfl
  | true => exact h2.run b hv
theorem q_orVP {ob : Option Bool} (h1 : dB ra ρ = .ok a ρ1) (h2 : VB ρ1 rb ob) (hv : (if a = true then some true else ob) = some b) : dOrV ra rb ρ = .ok (.con (.bl b), .shr) ρ1 := by
  unfold dOrV
  rw [bind_ok h1]
  cases a with
  | true => cases hv; rfl
  | false => exact h2.run b hv
/-- shared at once -/
def dSh (r : DE) : DE := do
  let x ← r
  keep false x
theorem keep_ok {x : D × Kd} (hc : cur ρ x = some d) (hs : settleR ρ x.2 = ρ1) : keep false x ρ = .ok (d, .shr) ρ1 := by
  unfold keep
  show (dcur x >>= fun d => settleM x.2 >>= fun _ => pure (d, Kd.shr)) ρ = _
  rw [bind_ok (cur_ok hc)]
  show (settleM x.2 >>= _) ρ = _
  rw [bind_ok (show settleM x.2 ρ = .ok () (settleR ρ x.2) from rfl), hs]
  rfl
theorem q_sh (hr : r ρ = .ok (d0, k) ρ1) (hc : cur ρ1 (d0, k) = some d) (hs : settleR ρ1 k = ρ2) : dSh r ρ = .ok (d, .shr) ρ2 := by
  unfold dSh
  rw [bind_ok hr, keep_ok hc hs]
/-- a if q else b, shared -/
structure VSh {α : Type} (ρ : Rho) (r : DE) (f : α → D) (o : Option α) : Prop where
  run : ∀ y, o = some y → r ρ = .ok (f y, .shr) ρ
theorem vs_ret {α : Type} {f : α → D} {y : α} (h : r ρ = .ok (f y, .shr) ρ) : VSh ρ r f (some y) := ⟨fun _ e => by cases e; exact h⟩
theorem vs_bind {α β : Type} {f : α → D} {o : Option β} {h : β → Option α} (hh : ∀ a, o = some a → VSh ρ r f (h a)) : VSh ρ r f (o.bind h) := ⟨fun c e => by
  obtain ⟨a, e1, e2⟩ := Option.bind_eq_some_iff.mp e
  exact (hh a e1).run c e2⟩
theorem q_ifxP {α : Type} {f : α → D} {oa ob : Option α} {y : α} (hq : q ρ = .ok c ρ1) (ha : VSh ρ1 ra f oa) (hb : VSh ρ1 rb f ob) (hv : (if c = true then oa else ob) = some y) : dIfx q ra rb ρ = .ok (f y, .shr) ρ1 := by
  unfold dIfx
  rw [bind_ok hq]
  cases c with
  | true => exact ha.run y hv
  | false => exact hb.run y hv
theorem a_nil : dA [] ρ = .ok [] ρ := rfl
theorem a_F (ha : r ρ = .ok (d0, k) ρ1) (hc : cur ρ1 (d0, k) = some d) (hs : settleR ρ1 k = ρ2) (hl : dA l ρ2 = .ok ys ρ3) : dA ((false, r) :: l) ρ = .ok ((d, .shr) :: ys) ρ3 := by
  unfold dA
  rw [bind_ok ha, bind_ok (keep_ok hc hs), bind_ok hl]
  rfl
theorem a_T (ha : r ρ = .ok (d0, k) ρ1) (hl : dA l ρ1 = .ok ys ρ3) : dA ((true, r) :: l) ρ = .ok ((d0, k) :: ys) ρ3 := by
  unfold dA
  rw [bind_ok ha, bind_ok (show keep true (d0, k) ρ1 = .ok (d0, k) ρ1 from rfl), bind_ok hl]
  rfl
theorem q_lst {ds : List D} (ha : dA l ρ = .ok xs ρ1) (hs : shrs xs = some ds) (hl : decide (ds.length ≤ cap) = true) : dLst l ρ = .ok (.lst ds, .fr) ρ1 := by
  unfold dLst
  rw [bind_ok ha]
  exact opt_ok (by unfold gD; rw [hs]; exact if_pos (of_decide_eq_true hl))
theorem q_tup {ds : List D} (ha : dA l ρ = .ok xs ρ1) (hs : shrs xs = some ds) (hl : decide (ds.length ≤ cap) = true) : dTup l ρ = .ok (.tup ds, .shr) ρ1 := by
  unfold dTup
  rw [bind_ok ha]
  exact opt_ok (by unfold gD; rw [hs]; exact if_pos (of_decide_eq_true hl))
theorem q_bi {g : List D → Option (D × Kd)} {ds : List D} (ha : dA l ρ = .ok xs ρ1) (hc : curs ρ1 xs = some ds) (hg : g ds = some z) : dBi g l ρ = .ok z ρ1 := by
  unfold dBi
  rw [bind_ok ha, bind_ok (show dcurs xs ρ1 = .ok ds ρ1 by unfold dcurs; rw [hc]), opt_ok hg]
theorem q_mt {ty : D → Bool} {g : D → List D → Option (D × Kd)} {ds : List D} (hr : r ρ = .ok (d0, k) ρ1) (hc : cur ρ1 (d0, k) = some d) (ht : ty d = true) (ha : dA l ρ1 = .ok xs ρ2) (hc2 : cur ρ2 (d0, k) = some d) (hx : curs ρ2 xs = some ds) (hg : g d ds = some z) :
    dMt ty g r l ρ = .ok z ρ2 := by
  unfold dMt
  rw [bind_ok hr, bind_ok (cur_ok hc), bind_ok (opt_ok (a := ()) (if_pos ht)), bind_ok ha, bind_ok (cur_ok hc2), bind_ok (show dcurs xs ρ2 = .ok ds ρ2 by unfold dcurs; rw [hx]), opt_ok hg]
theorem q_isi {u t : Ty} (hr : r ρ = .ok (d0, k) ρ1) (hc : cur ρ1 (d0, k) = some d) (ht : tyOf d = some t) : dIsi u r ρ = .ok (.con (.bl (isiT t u)), .shr) ρ1 := by
  unfold dIsi
  rw [bind_ok hr, bind_ok (cur_ok hc), bind_ok (opt_ok ht)]
  rfl
theorem q_call {F : Fn} {np : Nat} {dfl : List D} {args : List VL.Arg} {kf : Bool} {outs : Rho} (ha : dA l ρ = .ok xs ρ1) (hu : (uniqW (wsOf ρ1 0 xs) && decide (xs.length + dfl.length = np)) = true) (hx : argsOf ρ1 xs = some args)
    (hF : F (args ++ dfl.map shA) = some (.ret d kf outs)) (hb : backs xs outs 0 ρ1 = ρ2) : dCall F np dfl l ρ = .ok (d, frK kf) ρ2 := by
  unfold dCall
  rw [bind_ok ha]
  unfold VL.callEnd
  rw [if_pos hu, hx]
  dsimp only
  rw [hF]
  dsimp only
  rw [hb]
theorem q_mut {i : Nat} {g : List D → List D → Option (List D × D)} {ys ys' ds : List D} {p p' : Bool} (hi : ρ[i]? = some (some ⟨.lst ys, true, p⟩)) (ha : dA l ρ = .ok xs ρ1) (hx : shrs xs = some ds) (hi1 : ρ1[i]? = some (some ⟨.lst ys', true, p'⟩)) {w : List D × D}
    (hg : g ys' ds = some w) (hS : ρ1.set i (some ⟨.lst w.1, true, p'⟩) = ρ2) : dMut i g l ρ = .ok (w.2, .shr) ρ2 := by
  unfold dMut
  rw [bind_ok (show chkOwn i ρ = .ok () ρ by unfold chkOwn getOwn; rw [hi]), bind_ok ha, bind_ok (opt_ok hx)]
  unfold mutEnd getOwn
  rw [hi1]
  dsimp only
  rw [hg]
  dsimp only
  rw [hS]
theorem q_part {j : Int} (hr : r ρ = .ok (d0, k) ρ1) (hc : cur ρ1 (d0, k) = some (.con (.int j))) : dPart (some r) ρ = .ok (some j) ρ1 := by
  unfold dPart
  show (r >>= _) ρ = _
  rw [bind_ok hr, bind_ok (cur_ok hc)]
  rfl
theorem q_part0 : dPart none ρ = .ok none ρ := rfl
theorem q_slL {lo hi : Option DE} {i j : Option Int} {ds : List D} (hr : r ρ = .ok (d0, k) ρ1) (h1 : dPart lo ρ1 = .ok i ρ2) (h2 : dPart hi ρ2 = .ok j ρ3) (hc : cur ρ3 (d0, k) = some (.lst ds)) : dSlL r lo hi ρ = .ok (.lst (cutD ds i j), .fr) ρ3 := by
  unfold dSlL
  rw [bind_ok hr, bind_ok h1, bind_ok h2, bind_ok (cur_ok hc)]
  rfl
theorem q_bor {cc : V} (hr : r (ρ.map lent) = .ok (d0, k) ρ1) (hc : cur ρ1 (d0, k) = some (.con cc)) : dBor r ρ = .ok (.con cc, .shr) ρ := by
  unfold dBor
  rw [bind_ok hr, cur_ok hc]
theorem q_tbor (h : q (ρ.map lent) = .ok b ρ1) : tBor q ρ = .ok b ρ := by unfold tBor; rw [h]
theorem q_lnd {ds : List D} (hr : r (ρ.map lent) = .ok (.lst ds, .fr) ρ1) (hc : ds.all isCon = true) : dLnd r ρ = .ok (.lst ds, .fr) ρ := by
  unfold dLnd
  rw [hr]
  exact if_pos hc
theorem q_put (hc : cur ρ (d0, k) = some d) (hp : pinned (settleR ρ k) i = false) (hS : (settleR ρ k).set i (some ⟨d, ownOf k, false⟩) = ρ1) : dPut i (d0, k) ρ = .ok () ρ1 := by
  unfold dPut
  rw [bind_ok (cur_ok hc)]
  show putEnd i k d ρ = _
  unfold putEnd
  rw [hp, ← hS]
  rfl
theorem q_set (hr : r ρ = .ok (d0, k) ρ1) (hc : cur ρ1 (d0, k) = some d) (hp : pinned (settleR ρ1 k) i = false) (hS : (settleR ρ1 k).set i (some ⟨d, ownOf k, false⟩) = ρ2) : dSet i r ρ = .ok .nx ρ2 := by
  unfold dSet
  rw [bind_ok hr, bind_ok (q_put hc hp hS)]
  rfl
theorem q_expr (hr : r ρ = .ok z ρ1) : dExpr r ρ = .ok .nx ρ1 := by
  unfold dExpr
  rw [bind_ok hr]
  rfl
theorem q_setIx {rk rv : DE} {i : Nat} {n : Int} {ys ys' ws : List D} {p : Bool} {dk0 : D} {kk : Kd} (hv : rv ρ = .ok (d0, k) ρ1) (hc : cur ρ1 (d0, k) = some d) (hs : settleR ρ1 k = ρ2) (hi : ρ2[i]? = some (some ⟨.lst ys, true, p⟩)) (hk : rk ρ2 = .ok (dk0, kk) ρ3)
    (ck : cur ρ3 (dk0, kk) = some (.con (.int n))) (hi3 : ρ3[i]? = some (some ⟨.lst ys', true, p⟩)) (hg : setG (.con (.int n)) d ys' = some (ws, .non)) (hS : ρ3.set i (some ⟨.lst ws, true, p⟩) = ρ4) : dSetIx i rk rv ρ = .ok .nx ρ4 := by
  unfold dSetIx
  rw [bind_ok hv, bind_ok (keep_ok hc hs), bind_ok (show chkOwn i ρ2 = .ok () ρ2 by unfold chkOwn getOwn; rw [hi]), bind_ok hk, bind_ok (cur_ok ck)]
  have : mutEnd i (setG (.con (.int n)) d) ρ3 = .ok (.non, .shr) ρ4 := by
    unfold mutEnd getOwn
    rw [hi3]
    dsimp only
    rw [hg]
    dsimp only
    rw [hS]
  rw [bind_ok this]
  rfl
theorem q_par {i j : Nat} {bi bj : Bool} {x y : D × Kd} (ha : dA [(bi, ra), (bj, rb)] ρ = .ok [x, y] ρ1) (hn : nonm x = some ()) (h1 : dPut j y ρ1 = .ok () ρ2) (h2 : dPut i x ρ2 = .ok () ρ3) : dPar i j bi bj ra rb ρ = .ok .nx ρ3 := by
  unfold dPar
  rw [bind_ok ha]
  show (mOpt (nonm x) >>= _) ρ1 = _
  rw [bind_ok (opt_ok hn), bind_ok h1, bind_ok h2]
  rfl
/-- slots are shared -/
def shareAll (ρ : Rho) : List Nat → Rho
  | [] => ρ
  | i :: is => shareR (shareAll ρ is) i
end
end L2.TX
end
section
set_option Elab.async false
set_option linter.all false
set_option maxRecDepth 100000
namespace L2.TX
open PySem PySem.Spec PyProof.Rows L2 L2.VL
section
variable {X : Cx} {pj : VK → VK} {st : Stmt} {sts : List Stmt} {sa : DS} {e : Expr} {r : DE}
theorem Rel.shareAll {G : Fix} {σ : St} {H : Hp} {ρ : Rho} {T : List Tmp} : ∀ (is : List Nat) {O : L2.VL.Own}, Rel G O σ H ρ T → ∃ O', Rel G O' σ H (shareAll ρ is) T
  | [], O, R => ⟨O, R⟩
  | i :: is, O, R => by
    obtain ⟨O1, R1⟩ := Rel.shareAll is R
    show ∃ O', Rel G O' σ H (shareR (TX.shareAll ρ is) i) T
    cases q : (TX.shareAll ρ is)[i]? with
    | none => exact ⟨O1, by unfold shareR; rw [q]; exact R1⟩
    | some o =>
      cases o with
      | none => exact ⟨O1, by unfold shareR; rw [q]; exact R1⟩
      | some s =>
        obtain ⟨O2, _, R2, _, _⟩ := R1.share q
        exact ⟨O2, R2⟩
def shareM (is : List Nat) : M Unit := fun ρ => .ok () (shareAll ρ is)
/-- shared behind a statement -/
def dShE (is : List Nat) (sa : DS) : DS := do
  let f ← sa
  shareM is
  pure f
theorem ss_shE (is : List Nat) (h : SSf pj X st sa) : SSf pj X st (dShE is sa) := fun W tk => PS.imp (h W tk) fun D σ H ⟨G, O, ρ, hK, R, h⟩ => ⟨G, O, ρ, hK, R, Res.post_ok ((post_bind _ _).mp h) fun f ρ1 q => by
  replace q : FlOk G (D.re pj) [] f (shareAll ρ1 is) := q
  cases f with
  | nx => exact fun O' σ' H' R' => let ⟨O2, R2⟩ := Rel.shareAll is R'; q O2 σ' H' R2
  | brk => exact fun O' σ' H' R' => let ⟨O2, R2⟩ := Rel.shareAll is R'; q O2 σ' H' R2
  | cnt => exact fun O' σ' H' R' => let ⟨O2, R2⟩ := Rel.shareAll is R'; q O2 σ' H' R2
  | ret d b => exact fun O' σ' v H' R' => let ⟨O2, R2⟩ := Rel.shareAll is R'; q O2 σ' v H' R2⟩
theorem q_shE {is : List Nat} {ρ ρ1 ρ2 : Rho} (h : sa ρ = .ok .nx ρ1) (hs : shareAll ρ1 is = ρ2) : dShE is sa ρ = .ok .nx ρ2 := by
  unfold dShE
  rw [bind_ok h]
  show (shareM is >>= _) ρ1 = _
  rw [bind_ok (show shareM is ρ1 = .ok () ρ2 by show Res.ok () (shareAll ρ1 is) = _; rw [hs])]
  rfl
theorem se_sh (h : SE X e r) : SE X e (dSh r) := fun W tk => PE.imp (h W tk) fun σ H Q ⟨G, O, ρ, hK, R, h⟩ => ⟨G, O, ρ, hK, R, Res.post_ok ((post_bind _ _).mp h) fun x ρ1 q O1 v H1 R1 => by
  obtain ⟨d, e1, q2⟩ := keep_false q
  obtain ⟨O2, R2⟩ := R1.settle (d := d) e1
  exact q2 O2 v H1 R2⟩
end
structure BL {ω : Type} (P : Res Fl → ω → Prop) (ρ : Rho) (m : DS) (o : Option ω) : Prop where
  run : ∀ w, o = some w → P (m ρ) w
def fgRes (fg : List Nat) : Res Fl → Res Fl
  | .ok f ρ => .ok f (forgetR ρ fg)
  | r => r
abbrev PF {ω : Type} (fg : List Nat) (P : Res Fl → ω → Prop) : Res Fl → ω → Prop := fun r w => P (fgRes fg r) w
abbrev PN {σ : Type} (S : σ → Rho) : Res Fl → σ → Prop := fun r s => r = .ok .nx (S s)
abbrev PL {σ : Type} (S : σ → Rho) : Res Fl → σ → Prop := fun r s => r = .ok .nx (S s) ∨ r = .ok .cnt (S s)
def PW {σ α : Type} (S : σ → Rho) (Q : Res Fl → α → Prop) (r : Res Fl) : Fw σ α → Prop
  | .nx s => r = .ok .nx (S s) ∨ r = .ok .cnt (S s)
  | .brk s => r = .ok .brk (S s)
  | .ret a => (∃ d b ρ', r = .ok (.ret d b) ρ') ∧ Q r a
def PR {α : Type} (f : α → D) (kf : Bool) : Res Fl → α → Prop := fun r a => ∃ ρ', r = .ok (.ret (f a) kf) ρ'
def PRt {α τ : Type} (f : α → D) (kf : Bool) (n : Nat) (g : τ → Rho) : Res Fl → α × τ → Prop := fun r p => ∃ ρ', r = .ok (.ret (f p.1) kf) ρ' ∧ ρ'.take n = g p.2
section
variable {ω ω' α β σ τ : Type} {P : Res Fl → ω → Prop} {ρ ρ1 ρ2 ρ3 : Rho} {a b s1 t m : DS} {o : Option ω} {r : DE} {d d0 : D} {k : Kd} {i : Nat} {S : σ → Rho} {q : M Bool} {c : Bool} {fg : List Nat} {f : Fl}
theorem seq_nx (h : a ρ = .ok .nx ρ1) : (dSeq a b) ρ = b ρ1 := by
  unfold dSeq
  rw [bind_ok h]
theorem seq_out (h : a ρ = .ok f ρ1) (hf : f ≠ .nx) : (dSeq a b) ρ = .ok f ρ1 := by
  unfold dSeq
  rw [bind_ok h]
  cases f with
  | nx => exact absurd rfl hf
  | brk => rfl
  | cnt => rfl
  | ret d b => rfl
theorem seq_ex {x : Exn} (h : a ρ = .ex x ρ1) : (dSeq a b) ρ = .ex x ρ1 := by
  unfold dSeq
  rw [bind_ex h]
theorem seq_stuck (h : a ρ = .stuck) : (dSeq a b) ρ = .stuck := by
  show M.bind a _ ρ = _
  unfold M.bind
  rw [h]
theorem seq_eq (h : a ρ = m ρ1) : (dSeq a b) ρ = (dSeq m b) ρ1 := by
  show M.bind a _ ρ = M.bind m _ ρ1
  unfold M.bind
  rw [h]
theorem seq_assoc : (dSeq (dSeq s1 t) b) ρ = (dSeq s1 (dSeq t b)) ρ := by
  cases e : s1 ρ with
  | stuck => rw [seq_stuck e, seq_stuck (seq_stuck e)]
  | ex x ρ1 => rw [seq_ex e, seq_ex (seq_ex e)]
  | ok f ρ1 =>
    by_cases hf : f = .nx
    · subst hf
      rw [seq_nx e]
      exact seq_eq (seq_nx e)
    · rw [seq_out e hf, seq_out (seq_out e hf) hf]
theorem seq_next : (dSeq m dNext) ρ = m ρ := by
  cases e : m ρ with
  | stuck => rw [seq_stuck e]
  | ex x ρ1 => rw [seq_ex e]
  | ok f ρ1 =>
    by_cases hf : f = .nx
    · subst hf
      rw [seq_nx e]
      rfl
    · rw [seq_out e hf]
theorem bl_eq {m' : DS} (e : m ρ = m' ρ1) (h : BL P ρ1 m' o) : BL P ρ m o := ⟨fun w q => by rw [e]; exact h.run w q⟩
theorem bl_last (h : BL P ρ (dSeq m dNext) o) : BL P ρ m o := bl_eq seq_next.symm h
theorem bl_assoc (h : BL P ρ (dSeq s1 (dSeq t b)) o) : BL P ρ (dSeq (dSeq s1 t) b) o := bl_eq seq_assoc h
theorem bl_nextS (h : BL P ρ b o) : BL P ρ (dSeq dNext b) o := bl_eq (seq_nx rfl) h
theorem bl_end {w : ω} (h : P (.ok .nx ρ) w) : BL P ρ dNext (some w) := ⟨fun _ e => by cases e; exact h⟩
theorem bl_bind {oa : Option α} {h : α → Option ω} (hh : ∀ a, oa = some a → BL P ρ m (h a)) : BL P ρ m (oa.bind h) := ⟨fun w e => by
  obtain ⟨x, e1, e2⟩ := Option.bind_eq_some_iff.mp e
  exact (hh x e1).run w e2⟩
theorem bl_seq (h : a ρ = .ok .nx ρ1) (hb : BL P ρ1 b o) : BL P ρ (dSeq a b) o := bl_eq (seq_nx h) hb
/-- a name for the value -/
theorem bl_set {v : α} {f : α → D} {S : α → Rho} {h : α → Option ω} (hr : r ρ = .ok (d0, k) ρ1) (hc : cur ρ1 (d0, k) = some (f v)) (hp : pinned (settleR ρ1 k) i = false) (hS : ∀ x, (settleR ρ1 k).set i (some ⟨f x, ownOf k, false⟩) = S x)
    (hb : ∀ x, BL P (S x) b (h x)) : BL P ρ (dSeq (dSet i r) b) (lt v h) := by
  rw [lt_eq]
  exact bl_seq (q_set hr hc hp (hS v)) (hb v)
theorem bl_setV (hr : r ρ = .ok (d0, k) ρ1) (hc : cur ρ1 (d0, k) = some d) (hp : pinned (settleR ρ1 k) i = false) (hS : (settleR ρ1 k).set i (some ⟨d, ownOf k, false⟩) = ρ2)
    (hb : BL P ρ2 b o) : BL P ρ (dSeq (dSet i r) b) o := bl_seq (q_set hr hc hp hS) hb
theorem bl_lt {v : α} {S : α → Rho} {h : α → Option ω} (hS : S v = ρ) (hb : ∀ x, BL P (S x) m (h x)) : BL P ρ m (lt v h) := by
  rw [lt_eq, ← hS]
  exact hb v
theorem bl_expr {z : D × Kd} (hr : r ρ = .ok z ρ1) (hb : BL P ρ1 b o) : BL P ρ (dSeq (dExpr r) b) o := bl_seq (q_expr hr) hb
theorem take_ok {x : D × Kd} {y : D × Bool} (hc : cur ρ x = some d) (h : (match x.2 with | .fr => (pure (d, true) : M (D × Bool)) | .shr => pure (d, false) | .nm i => takeNm d i) ρ = .ok y ρ1) : dTake x ρ = .ok y ρ1 := by
  unfold dTake
  rw [bind_ok (cur_ok hc)]
  exact h
theorem bl_ret {w : ω} {kf : Bool} (hr : r ρ = .ok (d0, k) ρ1) (hc : cur ρ1 (d0, k) = some d) (ht : (match k with | .fr => (pure (d, true) : M (D × Bool)) | .shr => pure (d, false) | .nm i => takeNm d i) ρ1 = .ok (d, kf) ρ2)
    (hP : P (.ok (.ret d kf) ρ2) w) : BL P ρ (dSeq (dRet r) b) (some w) := ⟨fun _ e => by
  cases e
  have : dRet r ρ = .ok (.ret d kf) ρ2 := by
    unfold dRet
    rw [bind_ok hr, bind_ok (take_ok (x := (d0, k)) hc ht)]
    rfl
  rw [seq_out this (fun z => by cases z)]
  exact hP⟩
theorem if_eq {b1 b2 : DS} (hq : q ρ = .ok c ρ1) : (dIf q b1 b2) ρ = if c = true then b1 ρ1 else b2 ρ1 := by
  unfold dIf
  rw [bind_ok hq]
  cases c <;> rfl
theorem bl_if {b1 b2 : DS} {oa ob : Option ω} (hq : q ρ = .ok c ρ1) (h1 : c = true → BL P ρ1 (dSeq b1 b) oa) (h2 : c = false → BL P ρ1 (dSeq b2 b) ob) : BL P ρ (dSeq (dIf q b1 b2) b) (if c = true then oa else ob) := by
  have e := if_eq (b1 := b1) (b2 := b2) hq
  cases c with
  | true => exact bl_eq (seq_eq e) (h1 rfl)
  | false => exact bl_eq (seq_eq e) (h2 rfl)
/-- an if that goes on in any case -/
theorem bl_ifJ {b1 b2 : DS} {oa ob : Option σ} {h : σ → Option ω} (S : σ → Rho) (hq : q ρ = .ok c ρ1) (h1 : c = true → BL (PN S) ρ1 b1 oa) (h2 : c = false → BL (PN S) ρ1 b2 ob) (hb : ∀ s, BL P (S s) b (h s)) : BL P ρ (dSeq (dIf q b1 b2) b) ((if c = true then oa else ob).bind h) := bl_bind fun s e => by
  have e2 := if_eq (b1 := b1) (b2 := b2) hq
  cases c with
  | true => exact bl_seq (e2.trans ((h1 rfl).run s e)) (hb s)
  | false => exact bl_seq (e2.trans ((h2 rfl).run s e)) (hb s)
theorem fgE_eq : (dFgE fg m) ρ = fgRes fg (m ρ) := by
  unfold dFgE
  show M.bind m _ ρ = _
  unfold M.bind
  cases e : m ρ with
  | stuck => rfl
  | ex x ρ1 => rfl
  | ok f ρ1 => rfl
theorem bl_fgE (h : BL (PF fg P) ρ m o) : BL P ρ (dFgE fg m) o := ⟨fun w e => by rw [fgE_eq]; exact h.run w e⟩
theorem bl_fgB (hs : forgetR ρ fg = ρ1) (h : BL P ρ1 (dSeq m b) o) : BL P ρ (dSeq (dFgB fg m) b) o := bl_eq (seq_eq (show dFgB fg m ρ = m ρ1 by
  unfold dFgB
  rw [bind_ok (show forgetM fg ρ = .ok () (forgetR ρ fg) from rfl), hs])) h
variable {t : Tg} {body : DS} {fb : β → D} {S1 : σ → β → Rho} {it : M (List D)} {xs : List β} {s0 : σ}
theorem for_fo {gb : σ → β → Option σ} (hp : ∀ s x, (t.put (fb x)) (S s) = .ok () (S1 s x)) (hb : ∀ s x, BL (PL S) (S1 s x) body (gb s x)) : ∀ (xs : List β) (s s' : σ), fo gb xs s = some s' → forD t body (xs.map fb) (S s) = .ok .nx (S s')
  | [], s, s', e => by cases e; rfl
  | x :: xs, s, s', e => by
    obtain ⟨s2, e1, e2⟩ := Option.bind_eq_some_iff.mp (show (gb s x).bind (fo gb xs) = some s' from e)
    show (t.put (fb x) >>= fun _ => body >>= _) (S s) = _
    rw [bind_ok (hp s x)]
    rcases (hb s x).run s2 e1 with q | q
    · rw [bind_ok q]
      exact for_fo hp hb xs s2 s' e2
    · rw [bind_ok q]
      exact for_fo hp hb xs s2 s' e2
theorem bl_for {gb : σ → β → Option σ} {h : σ → Option ω} (S : σ → Rho) (S1 : σ → β → Rho) (hB : forgetR ρ fg = ρ1) (hi : it ρ1 = .ok (xs.map fb) (S s0)) (hp : ∀ s x, (t.put (fb x)) (S s) = .ok () (S1 s x))
    (hb : ∀ s x, BL (PF fg (PL S)) (S1 s x) body (gb s x)) (hr : ∀ s, BL P (S s) b (h s)) : BL P ρ (dSeq (dFgB fg (dFor it t (dFgE fg body))) b) ((fo gb xs s0).bind h) := bl_fgB hB (bl_bind fun s e => bl_seq (by
  unfold dFor
  rw [bind_ok hi]
  exact for_fo hp (fun s x => bl_fgE (hb s x)) xs s0 s e) (hr s))
theorem for_foW {gb : σ → β → Option (Fw σ α)} {Q : Res Fl → α → Prop} (hp : ∀ s x, (t.put (fb x)) (S s) = .ok () (S1 s x)) (hb : ∀ s x, BL (PW S Q) (S1 s x) body (gb s x)) : ∀ (xs : List β) (s : σ) (w : Fw σ α), foW gb xs s = some w →
    match w with
    | .nx s' => forD t body (xs.map fb) (S s) = .ok .nx (S s')
    | .brk s' => False
    | .ret a => (∃ d b ρ', forD t body (xs.map fb) (S s) = .ok (.ret d b) ρ') ∧ Q (forD t body (xs.map fb) (S s)) a
  | [], s, w, e => by cases e; rfl
  | x :: xs, s, w, e => by
    obtain ⟨u, e1, e2⟩ := Option.bind_eq_some_iff.mp (show (gb s x).bind (fwNext (foW gb xs)) = some w from e)
    have hu := (hb s x).run u e1
    have key : forD t body ((x :: xs).map fb) (S s) = (body >>= fun f => match f with
      | .nx => forD t body (xs.map fb)
      | .cnt => forD t body (xs.map fb)
      | .brk => pure .nx
      | f => pure f) (S1 s x) := by
      show (t.put (fb x) >>= fun _ => body >>= _) (S s) = _
      rw [bind_ok (hp s x)]
      all_goals rfl
    rw [key]
    cases u with
    | nx s2 =>
      have ih := for_foW hp hb xs s2 w e2
      rcases hu with q | q
      · rw [bind_ok q]; exact ih
      · rw [bind_ok q]; exact ih
    | brk s2 =>
      cases e2
      rw [bind_ok (show body (S1 s x) = .ok .brk (S s2) from hu)]
      rfl
    | ret a =>
      cases e2
      obtain ⟨⟨d, k, ρ', q⟩, hQ⟩ := hu
      rw [bind_ok q]
      exact ⟨⟨d, k, ρ', rfl⟩, by rw [q] at hQ; exact hQ⟩
/-- what a loop's answer is, where it stands: handed back at once, or as a turn's end of the loop around -/
structure Out {α ω : Type} (Q : Res Fl → α → Prop) (P : Res Fl → ω → Prop) (rt : α → ω) : Prop where
  run : ∀ d k ρ' a, Q (.ok (.ret d k) ρ') a → P (.ok (.ret d k) ρ') (rt a)
theorem bl_forW {gb : σ → β → Option (Fw σ α)} {h : σ → Option ω} {Q : Res Fl → α → Prop} {rt : α → ω} (S : σ → Rho) (S1 : σ → β → Rho) (hB : forgetR ρ fg = ρ1) (hi : it ρ1 = .ok (xs.map fb) (S s0)) (hp : ∀ s x, (t.put (fb x)) (S s) = .ok () (S1 s x))
    (hb : ∀ s x, BL (PF fg (PW S Q)) (S1 s x) body (gb s x)) (hQ : Out Q P rt) (hr : ∀ s, BL P (S s) b (h s)) : BL P ρ (dSeq (dFgB fg (dFor it t (dFgE fg body))) b) ((foW gb xs s0).bind (fwOut h fun a => some (rt a))) := bl_fgB hB (bl_bind fun w e => by
  have q := for_foW hp (fun s x => bl_fgE (hb s x)) xs s0 w e
  have key : dFor it t (dFgE fg body) ρ1 = forD t (dFgE fg body) (xs.map fb) (S s0) := by
    unfold dFor
    rw [bind_ok hi]
  cases w with
  | nx s => exact bl_seq (key.trans q) (hr s)
  | brk s => exact q.elim
  | ret a =>
    obtain ⟨⟨d, k, ρ', q1⟩, q2⟩ := q
    refine ⟨fun w ew => ?_⟩
    cases ew
    rw [seq_out (key.trans q1) (fun z => by cases z)]
    rw [q1] at q2
    exact hQ.run d k ρ' a q2)
theorem wh_of {tq : σ → Option Bool} {gb : σ → Option (Fw σ α)} {n : Nat} {s : σ} {w : Fw σ α} (h : whN tq gb n s = some w) : wh tq gb s = some w := by
  have more : ∀ (n k : Nat) (s : σ) (w : Fw σ α), whN tq gb n s = some w → whN tq gb (n + k) s = some w := by
    intro n
    induction n with
    | zero => intro k s w h; cases h
    | succ n ih =>
      intro k s w h
      rw [show n + 1 + k = (n + k) + 1 by omega]
      unfold whN at h ⊢
      obtain ⟨c, e1, e2⟩ := Option.bind_eq_some_iff.mp h
      rw [e1]
      cases c with
      | false => exact e2
      | true =>
        obtain ⟨u, e3, e4⟩ := Option.bind_eq_some_iff.mp (show (gb s).bind (fwNext (whN tq gb n)) = some w from e2)
        show (gb s).bind (fwNext (whN tq gb (n + k))) = some w
        rw [e3]
        cases u with
        | nx s2 => exact ih k s2 w e4
        | brk s2 => exact e4
        | ret a => exact e4
  unfold wh
  have hx : ∃ n w, whN tq gb n s = some w := ⟨n, w, h⟩
  rw [dif_pos hx]
  obtain ⟨w', hw'⟩ := hx.choose_spec
  have h1 := more hx.choose n s w' hw'
  have h2 := more n hx.choose s w h
  rw [Nat.add_comm, h2] at h1
  rw [hw', ← Option.some.inj h1]
theorem wh_ex {tq : σ → Option Bool} {gb : σ → Option (Fw σ α)} {s : σ} {w : Fw σ α} (h : wh tq gb s = some w) : ∃ n, whN tq gb n s = some w := by
  unfold wh at h
  split at h
  · rename_i hx; exact ⟨_, h⟩
  · cases h
theorem wh_eq (tq : σ → Option Bool) (gb : σ → Option (Fw σ α)) (s : σ) : wh tq gb s = (tq s).bind fun c => if c = true then (gb s).bind (fwNext (wh tq gb)) else some (.nx s) := by
  have one : ∀ w, wh tq gb s = some w ↔ ((tq s).bind fun c => if c = true then (gb s).bind (fwNext (wh tq gb)) else some (.nx s)) = some w := by
    intro w
    constructor
    · intro h
      obtain ⟨n, h⟩ := wh_ex h
      cases n with
      | zero => cases h
      | succ n =>
        unfold whN at h
        obtain ⟨c, e1, e2⟩ := Option.bind_eq_some_iff.mp h
        rw [e1]
        cases c with
        | false => exact e2
        | true =>
          obtain ⟨u, e3, e4⟩ := Option.bind_eq_some_iff.mp (show (gb s).bind (fwNext (whN tq gb n)) = some w from e2)
          show (gb s).bind (fwNext (wh tq gb)) = some w
          rw [e3]
          cases u with
          | nx s2 => exact wh_of (n := n) e4
          | brk s2 => exact e4
          | ret a => exact e4
    · intro h
      obtain ⟨c, e1, e2⟩ := Option.bind_eq_some_iff.mp h
      cases c with
      | false =>
        refine wh_of (n := 1) ?_
        unfold whN
        rw [e1]
        exact e2
      | true =>
        obtain ⟨u, e3, e4⟩ := Option.bind_eq_some_iff.mp (show (gb s).bind (fwNext (wh tq gb)) = some w from e2)
        have fin : ∀ n, fwNext (whN tq gb n) u = some w → wh tq gb s = some w := fun n q => by
          refine wh_of (n := n + 1) ?_
          unfold whN
          rw [e1]
          show (gb s).bind (fwNext (whN tq gb n)) = some w
          rw [e3]
          exact q
        cases u with
        | nx s2 =>
          obtain ⟨n, q⟩ := wh_ex (show wh tq gb s2 = some w from e4)
          exact fin n q
        | brk s2 => exact fin 0 e4
        | ret a => exact fin 0 e4
  cases e : wh tq gb s with
  | some w => exact ((one w).mp e).symm
  | none =>
    cases e2 : ((tq s).bind fun c => if c = true then (gb s).bind (fwNext (wh tq gb)) else some (.nx s)) with
    | none => rfl
    | some w => rw [(one w).mpr e2] at e; cases e
theorem while_whN {tq : σ → Option Bool} {gb : σ → Option (Fw σ α)} {Q : Res Fl → α → Prop} (hq : ∀ s, VT (S s) q (tq s)) (hb : ∀ s, BL (PW S Q) (S s) body (gb s)) : ∀ (n : Nat) (s : σ) (w : Fw σ α), whN tq gb n s = some w →
    match w with
    | .nx s' => whileN q body n (S s) = .ok .nx (S s')
    | .brk s' => False
    | .ret a => (∃ d b ρ', whileN q body n (S s) = .ok (.ret d b) ρ') ∧ Q (whileN q body n (S s)) a
  | 0, s, w, e => by cases e
  | n + 1, s, w, e => by
    unfold whN at e
    obtain ⟨c, e1, e2⟩ := Option.bind_eq_some_iff.mp e
    have hc := (hq s).run c e1
    cases c with
    | false =>
      cases e2
      show whileN q body (n + 1) (S s) = _
      unfold whileN
      rw [bind_ok hc]
      rfl
    | true =>
      obtain ⟨u, e3, e4⟩ := Option.bind_eq_some_iff.mp (show (gb s).bind (fwNext (whN tq gb n)) = some w from e2)
      have hu := (hb s).run u e3
      have key : whileN q body (n + 1) (S s) = (body >>= fun f => match f with
        | .nx => whileN q body n
        | .cnt => whileN q body n
        | .brk => pure .nx
        | f => pure f) (S s) := by
        show (q >>= _) (S s) = _
        rw [bind_ok hc]
        rfl
      rw [key]
      cases u with
      | nx s2 =>
        have ih := while_whN hq hb n s2 w e4
        rcases hu with z | z
        · rw [bind_ok z]; exact ih
        · rw [bind_ok z]; exact ih
      | brk s2 =>
        cases e4
        rw [bind_ok (show body (S s) = .ok .brk (S s2) from hu)]
        rfl
      | ret a =>
        cases e4
        obtain ⟨⟨d, k, ρ', z⟩, hQ⟩ := hu
        rw [bind_ok z]
        exact ⟨⟨d, k, ρ', rfl⟩, by rw [z] at hQ; exact hQ⟩
theorem bl_while {tq : σ → Option Bool} {gb : σ → Option (Fw σ α)} {h : σ → Option ω} {Q : Res Fl → α → Prop} {rt : α → ω} (S : σ → Rho) (hB : forgetR ρ fg = S s0) (hq : ∀ s, VT (S s) q (tq s))
    (hb : ∀ s, BL (PF fg (PW S Q)) (S s) body (gb s)) (hQ : Out Q P rt) (hr : ∀ s, BL P (S s) b (h s)) : BL P ρ (dSeq (dFgB fg (dWhile q (dFgE fg body))) b) ((wh tq gb s0).bind (fwOut h fun a => some (rt a))) := bl_fgB hB (bl_bind fun w e => by
  obtain ⟨n, e⟩ := wh_ex e
  have z := while_whN hq (fun s => bl_fgE (hb s)) n s0 w e
  have key : ∀ {x}, whileN q (dFgE fg body) n (S s0) = x → x ≠ .stuck → dWhile q (dFgE fg body) (S s0) = x := fun e1 e2 => (dWhile_of (by rw [e1]; exact e2)).trans e1
  cases w with
  | nx s => exact bl_seq (key z (fun y => by cases y)) (hr s)
  | brk s => exact z.elim
  | ret a =>
    obtain ⟨⟨d, k, ρ', q1⟩, q2⟩ := z
    refine ⟨fun w ew => ?_⟩
    cases ew
    rw [seq_out (key q1 (fun y => by cases y)) (fun z => by cases z)]
    rw [q1] at q2
    exact hQ.run d k ρ' a q2)
end
theorem out_R {α : Type} {Q : Res Fl → α → Prop} : Out Q Q id := ⟨fun _ _ _ _ h => h⟩
end L2.TX
end
section
set_option Elab.async false
set_option linter.all false
set_option maxRecDepth 100000
namespace L2.TX
open PySem PySem.Spec PyProof.Rows L2 L2.VL
section
variable {α β γ σ τ : Type} {ρ ρ1 ρ2 ρ3 : Rho} {r : DE} {q : M Bool} {t : Tg} {own : List Nat} {it : M (List D)} {fb : β → D} {f : α → D} {xs : List β} {d d0 : D} {k : Kd}
theorem noX_ok {m : M α} {a : α} (h : m ρ = .ok a ρ1) : noX m ρ = .ok a ρ1 := by unfold noX; rw [h]
theorem lcD_lc {cq : β → Option Bool} {ce : β → Option α} {S1 : β → Rho} {ρ0 : Rho} (hp : ∀ x, (t.put (fb x)) ρ0 = .ok () (S1 x)) (hq : ∀ x, VT (S1 x) q (cq x)) (he : ∀ x, VE (S1 x) r f (ce x)) (hw : ∀ x, wipeR (S1 x) own = ρ0) :
    ∀ (xs : List β) (ys : List α) (ρ : Rho), wipeR ρ own = ρ0 → lc cq ce xs = some ys → ∃ ρ', lcD own t q r (xs.map fb) ρ = .ok (ys.map f) ρ' ∧ wipeR ρ' own = ρ0
  | [], ys, ρ, h0, e => by cases e; exact ⟨ρ, rfl, h0⟩
  | x :: xs, ys, ρ, h0, e => by
    obtain ⟨c, e1, e2⟩ := Option.bind_eq_some_iff.mp (show (cq x).bind _ = some ys from e)
    have k0 : lcD own t q r ((x :: xs).map fb) ρ = ((wipeM own >>= fun _ => t.put (fb x) >>= fun _ => noX q >>= fun b => if b = true then (noX r >>= fun y => keep false y >>= fun z => lcD own t q r (xs.map fb) >>= fun rest => pure (z.1 :: rest)) else lcD own t q r (xs.map fb)) : M (List D)) ρ := rfl
    have e0 : wipeM own ρ = .ok () ρ0 := by show Res.ok () (wipeR ρ own) = _; rw [h0]
    rw [k0, bind_ok e0, bind_ok (hp x), bind_ok (noX_ok ((hq x).run c e1))]
    cases c with
    | false =>
      rw [if_neg Bool.false_ne_true]
      exact lcD_lc hp hq he hw xs ys (S1 x) (hw x) e2
    | true =>
      rw [if_pos rfl]
      obtain ⟨y, e3, e4⟩ := Option.bind_eq_some_iff.mp (show (ce x).bind _ = some ys from e2)
      obtain ⟨zs, e5, e6⟩ := Option.bind_eq_some_iff.mp e4
      cases e6
      obtain ⟨d0, k, h1, h2, h3⟩ := (he x).run y e3
      obtain ⟨ρ', h4, h5⟩ := lcD_lc hp hq he hw xs zs (S1 x) (hw x) e5
      rw [bind_ok (noX_ok h1), bind_ok (keep_ok h2 h3), bind_ok h4]
      exact ⟨ρ', rfl, h5⟩
theorem chk_of {ys zs : List α} (h : chk ys = some zs) : zs = ys ∧ ys.length ≤ cap := by
  unfold chk at h
  split at h
  · cases h; exact ⟨rfl, by assumption⟩
  · cases h
theorem q_lc {cq : β → Option Bool} {ce : β → Option α} {ys : List α} (S1 : β → Rho) (hi : it ρ = .ok (xs.map fb) ρ1) (ho : own.all (fun i => !pinned ρ1 i) = true) (h0 : wipeR ρ1 own = ρ2) (hp : ∀ x, (t.put (fb x)) ρ2 = .ok () (S1 x)) (hw : ∀ x, wipeR (S1 x) own = ρ2)
    (hq : ∀ x, VT (S1 x) q (cq x)) (he : ∀ x, VE (S1 x) r f (ce x)) (h : lcC cq ce xs = some ys) : dLc own it t q r ρ = .ok (.lst (ys.map f), .fr) ρ2 := by
  obtain ⟨zs, e1, e2⟩ := Option.bind_eq_some_iff.mp (show (lc cq ce xs).bind chk = some ys from h)
  obtain ⟨rfl, hl⟩ := chk_of e2
  obtain ⟨ρ', h4, h5⟩ := lcD_lc hp hq he hw xs ys ρ1 h0 e1
  unfold dLc
  rw [bind_ok hi]
  show (okOwn own >>= _) ρ1 = _
  rw [bind_ok (show okOwn own ρ1 = .ok () ρ1 by unfold okOwn; rw [if_pos ho]), bind_ok h4]
  show (wipeM own >>= _) ρ' = _
  rw [bind_ok (show wipeM own ρ' = .ok () ρ2 by show Res.ok () (wipeR ρ' own) = _; rw [h5])]
  exact opt_ok (by unfold lcEnd; rw [List.length_map]; exact if_pos hl)
/-- .. with a state that goes along -/
structure XT (S : τ → Rho) (ρ : Rho) (q : M Bool) (o : Option (Bool × τ)) : Prop where
  run : ∀ p, o = some p → q ρ = .ok p.1 (S p.2)
structure XE (S : τ → Rho) (ρ : Rho) (r : DE) (f : α → D) (o : Option (α × τ)) : Prop where
  run : ∀ p, o = some p → ∃ d0 k, r ρ = .ok (d0, k) (S p.2) ∧ cur (S p.2) (d0, k) = some (f p.1) ∧ settleR (S p.2) k = S p.2
theorem xt_ret {S : τ → Rho} {p : Bool × τ} (h : q ρ = .ok p.1 (S p.2)) : XT S ρ q (some p) := ⟨fun _ e => by cases e; exact h⟩
theorem xe_ret {S : τ → Rho} {p : α × τ} (h : r ρ = .ok (d0, k) (S p.2)) (hc : cur (S p.2) (d0, k) = some (f p.1)) (hs : settleR (S p.2) k = S p.2) : XE S ρ r f (some p) := ⟨fun _ e => by cases e; exact ⟨d0, k, h, hc, hs⟩⟩
theorem xe_bind {S : τ → Rho} {o : Option γ} {h : γ → Option (α × τ)} (hh : ∀ a, o = some a → XE S ρ r f (h a)) : XE S ρ r f (o.bind h) := ⟨fun c e => by
  obtain ⟨a, e1, e2⟩ := Option.bind_eq_some_iff.mp e
  exact (hh a e1).run c e2⟩
theorem lcD_lcX {cq : τ → β → Option (Bool × τ)} {ce : τ → β → Option (α × τ)} {S : τ → Rho} {S1 : τ → β → Rho} (hp : ∀ s x, (t.put (fb x)) (S s) = .ok () (S1 s x)) (hq : ∀ s x, XT (fun s' => S1 s' x) (S1 s x) q (cq s x)) (he : ∀ s x, XE (fun s' => S1 s' x) (S1 s x) r f (ce s x)) (hw : ∀ s x, wipeR (S1 s x) own = S s) :
    ∀ (xs : List β) (s : τ) (w : List α × τ) (ρ : Rho), wipeR ρ own = S s → lcX cq ce xs s = some w → ∃ ρ', lcD own t q r (xs.map fb) ρ = .ok (w.1.map f) ρ' ∧ wipeR ρ' own = S w.2
  | [], s, w, ρ, h0, e => by cases e; exact ⟨ρ, rfl, h0⟩
  | x :: xs, s, w, ρ, h0, e => by
    obtain ⟨c, e1, e2⟩ := Option.bind_eq_some_iff.mp (show (cq s x).bind _ = some w from e)
    have k0 : lcD own t q r ((x :: xs).map fb) ρ = ((wipeM own >>= fun _ => t.put (fb x) >>= fun _ => noX q >>= fun b => if b = true then (noX r >>= fun y => keep false y >>= fun z => lcD own t q r (xs.map fb) >>= fun rest => pure (z.1 :: rest)) else lcD own t q r (xs.map fb)) : M (List D)) ρ := rfl
    have e0 : wipeM own ρ = .ok () (S s) := by show Res.ok () (wipeR ρ own) = _; rw [h0]
    rw [k0, bind_ok e0, bind_ok (hp s x), bind_ok (noX_ok ((hq s x).run c e1))]
    obtain ⟨c1, c2⟩ := c
    cases c1 with
    | false =>
      rw [if_neg Bool.false_ne_true]
      exact lcD_lcX hp hq he hw xs c2 w (S1 c2 x) (hw c2 x) e2
    | true =>
      rw [if_pos rfl]
      obtain ⟨y, e3, e4⟩ := Option.bind_eq_some_iff.mp (show (ce c2 x).bind _ = some w from e2)
      obtain ⟨zs, e5, e6⟩ := Option.bind_eq_some_iff.mp e4
      cases e6
      obtain ⟨d0, k, h1, h2, h3⟩ := (he c2 x).run y e3
      obtain ⟨ρ', h4, h5⟩ := lcD_lcX hp hq he hw xs y.2 zs (S1 y.2 x) (hw y.2 x) e5
      rw [bind_ok (noX_ok h1), bind_ok (keep_ok h2 h3), bind_ok h4]
      exact ⟨ρ', rfl, h5⟩
theorem chkX_of {p w : List α × τ} (h : chkX p = some w) : w = p ∧ p.1.length ≤ cap := by
  unfold chkX at h
  split at h
  · cases h; exact ⟨rfl, by assumption⟩
  · cases h
theorem q_lcX {cq : τ → β → Option (Bool × τ)} {ce : τ → β → Option (α × τ)} {w : List α × τ} {s : τ} (S : τ → Rho) (S1 : τ → β → Rho) (hi : it ρ = .ok (xs.map fb) ρ1) (ho : own.all (fun i => !pinned ρ1 i) = true) (h0 : wipeR ρ1 own = S s) (hp : ∀ s x, (t.put (fb x)) (S s) = .ok () (S1 s x)) (hw : ∀ s x, wipeR (S1 s x) own = S s)
    (hq : ∀ s x, XT (fun s' => S1 s' x) (S1 s x) q (cq s x)) (he : ∀ s x, XE (fun s' => S1 s' x) (S1 s x) r f (ce s x)) (h : lcXC cq ce xs s = some w) : dLc own it t q r ρ = .ok (.lst (w.1.map f), .fr) (S w.2) := by
  obtain ⟨zs, e1, e2⟩ := Option.bind_eq_some_iff.mp (show (lcX cq ce xs s).bind chkX = some w from h)
  obtain ⟨rfl, hl⟩ := chkX_of e2
  obtain ⟨ρ', h4, h5⟩ := lcD_lcX hp hq he hw xs s w ρ1 h0 e1
  unfold dLc
  rw [bind_ok hi]
  show (okOwn own >>= _) ρ1 = _
  rw [bind_ok (show okOwn own ρ1 = .ok () ρ1 by unfold okOwn; rw [if_pos ho]), bind_ok h4]
  show (wipeM own >>= _) ρ' = _
  rw [bind_ok (show wipeM own ρ' = .ok () (S w.2) by show Res.ok () (wipeR ρ' own) = _; rw [h5])]
  exact opt_ok (by unfold lcEnd; rw [List.length_map]; exact if_pos hl)
theorem i_any {ys : List D} (hr : r ρ = .ok (d0, k) ρ1) (hc : cur ρ1 (d0, k) = some d) (hs : settleR ρ1 k = ρ2) (ha : anyOf d = some ys) : iAny r ρ = .ok ys ρ2 := by
  unfold iAny
  rw [bind_ok hr, bind_ok (keep_ok hc hs), opt_ok ha]
theorem i_lst {ys : List D} (hr : r ρ = .ok (d0, k) ρ1) (hc : cur ρ1 (d0, k) = some (.lst ys)) (hs : settleR ρ1 k = ρ2) : iLst r ρ = .ok ys ρ2 := by
  unfold iLst
  rw [bind_ok hr, bind_ok (keep_ok hc hs)]
  rfl
theorem i_rng {g : List D → Option (List D)} {l : List (Bool × DE)} {ys : List (D × Kd)} {ds zs : List D} (ha : dA l ρ = .ok ys ρ1) (hc : curs ρ1 ys = some ds) (hg : g ds = some zs) : iRng g l ρ = .ok zs ρ1 := by
  unfold iRng
  rw [bind_ok ha, bind_ok (show dcurs ys ρ1 = .ok ds ρ1 by unfold dcurs; rw [hc]), opt_ok hg]
theorem rngD_map (i : Int) (n : Nat) : rngD i n = ((List.range n).map fun (k : Nat) => i + k).map rI := by
  unfold rngD
  rw [List.map_map]
  rfl
theorem g_rng1 {j : Int} {zs : List Int} (h : rng 0 j = some zs) : rng1 [rI j] = some (zs.map rI) := by
  unfold rng at h
  split at h
  · rename_i hj
    cases h
    rw [Bool.and_eq_true] at hj
    show (if small62 j then some (rngD 0 j.toNat) else none) = _
    rw [if_pos hj.2, rngD_map]
    simp
  · cases h
theorem i_zip {l : List (Bool × DE)} {ys : List (D × Kd)} {fa : α → D} {fc : γ → D} {as : List α} {cs : List γ} (ha : dA l ρ = .ok ys ρ1) (hs : shrs ys = some [rL fa as, rL fc cs]) : iZip2 l ρ = .ok ((as.zip cs).map (rP fa fc)) ρ1 := by
  unfold iZip2
  rw [bind_ok ha, bind_ok (opt_ok hs)]
  show (mOpt (some (((as.map fa).zip (cs.map fc)).map fun p => D.tup [p.1, p.2]))) ρ1 = _
  rw [List.zip_map, List.map_map]
  rfl
theorem i_enumL {l : List (Bool × DE)} {ys : List (D × Kd)} {fa : α → D} {as : List α} (ha : dA l ρ = .ok ys ρ1) (hs : shrs ys = some [rL fa as]) : iEnumA l ρ = .ok ((enm as).map (rP rI fa)) ρ1 := by
  unfold iEnumA
  rw [bind_ok ha, bind_ok (opt_ok hs)]
  show (mOpt (some ((as.map fa).zipIdx.map fun p => D.tup [.int p.2, p.1]))) ρ1 = _
  unfold enm
  rw [List.zipIdx_map, List.map_map, List.map_map]
  rfl
theorem chrs_sx (cs : List Nat) : chrs (sx cs) = (chs cs).map rS := by
  unfold chrs chs
  rw [List.map_map]
  show List.map _ cs = _
  rfl
theorem any_S (as : List Nat) : anyOf (rS as) = some ((chs as).map rS) := by
  show some (chrs (sx as)) = _
  rw [chrs_sx]
structure Ref (F : Fn) (args : List VL.Arg) (f : α → D) (kf : Bool) (o : Option α) : Prop where
  run : ∀ a, o = some a → ∃ outs, F args = some (.ret (f a) kf outs)
structure RefT (F : Fn) (args : List VL.Arg) (f : α → D) (kf : Bool) (g : τ → Rho) (o : Option (α × τ)) : Prop where
  run : ∀ p, o = some p → F args = some (.ret (f p.1) kf (g p.2))
theorem ref_of {n : Nat} {body : DS} {args : List VL.Arg} {kf : Bool} {o : Option α} (h0 : args.map slotOf ++ List.replicate (n - args.length) none = ρ) (h : BL (PR f kf) ρ body o) : Ref (runFn n body) args f kf o := ⟨fun a e => by
  obtain ⟨ρ', q⟩ := h.run a e
  refine ⟨ρ'.take args.length, ?_⟩
  unfold runFn
  rw [h0, q]⟩
theorem ref_ofT {n m : Nat} {body : DS} {args : List VL.Arg} {kf : Bool} {g : τ → Rho} {o : Option (α × τ)} (h0 : args.map slotOf ++ List.replicate (n - args.length) none = ρ) (hm : args.length = m) (h : BL (PRt f kf m g) ρ body o) : RefT (runFn n body) args f kf g o := ⟨fun a e => by
  obtain ⟨ρ', q, q2⟩ := h.run a e
  unfold runFn
  rw [h0, q, hm]
  dsimp only
  rw [q2]⟩
theorem q_callR {F : Fn} {np : Nat} {dfl : List D} {l : List (Bool × DE)} {ys : List (D × Kd)} {as args : List VL.Arg} {kf : Bool} {o : Option α} {x : α} (R : Ref F args f kf o) (hx : o = some x) (ha : dA l ρ = .ok ys ρ1) (hu : (uniqW (wsOf ρ1 0 ys) && decide (ys.length + dfl.length = np)) = true)
    (hy : argsOf ρ1 ys = some as) (he : as ++ dfl.map shA = args) (hb : ∀ outs, backs ys outs 0 ρ1 = ρ1) : dCall F np dfl l ρ = .ok (f x, frK kf) ρ1 := by
  obtain ⟨outs, q⟩ := R.run x hx
  exact q_call ha hu hy (by rw [he]; exact q) (hb outs)
theorem q_callT {F : Fn} {np : Nat} {dfl : List D} {l : List (Bool × DE)} {ys : List (D × Kd)} {as args : List VL.Arg} {kf : Bool} {g : τ → Rho} {o : Option (α × τ)} {x : α × τ} (R : RefT F args f kf g o) (hx : o = some x) (ha : dA l ρ = .ok ys ρ1) (hu : (uniqW (wsOf ρ1 0 ys) && decide (ys.length + dfl.length = np)) = true)
    (hy : argsOf ρ1 ys = some as) (he : as ++ dfl.map shA = args) (hb : backs ys (g x.2) 0 ρ1 = ρ2) : dCall F np dfl l ρ = .ok (f x.1, frK kf) ρ2 := q_call ha hu hy (by rw [he]; exact R.run x hx) hb
end
section
variable {α β : Type} {f : α → D} {g : β → D} {a b c i j : Int} {xs ys zs : List α} {s t u : List Nat} {x : α} {p q : Bool}
theorem g_addI : addD (rI a) (rI b) = some (rI (a + b), .shr) := rfl
theorem sx_app : sx s ++ sx t = sx (s ++ t) := by
  show Str.mk (s.toArray ++ t.toArray) = _
  simp
theorem sx_len : (sx s).length = s.length := by
  show s.toArray.size = _
  simp
theorem g_addL (h : catL xs ys = some zs) : addD (rL f xs) (rL f ys) = some (rL f zs, .fr) := by
  unfold catL at h
  split at h
  · rename_i hl
    cases h
    show (if (xs.map f).length + (ys.map f).length ≤ cap then some (D.lst (xs.map f ++ ys.map f), Kd.fr) else none) = _
    rw [List.length_map, List.length_map, if_pos hl]
    show _ = some (D.lst ((xs ++ ys).map f), Kd.fr)
    rw [List.map_append]
  · cases h
theorem g_subI : subD (rI a) (rI b) = some (rI (a - b), .shr) := rfl
theorem mulT_I (h : CMulB a b = true) : mulT (rI a) (rI b) = some (rI (a * b), .shr) := by
  show (mulA (rI a) (rI b)).or _ = _
  rw [show mulA (rI a) (rI b) = some (rI (a * b), .shr) from if_pos h]
  rfl
theorem g_mulIl (h : (decide (-18446744073709551616 < a) && decide (a < 18446744073709551616)) = true) : mulT (rI a) (rI b) = some (rI (a * b), .shr) := mulT_I (by unfold CMulB; rw [h]; simp)
theorem g_divI (h : divI a b = some c) : divD (rI a) (rI b) = some (rI c, .shr) := by
  unfold divI at h
  split at h
  · rename_i hl; cases h; exact if_pos hl
  · cases h
theorem g_modI (h : modI a b = some c) : modD (rI a) (rI b) = some (rI c, .shr) := by
  unfold modI at h
  split at h
  · rename_i hl; cases h; exact if_pos (decide_eq_true hl)
  · cases h
theorem g_powIr (h : CPowB a b = true) : powD (rI a) (rI b) = some (rI (a ^ b.toNat), .shr) := if_pos h
theorem g_negI : negV (rI a) = some (.int (-a)) := rfl
theorem g_ltI : ltC (rI a) (rI b) = some (decide (a < b)) := rfl
theorem g_leI : leC (rI a) (rI b) = some (decide (a ≤ b)) := rfl
theorem g_gtI : gtA (rI a) (rI b) = some (decide (a > b)) := rfl
theorem g_eqI : eqD (rI a) (rI b) = some (decide (a = b)) := eqD_int
theorem sx_inj : sx s = sx t ↔ s = t := by
  constructor
  · intro h
    have : s.toArray = t.toArray := congrArg Str.cps h
    simpa using this
  · intro h; rw [h]
theorem g_eqS : eqD (rS s) (rS t) = some (decide (s = t)) := by
  rw [show eqD (rS s) (rS t) = some (decide (sx s = sx t)) from eqD_str]
  simp only [sx_inj]
theorem g_ne {x y : D} (h : eqD x y = some p) : neD x y = some (!p) := by unfold neD; rw [h]; rfl
def EqT (f : α → D) (n : Nat) : Prop := ∀ a b, okD n (f a) = true ∧ (same (f a) (f b) = true ↔ a = b)
def EqR (f : α → D) (ok : α → Bool) (n : Nat) : Prop := ∀ a b, ok a = true → ok b = true → okD n (f a) = true ∧ (same (f a) (f b) = true ↔ a = b)
theorem okD_int (n : Nat) (i : Int) : okD n (rI i) = true := by cases n <;> rfl
theorem okD_bl (n : Nat) (i : Bool) : okD n (rB i) = true := by cases n <;> rfl
theorem et_I {n : Nat} : EqT rI n := fun a b => ⟨okD_int n a, by show decide (a = b) = true ↔ _; simp⟩
theorem et_B {n : Nat} : EqT rB n := fun a b => ⟨okD_bl n a, by show (a == b) = true ↔ _; simp⟩
theorem EqT.er {n : Nat} (h : EqT f n) : EqR f (fun _ => true) n := fun a b _ _ => h a b
theorem er_S {n : Nat} : EqR rS okS n := fun a b ha hb => ⟨okL_fs (fun c hc => by unfold okS at ha; simpa using List.all_eq_true.mp ha c hc) n, by
  show decide (sx a = sx b) = true ↔ _
  rw [decide_eq_true_iff]
  exact sx_inj⟩
theorem same_L {P : α → Prop} (h : ∀ a b, P a → P b → (same (f a) (f b) = true ↔ a = b)) : ∀ xs ys : List α, (∀ x ∈ xs, P x) → (∀ y ∈ ys, P y) → (sameL (xs.map f) (ys.map f) = true ↔ xs = ys)
  | [], [], _, _ => by simp [sameL]
  | [], y :: ys, _, _ => by simp [sameL]
  | x :: xs, [], _, _ => by simp [sameL]
  | x :: xs, y :: ys, h1, h2 => by
    show (same (f x) (f y) && sameL (xs.map f) (ys.map f)) = true ↔ _
    rw [Bool.and_eq_true, h x y (h1 x (by simp)) (h2 y (by simp)), same_L h xs ys (fun z hz => h1 z (by simp [hz])) (fun z hz => h2 z (by simp [hz]))]
    simp
theorem et_L {n : Nat} (h : EqT f n) : EqT (rL f) (n + 1) := fun a b => ⟨okL_map a n fun x _ => (h x x).1, same_L (P := fun _ => True) (fun a b _ _ => (h a b).2) a b (fun _ _ => trivial) (fun _ _ => trivial)⟩
theorem er_L {ok : α → Bool} {n : Nat} (h : EqR f ok n) : EqR (rL f) (fun xs => xs.all ok) (n + 1) := fun a b ha hb => by
  rw [List.all_eq_true] at ha hb
  exact ⟨okL_map a n fun x hx => (h x x (ha x hx) (ha x hx)).1, same_L (P := fun x => ok x = true) (fun a b p q => (h a b p q).2) a b ha hb⟩
theorem eqD_nl {x y : D} (hx : okD 60 x = true) (hy : okD 60 y = true) (hn : isCon x = false) : eqD x y = some (same x y) := by
  unfold eqD
  cases x with
  | con v => cases hn
  | lst _ => simp [hx, hy]
  | tup _ => simp [hx, hy]
  | dic _ => simp [hx, hy]
  | dit _ => simp [hx, hy]
  | own _ => simp [hx, hy]
  | exv _ => simp [hx, hy]
  | fnv _ _ _ => simp [hx, hy]
theorem bool_dec {p : Bool} {Q : Prop} [Decidable Q] (h : p = true ↔ Q) : p = decide Q := by
  cases p with
  | true => exact (decide_eq_true (h.mp rfl)).symm
  | false => exact (decide_eq_false fun q => nomatch h.mpr q).symm
theorem g_eqT {x y : α} [Decidable (x = y)] (h : EqT f 60) (hn : isCon (f x) = false) : eqD (f x) (f y) = some (decide (x = y)) := by
  rw [eqD_nl (h x x).1 (h y y).1 hn, bool_dec (h x y).2]
theorem g_eqR [DecidableEq α] {ok : α → Bool} {x y : α} (h : EqR f ok 60) (hn : isCon (f x) = false) (e : eqG ok x y = some p) : eqD (f x) (f y) = some p := by
  unfold eqG at e
  split at e
  · rename_i hl
    rw [Bool.and_eq_true] at hl
    cases e
    rw [eqD_nl (h x x hl.1 hl.1).1 (h y y hl.2 hl.2).1 hn, bool_dec (h x y hl.1 hl.2).2]
  · cases e
theorem atI_map : ∀ {xs : List α} {i : Int}, atI (xs.map f) i = (atI xs i).map f := fun {xs i} => by
  unfold atI
  rw [List.length_map]
  cases ixN xs.length i with
  | none => rfl
  | some k => simp
theorem g_ixL (h : ixL xs i = some x) : ixD (rL f xs) (rI i) = some (f x, .shr) := by
  show (atI (xs.map f) i).map _ = _
  rw [atI_map, show atI xs i = some x from h]
  rfl
theorem g_ixS (h : ixS s i = some t) : ixD (rS s) (rI i) = some (rS t, .shr) := by
  unfold ixS at h
  split at h
  · rename_i hl
    obtain ⟨c, e, rfl⟩ := Option.map_eq_some_iff.mp h
    show (if (sx s).length ≤ cap then (atI (sx s).cps.toList i).map fun c => (D.str ⟨#[c]⟩, Kd.shr) else none) = _
    rw [sx_len, if_pos hl]
    show (atI s i).map _ = _
    rw [e]
    rfl
  · cases h
theorem g_lenL : lenD [rL f xs] = some (rI xs.length, .shr) := by
  show some (D.int ((xs.map f).length : Nat), Kd.shr) = _
  rw [List.length_map]
theorem g_lenS (h : lenS s = some c) : lenD [rS s] = some (rI c, .shr) := by
  unfold lenS at h
  split at h
  · rename_i hl
    cases h
    show (if (sx s).length ≤ cap then some (D.int ((sx s).length : Nat), Kd.shr) else none) = _
    rw [sx_len, if_pos hl]
  · cases h
theorem g_abs : scB VL.absV [rI a] = some (rI (if a < 0 then -a else a), .shr) := rfl
theorem g_max2 : scB maxV [rI a, rI b] = some (rI (if b > a then b else a), .shr) := rfl
theorem g_min2 : scB minV [rI a, rI b] = some (rI (if b < a then b else a), .shr) := rfl
theorem g_intI : scB intV [rI a] = some (rI a, .shr) := rfl
theorem blsD_map : ∀ bs : List Bool, blsD (bs.map rB) = some bs
  | [] => rfl
  | b :: bs => by
    show (blsD (bs.map rB)).map _ = _
    rw [blsD_map bs]; rfl
theorem intsD_map : ∀ bs : List Int, intsD (bs.map rI) = some bs
  | [] => rfl
  | b :: bs => by
    show (intsD (bs.map rI)).map _ = _
    rw [intsD_map bs]; rfl
theorem g_all {bs : List Bool} : scB allV [rL rB bs] = some (rB (bs.all id), .shr) := by
  show ((blsD (bs.map rB)).map fun bs => V.bl (bs.all id)).map _ = _
  rw [blsD_map]; rfl
theorem g_sum {ns : List Int} : scB sumV [rL rI ns] = some (rI ns.sum, .shr) := by
  show ((intsD (ns.map rI)).map fun bs => V.int bs.sum).map _ = _
  rw [intsD_map]; rfl
theorem g_sortI {ns : List Int} : sortA [rL rI ns] = some (rL rI (sortI ns), .fr) := by
  show (sortedD [rL rI ns]).or _ = _
  have : sortedD [rL rI ns] = some (rL rI (sortI ns), .fr) := by
    show (intsD (ns.map rI)).map _ = _
    rw [intsD_map]; rfl
  rw [this]; rfl
theorem g_list : listD [rL f xs] = some (rL f xs, .fr) := rfl
theorem inV_int (a : Int) (ns : List Int) : inB (rI a) (rL rI ns) = some (decide (a ∈ ns)) := by
  unfold inB inA
  rw [in_ints a ns]
  rfl
theorem flat_strs : ∀ ss : List (List Nat), flatDs (ss.map rS) = some (ss.map fun s => V.str (sx s))
  | [] => rfl
  | s :: ss => by
    show (match flatD (rS s) with | some v => (flatDs (ss.map rS)).map (v :: ·) | none => none) = _
    rw [flat_strs ss]
    rfl
theorem eqV_str (s t : List Nat) : eqV (.str (sx s)) (.str (sx t)) = decide (s = t) := by
  have : eqV (.str (sx s)) (.str (sx t)) = decide (sx s = sx t) := by
    show (sx s == sx t) = _
    exact bool_dec (by simp)
  rw [this]
  simp only [sx_inj]
theorem inV_str (s : List Nat) (ss : List (List Nat)) : inB (rS s) (rL rS ss) = some (decide (s ∈ ss)) := by
  have : inD (rS s) (rL rS ss) = some (decide (s ∈ ss)) := by
    show (match flatD (rS s), flatDs (ss.map rS) with | some v, some vs => some (inV v vs) | _, _ => none) = _
    rw [flat_strs]
    show some (inV (.str (sx s)) (ss.map fun s => V.str (sx s))) = _
    unfold inV
    rw [List.any_map]
    congr 1
    refine bool_dec ?_
    rw [List.any_eq_true]
    simp only [Function.comp_apply, eqV_str, decide_eq_true_eq]
    exact ⟨fun ⟨x, h1, h2⟩ => h2 ▸ h1, fun h => ⟨s, h, rfl⟩⟩
  unfold inB inA
  rw [this]
  rfl
theorem inV_strTu (s : List Nat) (ss : List (List Nat)) : inB (rS s) (rTu rS ss) = some (decide (s ∈ ss)) := by
  have : inD (rS s) (rTu rS ss) = some (decide (s ∈ ss)) := by
    show (match flatD (rS s), flatDs (ss.map rS) with | some v, some vs => some (inV v vs) | _, _ => none) = _
    rw [flat_strs]
    show some (inV (.str (sx s)) (ss.map fun s => V.str (sx s))) = _
    unfold inV
    rw [List.any_map]
    congr 1
    refine bool_dec ?_
    rw [List.any_eq_true]
    simp only [Function.comp_apply, eqV_str, decide_eq_true_eq]
    exact ⟨fun ⟨x, h1, h2⟩ => h2 ▸ h1, fun h => ⟨s, h, rfl⟩⟩
  unfold inB inA
  rw [this]
  rfl
theorem g_nin {x y : D} (h : inB x y = some p) : notInB x y = some (!p) := by unfold notInB; rw [h]; rfl
def NN (f : α → D) : Prop := ∀ a, isNonD (f a) = some false
theorem nn_I : NN rI := fun _ => rfl
theorem g_isN {o : Option α} (h : NN f) : isNC (rO f o) (.con .non) = some o.isNone := by
  cases o with
  | none => rfl
  | some x => exact h x
theorem g_notN {o : Option α} (h : NN f) : notNC (rO f o) (.con .non) = some o.isSome := by
  unfold notNC
  rw [g_isN h]
  cases o <;> rfl
theorem t_B : truthD (rB p) = some p := rfl
theorem cutD_map {lo hi : Option Int} : VL.cutD (xs.map f) lo hi = (cutL xs lo hi).map f := by
  unfold VL.cutD cutL
  rw [List.length_map, List.map_take, List.map_drop]
def repL (xs : List α) (k : Int) : Option (List α) := if small62 k && decide (xs.length * k.toNat ≤ cap) then some (List.replicate k.toNat xs).flatten else none
theorem g_repL (h : repL xs a = some zs) : mulT (rL f xs) (rI a) = some (rL f zs, .fr) := by
  unfold repL at h
  split at h
  · rename_i hl
    cases h
    show (mulA (rL f xs) (rI a)).or _ = _
    have : mulA (rL f xs) (rI a) = some (.lst (List.replicate a.toNat (xs.map f)).flatten, .fr) := if_pos (by rw [List.length_map]; exact hl)
    rw [this]
    show some (D.lst (List.replicate a.toNat (xs.map f)).flatten, Kd.fr) = some (D.lst ((List.replicate a.toNat xs).flatten.map f), Kd.fr)
    rw [List.map_flatten, List.map_replicate]
  · cases h
def mulS (s : List Nat) (k : Int) : Option (List Nat) := if 0 ≤ k ∧ k ≤ 1000 ∧ s.length ≤ 1000 then some (List.replicate k.toNat s).flatten else none
theorem g_mulS (h : mulS s a = some u) : mulT (rS s) (rI a) = some (rS u, .shr) := by
  unfold mulS at h
  split at h
  · rename_i hl
    cases h
    show (mulA (rS s) (rI a)).or (mulSD (rS s) (rI a)) = _
    have h1 : mulA (rS s) (rI a) = none := rfl
    rw [h1]
    show (if 0 ≤ a ∧ a ≤ 1000 ∧ (sx s).length ≤ 1000 then some (rS (List.replicate a.toNat s).flatten, Kd.shr) else none) = _
    rw [sx_len, if_pos hl]
  · cases h
theorem g_app (h : appL xs x = some zs) : appG (xs.map f) [f x] = some (zs.map f, .non) := by
  unfold appL at h
  split at h
  · rename_i hl
    cases h
    show (if (xs.map f).length < cap then some (xs.map f ++ [f x], D.non) else none) = _
    rw [List.length_map, if_pos hl, List.map_append]
    rfl
  · cases h
theorem erase_map : ∀ (xs : List α) (k : Nat), (xs.map f).eraseIdx k = (xs.eraseIdx k).map f
  | [], _ => rfl
  | x :: xs, 0 => rfl
  | x :: xs, k + 1 => by
    show f x :: (xs.map f).eraseIdx k = f x :: (xs.eraseIdx k).map f
    rw [erase_map xs k]
theorem g_pop {w : α × List α} (h : popL xs i = some w) : popG (xs.map f) [rI i] = some (w.2.map f, f w.1) := by
  unfold popL at h
  split at h
  · rename_i hl
    obtain ⟨k, e1, e2⟩ := Option.bind_eq_some_iff.mp h
    obtain ⟨y, e3, rfl⟩ := Option.map_eq_some_iff.mp e2
    show (if small62 i then (ixN (xs.map f).length i).bind fun k => ((xs.map f)[k]?).map fun y => ((xs.map f).eraseIdx k, y) else none) = _
    rw [if_pos hl, List.length_map, e1]
    show ((xs.map f)[k]?).map _ = _
    rw [List.getElem?_map, e3]
    show some ((xs.map f).eraseIdx k, f y) = _
    rw [show (xs.map f).eraseIdx k = (xs.eraseIdx k).map f from erase_map xs k]
  · cases h
theorem g_setL (h : setL xs i x = some zs) : setG (rI i) (f x) (xs.map f) = some (zs.map f, .non) := by
  obtain ⟨k, e, rfl⟩ := Option.map_eq_some_iff.mp h
  show (ixN (xs.map f).length i).map _ = _
  rw [List.length_map, e]
  show some ((xs.map f).set k (f x), D.non) = _
  rw [List.map_set]
end
end L2.TX
end
section
set_option Elab.async false
set_option linter.all false
set_option maxRecDepth 100000
namespace L2.TX
open PySem PySem.Spec PyProof.Rows L2 L2.VL
def joinT (s : List Nat) : List (List Nat) → List Nat
  | [] => []
  | [x] => x
  | x :: y :: rest => x ++ s ++ joinT s (y :: rest)
theorem joinT_nil : ∀ ts : List (List Nat), joinT [] ts = ts.flatten
  | [] => rfl
  | [x] => by simp [joinT]
  | x :: y :: rest => by
    show x ++ [] ++ joinT [] (y :: rest) = _
    rw [joinT_nil (y :: rest)]
    simp
theorem join_sx (s : List Nat) : ∀ ts : List (List Nat), Txt.join (sx s) (ts.map sx) = sx (joinT s ts)
  | [] => rfl
  | [x] => rfl
  | x :: y :: rest => by
    have h : Txt.join (sx s) ((x :: y :: rest).map sx) = sx x ++ sx s ++ Txt.join (sx s) ((y :: rest).map sx) := by
      rw [TL.join_eq, TL.join_eq]
      show Str.join (sx s) (sx x :: sx y :: rest.map sx) = sx x ++ sx s ++ Str.join (sx s) (sx y :: rest.map sx)
      rfl
    rw [h, join_sx s (y :: rest), sx_app, sx_app]
    rfl
theorem strsD_map : ∀ ts : List (List Nat), strsD (ts.map rS) = some (ts.map sx)
  | [] => rfl
  | t :: ts => by
    show (strsD (ts.map rS)).map _ = _
    rw [strsD_map ts]; rfl
def joinS (s : List Nat) (ts : List (List Nat)) : Option (List Nat) := if (ts.map List.length).sum + ts.length * s.length ≤ 16777216 then some (joinT s ts) else none
section
variable {α β γ δ σ τ ω : Type} {f : α → D} {g : β → D} {a b c i j : Int} {xs ys zs : List α} {s t u : List Nat} {x y : α} {p q : Bool} {ρ ρ1 ρ2 ρ3 ρ4 : Rho} {ra rb rc r : DE} {qa qb : M Bool} {d d0 : D} {k : Kd}
theorem g_join {ts : List (List Nat)} (h : joinS s ts = some u) : joinD (rS s) [rL rS ts] = some (rS u, .shr) := by
  unfold joinS at h
  split at h
  · rename_i hl
    cases h
    have : joinD (rS s) [rL rS ts] = if (((ts.map sx).map (fun z => Str.length z)).sum + (ts.map sx).length * (sx s).length ≤ 16777216) then some (D.str (Txt.join (sx s) (ts.map sx)), Kd.shr) else none := by
      show (match strsD (ts.map rS) with | some ys => if (ys.map (fun z => Str.length z)).sum + ys.length * (sx s).length ≤ 16777216 then some (D.str (Txt.join (sx s) ys), Kd.shr) else none | none => none) = _
      rw [strsD_map]
    have e : ((ts.map sx).map (fun z => Str.length z)) = ts.map List.length := by
      rw [List.map_map]
      exact List.map_congr_left fun z _ => sx_len
    rw [this, e, List.length_map, sx_len, if_pos hl, join_sx]
  · cases h
theorem isStr_S : isStr (rS s) = true := rfl
theorem isLst_L : isLst (rL f xs) = true := rfl
theorem co_cur {o : Option α} {z : D × Kd} (hx : o = some x) (h : cur ρ z = some (rO f o)) : cur ρ z = some (f x) := by
  subst hx
  exact h
structure XS {α : Type} (S : τ → Rho) (ρ : Rho) (r : DE) (f : α → D) (o : Option (α × τ)) : Prop where
  run : ∀ w, o = some w → r ρ = .ok (f w.1, .shr) (S w.2)
theorem xs_ret {S : τ → Rho} {w : α × τ} (h : r ρ = .ok (f w.1, .shr) (S w.2)) : XS S ρ r f (some w) := ⟨fun _ e => by cases e; exact h⟩
theorem xs_bind {S : τ → Rho} {o : Option γ} {h : γ → Option (α × τ)} (hh : ∀ a, o = some a → XS S ρ r f (h a)) : XS S ρ r f (o.bind h) := ⟨fun c e => by
  obtain ⟨a, e1, e2⟩ := Option.bind_eq_some_iff.mp e
  exact (hh a e1).run c e2⟩
theorem rng_map (n : Int) : rngD 0 n.toNat = ((List.range n.toNat).map fun (k : Nat) => (k : Int)).map rI := by
  rw [rngD_map]
  simp
def lrg (n : Int) : Option (List Int) := if 0 ≤ n ∧ n ≤ 16777216 then some ((List.range n.toNat).map fun (k : Nat) => (k : Int)) else none
theorem q_lrg {zs : List Int} (hr : ra ρ = .ok (d0, k) ρ1) (hc : cur ρ1 (d0, k) = some (rI a)) (h : lrg a = some zs) : dLrg ra ρ = .ok (rL rI zs, .fr) ρ1 := by
  unfold lrg at h
  split at h
  · rename_i hl
    cases h
    unfold dLrg
    rw [bind_ok hr, bind_ok (cur_ok hc)]
    exact opt_ok (by show (if 0 ≤ a ∧ a ≤ 16777216 then some (D.lst (rngD 0 a.toNat), Kd.fr) else none) = _; rw [if_pos hl, rng_map])
  · cases h
end
end L2.TX
end
section
set_option Elab.async false
set_option linter.all false
set_option maxRecDepth 100000
namespace L2.TX
open PySem PySem.Spec PyProof.Rows L2 L2.VL
section
variable {X : Cx} {a b c e : Expr} {ra rb rc r : DE} {pos : Pos}
def dSlS (ra : DE) (lo hi : Option DE) : DE := do
  let x ← ra
  let i ← dPart lo
  let j ← dPart hi
  let d ← dcur x
  mOpt (match d with
    | .con (.str z) => if z.length ≤ cap then some (.con (.str (cutS z i j)), .shr) else none
    | _ => none)
theorem se_slS {lo hi : Option Expr} {rl rh : Option DE} {p2 : Pos} (ha : SE X a ra) (hl : SP_ X lo (dPart rl)) (hh : SP_ X hi (dPart rh)) : SE X (.Subscript a (.Slice lo hi none p2) pos) (dSlS ra rl rh) := fun W tk =>
  PE.imp (pe_slice sl_str (ha W tk) (hl W tk) (hh W tk)) fun σ H Q ⟨G, O, ρ, hK, R, h⟩ => by
    refine tE.at hK R (Res.post_ok ((post_bind _ _).mp h) fun x ρ1 q O1 v H1 R1 => ?_)
    refine ⟨G, O1, ρ1, _, hK, R1, Res.post_ok ((post_bind _ _).mp q) fun i ρ2 q2 O2 H2 R2 => ?_⟩
    refine ⟨G, O2, ρ2, _, hK, R2, Res.post_ok ((post_bind _ _).mp q2) fun j ρ3 q3 O3 H3 R3 => ?_⟩
    obtain ⟨d, e1, q4⟩ := post_cur.mp ((post_bind _ _).mp q3)
    obtain ⟨z, e2, q5⟩ := (post_opt _).mp q4
    have v1 := R3.view R3.tm.1 e1
    split at e2
    · rename_i z0
      split at e2
      · rename_i hl
        cases e2
        exact ⟨z0, v1.con, by rw [← cap_eq]; exact hl, q5 O3 _ _ (R3.pop.con _)⟩
      · cases e2
    · cases e2
end
section
variable {ρ ρ1 ρ2 ρ3 : Rho} {r : DE} {d0 : D} {k : Kd} {s u : List Nat}
def cutT (cs : List Nat) (lo hi : Option Int) : Option (List Nat) := if cs.length ≤ cap then some (cutL cs lo hi) else none
theorem q_slS {lo hi : Option DE} {i j : Option Int} (hr : r ρ = .ok (d0, k) ρ1) (h1 : dPart lo ρ1 = .ok i ρ2) (h2 : dPart hi ρ2 = .ok j ρ3) (hc : cur ρ3 (d0, k) = some (rS s)) (h : cutT s i j = some u) : dSlS r lo hi ρ = .ok (rS u, .shr) ρ3 := by
  unfold cutT at h
  split at h
  · rename_i hl
    cases h
    unfold dSlS
    rw [bind_ok hr, bind_ok h1, bind_ok h2, bind_ok (cur_ok hc)]
    refine opt_ok ?_
    show (if (sx s).length ≤ cap then some (D.con (.str (cutS (sx s) i j)), Kd.shr) else none) = _
    rw [sx_len, if_pos hl]
    unfold cutS cutL
    rw [sx_len]
  · cases h
end
end L2.TX
end
section
set_option Elab.async false
set_option linter.all false
set_option maxRecDepth 100000
namespace L2.TX
open PySem PySem.Spec PyProof.Rows L2 L2.VL
section
variable {α β γ δ σ τ ω : Type} {f : α → D} {g : β → D} {a b c i j : Int} {xs ys zs : List α} {s t u : List Nat} {x y : α} {p q : Bool} {ρ ρ1 ρ2 ρ3 ρ4 : Rho} {ra rb rc r : DE} {qa qb : M Bool} {d d0 : D} {k : Kd}
theorem q_str {z : Str} (h : z = sx s) : dCon (.str z) ρ = .ok (rS s, .shr) ρ := by subst h; rfl
theorem g_divIk (h : (decide (0 < b) && decide (b < 2 ^ 200)) = true) : divD (rI a) (rI b) = some (rI (a / b), .shr) := if_pos h
theorem a_FN {l : List (Bool × DE)} {ys : List (D × Kd)} (ha : r ρ = .ok (d0, k) ρ1) (hc : cur ρ1 (d0, k) = some d) (hs : settleR ρ1 k = ρ1) (hl : dA l ρ1 = .ok ys ρ3) : dA ((false, r) :: l) ρ = .ok ((d, .shr) :: ys) ρ3 := a_F ha hc hs hl
theorem q_shN (hr : r ρ = .ok (d0, k) ρ1) (hc : cur ρ1 (d0, k) = some d) (hs : settleR ρ1 k = ρ1) : dSh r ρ = .ok (d, .shr) ρ1 := q_sh hr hc hs
theorem i_anyN {ys : List D} (hr : r ρ = .ok (d0, k) ρ1) (hc : cur ρ1 (d0, k) = some d) (hs : settleR ρ1 k = ρ1) (ha : anyOf d = some ys) : iAny r ρ = .ok ys ρ1 := i_any hr hc hs ha
theorem i_lstN {ys : List D} (hr : r ρ = .ok (d0, k) ρ1) (hc : cur ρ1 (d0, k) = some (.lst ys)) (hs : settleR ρ1 k = ρ1) : iLst r ρ = .ok ys ρ1 := i_lst hr hc hs
theorem cs_nil : curs ρ [] = some [] := rfl
theorem cs_cons {z : D × Kd} {zs : List (D × Kd)} {ds : List D} (h : cur ρ z = some d) (hs : curs ρ zs = some ds) : curs ρ (z :: zs) = some (d :: ds) := by
  unfold curs
  rw [h, hs]
  rfl
theorem g_powIk (h : CPowB a b = true) (hk : a ^ b.toNat = c) : powD (rI a) (rI b) = some (rI c, .shr) := by
  rw [g_powIr h, hk]
theorem q_slT {lo hi : Option DE} {i j : Option Int} (hr : r ρ = .ok (d0, k) ρ1) (h1 : dPart lo ρ1 = .ok i ρ2) (h2 : dPart hi ρ2 = .ok j ρ3) (hc : cur ρ3 (d0, k) = some (rL f xs)) : dSlL r lo hi ρ = .ok (rL f (cutL xs i j), .fr) ρ3 := by
  rw [q_slL hr h1 h2 hc, cutD_map]
theorem bl_whileB {σ ω : Type} {P : Res Fl → ω → Prop} {b : DS} {fg : List Nat} {q : M Bool} {body : DS} {s0 : σ} {tq : σ → Option Bool} {gb : σ → Option (Fw σ Empty)} {h : σ → Option ω} (S : σ → Rho) (hB : forgetR ρ fg = S s0) (hq : ∀ s, VT (S s) q (tq s))
    (hb : ∀ s, BL (PF fg (PW S (fun _ (_ : Empty) => False))) (S s) body (gb s)) (hr : ∀ s, BL P (S s) b (h s)) : BL P ρ (dSeq (dFgB fg (dWhile q (dFgE fg body))) b) ((wh tq gb s0).bind (fwOut h Empty.elim)) := by
  have := bl_while (b := b) (rt := fun e : Empty => (e.elim : ω)) S hB hq hb ⟨fun _ _ _ e => e.elim⟩ hr
  rwa [show (fun a : Empty => some (a.elim : ω)) = Empty.elim from funext fun e => e.elim] at this
def idxL (xs : List Int) (k : Int) : Option Int := (at1 xs k).map fun (j : Nat) => (j : Int)
theorem g_idx {ns : List Int} (h : idxL ns a = some b) : idxD (rL rI ns) [rI a] = some (rI b, .shr) := by
  obtain ⟨j, e, rfl⟩ := Option.map_eq_some_iff.mp h
  show (intsD (ns.map rI)).bind (fun ns => (at1 ns a).map fun j => (D.con (.int (j : Nat)), Kd.shr)) = _
  rw [intsD_map]
  show (at1 ns a).map _ = _
  rw [e]; rfl
end
end L2.TX
end
section
set_option Elab.async false
set_option linter.all false
set_option maxRecDepth 100000
open PySem PySem.Spec PyProof.Rows L2 L2.VL
namespace L2.TX
noncomputable section
section
variable {α β γ τ : Type} {ρ ρ1 ρ2 ρ3 : Rho} {f : α → D} {p : Bool} {ra rb : DE}
/-- a and b, a or b, as a value, where b changes a name -/
theorem q_andVX {S : τ → Rho} {t0 : τ} {ob : Option (Bool × τ)} {w : Bool × τ} (h1 : dB ra ρ = .ok p (S t0)) (h2 : XS S (S t0) rb rB ob) (hv : (if p = true then ob else some (false, t0)) = some w) : dAndV ra rb ρ = .ok (rB w.1, .shr) (S w.2) := by
  unfold dAndV
  rw [bind_ok h1]
  cases p with
  | false => cases hv; rfl
  | true => exact h2.run w hv
theorem cur_frK {d : D} {b : Bool} : cur ρ (d, frK b) = some d := by cases b <;> rfl
theorem set_frK {b : Bool} : settleR ρ (frK b) = ρ := by cases b <;> rfl
theorem own_frK {b : Bool} : ownOf (frK b) = b := by cases b <;> rfl
theorem q_setF {r : DE} {d : D} {b : Bool} {i : Nat} (hr : r ρ = .ok (d, frK b) ρ1) (hp : pinned ρ1 i = false) (hS : ρ1.set i (some ⟨d, b, false⟩) = ρ2) : dSet i r ρ = .ok .nx ρ2 := q_set hr cur_frK (by rw [set_frK]; exact hp) (by rw [set_frK, own_frK]; exact hS)
theorem g_eqOI {x y : Option Int} : eqD (rO rI x) (rO rI y) = some (decide (x = y)) := by
  cases x with
  | none => cases y <;> rfl
  | some a => cases y with
    | none => rfl
    | some b =>
      show eqD (rI a) (rI b) = _
      rw [g_eqI]
      congr 1
      exact decide_eq_decide.mpr ⟨fun z => by rw [z], fun z => by cases z; rfl⟩
abbrev rF3 {α β γ : Type} (f : α → D) (g : β → D) (h : γ → D) (p : α × β × γ) : D := .lst [f p.1, g p.2.1, h p.2.2]
theorem okD_lst {n : Nat} {ds : List D} (h : ds.all (okD n) = true) : okD (n + 1) (.lst ds) = true := h
theorem er_F3 {g : β → D} {h : γ → D} {ok : α → Bool} {ok2 : β → Bool} {ok3 : γ → Bool} {n : Nat} (h1 : EqR f ok n) (h2 : EqR g ok2 n) (h3 : EqR h ok3 n) : EqR (rF3 f g h) (fun p => ok p.1 && (ok2 p.2.1 && ok3 p.2.2)) (n + 1) := fun a b ha hb => by
  rw [Bool.and_eq_true, Bool.and_eq_true] at ha hb
  refine ⟨okD_lst (by simp [(h1 a.1 a.1 ha.1 ha.1).1, (h2 a.2.1 a.2.1 ha.2.1 ha.2.1).1, (h3 a.2.2 a.2.2 ha.2.2 ha.2.2).1]), ?_⟩
  show (same (f a.1) (f b.1) && (same (g a.2.1) (g b.2.1) && (same (h a.2.2) (h b.2.2) && true))) = true ↔ _
  rw [Bool.and_eq_true, Bool.and_eq_true, Bool.and_eq_true, (h1 a.1 b.1 ha.1 hb.1).2, (h2 a.2.1 b.2.1 ha.2.1 hb.2.1).2, (h3 a.2.2 b.2.2 ha.2.2 hb.2.2).2]
  obtain ⟨a1, a2, a3⟩ := a
  obtain ⟨b1, b2, b3⟩ := b
  simp
end
end
end L2.TX
end
section
set_option Elab.async false
set_option linter.all false
set_option maxRecDepth 100000
open PySem PySem.Spec PyProof.Rows L2 L2.VL
namespace L2.TX
noncomputable section
/-- what raises hands its exception on -/
def xb {α β : Type} (o : Option (Except Exn α)) (h : α → Option (Except Exn β)) : Option (Except Exn β) := match o with
  | none => none
  | some (.ok a) => h a
  | some (.error x) => some (.error x)
section
variable {α β γ τ ω : Type} {ρ ρ1 ρ2 ρ3 : Rho} {f : α → D} {x : Exn} {m a b : DS} {r ra rb : DE} {d d0 : D} {k : Kd} {l : List (Bool × DE)} {P : Res Fl → Except Exn ω → Prop}
theorem bl_xb {o : Option (Except Exn α)} {h : α → Option (Except Exn ω)} (hok : ∀ a, o = some (.ok a) → BL P ρ m (h a)) (her : ∀ x, o = some (.error x) → P (m ρ) (.error x)) : BL P ρ m (xb o h) := ⟨fun w e => by
  unfold xb at e
  cases o with
  | none => cases e
  | some v =>
    cases v with
    | ok a => exact (hok a rfl).run w e
    | error x =>
      cases e
      exact her x rfl⟩
theorem ex_seq (h : a ρ = .ex x ρ1) : dSeq a b ρ = .ex x ρ1 := by unfold dSeq; exact bind_ex h
theorem ex_expr (h : r ρ = .ex x ρ1) : dExpr r ρ = .ex x ρ1 := by unfold dExpr; exact bind_ex h
theorem ex_call {F : Fn} {np : Nat} {dfl : List D} {xs : List (D × Kd)} {args : List VL.Arg} {outs : Rho} (ha : dA l ρ = .ok xs ρ1) (hu : (uniqW (wsOf ρ1 0 xs) && decide (xs.length + dfl.length = np)) = true) (hx : argsOf ρ1 xs = some args)
    (hF : F (args ++ dfl.map shA) = some (.exc x outs)) (hb : backs xs outs 0 ρ1 = ρ2) : dCall F np dfl l ρ = .ex x ρ2 := by
  unfold dCall
  rw [bind_ok ha]
  unfold VL.callEnd
  rw [if_pos hu, hx]
  dsimp only
  rw [hF]
  dsimp only
  rw [hb]
def PRx {α : Type} (f : α → D) (kf : Bool) : Res Fl → Except Exn α → Prop := fun r o => match o with
  | .ok a => ∃ ρ', r = .ok (.ret (f a) kf) ρ'
  | .error x => ∃ ρ', r = .ex x ρ'
def PUx : Res Fl → Except Exn Unit → Prop := fun r o => match o with
  | .ok _ => (∃ ρ', r = .ok .nx ρ') ∨ ∃ ρ', r = .ok (.ret .non false) ρ'
  | .error x => ∃ ρ', r = .ex x ρ'
structure RefX (F : Fn) (args : List VL.Arg) (f : α → D) (kf : Bool) (o : Option (Except Exn α)) : Prop where
  run : ∀ a, o = some (.ok a) → ∃ outs, F args = some (.ret (f a) kf outs)
  err : ∀ x, o = some (.error x) → ∃ outs, F args = some (.exc x outs)
theorem ref_ofX {n : Nat} {body : DS} {args : List VL.Arg} {kf : Bool} {o : Option (Except Exn α)} (h0 : args.map slotOf ++ List.replicate (n - args.length) none = ρ) (h : BL (PRx f kf) ρ body o) : RefX (runFn n body) args f kf o := ⟨fun a e => by
  obtain ⟨ρ', q⟩ := h.run _ e
  refine ⟨ρ'.take args.length, ?_⟩
  unfold runFn
  rw [h0, q], fun x e => by
  obtain ⟨ρ', q⟩ := h.run _ e
  refine ⟨ρ'.take args.length, ?_⟩
  unfold runFn
  rw [h0, q]⟩
theorem ref_ofUX {n : Nat} {body : DS} {args : List VL.Arg} {o : Option (Except Exn Unit)} (h0 : args.map slotOf ++ List.replicate (n - args.length) none = ρ) (h : BL PUx ρ body o) : RefX (runFn n body) args rN false o := ⟨fun a e => by
  rcases h.run _ e with ⟨ρ', q⟩ | ⟨ρ', q⟩
  all_goals
    refine ⟨ρ'.take args.length, ?_⟩
    unfold runFn
    rw [h0, q], fun x e => by
  obtain ⟨ρ', q⟩ := h.run _ e
  refine ⟨ρ'.take args.length, ?_⟩
  unfold runFn
  rw [h0, q]⟩
section
variable {F : Fn} {np : Nat} {dfl : List D} {ys : List (D × Kd)} {as args : List VL.Arg} {kf : Bool}
theorem q_callX {o : Option (Except Exn α)} {v : α} (R : RefX F args f kf o) (hx : o = some (.ok v)) (ha : dA l ρ = .ok ys ρ1) (hu : (uniqW (wsOf ρ1 0 ys) && decide (ys.length + dfl.length = np)) = true)
    (hy : argsOf ρ1 ys = some as) (he : as ++ dfl.map shA = args) (hb : ∀ outs, backs ys outs 0 ρ1 = ρ1) : dCall F np dfl l ρ = .ok (f v, frK kf) ρ1 := by
  obtain ⟨outs, q⟩ := R.run v hx
  exact q_call ha hu hy (by rw [he]; exact q) (hb outs)
theorem ex_callX {o : Option (Except Exn α)} (R : RefX F args f kf o) (hx : o = some (.error x)) (ha : dA l ρ = .ok ys ρ1) (hu : (uniqW (wsOf ρ1 0 ys) && decide (ys.length + dfl.length = np)) = true)
    (hy : argsOf ρ1 ys = some as) (he : as ++ dfl.map shA = args) (hb : ∀ outs, backs ys outs 0 ρ1 = ρ1) : dCall F np dfl l ρ = .ex x ρ1 := by
  obtain ⟨outs, q⟩ := R.err x hx
  exact ex_call ha hu hy (by rw [he]; exact q) (hb outs)
end
theorem bl_raise0 (hP : ∀ ρ', P (.ex x ρ') (.error x)) : BL P ρ (dSeq (dRaise x) b) (some (.error x)) := ⟨fun w e => by
  cases e
  rw [ex_seq (show dRaise x ρ = .ex x ρ from rfl)]
  exact hP _⟩
def PTr {σ : Type} (S : σ → Rho) (ρe : Rho) : Res Fl → Except Exn σ → Prop := fun r o => match o with
  | .ok s => r = .ok .nx (S s)
  | .error x => r = .ex x ρe
end
def rngDn (i j : Int) : Option (List Int) := if small62 i && small62 j then some ((List.range (i - j).toNat).map fun (k : Nat) => i - k) else none
theorem g_rng3 {i j : Int} {zs : List Int} (h : rngDn i j = some zs) : rng3 [rI i, rI j, rI (-1)] = some (zs.map rI) := by
  unfold rngDn at h
  split at h
  · rename_i hj
    cases h
    show (if small62 i && small62 j && decide ((-1 : Int) = -1) then some (rngM i (i - j).toNat) else none) = _
    rw [if_pos (by rw [hj]; rfl)]
    unfold rngM
    rw [List.map_map]
    rfl
  · cases h
end
end L2.TX
end
section
set_option Elab.async false
set_option linter.all false
set_option maxRecDepth 100000
open PySem PySem.Spec PyProof.Rows L2 L2.VL
namespace L2.TX
noncomputable section
def asB (d : D) : Option Bool := match d with
  | .con (.bl i) => some i
  | _ => none
theorem sx_cps (z : Str) : sx z.cps.toList = z := by
  obtain ⟨a⟩ := z
  show Str.mk (a.toList.toArray) = _
  rw [Array.toArray_toList]
section
variable {α : Type} {f : α → D} {ρ ρ1 ρ2 : Rho} {r : DE} {d d0 x y : D} {k : Kd} {i n : Int} {p b : Bool} {t : List Nat}
def repG (d : D) : Option (List Nat) := (reprOf d).map fun t => t.cps.toList
theorem g_repG (h : repG d = some t) : reprGD [d] = some (rS t, .shr) := by
  obtain ⟨z, e, rfl⟩ := Option.map_eq_some_iff.mp h
  show (reprOf d).map _ = _
  rw [e]
  show some (D.con (.str _), Kd.shr) = some (D.con (.str (sx _)), Kd.shr)
  rw [sx_cps]
end
end
end L2.TX
end
section
set_option Elab.async false
set_option linter.all false
set_option maxRecDepth 100000
open PySem PySem.Spec PyProof.Rows L2 L2.VL
namespace L2.TX
end L2.TX
end
section
set_option Elab.async false
set_option linter.all false
set_option maxRecDepth 100000
open PySem PySem.Spec PyProof.Rows L2 L2.VL
namespace L2.TX
noncomputable section
variable {ρ ρ1 : Rho} {r : DE} {d0 : D} {k : Kd} {y z s u : List Nat} {Y Z : Str}
def repT (y z s : List Nat) : Option (List Nat) := if s.length + (s.length + 1) * z.length ≤ 16777216 then some (Txt.replace (sx s) (sx y) (sx z)).cps.toList else none
theorem q_rep (hY : Y = sx y) (hZ : Z = sx z) (hr : r ρ = .ok (d0, k) ρ1) (hc : cur ρ1 (d0, k) = some (rS s)) (h : repT y z s = some u) : dRep Y Z r ρ = .ok (rS u, .shr) ρ1 := by
  subst hY hZ
  unfold repT at h
  split at h
  · rename_i hb
    cases h
    unfold dRep
    have e : replV (sx y) (sx z) (rS s) = some (.con (.str (Txt.replace (sx s) (sx y) (sx z)))) := if_pos (by rw [sx_len, sx_len]; exact hb)
    rw [bind_ok hr, bind_ok (cur_ok hc), bind_ok (opt_ok e)]
    show Res.ok (D.con (.str _), Kd.shr) ρ1 = .ok (D.con (.str (sx _)), Kd.shr) ρ1
    rw [sx_cps]
  · cases h
end
end L2.TX
end
section
set_option Elab.async false
set_option linter.all false
set_option maxRecDepth 100000
open PySem PySem.Spec PyProof.Rows L2 L2.VL
namespace L2.TX
noncomputable section
def powN (i j : Int) : Option Int := if CPwB i j then some (i ^ j.toNat) else none
theorem g_powN {a b c : Int} (h : powN a b = some c) : powW (rI a) (rI b) = some (rI c, .shr) := by
  unfold powN at h
  split at h
  · rename_i hl
    cases h
    exact if_pos hl
  · cases h
end
end L2.TX
end
section
set_option Elab.async false
set_option linter.all false
set_option maxRecDepth 100000
open PySem PySem.Spec PyProof.Rows L2 L2.VL
namespace L2.TX
end L2.TX
end
section
set_option Elab.async false
set_option linter.all false
set_option maxRecDepth 100000
open PySem PySem.Spec PyProof.Rows L2 L2.VL
namespace L2.TX
end L2.TX
end
section
set_option Elab.async false
set_option linter.all false
set_option maxRecDepth 100000
namespace L2.TX
open PySem PySem.Spec PyProof.Rows L2 L2.VL
end L2.TX
end
section
set_option Elab.async false
set_option linter.all false
set_option maxRecDepth 100000
namespace L2.TX
open PySem PySem.Spec PyProof.Rows L2 L2.VL
abbrev rW {α : Type} (f : α → D) (xs : List α) : D := .own (xs.map f)
section
variable {α β γ δ : Type} {ρ ρ1 ρ2 : Rho} {r : DE} {q : M Bool} {t : Tg} {own : List Nat} {it : M (List D)} {fb : β → D} {f : α → D} {f1 : α → D} {f2 : γ → D} {xs : List β} {d0 : D} {k : Kd} {l : List (Bool × DE)}
theorem q_un {ys : List α} (hr : r ρ = .ok (d0, k) ρ1) (hc : cur ρ1 (d0, k) = some (rW f ys)) (hs : settleR ρ1 k = ρ1) : dUn r ρ = .ok (rL f ys, .shr) ρ1 := by
  unfold dUn
  rw [bind_ok hr, bind_ok (keep_ok hc hs)]
  exact opt_ok rfl
end
end L2.TX
end
section
set_option Elab.async false
set_option linter.all false
set_option maxRecDepth 100000
namespace L2.TX
open PySem PySem.Spec PyProof.Rows L2 L2.VL
section
variable {α β : Type} {ρ ρ1 ρ2 ρ3 ρ4 ρ5 : Rho} {r r1 r2 rv : DE} {f : α → D} {g : β → D} {c : α → β} {d0 : D} {k : Kd}
theorem map_set {f : α → D} : ∀ (xs : List α) (k : Nat) (x : α), (xs.map f).set k (f x) = (xs.set k x).map f
  | [], _, _ => rfl
  | _ :: _, 0, _ => rfl
  | y :: ys, k + 1, x => by
    show f y :: (ys.map f).set k (f x) = f y :: (ys.set k x).map f
    rw [map_set ys k x]
end
end L2.TX
end
section
set_option Elab.async false
set_option linter.all false
set_option maxRecDepth 100000
namespace L2.TX
open PySem PySem.Spec PyProof.Rows L2 L2.VL
def tryA {σ : Type} (tab : List (Str × Bool)) (o : Option (Except Exn σ)) (h : Exn → Option σ) : Option σ := match o with
  | some (.ok s) => some s
  | some (.error x) => match tab.lookup x.c with
    | some true => h x
    | _ => none
  | none => none
section
variable {ρ : Rho}
theorem bl_tryE {σ : Type} {ω : Type} {P : Res Fl → ω → Prop} {i : Nat} {tab : List (Str × Bool)} {bb rest : DS} {u : Exn → DS} {ob : Option (Except Exn σ)} {oh : Exn → Option σ} {h : σ → Option ω} (S : σ → Rho) (ρe : Rho) (h1 : BL (PTr S ρe) ρ bb ob) (hi : ρe[i]? = some none)
    (h2 : ∀ x s, oh x = some s → u x ρe = .ok .nx (S s)) (hb : ∀ s, BL P (S s) rest (h s)) :
    BL P ρ (dSeq (dTry i tab bb u) rest) ((tryA tab ob oh).bind h) := bl_bind fun s e => by
  refine bl_seq ?_ (hb s)
  unfold tryA at e
  unfold dTry
  cases ob with
  | none => cases e
  | some v =>
    cases v with
    | ok s' =>
      cases e
      rw [show bb ρ = .ok .nx (S s) from h1.run _ rfl]
    | error x =>
      rw [show bb ρ = .ex x ρe from h1.run _ rfl]
      dsimp only at e ⊢
      split at e
      · rename_i hl
        rw [hl, hi]
        exact h2 x s e
      · cases e
end
end L2.TX
end
section
set_option Elab.async false
set_option linter.all false
set_option maxRecDepth 100000
namespace L2.TX
open PySem PySem.Spec PyProof.Rows L2 L2.VL
end L2.TX
end
section
set_option Elab.async false
set_option linter.all false
set_option maxRecDepth 100000
open PySem PySem.Spec PyProof.Rows L2 L2.VL
namespace L2.TX
noncomputable section
def rLm4 {α β γ δ : Type} (f : Addr) (us : List V) (ra : α → D) (rb : β → D) (rc : γ → D) (rd : δ → D) (x : α × β × γ × δ) : D := .fnv f us [ra x.1, rb x.2.1, rc x.2.2.1, rd x.2.2.2]
section
variable {α : Type} {ρ ρ1 ρ2 ρl : Rho} {x : Exn} {rb : DE} {i n : Nat} {lf : Addr} {lus : List V} {is : List Nat} {ds : List D} {b p : Bool} {z : D × Kd}
theorem q_lamC (hs : ρ[i]? = some (some ⟨.fnv lf lus ds, b, p⟩)) (hc : capR n is ds = ρl) (h : rb ρl = .ok z ρ1) : dLamC i lf lus rb is n ρ = .ok .nx ρ := by
  unfold dLamC
  rw [hs]
  dsimp only
  rw [if_pos ⟨rfl, rfl⟩, hc, h]
theorem ex_lamC (hs : ρ[i]? = some (some ⟨.fnv lf lus ds, b, p⟩)) (hc : capR n is ds = ρl) (h : rb ρl = .ex x ρ1) : dLamC i lf lus rb is n ρ = .ex x ρ := by
  unfold dLamC
  rw [hs]
  dsimp only
  rw [if_pos ⟨rfl, rfl⟩, hc, h]
theorem q_callLam {F : Addr → List V → Fn} {np : Nat} {l : List (Bool × DE)} {ys : List (D × Kd)} {as : List VL.Arg} {args : Addr → List V → List VL.Arg} {f : α → D} {kf : Bool} {o : Option α} {v : α} (R : ∀ lf lus, Ref (F lf lus) (args lf lus) f kf o) (hx : o = some v) (ha : dA l ρ = .ok ys ρ1) (hsh : shareL ρ1 is = ρ2)
    (hu : (uniqW (wsOf ρ2 0 ys) && decide (ys.length + 1 = np) && noOwn ρ2 ys) = true) (hy : argsOf ρ2 ys = some as) (hc : capsOf ρ2 is = some ds) (he : ∀ lf lus, as ++ [shA (.fnv lf lus ds)] = args lf lus) : dCallLam F np is l ρ = .ok (f v, frK kf) ρ2 := by
  have key : lamRes F as ds = some (.inl (f v, kf)) := lamRes_of fun lf lus => by
    obtain ⟨outs, q⟩ := (R lf lus).run v hx
    rw [he lf lus, q]
    rfl
  unfold dCallLam
  rw [bind_ok ha]
  unfold lamEnd
  rw [hsh, if_pos hu, hy, hc]
  dsimp only
  rw [key]
end
/-- what may not raise here -/
def noRs {α : Type} (o : Option (Except Exn α)) : Option α := match o with
  | some (.ok a) => some a
  | _ => none
theorem noRs_ok {α : Type} {o : Option (Except Exn α)} {v : α} (h : noRs o = some v) : o = some (.ok v) := by
  unfold noRs at h
  split at h
  · cases h; rfl
  · cases h
end
end L2.TX
end
section
set_option Elab.async false
set_option linter.all false
set_option maxRecDepth 100000
open PySem PySem.Spec PyProof.Rows L2 L2.VL
namespace L2.TX
noncomputable section
section
variable {α : Type} {ρ ρ1 ρ2 : Rho} {r : DE} {f : α → D} {d0 : D} {k : Kd}
theorem q_own1 {es : List α} (hr : r ρ = .ok (rL f es, .fr) ρ1) : dOwn1 r ρ = .ok (rW (rL f) [es], .fr) ρ1 := by
  unfold dOwn1
  rw [bind_ok hr]
  rfl
theorem chk_ok {i : Nat} {xs : List D} {p : Bool} (hi : ρ[i]? = some (some ⟨.own xs, true, p⟩)) : chkDeep i ρ = .ok () ρ := by
  unfold chkDeep getOwnO
  rw [hi]
theorem q_pushF {i : Nat} {xs xs' ys : List (List α)} {es : List α} {p p' : Bool} (hi : ρ[i]? = some (some ⟨rW (rL f) xs, true, p⟩)) (hr : r ρ = .ok (rL f es, .fr) ρ1) (hi1 : ρ1[i]? = some (some ⟨rW (rL f) xs', true, p'⟩)) (h : appL xs' es = some ys)
    (hρ : ρ1.set i (some ⟨rW (rL f) ys, true, p'⟩) = ρ2) : dPushF i r ρ = .ok (.con .non, .shr) ρ2 := by
  unfold appL at h
  split at h
  · rename_i hl
    cases h
    unfold dPushF
    rw [bind_ok (chk_ok hi), bind_ok hr]
    unfold pushF getOwnO
    rw [hi1]
    dsimp only
    rw [List.length_map, if_pos hl, ← hρ]
    show Res.ok _ (ρ1.set i (some ⟨.own (xs'.map (rL f) ++ [rL f es]), true, p'⟩)) = _
    rw [show rW (rL f) (xs' ++ [es]) = .own (xs'.map (rL f) ++ [rL f es]) by show D.own _ = _; rw [List.map_append]; rfl]
  · cases h
/-- xs[i].reverse() -/
def revI (xs : List (List α)) (i : Int) : Option (List (List α)) := (ixN xs.length i).bind fun a => (xs[a]?).map fun row => xs.set a row.reverse
theorem q_revI {i : Nat} {xs xs' ys : List (List α)} {m : Int} {p p' : Bool} (hi : ρ[i]? = some (some ⟨rW (rL f) xs, true, p⟩)) (hr : r ρ = .ok (d0, k) ρ1) (hc : cur ρ1 (d0, k) = some (TX.rI m)) (hi1 : ρ1[i]? = some (some ⟨rW (rL f) xs', true, p'⟩)) (h : revI xs' m = some ys)
    (hρ : ρ1.set i (some ⟨rW (rL f) ys, true, p'⟩) = ρ2) : dMutI i r revG ρ = .ok (.con .non, .shr) ρ2 := by
  unfold revI at h
  obtain ⟨a, h1, h2⟩ := Option.bind_eq_some_iff.mp h
  obtain ⟨row, h3, rfl⟩ := Option.map_eq_some_iff.mp h2
  unfold dMutI
  rw [bind_ok (chk_ok hi), bind_ok hr, bind_ok (cur_ok hc)]
  unfold mutI getOwnO
  rw [hi1]
  dsimp only [TX.rI]
  rw [List.length_map, h1]
  dsimp only
  rw [List.getElem?_map, h3]
  dsimp only [Option.map_some]
  show Res.ok (D.con V.non, Kd.shr) (ρ1.set i (some ⟨.own ((xs'.map (rL f)).set a (.lst (row.map f).reverse)), true, p'⟩)) = _
  rw [← hρ, ← List.map_reverse]
  show Res.ok _ (ρ1.set i (some ⟨.own ((xs'.map (rL f)).set a (rL f row.reverse)), true, p'⟩)) = _
  rw [map_set]
end
theorem h2_isL {σ : Type} {ρe : Rho} {j : Nat} {tabs : List (List (Str × Bool))} {S : σ → Rho} {k : List Bool → σ} {kk : Bool} (hp : pinned ρe j = false) (hS : ∀ bs, ρe.set j (some ⟨rL rB bs, kk, false⟩) = S (k bs)) :
    ∀ (x : Exn) (z : σ), ((isLB tabs x).map k) = some z → dSet j (dH (isLG (frK kk) tabs) x) ρe = .ok .nx (S z) := fun x z e => by
  obtain ⟨bs, e1, rfl⟩ := Option.map_eq_some_iff.mp e
  have e2 : (dH (isLG (frK kk) tabs) x) ρe = .ok (rL rB bs, frK kk) ρe := by
    unfold dH isLG
    rw [e1]
    rfl
  exact q_setF (ρ1 := ρe) e2 hp (hS bs)
theorem ex_un {ρ ρ1 : Rho} {r : DE} {x : Exn} (h : r ρ = .ex x ρ1) : dUn r ρ = .ex x ρ1 := by
  unfold dUn
  exact bind_ex h
end
end L2.TX
end
section
set_option Elab.async false
set_option linter.all false
set_option maxRecDepth 100000
noncomputable section
namespace Law_strictranks_k26_ways_of_exchanges
open PySem PySem.Spec PyProof.Rows L2 L2.VL L2.TX
/-- _law_pick: 0 _law_well_here, 1 _law_bound, 2 _law_found, 3 _law_stirred -/
abbrev r__law_pick_1_a_3 : DS := dRet (dSh (dVar 2))
abbrev r__law_pick_1_a_2 : DS := dSeq (dSetIx 0 (dCon (.int 0)) (dOp2 divD (dOp2 ixD (dVar 0) (dCon (.int 0))) (dVar 1))) r__law_pick_1_a_3
abbrev r__law_pick_1_a_1 : DS := dSeq (dSet 2 (dOp2 modD (dBi (scB intV) [(true, dOp2 ixD (dVar 0) (dCon (.int 0)))]) (dVar 1))) r__law_pick_1_a_2
abbrev r__law_pick_5 : DS := dRet (dOp2 modD (dBi (scB intV) [(true, dOp2 divD (dVar 3) (dCon (.int 4093)))]) (dVar 1))
abbrev r__law_pick_4 : DS := dSeq (dSet 3 (dOp2 modD (dBi (scB intV) [(true, dOp2 powW (dOp2 addD (dVar 3) (dOp2 mulT (dCon (.int 2097143)) (dOp2 ixD (dVar 0) (dCon (.int 2))))) (dCon (.int 3)))]) (dOp2 addD (dOp2 powD (dCon (.int 10)) (dCon (.int 27))) (dCon (.int 103))))) r__law_pick_5
abbrev r__law_pick_3 : DS := dSeq (dSet 3 (dOp2 modD (dBi (scB intV) [(true, dOp2 powW (dOp2 addD (dOp2 ixD (dVar 0) (dCon (.int 1))) (dOp2 mulT (dCon (.int 524287)) (dOp2 ixD (dVar 0) (dCon (.int 2))))) (dCon (.int 5)))]) (dOp2 addD (dOp2 powD (dCon (.int 10)) (dCon (.int 33))) (dCon (.int 61))))) r__law_pick_4
abbrev r__law_pick_2 : DS := dSeq (dSetIx 0 (dCon (.int 2)) (dOp2 addD (dOp2 ixD (dVar 0) (dCon (.int 2))) (dCon (.int 1)))) r__law_pick_3
abbrev r__law_pick_1 : DS := dSeq (dIf (dB (dCmp gtA (dOp2 ixD (dVar 0) (dCon (.int 0))) (dCon (.int 0)))) (r__law_pick_1_a_1) (dNext)) r__law_pick_2
def F__law_pick : Fn := runFn 4 r__law_pick_1
/-- _law_order: 0 _law_well_here, 1 _law_many, 2 _law_left, 3 _law_found, 4 _law_turn -/
abbrev r__law_order_2_l_1 : DS := dExpr (dMut 3 appG [(false, dMut 2 popG [(false, dCall F__law_pick 2 [] [(true, dVar 0), (false, dBi (lenD) [(true, dVar 2)])])])])
abbrev r__law_order_3 : DS := dRet (dVar 3)
abbrev r__law_order_2 : DS := dSeq (dFgB [4] (dFor (iRng rng1 [(true, dVar 1)]) (.one 4) (dFgE [4] (r__law_order_2_l_1)))) r__law_order_3
abbrev r__law_order_1 : DS := dSeq (dPar 2 3 true true (dLrg (dVar 1)) (dLst [])) r__law_order_2
def F__law_order : Fn := runFn 5 r__law_order_1
/-- _law_fact: 0 _law_well_here, 1 _law_many, 2 _law_kind, 3 _law_signs, 4 _law_sign, 5 _law_rule -/
abbrev r__law_fact_2_a_2_l_1 : DS := dSetIx 3 (dCall F__law_pick 2 [] [(true, dVar 0), (false, dVar 1)]) (dVar 4)
abbrev r__law_fact_2_a_2 : DS := dFgB [4] (dFor (iAny (dOp2 ixD (dLst [(false, dCon (.str "WWLL")), (false, dCon (.str "WWWL"))]) (dOp2 subD (dVar 2) (dCon (.int 1))))) (.one 4) (dFgE [4] (r__law_fact_2_a_2_l_1)))
abbrev r__law_fact_2_a_1 : DS := dSeq (dSet 3 (dOp2 mulT (dLst [(false, dCon (.str "."))]) (dVar 1))) r__law_fact_2_a_2
abbrev r__law_fact_3 : DS := dRet (dMt isStr joinD (dCon (.str "")) [(true, dVar 3)])
abbrev r__law_fact_2 : DS := dSeq (dIf (dB (dCmp gtA (dVar 2) (dCon (.int 0)))) (r__law_fact_2_a_1) (dNext)) r__law_fact_3
abbrev r__law_fact_1 : DS := dSeq (dSet 3 (dLc [5] (iRng rng1 [(true, dVar 1)]) (.one 5) (pure true) (dOp2 ixD (dCon (.str "WL.")) (dCall F__law_pick 2 [] [(true, dVar 0), (false, dCon (.int 3))])))) r__law_fact_2
def F__law_fact : Fn := runFn 6 r__law_fact_1
/-- _law_holds: 0 _law_order_here, 1 _law_fact_here, 2 _law_rule -/
abbrev r__law_holds_1 : DS := dRet (dCmp neD (dSlS (dRep "." "" (dMt isStr joinD (dCon (.str "")) [(true, dLc [2] (iAny (dVar 0)) (.one 2) (pure true) (dOp2 ixD (dVar 1) (dVar 2)))])) none (some (dCon (.int 1)))) (dCon (.str "L")))
def F__law_holds : Fn := runFn 3 r__law_holds_1
/-- _law_facts: 0 _law_well_here, 1 _law_order_here, 2 _law_most, 3 _law_is_true, 4 _law_kind, 5 _law_found, 6 _law_turn, 7 _law_fact_here, 8 _law_way_here -/
abbrev r__law_facts_2_l_2_a_1 : DS := dSet 7 (dRep "?" "L" (dRep "L" "W" (dRep "W" "?" (dVar 7))))
abbrev r__law_facts_2_l_4_a_1 : DS := dSet 7 (dOp2 mulT (dCon (.str ".")) (dBi (lenD) [(true, dVar 1)]))
abbrev r__law_facts_2_l_5_a_1 : DS := dSet 7 (dOp2 ixD (dVar 5) (dCall F__law_pick 2 [] [(true, dVar 0), (false, dBi (lenD) [(true, dVar 5)])]))
abbrev r__law_facts_2_l_6 : DS := dExpr (dMut 5 appG [(false, dVar 7)])
abbrev r__law_facts_2_l_5 : DS := dSeq (dIf (dAnd (dB (dCmp eqD (dVar 8) (dCon (.int 1)))) (dB (dCmp neD (dVar 5) (dLst [])))) (r__law_facts_2_l_5_a_1) (dNext)) r__law_facts_2_l_6
abbrev r__law_facts_2_l_4 : DS := dSeq (dIf (dB (dCmp eqD (dVar 8) (dCon (.int 0)))) (r__law_facts_2_l_4_a_1) (dNext)) r__law_facts_2_l_5
abbrev r__law_facts_2_l_3 : DS := dSeq (dSet 8 (dCall F__law_pick 2 [] [(true, dVar 0), (false, dCon (.int 12))])) r__law_facts_2_l_4
abbrev r__law_facts_2_l_2 : DS := dSeq (dIf (dAnd (dTr (dVar 3)) (dNot (dTr (dCall F__law_holds 2 [] [(false, dVar 1), (false, dVar 7)])))) (r__law_facts_2_l_2_a_1) (dNext)) r__law_facts_2_l_3
abbrev r__law_facts_2_l_1 : DS := dSeq (dSet 7 (dCall F__law_fact 3 [] [(true, dVar 0), (false, dBi (lenD) [(true, dVar 1)]), (false, dVar 4)])) r__law_facts_2_l_2
abbrev r__law_facts_3 : DS := dRet (dVar 5)
abbrev r__law_facts_2 : DS := dSeq (dFgB [6, 7, 8] (dFor (iRng rng1 [(true, dCall F__law_pick 2 [] [(true, dVar 0), (false, dOp2 addD (dVar 2) (dCon (.int 1)))])]) (.one 6) (dFgE [6, 7, 8] (r__law_facts_2_l_1)))) r__law_facts_3
abbrev r__law_facts_1 : DS := dSeq (dPar 4 5 true true (dCall F__law_pick 2 [] [(true, dVar 0), (false, dCon (.int 3))]) (dLst [])) r__law_facts_2
def F__law_facts : Fn := runFn 9 r__law_facts_1
/-- _law_can: 0 _law_facts_here, 1 _law_front, 2 _law_rule, 3 _law_against, 4 _law_fact_here, 5 _law_one -/
abbrev r__law_can_2 : DS := dRet (dCmp eqD (dLc [4] (iAny (dVar 3)) (.one 4) (dB (dCmp notInB (dCon (.str "W")) (dLc [5] (iAny (dVar 1)) (.one 5) (pure true) (dOp2 ixD (dVar 4) (dVar 5))))) (dVar 4)) (dLst []))
abbrev r__law_can_1 : DS := dSeq (dShE [3] (dSet 3 (dLc [4] (iAny (dVar 0)) (.one 4) (dB (dCmp eqD (dOp2 ixD (dVar 4) (dVar 2)) (dCon (.str "L")))) (dVar 4)))) r__law_can_2
def F__law_can : Fn := runFn 6 r__law_can_1
/-- _law_wandered: 0 _law_well_here, 1 _law_many, 2 _law_facts_here, 3 _law_found, 4 _law_fit, 5 _law_rule -/
abbrev r__law_wandered_2_l_2 : DS := dExpr (dMut 3 appG [(false, dOp2 ixD (dVar 4) (dCall F__law_pick 2 [] [(true, dVar 0), (false, dBi (lenD) [(true, dVar 4)])]))])
abbrev r__law_wandered_2_l_1 : DS := dSeq (dShE [4] (dSet 4 (dLc [5] (iRng rng1 [(true, dVar 1)]) (.one 5) (dAnd (dB (dCmp notInB (dVar 5) (dVar 3))) (dTr (dBor (dCall F__law_can 3 [] [(false, dVar 2), (false, dVar 3), (false, dVar 5)])))) (dVar 5)))) r__law_wandered_2_l_2
abbrev r__law_wandered_3 : DS := dRet (dVar 3)
abbrev r__law_wandered_2 : DS := dSeq (dFgB [4] (dWhile (dB (dCmp ltC (dBi (lenD) [(true, dVar 3)]) (dVar 1))) (dFgE [4] (r__law_wandered_2_l_1)))) r__law_wandered_3
abbrev r__law_wandered_1 : DS := dSeq (dSet 3 (dLst [])) r__law_wandered_2
def F__law_wandered : Fn := runFn 6 r__law_wandered_1
/-- is_integer: 0 value, 1 low, 2 high -/
abbrev r_is_integer_1_a_1 : DS := dRet (dCon (.bl false))
abbrev r_is_integer_2 : DS := dRet (dAndV (dCmp leC (dVar 1) (dVar 0)) (dOrV (dCmp isNC (dVar 2) (dCon .non)) (dCmp leC (dVar 0) (dVar 2))))
abbrev r_is_integer_1 : DS := dSeq (dIf (dOr (dNot (dTr (dIsi .int (dVar 0)))) (dTr (dIsi .bool (dVar 0)))) (r_is_integer_1_a_1) (dNext)) r_is_integer_2
def F_is_integer : Fn := runFn 3 r_is_integer_1
/-- need_count: 0 count, 1 most -/
abbrev r_need_count_1_a_1 : DS := dRaise ⟨"InvalidCount", none⟩
abbrev r_need_count_1 : DS := dIf (dNot (dTr (dCall F_is_integer 3 [] [(false, dVar 0), (false, dCon (.int 1)), (false, dVar 1)]))) (r_need_count_1_a_1) (dNext)
def F_need_count : Fn := runFn 2 r_need_count_1
/-- fits_fact: 0 count, 1 value, 2 sign -/
abbrev r_fits_fact_1_a_1 : DS := dRet (dCon (.bl false))
abbrev r_fits_fact_2 : DS := dRet (dBi (scB allV) [(true, dLc [2] (iAny (dVar 1)) (.one 2) (pure true) (dCmp inB (dVar 2) (dTup [(false, dCon (.str "W")), (false, dCon (.str "L")), (false, dCon (.str "."))])))])
abbrev r_fits_fact_1 : DS := dSeq (dIf (dOr (dNot (dTr (dIsi .str (dVar 1)))) (dB (dCmp neD (dBi (lenD) [(true, dVar 1)]) (dVar 0)))) (r_fits_fact_1_a_1) (dNext)) r_fits_fact_2
def F_fits_fact : Fn := runFn 3 r_fits_fact_1
/-- need_facts: 0 count, 1 facts, 2 fact -/
abbrev r_need_facts_1_a_1 : DS := dRaise ⟨"InvalidFacts", none⟩
abbrev r_need_facts_1 : DS := dIf (dOr (dNot (dTr (dIsi .list (dVar 1)))) (dOr (dB (dCmp gtA (dBi (lenD) [(true, dVar 1)]) (dCon (.int 200)))) (dNot (dTr (dBi (scB allV) [(true, dLc [2] (iAny (dVar 1)) (.one 2) (pure true) (dCall F_fits_fact 2 [] [(false, dVar 0), (false, dVar 2)]))]))))) (r_need_facts_1_a_1) (dNext)
def F_need_facts : Fn := runFn 3 r_need_facts_1
/-- need_count_and_facts: 0 count, 1 facts, 2 most -/
abbrev r_need_count_and_facts_2 : DS := dExpr (dCall F_need_facts 2 [] [(false, dVar 0), (false, dVar 1)])
abbrev r_need_count_and_facts_1 : DS := dSeq (dExpr (dCall F_need_count 2 [] [(false, dVar 0), (false, dVar 2)])) r_need_count_and_facts_2
def F_need_count_and_facts : Fn := runFn 3 r_need_count_and_facts_1
/-- is_order: 0 value, 1 rule -/
abbrev r_is_order_1_a_1 : DS := dRet (dCon (.bl false))
abbrev r_is_order_2 : DS := dRet (dAndV (dBi (scB allV) [(true, dLc [1] (iAny (dVar 0)) (.one 1) (pure true) (dCall F_is_integer 3 ([.non].map .con) [(false, dVar 1), (false, dCon (.int 0))]))]) (dCmp eqD (dBi (sortA) [(true, dVar 0)]) (dLrg (dBi (lenD) [(true, dVar 0)]))))
abbrev r_is_order_1 : DS := dSeq (dIf (dOr (dNot (dTr (dIsi .list (dVar 0)))) (dNot (dB (dChain leC leC (dCon (.int 1)) (dBi (lenD) [(true, dVar 0)]) (dCon (.int 60)))))) (r_is_order_1_a_1) (dNext)) r_is_order_2
def F_is_order : Fn := runFn 2 r_is_order_1
/-- need_order: 0 order, 1 count -/
abbrev r_need_order_1_a_1 : DS := dRaise ⟨"InvalidOrder", none⟩
abbrev r_need_order_1 : DS := dIf (dOr (dNot (dTr (dCall F_is_order 1 [] [(false, dVar 0)]))) (dAnd (dB (dCmp notNC (dVar 1) (dCon .non))) (dB (dCmp neD (dBi (lenD) [(true, dVar 0)]) (dVar 1))))) (r_need_order_1_a_1) (dNext)
def F_need_order : Fn := runFn 2 r_need_order_1
/-- holds_along: 0 order, 1 fact, 2 signs, 3 rule -/
abbrev r_holds_along_2 : DS := dRet (dOrV (dCmp eqD (dVar 2) (dLst [])) (dCmp eqD (dOp2 ixD (dVar 2) (dCon (.int 0))) (dCon (.str "W"))))
abbrev r_holds_along_1 : DS := dSeq (dShE [2] (dSet 2 (dLc [3] (iAny (dVar 0)) (.one 3) (dB (dCmp neD (dOp2 ixD (dVar 1) (dVar 3)) (dCon (.str ".")))) (dOp2 ixD (dVar 1) (dVar 3))))) r_holds_along_2
def F_holds_along : Fn := runFn 4 r_holds_along_1
/-- need_holding: 0 facts, 1 order, 2 fact -/
abbrev r_need_holding_1_a_1 : DS := dRaise ⟨"Fails", none⟩
abbrev r_need_holding_1 : DS := dIf (dNot (dTr (dBi (scB allV) [(true, dLc [2] (iAny (dVar 0)) (.one 2) (pure true) (dCall F_holds_along 2 [] [(false, dVar 1), (false, dVar 2)]))]))) (r_need_holding_1_a_1) (dNext)
def F_need_holding : Fn := runFn 3 r_need_holding_1
/-- way_between: 0 count, 1 facts, 2 order, 3 other, 4 found, 5 here, 6 place, 7 rule, 8 at -/
abbrev r_way_between_7_l_1_l_2 : DS := dExpr (dPushF 4 (dBi (listD) [(true, dVar 5)]))
abbrev r_way_between_7_l_1_l_1 : DS := dSeq (dSet 5 (dSh (dOp2 addD (dOp2 addD (dSlL (dVar 5) none (some (dOp2 subD (dVar 8) (dCon (.int 1))))) (dLst [(false, dOp2 ixD (dVar 5) (dVar 8)), (false, dOp2 ixD (dVar 5) (dOp2 subD (dVar 8) (dCon (.int 1))))])) (dSlL (dVar 5) (some (dOp2 addD (dVar 8) (dCon (.int 1)))) none)))) r_way_between_7_l_1_l_2
abbrev r_way_between_7_l_1 : DS := dFgB [8] (dFor (iRng rng3 [(true, dMt isLst idxD (dVar 5) [(true, dVar 7)]), (true, dVar 6), (true, dOp1 negV (dCon (.int 1)))]) (.one 8) (dFgE [8] (r_way_between_7_l_1_l_1)))
abbrev r_way_between_8 : DS := dRet (dVar 4)
abbrev r_way_between_7 : DS := dSeq (dFgB [6, 7, 8] (dFor (iEnumA [(false, dVar 3)]) (.many [6, 7]) (dFgE [6, 7, 8] (r_way_between_7_l_1)))) r_way_between_8
abbrev r_way_between_6 : DS := dSeq (dPar 4 5 true true (dOwn1 (dBi (listD) [(true, dVar 2)])) (dSh (dBi (listD) [(true, dVar 2)]))) r_way_between_7
abbrev r_way_between_5 : DS := dSeq (dExpr (dCall F_need_holding 2 [] [(false, dVar 1), (false, dVar 3)])) r_way_between_6
abbrev r_way_between_4 : DS := dSeq (dExpr (dCall F_need_holding 2 [] [(false, dVar 1), (false, dVar 2)])) r_way_between_5
abbrev r_way_between_3 : DS := dSeq (dExpr (dCall F_need_order 2 [] [(false, dVar 3), (false, dVar 0)])) r_way_between_4
abbrev r_way_between_2 : DS := dSeq (dExpr (dCall F_need_order 2 [] [(false, dVar 2), (false, dVar 0)])) r_way_between_3
abbrev r_way_between_1 : DS := dSeq (dExpr (dCall F_need_count_and_facts 3 [] [(false, dVar 0), (false, dVar 1), (false, dCon (.int 14))])) r_way_between_2
def F_way_between : Fn := runFn 9 r_way_between_1
/-- _law_pairs: 0 _law_one, 1 _law_two, 2 _law_where, 3 _law_place, 4 _law_other, 5 _law_k -/
abbrev r__law_pairs_2_l_1 : DS := dSetIx 2 (dOp2 ixD (dVar 1) (dVar 3)) (dVar 3)
abbrev r__law_pairs_3 : DS := dRet (dBi (scB sumV) [(true, dLc [5] (iRng rng1 [(true, dBi (lenD) [(true, dVar 0)])]) (.one 5) (pure true) (dBi (lenD) [(true, dLc [4] (iAny (dSlL (dVar 0) (some (dVar 5)) none)) (.one 4) (dB (dCmp ltC (dOp2 ixD (dVar 2) (dVar 4)) (dOp2 ixD (dVar 2) (dOp2 ixD (dVar 0) (dVar 5))))) (dCon (.int 1)))]))])
abbrev r__law_pairs_2 : DS := dSeq (dFgB [3] (dFor (iRng rng1 [(true, dBi (lenD) [(true, dVar 1)])]) (.one 3) (dFgE [3] (r__law_pairs_2_l_1)))) r__law_pairs_3
abbrev r__law_pairs_1 : DS := dSeq (dSet 2 (dOp2 mulT (dLst [(false, dCon (.int 0))]) (dBi (lenD) [(true, dVar 1)]))) r__law_pairs_2
def F__law_pairs : Fn := runFn 6 r__law_pairs_1
/-- _law_is_step: 0 _law_one, 1 _law_two, 2 _law_there, 3 _law_k -/
abbrev r__law_is_step_1_a_1 : DS := dRet (dCon (.bl false))
abbrev r__law_is_step_3_a_1 : DS := dRet (dCon (.bl false))
abbrev r__law_is_step_4 : DS := dRet (dCmp eqD (dBi (reprGD) [(true, dVar 1)]) (dBi (reprGD) [(true, dOp2 addD (dOp2 addD (dSlL (dVar 0) none (some (dOp2 ixD (dVar 2) (dCon (.int 0))))) (dLst [(false, dOp2 ixD (dVar 0) (dOp2 ixD (dVar 2) (dCon (.int 1)))), (false, dOp2 ixD (dVar 0) (dOp2 ixD (dVar 2) (dCon (.int 0))))])) (dSlL (dVar 0) (some (dOp2 addD (dOp2 ixD (dVar 2) (dCon (.int 1))) (dCon (.int 1)))) none))]))
abbrev r__law_is_step_3 : DS := dSeq (dIf (dOr (dB (dCmp neD (dBi (lenD) [(true, dVar 2)]) (dCon (.int 2)))) (dB (dCmp neD (dOp2 ixD (dVar 2) (dCon (.int 1))) (dOp2 addD (dOp2 ixD (dVar 2) (dCon (.int 0))) (dCon (.int 1)))))) (r__law_is_step_3_a_1) (dNext)) r__law_is_step_4
abbrev r__law_is_step_2 : DS := dSeq (dShE [2] (dSet 2 (dLc [3] (iRng rng1 [(true, dBi (lenD) [(true, dVar 0)])]) (.one 3) (dB (dCmp neD (dOp2 ixD (dVar 0) (dVar 3)) (dOp2 ixD (dVar 1) (dVar 3)))) (dVar 3)))) r__law_is_step_3
abbrev r__law_is_step_1 : DS := dSeq (dIf (dOr (dNot (dTr (dIsi .list (dVar 1)))) (dB (dCmp neD (dBi (lenD) [(true, dVar 0)]) (dBi (lenD) [(true, dVar 1)])))) (r__law_is_step_1_a_1) (dNext)) r__law_is_step_2
def F__law_is_step : Fn := runFn 4 r__law_is_step_1
/-- _law_way: 0 _law_many, 1 _law_facts_here, 2 _law_one, 3 _law_two, 4 _law_passed, 5 _law_way_here, 6 _law_here, 7 _law_there, 8 _law_order_here, 9 _law_fact_here -/
abbrev r__law_way_3_a_1 : DS := dRet (dCon (.bl false))
abbrev r__law_way_4_a_1 : DS := dRet (dCon (.bl false))
abbrev r__law_way_5_a_1 : DS := dRet (dCon (.bl false))
abbrev r__law_way_6_a_1 : DS := dRet (dCon (.bl false))
abbrev r__law_way_8 : DS := dRet (dCmp eqD (dVar 4) (dLst [(false, dVar 1), (false, dVar 2), (false, dVar 3)]))
abbrev r__law_way_7 : DS := dSeq (dExpr (dMutI 5 (dCon (.int 0)) revG)) r__law_way_8
abbrev r__law_way_6 : DS := dSeq (dIf (dB (dCmp neD (dLnd (dLc [8] (iAny (dUn (dVar 5))) (.one 8) (dB (dCmp neD (dLc [9] (iAny (dVar 1)) (.one 9) (dNot (dTr (dCall F__law_holds 2 [] [(false, dVar 8), (false, dVar 9)]))) (dVar 9)) (dLst []))) (dCon (.int 1)))) (dLst []))) (r__law_way_6_a_1) (dNext)) r__law_way_7
abbrev r__law_way_5 : DS := dSeq (dIf (dB (dCmp neD (dLnd (dLc [6, 7] (iZip2 [(false, dUn (dVar 5)), (false, dSlL (dUn (dVar 5)) (some (dCon (.int 1))) none)]) (.many [6, 7]) (dNot (dTr (dCall F__law_is_step 2 [] [(false, dVar 6), (false, dVar 7)]))) (dCon (.int 1)))) (dLst []))) (r__law_way_5_a_1) (dNext)) r__law_way_6
abbrev r__law_way_4 : DS := dSeq (dIf (tBor (dB (dCmp neD (dBi (reprGD) [(true, dLst [(false, dOp2 ixD (dUn (dVar 5)) (dCon (.int 0))), (false, dOp2 ixD (dUn (dVar 5)) (dOp1 negV (dCon (.int 1))))])]) (dBi (reprGD) [(true, dLst [(false, dVar 2), (false, dVar 3)])])))) (r__law_way_4_a_1) (dNext)) r__law_way_5
abbrev r__law_way_3 : DS := dSeq (dIf (dOr (dNot (tBor (dTr (dIsi .list (dUn (dVar 5)))))) (dOr (dB (dCmp neD (dBor (dBi (lenD) [(true, dUn (dVar 5))])) (dOp2 addD (dCon (.int 1)) (dCall F__law_pairs 2 [] [(false, dVar 2), (false, dVar 3)])))) (dB (dCmp neD (dVar 4) (dLst [(false, dVar 1), (false, dVar 2), (false, dVar 3)]))))) (r__law_way_3_a_1) (dNext)) r__law_way_4
abbrev r__law_way_2 : DS := dSeq (dSet 5 (dCall F_way_between 4 [] [(false, dVar 0), (false, dOp2 ixD (dVar 4) (dCon (.int 0))), (false, dOp2 ixD (dVar 4) (dCon (.int 1))), (false, dOp2 ixD (dVar 4) (dCon (.int 2)))])) r__law_way_3
abbrev r__law_way_1 : DS := dSeq (dSet 4 (dSh (dLst [(false, dBi (listD) [(true, dVar 1)]), (false, dBi (listD) [(true, dVar 2)]), (false, dBi (listD) [(true, dVar 3)])]))) r__law_way_2
def F__law_way : Fn := runFn 10 r__law_way_1
/-- _law_fails: 0 _law_call, 1 _law_told, 2 e -/
abbrev lam_rb : DE := dUn (dCall F_way_between 4 [] [(false, dVar 1), (false, dVar 3), (false, dVar 6), (false, dVar 7)])
abbrev r__law_fails_2_t_1 (lf : Addr) (lus : List V) : DS := dLamC 0 lf lus lam_rb [1, 3, 6, 7] 9
abbrev r__law_fails_3 (lf : Addr) (lus : List V) : DS := dRet (dCmp eqD (dVar 1) (dLst [(false, dCon (.bl true)), (false, dCon (.bl false)), (false, dCon (.bl true))]))
abbrev r__law_fails_2 (lf : Addr) (lus : List V) : DS := dSeq (dTry 2 [("Fails", true), ("InvalidCount", true), ("InvalidFacts", true), ("InvalidOrder", true)] ((r__law_fails_2_t_1 lf lus)) (fun x => dSet 1 (dH (isLG (frK false) [[("Fails", true), ("InvalidCount", false), ("InvalidFacts", false), ("InvalidOrder", false)], [("Fails", false), ("InvalidCount", false), ("InvalidFacts", false), ("InvalidOrder", true)], [("Fails", true), ("InvalidCount", true), ("InvalidFacts", true), ("InvalidOrder", true)]]) x))) (r__law_fails_3 lf lus)
abbrev r__law_fails_1 (lf : Addr) (lus : List V) : DS := dSeq (dSet 1 (dSh (dLst []))) (r__law_fails_2 lf lus)
def F__law_fails (lf : Addr) (lus : List V) : Fn := runFn 3 (r__law_fails_1 lf lus)
/-- turned_pairs: 0 order, 1 other, 2 places, 3 rule, 4 later, 5 at, 6 place -/
abbrev r_turned_pairs_2 : DS := dRet (dBi (scB sumV) [(true, dLc [5, 6] (iEnumA [(false, dVar 2)]) (.many [5, 6]) (pure true) (dBi (lenD) [(true, dLc [4] (iAny (dSlL (dVar 2) (some (dOp2 addD (dVar 5) (dCon (.int 1)))) none)) (.one 4) (dB (dCmp ltC (dVar 4) (dVar 6))) (dVar 4))]))])
abbrev r_turned_pairs_1 : DS := dSeq (dSet 2 (dSh (dLc [3] (iAny (dVar 0)) (.one 3) (pure true) (dMt isLst idxD (dVar 1) [(true, dVar 3)])))) r_turned_pairs_2
def F_turned_pairs : Fn := runFn 7 r_turned_pairs_1
/-- exchanges_between: 0 order, 1 other -/
abbrev r_exchanges_between_3 : DS := dRet (dCall F_turned_pairs 2 [] [(false, dVar 0), (false, dVar 1)])
abbrev r_exchanges_between_2 : DS := dSeq (dExpr (dCall F_need_order 2 [] [(false, dVar 1), (false, dBi (lenD) [(true, dVar 0)])])) r_exchanges_between_3
abbrev r_exchanges_between_1 : DS := dSeq (dExpr (dCall F_need_order 2 ([.non].map .con) [(false, dVar 0)])) r_exchanges_between_2
def F_exchanges_between : Fn := runFn 2 r_exchanges_between_1
/-- _law_far: 0 _law_well_here, 1 _law_many, 2 _law_one, 3 _law_two, 4 _law_due, 5 _law_told -/
abbrev r__law_far_4 : DS := dRet (dCmp eqD (dBi (reprGD) [(true, dVar 5)]) (dBi (reprGD) [(true, dLst [(false, dVar 4), (false, dVar 4), (false, dCon (.int 0))])]))
abbrev r__law_far_3 : DS := dSeq (dSet 5 (dSh (dLst [(false, dCall F_exchanges_between 2 [] [(false, dVar 2), (false, dVar 3)]), (false, dCall F_exchanges_between 2 [] [(false, dVar 3), (false, dVar 2)]), (false, dCall F_exchanges_between 2 [] [(false, dVar 2), (false, dBi (listD) [(true, dVar 2)])])]))) r__law_far_4
abbrev r__law_far_2 : DS := dSeq (dSet 4 (dCall F__law_pairs 2 [] [(false, dVar 2), (false, dVar 3)])) r__law_far_3
abbrev r__law_far_1 : DS := dSeq (dPar 2 3 true true (dSh (dCall F__law_order 2 [] [(true, dVar 0), (false, dVar 1)])) (dSh (dCall F__law_order 2 [] [(true, dVar 0), (false, dVar 1)]))) r__law_far_2
def F__law_far : Fn := runFn 6 r__law_far_1
/-- _law_right: 0 _law_well_here, 1 _law_many, 2 _law_hidden, 3 _law_facts_here, 4 _law_other, 5 _law_any_order, 6 _law_one, 7 _law_two, 8 _law_fact_here -/
abbrev r__law_right_5_l_1_a_1 : DS := dRet (dCon (.bl false))
abbrev r__law_right_5_l_1 : DS := dIf (dNot (dTr (dCall F__law_way 4 [] [(false, dVar 1), (false, dVar 3), (false, dVar 6), (false, dVar 7)]))) (r__law_right_5_l_1_a_1) (dNext)
abbrev r__law_right_6_a_1_a_1 : DS := dRet (dCon (.bl false))
abbrev r__law_right_7 : DS := dRet (dAndV (dCall F__law_far 2 [] [(true, dVar 0), (false, dVar 1)]) (dCall F__law_far 2 [] [(true, dVar 0), (false, dOp2 addD (dCon (.int 1)) (dCall F__law_pick 2 [] [(true, dVar 0), (false, dCon (.int 60))]))]))
abbrev r__law_right_6_a_1 : DS := dIf (dNot (dTr (dCall F__law_way 4 [] [(false, dVar 1), (false, dVar 3), (false, dVar 5), (false, dVar 2)]))) (r__law_right_6_a_1_a_1) (dNext)
abbrev r__law_right_6_b_1_l_1_a_1 : DS := dRet (dCon (.bl false))
abbrev r__law_right_6_b_1_l_1 : DS := dIf (dNot (dTr (dCallLam F__law_fails 1 [1, 3, 6, 7] []))) (r__law_right_6_b_1_l_1_a_1) (dNext)
abbrev r__law_right_6_b_1 : DS := dFgB [6, 7] (dFor (iLst (dLst [(false, dTup [(false, dVar 5), (false, dVar 2)]), (false, dTup [(false, dVar 2), (false, dVar 5)]), (false, dTup [(false, dVar 5), (false, dVar 5)])])) (.many [6, 7]) (dFgE [6, 7] (r__law_right_6_b_1_l_1)))
abbrev r__law_right_6 : DS := dSeq (dIf (dB (dCmp eqD (dLc [8] (iAny (dVar 3)) (.one 8) (dNot (dTr (dCall F__law_holds 2 [] [(false, dVar 5), (false, dVar 8)]))) (dVar 8)) (dLst []))) (r__law_right_6_a_1) (r__law_right_6_b_1)) r__law_right_7
abbrev r__law_right_5 : DS := dSeq (dFgB [6, 7] (dFor (iLst (dLst [(false, dTup [(false, dVar 2), (false, dVar 4)]), (false, dTup [(false, dVar 4), (false, dVar 2)]), (false, dTup [(false, dVar 4), (false, dVar 4)])])) (.many [6, 7]) (dFgE [6, 7] (r__law_right_5_l_1)))) r__law_right_6
abbrev r__law_right_4 : DS := dSeq (dPar 4 5 true true (dSh (dCall F__law_wandered 3 [] [(true, dVar 0), (false, dVar 1), (false, dVar 3)])) (dSh (dCall F__law_order 2 [] [(true, dVar 0), (false, dVar 1)]))) r__law_right_5
abbrev r__law_right_3 : DS := dSeq (dSet 3 (dSh (dCall F__law_facts 4 [] [(true, dVar 0), (false, dVar 2), (false, dOp2 ixD (dLst [(false, dCon (.int 8)), (false, dCon (.int 8)), (false, dCon (.int 8)), (false, dCon (.int 60))]) (dCall F__law_pick 2 [] [(true, dVar 0), (false, dCon (.int 4))])), (false, dCon (.bl true))]))) r__law_right_4
abbrev r__law_right_2 : DS := dSeq (dSet 2 (dSh (dCall F__law_order 2 [] [(true, dVar 0), (false, dVar 1)]))) r__law_right_3
abbrev r__law_right_1 : DS := dSeq (dSet 1 (dOp2 addD (dCon (.int 1)) (dCall F__law_pick 2 [] [(true, dVar 0), (false, dCon (.int 14))]))) r__law_right_2
def F__law_right : Fn := runFn 9 r__law_right_1
/-- _law_well: 0 _law_script, 1 _law_k, 2 _law_cell -/
abbrev r__law_well_2 : DS := dRet (dLst [(false, dBi (scB maxV) [(true, dCon (.int 0)), (true, dOp2 subD (dVar 2) (dOp2 powD (dCon (.int 10)) (dCon (.int 18))))]), (false, dOp2 addD (dOp2 addD (dOp2 modD (dBi (scB intV) [(true, dBi (scB absV) [(true, dVar 2)])]) (dOp2 addD (dOp2 powD (dCon (.int 10)) (dCon (.int 31))) (dCon (.int 33)))) (dOp2 mulT (dCon (.int 6700417)) (dVar 1))) (dCon (.int 257))), (false, dCon (.int 0))])
abbrev r__law_well_1 : DS := dSeq (dSet 2 (dIfx (dB (dCmp ltC (dVar 1) (dBi (lenD) [(true, dVar 0)]))) (dOp2 ixD (dVar 0) (dVar 1)) (dCon (.int 0)))) r__law_well_2
def F__law_well : Fn := runFn 3 r__law_well_1
/-- law: 0 _law_script, 1 _law_k -/
abbrev r_law_1_l_1_a_1 : DS := dRet (dCon (.bl false))
abbrev r_law_1_l_1 : DS := dIf (dNot (dTr (dCall F__law_right 1 [] [(true, dCall F__law_well 2 [] [(false, dVar 0), (false, dVar 1)])]))) (r_law_1_l_1_a_1) (dNext)
abbrev r_law_2 : DS := dRet (dCon (.bl true))
abbrev r_law_1 : DS := dSeq (dFgB [1] (dFor (iRng rng1 [(true, dBi (scB maxV) [(true, dCon (.int 1)), (true, dBi (scB minV) [(true, dCon (.int 4)), (true, dBi (lenD) [(true, dVar 0)])])])]) (.one 1) (dFgE [1] (r_law_1_l_1)))) r_law_2
def F_law : Fn := runFn 2 r_law_1
end Law_strictranks_k26_ways_of_exchanges
end
end
section
set_option Elab.async false
set_option linter.all false
set_option maxRecDepth 100000
set_option maxHeartbeats 4000000
namespace Law_strictranks_k26_ways_of_exchanges
open PySem PySem.Spec PyProof.Rows L2 L2.VL L2.TX
/-- what the top has written -/
structure Txt (K : PySem.W.Frag) (mg : Str → Option Value) : Prop where
  n_ValueError : mg "ValueError" = none
  n_abs : mg "abs" = none
  n_all : mg "all" = none
  n_bool : mg "bool" = none
  n_enumerate : mg "enumerate" = none
  n_int : mg "int" = none
  n_isinstance : mg "isinstance" = none
  n_len : mg "len" = none
  n_list : mg "list" = none
  n_max : mg "max" = none
  n_min : mg "min" = none
  n_range : mg "range" = none
  n_repr : mg "repr" = none
  n_sorted : mg "sorted" = none
  n_str : mg "str" = none
  n_sum : mg "sum" = none
  n_zip : mg "zip" = none
  c_AGAINST : ∃ t, mg "AGAINST" = some (.str "L" t)
  c_FOR : ∃ t, mg "FOR" = some (.str "W" t)
  c_MOST_COUNTED : ∃ t, mg "MOST_COUNTED" = some (.int 14 t)
  c_MOST_FACTS : ∃ t, mg "MOST_FACTS" = some (.int 200 t)
  c_MOST_RULES : ∃ t, mg "MOST_RULES" = some (.int 60 t)
  c_SILENT : ∃ t, mg "SILENT" = some (.str "." t)
  f__law_pick : FnAt K mg "_law_pick" s__law_pick [] []
  f__law_order : FnAt K mg "_law_order" s__law_order [] []
  f__law_fact : FnAt K mg "_law_fact" s__law_fact [] []
  f__law_holds : FnAt K mg "_law_holds" s__law_holds [] []
  f__law_facts : FnAt K mg "_law_facts" s__law_facts [] []
  f__law_can : FnAt K mg "_law_can" s__law_can [] []
  f__law_wandered : FnAt K mg "_law_wandered" s__law_wandered [] []
  f_is_integer : FnAt K mg "is_integer" s_is_integer [.non] []
  f_need_count : FnAt K mg "need_count" s_need_count [.int 60] []
  f_fits_fact : FnAt K mg "fits_fact" s_fits_fact [] []
  f_need_facts : FnAt K mg "need_facts" s_need_facts [] []
  f_need_count_and_facts : FnAt K mg "need_count_and_facts" s_need_count_and_facts [.int 60] []
  f_is_order : FnAt K mg "is_order" s_is_order [] []
  f_need_order : FnAt K mg "need_order" s_need_order [.non] []
  f_holds_along : FnAt K mg "holds_along" s_holds_along [] []
  f_need_holding : FnAt K mg "need_holding" s_need_holding [] []
  f_way_between : FnAt K mg "way_between" s_way_between [] []
  f__law_pairs : FnAt K mg "_law_pairs" s__law_pairs [] []
  f__law_is_step : FnAt K mg "_law_is_step" s__law_is_step [] []
  f__law_way : FnAt K mg "_law_way" s__law_way [] []
  f__law_fails : FnAt K mg "_law_fails" s__law_fails [] []
  f_turned_pairs : FnAt K mg "turned_pairs" s_turned_pairs [] []
  f_exchanges_between : FnAt K mg "exchanges_between" s_exchanges_between [] []
  f__law_far : FnAt K mg "_law_far" s__law_far [] []
  f__law_right : FnAt K mg "_law_right" s__law_right [] []
  f__law_well : FnAt K mg "_law_well" s__law_well [] []
  f_law : FnAt K mg "law" s_law [] []
  x_Fails : ExcT K mg "Fails"
  x_InvalidCount : ExcT K mg "InvalidCount"
  x_InvalidFacts : ExcT K mg "InvalidFacts"
  x_InvalidOrder : ExcT K mg "InvalidOrder"
  x_RankError : ExcT K mg "RankError"
  m_Fails_RankError : PySem.W.exmOne K (.ref (He.ga K "Fails")) (.ref (He.ga K "RankError")) = some true
  m_InvalidCount_RankError : PySem.W.exmOne K (.ref (He.ga K "InvalidCount")) (.ref (He.ga K "RankError")) = some true
  m_InvalidFacts_RankError : PySem.W.exmOne K (.ref (He.ga K "InvalidFacts")) (.ref (He.ga K "RankError")) = some true
  m_InvalidOrder_RankError : PySem.W.exmOne K (.ref (He.ga K "InvalidOrder")) (.ref (He.ga K "RankError")) = some true
  k_Fails : KiT K "Fails"
  k_InvalidCount : KiT K "InvalidCount"
  k_InvalidFacts : KiT K "InvalidFacts"
  k_InvalidOrder : KiT K "InvalidOrder"
  z_Fails_Fails : PySem.W.kitOne K (.ref (He.ga K "Fails")) (.ref (He.ga K "Fails")) = some true
  z_Fails_InvalidOrder : PySem.W.kitOne K (.ref (He.ga K "Fails")) (.ref (He.ga K "InvalidOrder")) = some false
  z_InvalidCount_Fails : PySem.W.kitOne K (.ref (He.ga K "InvalidCount")) (.ref (He.ga K "Fails")) = some false
  z_InvalidCount_InvalidOrder : PySem.W.kitOne K (.ref (He.ga K "InvalidCount")) (.ref (He.ga K "InvalidOrder")) = some false
  z_InvalidFacts_Fails : PySem.W.kitOne K (.ref (He.ga K "InvalidFacts")) (.ref (He.ga K "Fails")) = some false
  z_InvalidFacts_InvalidOrder : PySem.W.kitOne K (.ref (He.ga K "InvalidFacts")) (.ref (He.ga K "InvalidOrder")) = some false
  z_InvalidOrder_Fails : PySem.W.kitOne K (.ref (He.ga K "InvalidOrder")) (.ref (He.ga K "Fails")) = some false
  z_InvalidOrder_InvalidOrder : PySem.W.kitOne K (.ref (He.ga K "InvalidOrder")) (.ref (He.ga K "InvalidOrder")) = some true
  zb_Fails_ValueError : PySem.W.kitOne K (.ref (He.ga K "Fails")) (.type "ValueError") = some true
  zb_InvalidCount_ValueError : PySem.W.kitOne K (.ref (He.ga K "InvalidCount")) (.type "ValueError") = some true
  zb_InvalidFacts_ValueError : PySem.W.kitOne K (.ref (He.ga K "InvalidFacts")) (.type "ValueError") = some true
  zb_InvalidOrder_ValueError : PySem.W.kitOne K (.ref (He.ga K "InvalidOrder")) (.type "ValueError") = some true
  a__law_right : mg "_law_right" = some (.ref (He.ga K "_law_right"))
section
variable {P : Program} {w : World} {K : PySem.W.Frag} {mg : Str → Option Value} {base : Heap}
theorem sc__law_pick : FnScope ["_law_well_here", "_law_bound", "_law_found", "_law_stirred"] ["_law_well_here", "_law_bound"] (defScope s__law_pick) := ⟨rfl, rfl, rfl, by decide +kernel, rfl, by decide +kernel, by decide +kernel⟩
theorem b__law_pick (T : Txt K mg) (f : Addr) (cdv : Value) (A : Around) (outer : List Env) (s : Shared) (H : Hp) (E : XK) (c : FnCx (cxOf (L2.CX P w) P w K mg base ["_law_well_here", "_law_bound", "_law_found", "_law_stirred"] "_law_pick" (defScope s__law_pick) f cdv A outer s H E) 0) :
  SSs (cxOf (L2.CX P w) P w K mg base ["_law_well_here", "_law_bound", "_law_found", "_law_stirred"] "_law_pick" (defScope s__law_pick) f cdv A outer s H E) (defBody s__law_pick) r__law_pick_1 :=
  ss_cons (ss_if (st_cmp (op_gtA c.room) cs_gtA.os (se_ix ix_seq os_ix (se_var 0) (se_int) (fun _ _ => rfl)) (se_int) (nomark _)) (ss_cons (ss_set 2 c.g (se_op op_mod os_mod (se_callTy (call_int1) os_int T.n_int (sa_cons (b := true) (se_ix ix_seq os_ix (se_var 0) (se_int) (fun _ _ => rfl)) (sa_nil))) (se_var 1)))
    (ss_cons (ss_setIx 0 (se_op op_fdivW os_div (se_ix ix_seq os_ix (se_var 0) (se_int) (fun _ _ => rfl)) (se_var 1)) (se_int))
    (ss_one (ss_ret (se_sh (se_var 2)))))) (ss_nil))
    (ss_cons (ss_setIx 0 (se_op op_addA os_add (se_ix ix_seq os_ix (se_var 0) (se_int) (fun _ _ => rfl)) (se_int)) (se_int))
    (ss_cons (ss_set 3 c.g (se_op op_mod os_mod (se_callTy (call_int1) os_int T.n_int (sa_cons (b := true) (se_op op_powW os_powW (se_op op_addA os_add (se_ix ix_seq os_ix (se_var 0) (se_int) (fun _ _ => rfl)) (se_op op_mulT os_mulT (se_int) (se_ix ix_seq os_ix (se_var 0) (se_int) (fun _ _ => rfl)))) (se_int)) (sa_nil))) (se_op op_addA os_add (se_op op_pow os_pow (se_int) (se_int)) (se_int))))
    (ss_cons (ss_set 3 c.g (se_op op_mod os_mod (se_callTy (call_int1) os_int T.n_int (sa_cons (b := true) (se_op op_powW os_powW (se_op op_addA os_add (se_var 3) (se_op op_mulT os_mulT (se_int) (se_ix ix_seq os_ix (se_var 0) (se_int) (fun _ _ => rfl)))) (se_int)) (sa_nil))) (se_op op_addA os_add (se_op op_pow os_pow (se_int) (se_int)) (se_int))))
    (ss_one (ss_ret (se_op op_mod os_mod (se_callTy (call_int1) os_int T.n_int (sa_cons (b := true) (se_op op_fdivW os_div (se_var 3) (se_int)) (sa_nil))) (se_var 1)))))))
theorem ok__law_pick (T : Txt K mg) : Def P w K mg base "_law_pick" 1 F__law_pick 2 [] :=
  def_ok T.f__law_pick sc__law_pick rfl (fun _ _ _ _ _ _ us hl => match us, hl with | [_, _], _ => rfl) (b__law_pick T)
theorem sc__law_order : FnScope ["_law_well_here", "_law_many", "_law_left", "_law_found", "_law_turn"] ["_law_well_here", "_law_many"] (defScope s__law_order) := ⟨rfl, rfl, rfl, by decide +kernel, rfl, by decide +kernel, by decide +kernel⟩
theorem b__law_order (T : Txt K mg) (f : Addr) (cdv : Value) (A : Around) (outer : List Env) (s : Shared) (H : Hp) (E : XK) (c : FnCx (cxOf (L2.CX P w) P w K mg base ["_law_well_here", "_law_many", "_law_left", "_law_found", "_law_turn"] "_law_order" (defScope s__law_order) f cdv A outer s H E) 1) :
  SSs (cxOf (L2.CX P w) P w K mg base ["_law_well_here", "_law_many", "_law_left", "_law_found", "_law_turn"] "_law_order" (defScope s__law_order) f cdv A outer s H E) (defBody s__law_order) r__law_order_1 :=
  ss_cons (ss_par 2 3 true true c.g (se_lrg c.g.calm T.n_list T.n_range (se_var 1)) (se_lst (sa_nil)))
    (ss_cons (ss_fgB [4] (ss_for c.g (si_rng1 T.n_range (sa_cons (b := true) (se_var 1) (sa_nil))) (sg_name 4 c.g) (sss_fgE [4] (ss_one (ss_expr (se_mut 3 PySem.F.slot_list_append PySem.F.type_list_append mt_append ms_append (sa_cons (b := false) (se_mut 2 PySem.F.slot_list_pop PySem.F.type_list_pop mt_popAt ms_pop (sa_cons (b := false) (se_call (dvs := []) (ok__law_pick T) c.g.gu (c.room.mono (by decide)) (sa_cons (b := true) (se_var 0) (sa_cons (b := false) (se_callB (call_len) os_len T.n_len (sa_cons (b := true) (se_var 2) (sa_nil))) (sa_nil)))) (sa_nil))) (sa_nil))))))))
    (ss_one (ss_ret (se_var 3))))
theorem ok__law_order (T : Txt K mg) : Def P w K mg base "_law_order" 2 F__law_order 2 [] :=
  def_ok T.f__law_order sc__law_order rfl (fun _ _ _ _ _ _ us hl => match us, hl with | [_, _], _ => rfl) (b__law_order T)
theorem sc__law_fact : FnScope ["_law_well_here", "_law_many", "_law_kind", "_law_signs", "_law_sign", "_law_rule"] ["_law_well_here", "_law_many", "_law_kind"] (defScope s__law_fact) := ⟨rfl, rfl, rfl, by decide +kernel, rfl, by decide +kernel, by decide +kernel⟩
theorem b__law_fact (T : Txt K mg) (f : Addr) (cdv : Value) (A : Around) (outer : List Env) (s : Shared) (H : Hp) (E : XK) (c : FnCx (cxOf (L2.CX P w) P w K mg base ["_law_well_here", "_law_many", "_law_kind", "_law_signs", "_law_sign", "_law_rule"] "_law_fact" (defScope s__law_fact) f cdv A outer s H E) 1) :
  SSs (cxOf (L2.CX P w) P w K mg base ["_law_well_here", "_law_many", "_law_kind", "_law_signs", "_law_sign", "_law_rule"] "_law_fact" (defScope s__law_fact) f cdv A outer s H E) (defBody s__law_fact) r__law_fact_1 :=
  ss_cons (ss_setLc [("_law_rule", 5)] 3 c.g (si_rng1 T.n_range (sa_cons (b := true) (se_var 1) (sa_nil))) (by kernel_rfl) (fun s1 H1 C1 cl1 fp1 => sg_name 5 (cxg_blk c.g s1 H1 _ _ fp1)) (fun s1 H1 C1 cl1 fp1 => sts_nil) (fun s1 H1 C1 cl1 fp1 => se_ix ix_seq os_ix (se_str) (se_call (dvs := []) (ok__law_pick T) c.g.gu (c.room.mono (by decide)) (sa_cons (b := true) (se_var 0) (sa_cons (b := false) (se_int) (sa_nil)))) (fun _ _ => rfl)) (sw_true rfl rfl rfl (by decide +kernel)))
    (ss_cons (ss_if (st_cmp (op_gtA c.room) cs_gtA.os (se_var 2) (se_int) (nomark _)) (ss_cons (ss_set 3 c.g (se_op op_mulT os_mulT (se_lst (sa_cons (b := false) (se_str) (sa_nil))) (se_var 1)))
    (ss_one (ss_fgB [4] (ss_for c.g (si_any (se_ix ix_seq os_ix (se_lst (sa_cons (b := false) (se_str) (sa_cons (b := false) (se_str) (sa_nil)))) (se_op op_sub os_sub (se_var 2) (se_int)) (fun _ _ => rfl))) (sg_name 4 c.g) (sss_fgE [4] (ss_one (ss_setIx 3 (se_var 4) (se_call (dvs := []) (ok__law_pick T) c.g.gu (c.room.mono (by decide)) (sa_cons (b := true) (se_var 0) (sa_cons (b := false) (se_var 1) (sa_nil))))))))))) (ss_nil))
    (ss_one (ss_ret (se_mt PySem.F.plainAttrs_str PySem.F.slot_str_join PySem.F.type_str_join mt_join om_join (se_str) (sa_cons (b := true) (se_var 3) (sa_nil))))))
theorem ok__law_fact (T : Txt K mg) : Def P w K mg base "_law_fact" 2 F__law_fact 3 [] :=
  def_ok T.f__law_fact sc__law_fact rfl (fun _ _ _ _ _ _ us hl => match us, hl with | [_, _, _], _ => rfl) (b__law_fact T)
theorem sc__law_holds : FnScope ["_law_order_here", "_law_fact_here", "_law_rule"] ["_law_order_here", "_law_fact_here"] (defScope s__law_holds) := ⟨rfl, rfl, rfl, by decide +kernel, rfl, by decide +kernel, by decide +kernel⟩
theorem b__law_holds (T : Txt K mg) (f : Addr) (cdv : Value) (A : Around) (outer : List Env) (s : Shared) (H : Hp) (E : XK) (c : FnCx (cxOf (L2.CX P w) P w K mg base ["_law_order_here", "_law_fact_here", "_law_rule"] "_law_holds" (defScope s__law_holds) f cdv A outer s H E) 0) :
  SSs (cxOf (L2.CX P w) P w K mg base ["_law_order_here", "_law_fact_here", "_law_rule"] "_law_holds" (defScope s__law_holds) f cdv A outer s H E) (defBody s__law_holds) r__law_holds_1 :=
  ss_one (ss_ret (se_cmp (op_neA c.room) cs_ne.os (se_slS (se_rep1 (se1_mt PySem.F.plainAttrs_str PySem.F.slot_str_join PySem.F.type_str_join mt_join om_join (se1_str) (sa_cons (b := true) (se_lc [("_law_rule", 2)] c.g (si_any (se_var 0)) (by kernel_rfl) (fun s1 H1 C1 cl1 fp1 => sg_name 2 (cxg_blk c.g s1 H1 _ _ fp1)) (fun s1 H1 C1 cl1 fp1 => sts_nil) (fun s1 H1 C1 cl1 fp1 => se_ix ix_seq os_ix (se_var 1) (se_var 2) (fun _ _ => rfl))) (sa_nil)))) (sp_none) (sp_some (se_int))) (se_str) (nomark _)))
theorem ok__law_holds (T : Txt K mg) : Def P w K mg base "_law_holds" 1 F__law_holds 2 [] :=
  def_ok T.f__law_holds sc__law_holds rfl (fun _ _ _ _ _ _ us hl => match us, hl with | [_, _], _ => rfl) (b__law_holds T)
theorem sc__law_facts : FnScope ["_law_well_here", "_law_order_here", "_law_most", "_law_is_true", "_law_kind", "_law_found", "_law_turn", "_law_fact_here", "_law_way_here"] ["_law_well_here", "_law_order_here", "_law_most", "_law_is_true"] (defScope s__law_facts) := ⟨rfl, rfl, rfl, by decide +kernel, rfl, by decide +kernel, by decide +kernel⟩
theorem b__law_facts (T : Txt K mg) (f : Addr) (cdv : Value) (A : Around) (outer : List Env) (s : Shared) (H : Hp) (E : XK) (c : FnCx (cxOf (L2.CX P w) P w K mg base ["_law_well_here", "_law_order_here", "_law_most", "_law_is_true", "_law_kind", "_law_found", "_law_turn", "_law_fact_here", "_law_way_here"] "_law_facts" (defScope s__law_facts) f cdv A outer s H E) 2) :
  SSsT (cxOf (L2.CX P w) P w K mg base ["_law_well_here", "_law_order_here", "_law_most", "_law_is_true", "_law_kind", "_law_found", "_law_turn", "_law_fact_here", "_law_way_here"] "_law_facts" (defScope s__law_facts) f cdv A outer s H E) (defBody s__law_facts) r__law_facts_1 :=
  sst_cons (sst_of (ss_par 4 5 true true c.g (se_call (dvs := []) (ok__law_pick T) c.g.gu (c.room.mono (by decide)) (sa_cons (b := true) (se_var 0) (sa_cons (b := false) (se_int) (sa_nil)))) (se_lst (sa_nil))))
    (sst_cons (sst_fgB [6, 7, 8] (sst_for c.g (si_rng1 T.n_range (sa_cons (b := true) (se_call (dvs := []) (ok__law_pick T) c.g.gu (c.room.mono (by decide)) (sa_cons (b := true) (se_var 0) (sa_cons (b := false) (se_op op_addA os_add (se_var 2) (se_int)) (sa_nil)))) (sa_nil))) (sg_name 6 c.g) (ssst_fgE [6, 7, 8] (sst_cons (sst_of (ss_set 7 c.g (se_call (dvs := []) (ok__law_fact T) c.g.gu (c.room.mono (by decide)) (sa_cons (b := true) (se_var 0) (sa_cons (b := false) (se_callB (call_len) os_len T.n_len (sa_cons (b := true) (se_var 1) (sa_nil))) (sa_cons (b := false) (se_var 4) (sa_nil)))))))
    (sst_cons (sst_if (SW.st (sw_and (st_val (se_var 3)) (sw_and1 (st_not (st_val (se_call (dvs := []) (ok__law_holds T) c.g.gu (c.room.mono (by decide)) (sa_cons (b := false) (se_var 1) (sa_cons (b := false) (se_var 7) (sa_nil))))))))) (sst_one (sst_set 7 c.g (set_replT (set_replT (set_repl (se_var 7)))))) (ssst_of (ss_nil)))
    (ssst_of (ss_cons (ss_set 8 c.g (se_call (dvs := []) (ok__law_pick T) c.g.gu (c.room.mono (by decide)) (sa_cons (b := true) (se_var 0) (sa_cons (b := false) (se_int) (sa_nil)))))
    (ss_cons (ss_if (st_cmp (op_eqA c.room) cs_eq.os (se_var 8) (se_int) (nomark _)) (ss_one (ss_set 7 c.g (se_op op_mulT os_mulT (se_str) (se_callB (call_len) os_len T.n_len (sa_cons (b := true) (se_var 1) (sa_nil)))))) (ss_nil))
    (ss_cons (ss_if (SW.st (sw_and (st_cmp (op_eqA c.room) cs_eq.os (se_var 8) (se_int) (nomark _)) (sw_and1 (st_cmp (op_neA c.room) cs_ne.os (se_var 5) (se_lst (sa_nil)) (nomark _))))) (ss_one (ss_set 7 c.g (se_ix ix_seq os_ix (se_var 5) (se_call (dvs := []) (ok__law_pick T) c.g.gu (c.room.mono (by decide)) (sa_cons (b := true) (se_var 0) (sa_cons (b := false) (se_callB (call_len) os_len T.n_len (sa_cons (b := true) (se_var 5) (sa_nil))) (sa_nil)))) (fun _ _ => rfl)))) (ss_nil))
    (ss_one (ss_expr (se_mut 5 PySem.F.slot_list_append PySem.F.type_list_append mt_append ms_append (sa_cons (b := false) (se_var 7) (sa_nil))))))))))))))
    (ssst_of (ss_one (ss_ret (se_var 5)))))
theorem ok__law_facts (T : Txt K mg) : Def P w K mg base "_law_facts" 3 F__law_facts 4 [] :=
  def_okT T.f__law_facts sc__law_facts rfl (fun _ _ _ _ _ _ us hl => match us, hl with | [_, _, _, _], _ => rfl) (b__law_facts T)
theorem sc__law_can : FnScope ["_law_facts_here", "_law_front", "_law_rule", "_law_against", "_law_fact_here", "_law_one"] ["_law_facts_here", "_law_front", "_law_rule"] (defScope s__law_can) := ⟨rfl, rfl, rfl, by decide +kernel, rfl, by decide +kernel, by decide +kernel⟩
theorem b__law_can (T : Txt K mg) (f : Addr) (cdv : Value) (A : Around) (outer : List Env) (s : Shared) (H : Hp) (E : XK) (c : FnCx (cxOf (L2.CX P w) P w K mg base ["_law_facts_here", "_law_front", "_law_rule", "_law_against", "_law_fact_here", "_law_one"] "_law_can" (defScope s__law_can) f cdv A outer s H E) 0) :
  SSs (cxOf (L2.CX P w) P w K mg base ["_law_facts_here", "_law_front", "_law_rule", "_law_against", "_law_fact_here", "_law_one"] "_law_can" (defScope s__law_can) f cdv A outer s H E) (defBody s__law_can) r__law_can_1 :=
  ss_cons (ss_shE [3] (ss_setLc [("_law_fact_here", 4)] 3 c.g (si_any (se_var 0)) (by kernel_rfl) (fun s1 H1 C1 cl1 fp1 => sg_name 4 (cxg_blk c.g s1 H1 _ _ fp1)) (fun s1 H1 C1 cl1 fp1 => sts_one (st_cmp (op_eqA c.room) cs_eq.os (se_ix ix_seq os_ix (se_var 4) (se_var 2) (fun _ _ => rfl)) (se_str) (nomark _))) (fun s1 H1 C1 cl1 fp1 => se_var 4) (sw_true rfl rfl rfl (by decide +kernel))))
    (ss_one (ss_ret (se_cmp (op_eqA c.room) cs_eq.os (se_lc [("_law_fact_here", 4)] c.g (si_any (se_var 3)) (by kernel_rfl) (fun s1 H1 C1 cl1 fp1 => sg_name 4 (cxg_blk c.g s1 H1 _ _ fp1)) (fun s1 H1 C1 cl1 fp1 => sts_one (st_cmp (op_notInB c.room) cs_notInB.os (se_str) (se_lc [("_law_one", 5)] (cxg_blk c.g s1 H1 _ _ fp1) (si_any (se_var 1)) (by kernel_rfl) (fun s2 H2 C2 cl2 fp2 => sg_name 5 (cxg_blk (cxg_blk c.g s1 H1 _ _ fp1) s2 H2 _ _ fp2)) (fun s2 H2 C2 cl2 fp2 => sts_nil) (fun s2 H2 C2 cl2 fp2 => se_ix ix_seq os_ix (se_var 4) (se_var 5) (fun _ _ => rfl))) rfl)) (fun s1 H1 C1 cl1 fp1 => se_var 4)) (se_lst (sa_nil)) (nomark _))))
theorem ok__law_can (T : Txt K mg) : Def P w K mg base "_law_can" 1 F__law_can 3 [] :=
  def_ok T.f__law_can sc__law_can rfl (fun _ _ _ _ _ _ us hl => match us, hl with | [_, _, _], _ => rfl) (b__law_can T)
theorem sc__law_wandered : FnScope ["_law_well_here", "_law_many", "_law_facts_here", "_law_found", "_law_fit", "_law_rule"] ["_law_well_here", "_law_many", "_law_facts_here"] (defScope s__law_wandered) := ⟨rfl, rfl, rfl, by decide +kernel, rfl, by decide +kernel, by decide +kernel⟩
theorem b__law_wandered (T : Txt K mg) (f : Addr) (cdv : Value) (A : Around) (outer : List Env) (s : Shared) (H : Hp) (E : XK) (c : FnCx (cxOf (L2.CX P w) P w K mg base ["_law_well_here", "_law_many", "_law_facts_here", "_law_found", "_law_fit", "_law_rule"] "_law_wandered" (defScope s__law_wandered) f cdv A outer s H E) 1) :
  SSs (cxOf (L2.CX P w) P w K mg base ["_law_well_here", "_law_many", "_law_facts_here", "_law_found", "_law_fit", "_law_rule"] "_law_wandered" (defScope s__law_wandered) f cdv A outer s H E) (defBody s__law_wandered) r__law_wandered_1 :=
  ss_cons (ss_set 3 c.g (se_lst (sa_nil)))
    (ss_cons (ss_fgB [4] (ss_while c.g (st_cmp op_lt cs_int.os (se_callB (call_len) os_len T.n_len (sa_cons (b := true) (se_var 3) (sa_nil))) (se_var 1) (nomark _)) (sss_fgE [4] (ss_cons (ss_shE [4] (ss_setLc [("_law_rule", 5)] 4 c.g (si_rng1 T.n_range (sa_cons (b := true) (se_var 1) (sa_nil))) (by kernel_rfl) (fun s1 H1 C1 cl1 fp1 => sg_name 5 (cxg_blk c.g s1 H1 _ _ fp1)) (fun s1 H1 C1 cl1 fp1 => sts_one (SW.st (sw_and (st_cmp (op_notInB c.room) cs_notInB.os (se_var 5) (se_var 3) rfl) (sw_and1 (st_val (se_bor (se_call (dvs := []) (ok__law_can T) c.g.gu (c.room.mono (by decide)) (sa_cons (b := false) (se_var 2) (sa_cons (b := false) (se_var 3) (sa_cons (b := false) (se_var 5) (sa_nil))))))))))) (fun s1 H1 C1 cl1 fp1 => se_var 5) (sw_true rfl rfl rfl (by decide +kernel))))
    (ss_one (ss_expr (se_mut 3 PySem.F.slot_list_append PySem.F.type_list_append mt_append ms_append (sa_cons (b := false) (se_ix ix_seq os_ix (se_var 4) (se_call (dvs := []) (ok__law_pick T) c.g.gu (c.room.mono (by decide)) (sa_cons (b := true) (se_var 0) (sa_cons (b := false) (se_callB (call_len) os_len T.n_len (sa_cons (b := true) (se_var 4) (sa_nil))) (sa_nil)))) (fun _ _ => rfl)) (sa_nil)))))))))
    (ss_one (ss_ret (se_var 3))))
theorem ok__law_wandered (T : Txt K mg) : Def P w K mg base "_law_wandered" 2 F__law_wandered 3 [] :=
  def_ok T.f__law_wandered sc__law_wandered rfl (fun _ _ _ _ _ _ us hl => match us, hl with | [_, _, _], _ => rfl) (b__law_wandered T)
theorem sc_is_integer : FnScope ["value", "low", "high"] ["value", "low", "high"] (defScope s_is_integer) := ⟨rfl, rfl, rfl, by decide +kernel, rfl, by decide +kernel, by decide +kernel⟩
theorem b_is_integer (T : Txt K mg) (f : Addr) (cdv : Value) (A : Around) (outer : List Env) (s : Shared) (H : Hp) (E : XK) (c : FnCx (cxOf (L2.CX P w) P w K mg base ["value", "low", "high"] "is_integer" (defScope s_is_integer) f cdv A outer s H E) 0) :
  SSs (cxOf (L2.CX P w) P w K mg base ["value", "low", "high"] "is_integer" (defScope s_is_integer) f cdv A outer s H E) (defBody s_is_integer) r_is_integer_1 :=
  ss_cons (ss_if (SW.st (sw_or (st_not (st_val (se_isi .int (se_var 0) T.n_isinstance T.n_int))) (sw_or1 (st_val (se_isi .bool (se_var 0) T.n_isinstance T.n_bool))))) (ss_one (ss_ret (se_bl))) (ss_nil))
    (ss_one (ss_ret (se_and (se_cmp op_le cs_int.os (se_var 1) (se_var 0) (nomark _)) (se_one (se_or (se_cmp op_isN cs_isN.os (se_var 2) (se_non) (nomark _)) (se_one (se_cmp op_le cs_int.os (se_var 0) (se_var 2) (nomark _))))))))
theorem ok_is_integer_2 (T : Txt K mg) : Def P w K mg base "is_integer" 1 F_is_integer 3 ([.non]) :=
  def_okD 2 0 T.f_is_integer sc_is_integer rfl (by simp) rfl (fun _ _ _ _ _ _ _ us its h1 h2 => match us, h1, its, h2 with | [_, _], _, [_], _ => ⟨_, rfl, rfl⟩) (b_is_integer T)
theorem ok_is_integer (T : Txt K mg) : Def P w K mg base "is_integer" 1 F_is_integer 3 ([]) :=
  def_okD 3 1 T.f_is_integer sc_is_integer rfl (by simp) rfl (fun _ _ _ _ _ _ _ us its h1 h2 => match us, h1, its, h2 with | [_, _, _], _, [_], _ => ⟨_, rfl, rfl⟩) (b_is_integer T)
theorem sc_need_count : FnScope ["count", "most"] ["count", "most"] (defScope s_need_count) := ⟨rfl, rfl, rfl, by decide +kernel, rfl, by decide +kernel, by decide +kernel⟩
theorem b_need_count (T : Txt K mg) (f : Addr) (cdv : Value) (A : Around) (outer : List Env) (s : Shared) (H : Hp) (E : XK) (c : FnCx (cxOf (L2.CX P w) P w K mg base ["count", "most"] "need_count" (defScope s_need_count) f cdv A outer s H E) 1) :
  SSs (cxOf (L2.CX P w) P w K mg base ["count", "most"] "need_count" (defScope s_need_count) f cdv A outer s H E) (defBody s_need_count) r_need_count_1 :=
  ss_one (ss_if (st_not (st_val (se_call (dvs := []) (ok_is_integer T) c.g.gu (c.room.mono (by decide)) (sa_cons (b := false) (se_var 0) (sa_cons (b := false) (se_int) (sa_cons (b := false) (se_var 1) (sa_nil))))))) (ss_one (ss_raise0 c.g T.x_InvalidCount)) (ss_nil))
theorem ok_need_count (T : Txt K mg) : Def P w K mg base "need_count" 2 F_need_count 2 ([]) :=
  def_okD 2 1 T.f_need_count sc_need_count rfl (by simp) rfl (fun _ _ _ _ _ _ _ us its h1 h2 => match us, h1, its, h2 with | [_, _], _, [_], _ => ⟨_, rfl, rfl⟩) (b_need_count T)
theorem sc_fits_fact : FnScope ["count", "value", "sign"] ["count", "value"] (defScope s_fits_fact) := ⟨rfl, rfl, rfl, by decide +kernel, rfl, by decide +kernel, by decide +kernel⟩
theorem b_fits_fact (T : Txt K mg) (f : Addr) (cdv : Value) (A : Around) (outer : List Env) (s : Shared) (H : Hp) (E : XK) (c : FnCx (cxOf (L2.CX P w) P w K mg base ["count", "value", "sign"] "fits_fact" (defScope s_fits_fact) f cdv A outer s H E) 0) :
  SSs (cxOf (L2.CX P w) P w K mg base ["count", "value", "sign"] "fits_fact" (defScope s_fits_fact) f cdv A outer s H E) (defBody s_fits_fact) r_fits_fact_1 :=
  ss_cons (ss_if (SW.st (sw_or (st_not (st_val (se_isi .str (se_var 1) T.n_isinstance T.n_str))) (sw_or1 (st_cmp (op_neA c.room) cs_ne.os (se_callB (call_len) os_len T.n_len (sa_cons (b := true) (se_var 1) (sa_nil))) (se_var 0) (nomark _))))) (ss_one (ss_ret (se_bl))) (ss_nil))
    (ss_one (ss_ret (se_callB (cr_all c.g.calm) os_all T.n_all (sa_cons (b := true) (se_lc [("sign", 2)] c.g (si_any (se_var 1)) (by kernel_rfl) (fun s1 H1 C1 cl1 fp1 => sg_name 2 (cxg_blk c.g s1 H1 _ _ fp1)) (fun s1 H1 C1 cl1 fp1 => sts_nil) (fun s1 H1 C1 cl1 fp1 => se_cmp (op_inB c.room) cs_inB.os (se_var 2) (se_tup (sa_cons (b := false) (se_gstr T.c_FOR) (sa_cons (b := false) (se_gstr T.c_AGAINST) (sa_cons (b := false) (se_gstr T.c_SILENT) (sa_nil))))) rfl)) (sa_nil)))))
theorem ok_fits_fact (T : Txt K mg) : Def P w K mg base "fits_fact" 1 F_fits_fact 2 [] :=
  def_ok T.f_fits_fact sc_fits_fact rfl (fun _ _ _ _ _ _ us hl => match us, hl with | [_, _], _ => rfl) (b_fits_fact T)
theorem sc_need_facts : FnScope ["count", "facts", "fact"] ["count", "facts"] (defScope s_need_facts) := ⟨rfl, rfl, rfl, by decide +kernel, rfl, by decide +kernel, by decide +kernel⟩
theorem b_need_facts (T : Txt K mg) (f : Addr) (cdv : Value) (A : Around) (outer : List Env) (s : Shared) (H : Hp) (E : XK) (c : FnCx (cxOf (L2.CX P w) P w K mg base ["count", "facts", "fact"] "need_facts" (defScope s_need_facts) f cdv A outer s H E) 1) :
  SSs (cxOf (L2.CX P w) P w K mg base ["count", "facts", "fact"] "need_facts" (defScope s_need_facts) f cdv A outer s H E) (defBody s_need_facts) r_need_facts_1 :=
  ss_one (ss_if (SW.st (sw_or (st_not (st_val (se_isi .list (se_var 1) T.n_isinstance T.n_list))) (sw_or (st_cmp (op_gtA c.room) cs_gtA.os (se_callB (call_len) os_len T.n_len (sa_cons (b := true) (se_var 1) (sa_nil))) (se_gint T.c_MOST_FACTS) (nomark _)) (sw_or1 (st_not (st_val (se_callB (cr_all c.g.calm) os_all T.n_all (sa_cons (b := true) (se_lc [("fact", 2)] c.g (si_any (se_var 1)) (by kernel_rfl) (fun s1 H1 C1 cl1 fp1 => sg_name 2 (cxg_blk c.g s1 H1 _ _ fp1)) (fun s1 H1 C1 cl1 fp1 => sts_nil) (fun s1 H1 C1 cl1 fp1 => se_call (dvs := []) (ok_fits_fact T) c.g.gu (c.room.mono (by decide)) (sa_cons (b := false) (se_var 0) (sa_cons (b := false) (se_var 2) (sa_nil))))) (sa_nil))))))))) (ss_one (ss_raise0 c.g T.x_InvalidFacts)) (ss_nil))
theorem ok_need_facts (T : Txt K mg) : Def P w K mg base "need_facts" 2 F_need_facts 2 [] :=
  def_ok T.f_need_facts sc_need_facts rfl (fun _ _ _ _ _ _ us hl => match us, hl with | [_, _], _ => rfl) (b_need_facts T)
theorem sc_need_count_and_facts : FnScope ["count", "facts", "most"] ["count", "facts", "most"] (defScope s_need_count_and_facts) := ⟨rfl, rfl, rfl, by decide +kernel, rfl, by decide +kernel, by decide +kernel⟩
theorem b_need_count_and_facts (T : Txt K mg) (f : Addr) (cdv : Value) (A : Around) (outer : List Env) (s : Shared) (H : Hp) (E : XK) (c : FnCx (cxOf (L2.CX P w) P w K mg base ["count", "facts", "most"] "need_count_and_facts" (defScope s_need_count_and_facts) f cdv A outer s H E) 2) :
  SSs (cxOf (L2.CX P w) P w K mg base ["count", "facts", "most"] "need_count_and_facts" (defScope s_need_count_and_facts) f cdv A outer s H E) (defBody s_need_count_and_facts) r_need_count_and_facts_1 :=
  ss_cons (ss_expr (se_call (dvs := []) (ok_need_count T) c.g.gu (c.room.mono (by decide)) (sa_cons (b := false) (se_var 0) (sa_cons (b := false) (se_var 2) (sa_nil)))))
    (ss_one (ss_expr (se_call (dvs := []) (ok_need_facts T) c.g.gu (c.room.mono (by decide)) (sa_cons (b := false) (se_var 0) (sa_cons (b := false) (se_var 1) (sa_nil))))))
theorem ok_need_count_and_facts (T : Txt K mg) : Def P w K mg base "need_count_and_facts" 3 F_need_count_and_facts 3 ([]) :=
  def_okD 3 1 T.f_need_count_and_facts sc_need_count_and_facts rfl (by simp) rfl (fun _ _ _ _ _ _ _ us its h1 h2 => match us, h1, its, h2 with | [_, _, _], _, [_], _ => ⟨_, rfl, rfl⟩) (b_need_count_and_facts T)
theorem sc_is_order : FnScope ["value", "rule"] ["value"] (defScope s_is_order) := ⟨rfl, rfl, rfl, by decide +kernel, rfl, by decide +kernel, by decide +kernel⟩
theorem b_is_order (T : Txt K mg) (f : Addr) (cdv : Value) (A : Around) (outer : List Env) (s : Shared) (H : Hp) (E : XK) (c : FnCx (cxOf (L2.CX P w) P w K mg base ["value", "rule"] "is_order" (defScope s_is_order) f cdv A outer s H E) 1) :
  SSs (cxOf (L2.CX P w) P w K mg base ["value", "rule"] "is_order" (defScope s_is_order) f cdv A outer s H E) (defBody s_is_order) r_is_order_1 :=
  ss_cons (ss_if (SW.st (sw_or (st_not (st_val (se_isi .list (se_var 0) T.n_isinstance T.n_list))) (sw_or1 (st_not (st_chain op_le op_le cs_int cs_int (se_int) (se_callB (call_len) os_len T.n_len (sa_cons (b := true) (se_var 0) (sa_nil))) (se_gint T.c_MOST_RULES)))))) (ss_one (ss_ret (se_bl))) (ss_nil))
    (ss_one (ss_ret (se_and (se_callB (cr_all c.g.calm) os_all T.n_all (sa_cons (b := true) (se_lc [("rule", 1)] c.g (si_any (se_var 0)) (by kernel_rfl) (fun s1 H1 C1 cl1 fp1 => sg_name 1 (cxg_blk c.g s1 H1 _ _ fp1)) (fun s1 H1 C1 cl1 fp1 => sts_nil) (fun s1 H1 C1 cl1 fp1 => se_call (dvs := [.non]) (ok_is_integer_2 T) c.g.gu (c.room.mono (by decide)) (sa_cons (b := false) (se_var 1) (sa_cons (b := false) (se_int) (sa_nil))))) (sa_nil))) (se_one (se_cmp (op_eqA c.room) cs_eq.os (se_callB (cr_sortA) os_sortA T.n_sorted (sa_cons (b := true) (se_var 0) (sa_nil))) (se_lrg c.g.calm T.n_list T.n_range (se_callB (call_len) os_len T.n_len (sa_cons (b := true) (se_var 0) (sa_nil)))) (nomark _))))))
theorem ok_is_order (T : Txt K mg) : Def P w K mg base "is_order" 2 F_is_order 1 [] :=
  def_ok T.f_is_order sc_is_order rfl (fun _ _ _ _ _ _ us hl => match us, hl with | [_], _ => rfl) (b_is_order T)
theorem sc_need_order : FnScope ["order", "count"] ["order", "count"] (defScope s_need_order) := ⟨rfl, rfl, rfl, by decide +kernel, rfl, by decide +kernel, by decide +kernel⟩
theorem b_need_order (T : Txt K mg) (f : Addr) (cdv : Value) (A : Around) (outer : List Env) (s : Shared) (H : Hp) (E : XK) (c : FnCx (cxOf (L2.CX P w) P w K mg base ["order", "count"] "need_order" (defScope s_need_order) f cdv A outer s H E) 2) :
  SSs (cxOf (L2.CX P w) P w K mg base ["order", "count"] "need_order" (defScope s_need_order) f cdv A outer s H E) (defBody s_need_order) r_need_order_1 :=
  ss_one (ss_if (SW.st (sw_or (st_not (st_val (se_call (dvs := []) (ok_is_order T) c.g.gu (c.room.mono (by decide)) (sa_cons (b := false) (se_var 0) (sa_nil))))) (sw_or1 (SW.st (sw_and (st_cmp op_notN cs_notN.os (se_var 1) (se_non) (nomark _)) (sw_and1 (st_cmp (op_neA c.room) cs_ne.os (se_callB (call_len) os_len T.n_len (sa_cons (b := true) (se_var 0) (sa_nil))) (se_var 1) (nomark _)))))))) (ss_one (ss_raise0 c.g T.x_InvalidOrder)) (ss_nil))
theorem ok_need_order_1 (T : Txt K mg) : Def P w K mg base "need_order" 3 F_need_order 2 ([.non]) :=
  def_okD 1 0 T.f_need_order sc_need_order rfl (by simp) rfl (fun _ _ _ _ _ _ _ us its h1 h2 => match us, h1, its, h2 with | [_], _, [_], _ => ⟨_, rfl, rfl⟩) (b_need_order T)
theorem ok_need_order (T : Txt K mg) : Def P w K mg base "need_order" 3 F_need_order 2 ([]) :=
  def_okD 2 1 T.f_need_order sc_need_order rfl (by simp) rfl (fun _ _ _ _ _ _ _ us its h1 h2 => match us, h1, its, h2 with | [_, _], _, [_], _ => ⟨_, rfl, rfl⟩) (b_need_order T)
theorem sc_holds_along : FnScope ["order", "fact", "signs", "rule"] ["order", "fact"] (defScope s_holds_along) := ⟨rfl, rfl, rfl, by decide +kernel, rfl, by decide +kernel, by decide +kernel⟩
theorem b_holds_along (T : Txt K mg) (f : Addr) (cdv : Value) (A : Around) (outer : List Env) (s : Shared) (H : Hp) (E : XK) (c : FnCx (cxOf (L2.CX P w) P w K mg base ["order", "fact", "signs", "rule"] "holds_along" (defScope s_holds_along) f cdv A outer s H E) 0) :
  SSs (cxOf (L2.CX P w) P w K mg base ["order", "fact", "signs", "rule"] "holds_along" (defScope s_holds_along) f cdv A outer s H E) (defBody s_holds_along) r_holds_along_1 :=
  ss_cons (ss_shE [2] (ss_setLc [("rule", 3)] 2 c.g (si_any (se_var 0)) (by kernel_rfl) (fun s1 H1 C1 cl1 fp1 => sg_name 3 (cxg_blk c.g s1 H1 _ _ fp1)) (fun s1 H1 C1 cl1 fp1 => sts_one (st_cmp (op_neA c.room) cs_ne.os (se_ix ix_seq os_ix (se_var 1) (se_var 3) (fun _ _ => rfl)) (se_gstr T.c_SILENT) (nomark _))) (fun s1 H1 C1 cl1 fp1 => se_ix ix_seq os_ix (se_var 1) (se_var 3) (fun _ _ => rfl)) (sw_true rfl rfl rfl (by decide +kernel))))
    (ss_one (ss_ret (se_or (se_cmp (op_eqA c.room) cs_eq.os (se_var 2) (se_lst (sa_nil)) (nomark _)) (se_one (se_cmp (op_eqA c.room) cs_eq.os (se_ix ix_seq os_ix (se_var 2) (se_int) (fun _ _ => rfl)) (se_gstr T.c_FOR) (nomark _))))))
theorem ok_holds_along (T : Txt K mg) : Def P w K mg base "holds_along" 1 F_holds_along 2 [] :=
  def_ok T.f_holds_along sc_holds_along rfl (fun _ _ _ _ _ _ us hl => match us, hl with | [_, _], _ => rfl) (b_holds_along T)
theorem sc_need_holding : FnScope ["facts", "order", "fact"] ["facts", "order"] (defScope s_need_holding) := ⟨rfl, rfl, rfl, by decide +kernel, rfl, by decide +kernel, by decide +kernel⟩
theorem b_need_holding (T : Txt K mg) (f : Addr) (cdv : Value) (A : Around) (outer : List Env) (s : Shared) (H : Hp) (E : XK) (c : FnCx (cxOf (L2.CX P w) P w K mg base ["facts", "order", "fact"] "need_holding" (defScope s_need_holding) f cdv A outer s H E) 1) :
  SSs (cxOf (L2.CX P w) P w K mg base ["facts", "order", "fact"] "need_holding" (defScope s_need_holding) f cdv A outer s H E) (defBody s_need_holding) r_need_holding_1 :=
  ss_one (ss_if (st_not (st_val (se_callB (cr_all c.g.calm) os_all T.n_all (sa_cons (b := true) (se_lc [("fact", 2)] c.g (si_any (se_var 0)) (by kernel_rfl) (fun s1 H1 C1 cl1 fp1 => sg_name 2 (cxg_blk c.g s1 H1 _ _ fp1)) (fun s1 H1 C1 cl1 fp1 => sts_nil) (fun s1 H1 C1 cl1 fp1 => se_call (dvs := []) (ok_holds_along T) c.g.gu (c.room.mono (by decide)) (sa_cons (b := false) (se_var 1) (sa_cons (b := false) (se_var 2) (sa_nil))))) (sa_nil))))) (ss_one (ss_raise0 c.g T.x_Fails)) (ss_nil))
theorem ok_need_holding (T : Txt K mg) : Def P w K mg base "need_holding" 2 F_need_holding 2 [] :=
  def_ok T.f_need_holding sc_need_holding rfl (fun _ _ _ _ _ _ us hl => match us, hl with | [_, _], _ => rfl) (b_need_holding T)
theorem sc_way_between : FnScope ["count", "facts", "order", "other", "found", "here", "place", "rule", "at"] ["count", "facts", "order", "other"] (defScope s_way_between) := ⟨rfl, rfl, rfl, by decide +kernel, rfl, by decide +kernel, by decide +kernel⟩
theorem b_way_between (T : Txt K mg) (f : Addr) (cdv : Value) (A : Around) (outer : List Env) (s : Shared) (H : Hp) (E : XK) (c : FnCx (cxOf (L2.CX P w) P w K mg base ["count", "facts", "order", "other", "found", "here", "place", "rule", "at"] "way_between" (defScope s_way_between) f cdv A outer s H E) 3) :
  SSs (cxOf (L2.CX P w) P w K mg base ["count", "facts", "order", "other", "found", "here", "place", "rule", "at"] "way_between" (defScope s_way_between) f cdv A outer s H E) (defBody s_way_between) r_way_between_1 :=
  ss_cons (ss_expr (se_call (dvs := []) (ok_need_count_and_facts T) c.g.gu (c.room.mono (by decide)) (sa_cons (b := false) (se_var 0) (sa_cons (b := false) (se_var 1) (sa_cons (b := false) (se_gint T.c_MOST_COUNTED) (sa_nil))))))
    (ss_cons (ss_expr (se_call (dvs := []) (ok_need_order T) c.g.gu (c.room.mono (by decide)) (sa_cons (b := false) (se_var 2) (sa_cons (b := false) (se_var 0) (sa_nil)))))
    (ss_cons (ss_expr (se_call (dvs := []) (ok_need_order T) c.g.gu (c.room.mono (by decide)) (sa_cons (b := false) (se_var 3) (sa_cons (b := false) (se_var 0) (sa_nil)))))
    (ss_cons (ss_expr (se_call (dvs := []) (ok_need_holding T) c.g.gu (c.room.mono (by decide)) (sa_cons (b := false) (se_var 1) (sa_cons (b := false) (se_var 2) (sa_nil)))))
    (ss_cons (ss_expr (se_call (dvs := []) (ok_need_holding T) c.g.gu (c.room.mono (by decide)) (sa_cons (b := false) (se_var 1) (sa_cons (b := false) (se_var 3) (sa_nil)))))
    (ss_cons (ss_par 4 5 true true c.g (se_own1 (se_callTy (call_list_of) os_list T.n_list (sa_cons (b := true) (se_var 2) (sa_nil)))) (se_sh (se_callTy (call_list_of) os_list T.n_list (sa_cons (b := true) (se_var 2) (sa_nil)))))
    (ss_cons (ss_fgB [6, 7, 8] (ss_for c.g (si_enumA T.n_enumerate (sa_cons (b := false) (se_var 3) (sa_nil))) (sg_tup c.g (sgs_cons 6 c.g (sgs_cons 7 c.g (sgs_nil)))) (sss_fgE [6, 7, 8] (ss_one (ss_fgB [8] (ss_for c.g (si_rng3 T.n_range (sa_cons (b := true) (se_mt PySem.F.plainAttrs_list PySem.F.slot_list_index PySem.F.type_list_index mt_index om_index (se_var 5) (sa_cons (b := true) (se_var 7) (sa_nil))) (sa_cons (b := true) (se_var 6) (sa_cons (b := true) (se_neg (se_int)) (sa_nil))))) (sg_name 8 c.g) (sss_fgE [8] (ss_cons (ss_set 5 c.g (se_sh (se_op op_addA os_add (se_op op_addA os_add (se_slL (se_var 5) (sp_none) (sp_some (se_op op_sub os_sub (se_var 8) (se_int)))) (se_lst (sa_cons (b := false) (se_ix ix_seq os_ix (se_var 5) (se_var 8) (fun _ _ => rfl)) (sa_cons (b := false) (se_ix ix_seq os_ix (se_var 5) (se_op op_sub os_sub (se_var 8) (se_int)) (fun _ _ => rfl)) (sa_nil))))) (se_slL (se_var 5) (sp_some (se_op op_addA os_add (se_var 8) (se_int))) (sp_none)))))
    (ss_one (ss_expr (se_pushF 4 mt_append (se_callTy (call_list_of) os_list T.n_list (sa_cons (b := true) (se_var 5) (sa_nil))))))))))))))
    (ss_one (ss_ret (se_var 4)))))))))
theorem ok_way_between (T : Txt K mg) : Def P w K mg base "way_between" 4 F_way_between 4 [] :=
  def_ok T.f_way_between sc_way_between rfl (fun _ _ _ _ _ _ us hl => match us, hl with | [_, _, _, _], _ => rfl) (b_way_between T)
theorem sc__law_pairs : FnScope ["_law_one", "_law_two", "_law_where", "_law_place", "_law_other", "_law_k"] ["_law_one", "_law_two"] (defScope s__law_pairs) := ⟨rfl, rfl, rfl, by decide +kernel, rfl, by decide +kernel, by decide +kernel⟩
theorem b__law_pairs (T : Txt K mg) (f : Addr) (cdv : Value) (A : Around) (outer : List Env) (s : Shared) (H : Hp) (E : XK) (c : FnCx (cxOf (L2.CX P w) P w K mg base ["_law_one", "_law_two", "_law_where", "_law_place", "_law_other", "_law_k"] "_law_pairs" (defScope s__law_pairs) f cdv A outer s H E) 0) :
  SSs (cxOf (L2.CX P w) P w K mg base ["_law_one", "_law_two", "_law_where", "_law_place", "_law_other", "_law_k"] "_law_pairs" (defScope s__law_pairs) f cdv A outer s H E) (defBody s__law_pairs) r__law_pairs_1 :=
  ss_cons (ss_set 2 c.g (se_op op_mulT os_mulT (se_lst (sa_cons (b := false) (se_int) (sa_nil))) (se_callB (call_len) os_len T.n_len (sa_cons (b := true) (se_var 1) (sa_nil)))))
    (ss_cons (ss_fgB [3] (ss_for c.g (si_rng1 T.n_range (sa_cons (b := true) (se_callB (call_len) os_len T.n_len (sa_cons (b := true) (se_var 1) (sa_nil))) (sa_nil))) (sg_name 3 c.g) (sss_fgE [3] (ss_one (ss_setIx 2 (se_var 3) (se_ix ix_seq os_ix (se_var 1) (se_var 3) (fun _ _ => rfl)))))))
    (ss_one (ss_ret (se_callB (cr_sum c.g.calm) os_sum T.n_sum (sa_cons (b := true) (se_lc [("_law_k", 5)] c.g (si_rng1 T.n_range (sa_cons (b := true) (se_callB (call_len) os_len T.n_len (sa_cons (b := true) (se_var 0) (sa_nil))) (sa_nil))) (by kernel_rfl) (fun s1 H1 C1 cl1 fp1 => sg_name 5 (cxg_blk c.g s1 H1 _ _ fp1)) (fun s1 H1 C1 cl1 fp1 => sts_nil) (fun s1 H1 C1 cl1 fp1 => se_callB (call_len) os_len T.n_len (sa_cons (b := true) (se_lc [("_law_other", 4)] (cxg_blk c.g s1 H1 _ _ fp1) (si_any (se_slL (se_var 0) (sp_some (se_var 5)) (sp_none))) (by kernel_rfl) (fun s2 H2 C2 cl2 fp2 => sg_name 4 (cxg_blk (cxg_blk c.g s1 H1 _ _ fp1) s2 H2 _ _ fp2)) (fun s2 H2 C2 cl2 fp2 => sts_one (st_cmp op_lt cs_int.os (se_ix ix_seq os_ix (se_var 2) (se_var 4) (fun _ _ => rfl)) (se_ix ix_seq os_ix (se_var 2) (se_ix ix_seq os_ix (se_var 0) (se_var 5) (fun _ _ => rfl)) (fun _ _ => rfl)) (nomark _))) (fun s2 H2 C2 cl2 fp2 => se_int)) (sa_nil)))) (sa_nil))))))
theorem ok__law_pairs (T : Txt K mg) : Def P w K mg base "_law_pairs" 1 F__law_pairs 2 [] :=
  def_ok T.f__law_pairs sc__law_pairs rfl (fun _ _ _ _ _ _ us hl => match us, hl with | [_, _], _ => rfl) (b__law_pairs T)
theorem sc__law_is_step : FnScope ["_law_one", "_law_two", "_law_there", "_law_k"] ["_law_one", "_law_two"] (defScope s__law_is_step) := ⟨rfl, rfl, rfl, by decide +kernel, rfl, by decide +kernel, by decide +kernel⟩
theorem b__law_is_step (T : Txt K mg) (f : Addr) (cdv : Value) (A : Around) (outer : List Env) (s : Shared) (H : Hp) (E : XK) (c : FnCx (cxOf (L2.CX P w) P w K mg base ["_law_one", "_law_two", "_law_there", "_law_k"] "_law_is_step" (defScope s__law_is_step) f cdv A outer s H E) 0) :
  SSs (cxOf (L2.CX P w) P w K mg base ["_law_one", "_law_two", "_law_there", "_law_k"] "_law_is_step" (defScope s__law_is_step) f cdv A outer s H E) (defBody s__law_is_step) r__law_is_step_1 :=
  ss_cons (ss_if (SW.st (sw_or (st_not (st_val (se_isi .list (se_var 1) T.n_isinstance T.n_list))) (sw_or1 (st_cmp (op_neA c.room) cs_ne.os (se_callB (call_len) os_len T.n_len (sa_cons (b := true) (se_var 0) (sa_nil))) (se_callB (call_len) os_len T.n_len (sa_cons (b := true) (se_var 1) (sa_nil))) (nomark _))))) (ss_one (ss_ret (se_bl))) (ss_nil))
    (ss_cons (ss_shE [2] (ss_setLc [("_law_k", 3)] 2 c.g (si_rng1 T.n_range (sa_cons (b := true) (se_callB (call_len) os_len T.n_len (sa_cons (b := true) (se_var 0) (sa_nil))) (sa_nil))) (by kernel_rfl) (fun s1 H1 C1 cl1 fp1 => sg_name 3 (cxg_blk c.g s1 H1 _ _ fp1)) (fun s1 H1 C1 cl1 fp1 => sts_one (st_cmp (op_neA c.room) cs_ne.os (se_ix ix_seq os_ix (se_var 0) (se_var 3) (fun _ _ => rfl)) (se_ix ix_seq os_ix (se_var 1) (se_var 3) (fun _ _ => rfl)) (nomark _))) (fun s1 H1 C1 cl1 fp1 => se_var 3) (sw_true rfl rfl rfl (by decide +kernel))))
    (ss_cons (ss_if (SW.st (sw_or (st_cmp (op_neA c.room) cs_ne.os (se_callB (call_len) os_len T.n_len (sa_cons (b := true) (se_var 2) (sa_nil))) (se_int) (nomark _)) (sw_or1 (st_cmp (op_neA c.room) cs_ne.os (se_ix ix_seq os_ix (se_var 2) (se_int) (fun _ _ => rfl)) (se_op op_addA os_add (se_ix ix_seq os_ix (se_var 2) (se_int) (fun _ _ => rfl)) (se_int)) (nomark _))))) (ss_one (ss_ret (se_bl))) (ss_nil))
    (ss_one (ss_ret (se_cmp (op_eqA c.room) cs_eq.os (se_callB ((cr_repG c.g.gu (c.room.mono (by decide)))) os_repG T.n_repr (sa_cons (b := true) (se_var 1) (sa_nil))) (se_callB ((cr_repG c.g.gu (c.room.mono (by decide)))) os_repG T.n_repr (sa_cons (b := true) (se_op op_addA os_add (se_op op_addA os_add (se_slL (se_var 0) (sp_none) (sp_some (se_ix ix_seq os_ix (se_var 2) (se_int) (fun _ _ => rfl)))) (se_lst (sa_cons (b := false) (se_ix ix_seq os_ix (se_var 0) (se_ix ix_seq os_ix (se_var 2) (se_int) (fun _ _ => rfl)) (fun _ _ => rfl)) (sa_cons (b := false) (se_ix ix_seq os_ix (se_var 0) (se_ix ix_seq os_ix (se_var 2) (se_int) (fun _ _ => rfl)) (fun _ _ => rfl)) (sa_nil))))) (se_slL (se_var 0) (sp_some (se_op op_addA os_add (se_ix ix_seq os_ix (se_var 2) (se_int) (fun _ _ => rfl)) (se_int))) (sp_none))) (sa_nil))) (nomark _))))))
theorem ok__law_is_step (T : Txt K mg) : Def P w K mg base "_law_is_step" 1 F__law_is_step 2 [] :=
  def_ok T.f__law_is_step sc__law_is_step rfl (fun _ _ _ _ _ _ us hl => match us, hl with | [_, _], _ => rfl) (b__law_is_step T)
theorem sc__law_way : FnScope ["_law_many", "_law_facts_here", "_law_one", "_law_two", "_law_passed", "_law_way_here", "_law_here", "_law_there", "_law_order_here", "_law_fact_here"] ["_law_many", "_law_facts_here", "_law_one", "_law_two"] (defScope s__law_way) := ⟨rfl, rfl, rfl, by decide +kernel, rfl, by decide +kernel, by decide +kernel⟩
theorem b__law_way (T : Txt K mg) (f : Addr) (cdv : Value) (A : Around) (outer : List Env) (s : Shared) (H : Hp) (E : XK) (c : FnCx (cxOf (L2.CX P w) P w K mg base ["_law_many", "_law_facts_here", "_law_one", "_law_two", "_law_passed", "_law_way_here", "_law_here", "_law_there", "_law_order_here", "_law_fact_here"] "_law_way" (defScope s__law_way) f cdv A outer s H E) 4) :
  SSs (cxOf (L2.CX P w) P w K mg base ["_law_many", "_law_facts_here", "_law_one", "_law_two", "_law_passed", "_law_way_here", "_law_here", "_law_there", "_law_order_here", "_law_fact_here"] "_law_way" (defScope s__law_way) f cdv A outer s H E) (defBody s__law_way) r__law_way_1 :=
  ss_cons (ss_set 4 c.g (se_sh (se_lst (sa_cons (b := false) (se_callTy (call_list_of) os_list T.n_list (sa_cons (b := true) (se_var 1) (sa_nil))) (sa_cons (b := false) (se_callTy (call_list_of) os_list T.n_list (sa_cons (b := true) (se_var 2) (sa_nil))) (sa_cons (b := false) (se_callTy (call_list_of) os_list T.n_list (sa_cons (b := true) (se_var 3) (sa_nil))) (sa_nil)))))))
    (ss_cons (ss_set 5 c.g (se_call (dvs := []) (ok_way_between T) c.g.gu (c.room.mono (by decide)) (sa_cons (b := false) (se_var 0) (sa_cons (b := false) (se_ix ix_seq os_ix (se_var 4) (se_int) (fun _ _ => rfl)) (sa_cons (b := false) (se_ix ix_seq os_ix (se_var 4) (se_int) (fun _ _ => rfl)) (sa_cons (b := false) (se_ix ix_seq os_ix (se_var 4) (se_int) (fun _ _ => rfl)) (sa_nil)))))))
    (ss_cons (ss_if (SW.st (sw_or (st_not (st_bor (st_val (se_isi .list (se_un (se_var 5)) T.n_isinstance T.n_list)))) (sw_or (st_cmp (op_neA c.room) cs_ne.os (se_bor (se_callB (call_len) os_len T.n_len (sa_cons (b := true) (se_un (se_var 5)) (sa_nil)))) (se_op op_addA os_add (se_int) (se_call (dvs := []) (ok__law_pairs T) c.g.gu (c.room.mono (by decide)) (sa_cons (b := false) (se_var 2) (sa_cons (b := false) (se_var 3) (sa_nil))))) (nomark _)) (sw_or1 (st_cmp (op_neA c.room) cs_ne.os (se_var 4) (se_lst (sa_cons (b := false) (se_var 1) (sa_cons (b := false) (se_var 2) (sa_cons (b := false) (se_var 3) (sa_nil))))) (nomark _)))))) (ss_one (ss_ret (se_bl))) (ss_nil))
    (ss_cons (ss_if (st_bor (st_cmp (op_neA c.room) cs_ne.os (se_callB ((cr_repG c.g.gu (c.room.mono (by decide)))) os_repG T.n_repr (sa_cons (b := true) (se_lst (sa_cons (b := false) (se_ix ix_seq os_ix (se_un (se_var 5)) (se_int) (fun _ _ => rfl)) (sa_cons (b := false) (se_ix ix_seq os_ix (se_un (se_var 5)) (se_neg (se_int)) (fun _ _ => rfl)) (sa_nil)))) (sa_nil))) (se_callB ((cr_repG c.g.gu (c.room.mono (by decide)))) os_repG T.n_repr (sa_cons (b := true) (se_lst (sa_cons (b := false) (se_var 2) (sa_cons (b := false) (se_var 3) (sa_nil)))) (sa_nil))) (nomark _))) (ss_one (ss_ret (se_bl))) (ss_nil))
    (ss_cons (ss_if (st_cmp (op_neA c.room) cs_ne.os (se_lnd (se_lc [("_law_here", 6), ("_law_there", 7)] c.g (si_zip T.n_zip (sa_cons (b := false) (se_un (se_var 5)) (sa_cons (b := false) (se_slL (se_un (se_var 5)) (sp_some (se_int)) (sp_none)) (sa_nil)))) (by kernel_rfl) (fun s1 H1 C1 cl1 fp1 => sg_tup (cxg_blk c.g s1 H1 _ _ fp1) (sgs_cons 6 (cxg_blk c.g s1 H1 _ _ fp1) (sgs_cons 7 (cxg_blk c.g s1 H1 _ _ fp1) (sgs_nil)))) (fun s1 H1 C1 cl1 fp1 => sts_one (st_not (st_val (se_call (dvs := []) (ok__law_is_step T) c.g.gu (c.room.mono (by decide)) (sa_cons (b := false) (se_var 6) (sa_cons (b := false) (se_var 7) (sa_nil))))))) (fun s1 H1 C1 cl1 fp1 => se_int))) (se_lst (sa_nil)) (nomark _)) (ss_one (ss_ret (se_bl))) (ss_nil))
    (ss_cons (ss_if (st_cmp (op_neA c.room) cs_ne.os (se_lnd (se_lc [("_law_order_here", 8)] c.g (si_any (se_un (se_var 5))) (by kernel_rfl) (fun s1 H1 C1 cl1 fp1 => sg_name 8 (cxg_blk c.g s1 H1 _ _ fp1)) (fun s1 H1 C1 cl1 fp1 => sts_one (st_cmp (op_neA c.room) cs_ne.os (se_lc [("_law_fact_here", 9)] (cxg_blk c.g s1 H1 _ _ fp1) (si_any (se_var 1)) (by kernel_rfl) (fun s2 H2 C2 cl2 fp2 => sg_name 9 (cxg_blk (cxg_blk c.g s1 H1 _ _ fp1) s2 H2 _ _ fp2)) (fun s2 H2 C2 cl2 fp2 => sts_one (st_not (st_val (se_call (dvs := []) (ok__law_holds T) c.g.gu (c.room.mono (by decide)) (sa_cons (b := false) (se_var 8) (sa_cons (b := false) (se_var 9) (sa_nil))))))) (fun s2 H2 C2 cl2 fp2 => se_var 9)) (se_lst (sa_nil)) (nomark _))) (fun s1 H1 C1 cl1 fp1 => se_int))) (se_lst (sa_nil)) (nomark _)) (ss_one (ss_ret (se_bl))) (ss_nil))
    (ss_cons (ss_expr (se_mutI 5 PySem.F.slot_list_reverse PySem.F.type_list_reverse mt_reverse ms_rev (se_int)))
    (ss_one (ss_ret (se_cmp (op_eqA c.room) cs_eq.os (se_var 4) (se_lst (sa_cons (b := false) (se_var 1) (sa_cons (b := false) (se_var 2) (sa_cons (b := false) (se_var 3) (sa_nil))))) (nomark _))))))))))
theorem ok__law_way (T : Txt K mg) : Def P w K mg base "_law_way" 5 F__law_way 4 [] :=
  def_ok T.f__law_way sc__law_way rfl (fun _ _ _ _ _ _ us hl => match us, hl with | [_, _, _, _], _ => rfl) (b__law_way T)
theorem sc__law_fails : FnScope ["_law_call", "_law_told", "e"] ["_law_call"] (defScope s__law_fails) := ⟨rfl, rfl, rfl, by decide +kernel, rfl, by decide +kernel, by decide +kernel⟩
theorem b__law_fails (T : Txt K mg) (f : Addr) (cdv : Value) (A : Around) (outer : List Env) (s : Shared) (H : Hp) (E : XK) (lf : Addr) (lus : List V) (c : FnCx (cxOf (L2.CX P w) P w K mg base ["_law_call", "_law_told", "e"] "_law_fails" (defScope s__law_fails) f cdv A outer s H E) 5) (act : LamAct (cxOf (L2.CX P w) P w K mg base ["_law_call", "_law_told", "e"] "_law_fails" (defScope s__law_fails) f cdv A outer s H E) "_law_call" 0 lf lus lam_rb [1, 3, 6, 7] 9) :
  SSs (cxOf (L2.CX P w) P w K mg base ["_law_call", "_law_told", "e"] "_law_fails" (defScope s__law_fails) f cdv A outer s H E) (defBody s__law_fails) (r__law_fails_1 lf lus) :=
  ss_cons (ss_set 1 c.g (se_sh (se_lst (sa_nil))))
    (ss_cons (ss_tryE (i := 2) (j := 1) (tab := [("Fails", true), ("InvalidCount", true), ("InvalidFacts", true), ("InvalidOrder", true)]) rfl rfl c.g rfl rfl ⟨rfl, by decide, .inl T.x_RankError.g⟩ (by intro p hp; simp only [List.mem_cons, List.not_mem_nil, or_false] at hp; rcases hp with rfl | rfl | rfl | rfl <;> first | exact T.m_Fails_RankError | exact T.m_InvalidCount_RankError | exact T.m_InvalidFacts_RankError | exact T.m_InvalidOrder_RankError) (fun pn xe po => (fun (c : FnCx _ _) => ss_one (act pn xe _ _ _)) (FnCx.tr (pn := pn) c po)) (he_isL (k := false) (hes_cons (heb_own (tab := [("Fails", true), ("InvalidCount", false), ("InvalidFacts", false), ("InvalidOrder", false)]) rfl (by first | exact Or.inl rfl | exact Or.inr (Or.inl rfl)) T.n_isinstance T.x_Fails.g (by intro p hp; simp only [List.mem_cons, List.not_mem_nil, or_false] at hp; rcases hp with rfl | rfl | rfl | rfl <;> first | exact ⟨T.k_Fails, T.z_Fails_Fails⟩ | exact ⟨T.k_InvalidCount, T.z_InvalidCount_Fails⟩ | exact ⟨T.k_InvalidFacts, T.z_InvalidFacts_Fails⟩ | exact ⟨T.k_InvalidOrder, T.z_InvalidOrder_Fails⟩)) (hes_cons (heb_own (tab := [("Fails", false), ("InvalidCount", false), ("InvalidFacts", false), ("InvalidOrder", true)]) rfl (by first | exact Or.inl rfl | exact Or.inr (Or.inl rfl)) T.n_isinstance T.x_InvalidOrder.g (by intro p hp; simp only [List.mem_cons, List.not_mem_nil, or_false] at hp; rcases hp with rfl | rfl | rfl | rfl <;> first | exact ⟨T.k_Fails, T.z_Fails_InvalidOrder⟩ | exact ⟨T.k_InvalidCount, T.z_InvalidCount_InvalidOrder⟩ | exact ⟨T.k_InvalidFacts, T.z_InvalidFacts_InvalidOrder⟩ | exact ⟨T.k_InvalidOrder, T.z_InvalidOrder_InvalidOrder⟩)) (hes_cons (heb_bi (tab := [("Fails", true), ("InvalidCount", true), ("InvalidFacts", true), ("InvalidOrder", true)]) "ValueError" rfl (by first | exact Or.inl rfl | exact Or.inr (Or.inl rfl)) T.n_isinstance T.n_ValueError (by decide +kernel) (by intro p hp; simp only [List.mem_cons, List.not_mem_nil, or_false] at hp; rcases hp with rfl | rfl | rfl | rfl <;> first | exact ⟨T.k_Fails, T.zb_Fails_ValueError⟩ | exact ⟨T.k_InvalidCount, T.zb_InvalidCount_ValueError⟩ | exact ⟨T.k_InvalidFacts, T.zb_InvalidFacts_ValueError⟩ | exact ⟨T.k_InvalidOrder, T.zb_InvalidOrder_ValueError⟩)) (hes_nil))))) rfl (by first | exact Or.inl rfl | exact Or.inr rfl) (by first | exact .inl rfl | exact .inr rfl) (by decide))
    (ss_one (ss_ret (se_cmp (op_eqA c.room) cs_eq.os (se_var 1) (se_lst (sa_cons (b := false) (se_bl) (sa_cons (b := false) (se_bl) (sa_cons (b := false) (se_bl) (sa_nil))))) (nomark _)))))
theorem sc_turned_pairs : FnScope ["order", "other", "places", "rule", "later", "at", "place"] ["order", "other"] (defScope s_turned_pairs) := ⟨rfl, rfl, rfl, by decide +kernel, rfl, by decide +kernel, by decide +kernel⟩
theorem b_turned_pairs (T : Txt K mg) (f : Addr) (cdv : Value) (A : Around) (outer : List Env) (s : Shared) (H : Hp) (E : XK) (c : FnCx (cxOf (L2.CX P w) P w K mg base ["order", "other", "places", "rule", "later", "at", "place"] "turned_pairs" (defScope s_turned_pairs) f cdv A outer s H E) 0) :
  SSs (cxOf (L2.CX P w) P w K mg base ["order", "other", "places", "rule", "later", "at", "place"] "turned_pairs" (defScope s_turned_pairs) f cdv A outer s H E) (defBody s_turned_pairs) r_turned_pairs_1 :=
  ss_cons (ss_set 2 c.g (se_sh (se_lc [("rule", 3)] c.g (si_any (se_var 0)) (by kernel_rfl) (fun s1 H1 C1 cl1 fp1 => sg_name 3 (cxg_blk c.g s1 H1 _ _ fp1)) (fun s1 H1 C1 cl1 fp1 => sts_nil) (fun s1 H1 C1 cl1 fp1 => se_mt PySem.F.plainAttrs_list PySem.F.slot_list_index PySem.F.type_list_index mt_index om_index (se_var 1) (sa_cons (b := true) (se_var 3) (sa_nil))))))
    (ss_one (ss_ret (se_callB (cr_sum c.g.calm) os_sum T.n_sum (sa_cons (b := true) (se_lc [("at", 5), ("place", 6)] c.g (si_enumA T.n_enumerate (sa_cons (b := false) (se_var 2) (sa_nil))) (by kernel_rfl) (fun s1 H1 C1 cl1 fp1 => sg_tup (cxg_blk c.g s1 H1 _ _ fp1) (sgs_cons 5 (cxg_blk c.g s1 H1 _ _ fp1) (sgs_cons 6 (cxg_blk c.g s1 H1 _ _ fp1) (sgs_nil)))) (fun s1 H1 C1 cl1 fp1 => sts_nil) (fun s1 H1 C1 cl1 fp1 => se_callB (call_len) os_len T.n_len (sa_cons (b := true) (se_lc [("later", 4)] (cxg_blk c.g s1 H1 _ _ fp1) (si_any (se_slL (se_var 2) (sp_some (se_op op_addA os_add (se_var 5) (se_int))) (sp_none))) (by kernel_rfl) (fun s2 H2 C2 cl2 fp2 => sg_name 4 (cxg_blk (cxg_blk c.g s1 H1 _ _ fp1) s2 H2 _ _ fp2)) (fun s2 H2 C2 cl2 fp2 => sts_one (st_cmp op_lt cs_int.os (se_var 4) (se_var 6) (nomark _))) (fun s2 H2 C2 cl2 fp2 => se_var 4)) (sa_nil)))) (sa_nil)))))
theorem ok_turned_pairs (T : Txt K mg) : Def P w K mg base "turned_pairs" 1 F_turned_pairs 2 [] :=
  def_ok T.f_turned_pairs sc_turned_pairs rfl (fun _ _ _ _ _ _ us hl => match us, hl with | [_, _], _ => rfl) (b_turned_pairs T)
theorem sc_exchanges_between : FnScope ["order", "other"] ["order", "other"] (defScope s_exchanges_between) := ⟨rfl, rfl, rfl, by decide +kernel, rfl, by decide +kernel, by decide +kernel⟩
theorem b_exchanges_between (T : Txt K mg) (f : Addr) (cdv : Value) (A : Around) (outer : List Env) (s : Shared) (H : Hp) (E : XK) (c : FnCx (cxOf (L2.CX P w) P w K mg base ["order", "other"] "exchanges_between" (defScope s_exchanges_between) f cdv A outer s H E) 3) :
  SSs (cxOf (L2.CX P w) P w K mg base ["order", "other"] "exchanges_between" (defScope s_exchanges_between) f cdv A outer s H E) (defBody s_exchanges_between) r_exchanges_between_1 :=
  ss_cons (ss_expr (se_call (dvs := [.non]) (ok_need_order_1 T) c.g.gu (c.room.mono (by decide)) (sa_cons (b := false) (se_var 0) (sa_nil))))
    (ss_cons (ss_expr (se_call (dvs := []) (ok_need_order T) c.g.gu (c.room.mono (by decide)) (sa_cons (b := false) (se_var 1) (sa_cons (b := false) (se_callB (call_len) os_len T.n_len (sa_cons (b := true) (se_var 0) (sa_nil))) (sa_nil)))))
    (ss_one (ss_ret (se_call (dvs := []) (ok_turned_pairs T) c.g.gu (c.room.mono (by decide)) (sa_cons (b := false) (se_var 0) (sa_cons (b := false) (se_var 1) (sa_nil)))))))
theorem ok_exchanges_between (T : Txt K mg) : Def P w K mg base "exchanges_between" 4 F_exchanges_between 2 [] :=
  def_ok T.f_exchanges_between sc_exchanges_between rfl (fun _ _ _ _ _ _ us hl => match us, hl with | [_, _], _ => rfl) (b_exchanges_between T)
theorem sc__law_far : FnScope ["_law_well_here", "_law_many", "_law_one", "_law_two", "_law_due", "_law_told"] ["_law_well_here", "_law_many"] (defScope s__law_far) := ⟨rfl, rfl, rfl, by decide +kernel, rfl, by decide +kernel, by decide +kernel⟩
theorem b__law_far (T : Txt K mg) (f : Addr) (cdv : Value) (A : Around) (outer : List Env) (s : Shared) (H : Hp) (E : XK) (c : FnCx (cxOf (L2.CX P w) P w K mg base ["_law_well_here", "_law_many", "_law_one", "_law_two", "_law_due", "_law_told"] "_law_far" (defScope s__law_far) f cdv A outer s H E) 4) :
  SSs (cxOf (L2.CX P w) P w K mg base ["_law_well_here", "_law_many", "_law_one", "_law_two", "_law_due", "_law_told"] "_law_far" (defScope s__law_far) f cdv A outer s H E) (defBody s__law_far) r__law_far_1 :=
  ss_cons (ss_par 2 3 true true c.g (se_sh (se_call (dvs := []) (ok__law_order T) c.g.gu (c.room.mono (by decide)) (sa_cons (b := true) (se_var 0) (sa_cons (b := false) (se_var 1) (sa_nil))))) (se_sh (se_call (dvs := []) (ok__law_order T) c.g.gu (c.room.mono (by decide)) (sa_cons (b := true) (se_var 0) (sa_cons (b := false) (se_var 1) (sa_nil))))))
    (ss_cons (ss_set 4 c.g (se_call (dvs := []) (ok__law_pairs T) c.g.gu (c.room.mono (by decide)) (sa_cons (b := false) (se_var 2) (sa_cons (b := false) (se_var 3) (sa_nil)))))
    (ss_cons (ss_set 5 c.g (se_sh (se_lst (sa_cons (b := false) (se_call (dvs := []) (ok_exchanges_between T) c.g.gu (c.room.mono (by decide)) (sa_cons (b := false) (se_var 2) (sa_cons (b := false) (se_var 3) (sa_nil)))) (sa_cons (b := false) (se_call (dvs := []) (ok_exchanges_between T) c.g.gu (c.room.mono (by decide)) (sa_cons (b := false) (se_var 3) (sa_cons (b := false) (se_var 2) (sa_nil)))) (sa_cons (b := false) (se_call (dvs := []) (ok_exchanges_between T) c.g.gu (c.room.mono (by decide)) (sa_cons (b := false) (se_var 2) (sa_cons (b := false) (se_callTy (call_list_of) os_list T.n_list (sa_cons (b := true) (se_var 2) (sa_nil))) (sa_nil)))) (sa_nil)))))))
    (ss_one (ss_ret (se_cmp (op_eqA c.room) cs_eq.os (se_callB ((cr_repG c.g.gu (c.room.mono (by decide)))) os_repG T.n_repr (sa_cons (b := true) (se_var 5) (sa_nil))) (se_callB ((cr_repG c.g.gu (c.room.mono (by decide)))) os_repG T.n_repr (sa_cons (b := true) (se_lst (sa_cons (b := false) (se_var 4) (sa_cons (b := false) (se_var 4) (sa_cons (b := false) (se_int) (sa_nil))))) (sa_nil))) (nomark _))))))
theorem ok__law_far (T : Txt K mg) : Def P w K mg base "_law_far" 5 F__law_far 2 [] :=
  def_ok T.f__law_far sc__law_far rfl (fun _ _ _ _ _ _ us hl => match us, hl with | [_, _], _ => rfl) (b__law_far T)
theorem sc__law_right : FnScope ["_law_well_here", "_law_many", "_law_hidden", "_law_facts_here", "_law_other", "_law_any_order", "_law_one", "_law_two", "_law_fact_here"] ["_law_well_here"] (defScope s__law_right) := ⟨rfl, rfl, rfl, by decide +kernel, rfl, by decide +kernel, by decide +kernel⟩
theorem b__law_right (T : Txt K mg) (TL : tabB base mg K "_law_right") (f : Addr) (cdv : Value) (A : Around) (outer : List Env) (s : Shared) (H : Hp) (E : XK) (c : FnCx (cxOf (L2.CX P w) P w K mg base ["_law_well_here", "_law_many", "_law_hidden", "_law_facts_here", "_law_other", "_law_any_order", "_law_one", "_law_two", "_law_fact_here"] "_law_right" (defScope s__law_right) f cdv A outer s H E) 6) (LK : LamK (cxOf (L2.CX P w) P w K mg base ["_law_well_here", "_law_many", "_law_hidden", "_law_facts_here", "_law_other", "_law_any_order", "_law_one", "_law_two", "_law_fact_here"] "_law_right" (defScope s__law_right) f cdv A outer s H E) (He.cT K ("_law_right", none)).2) :
  SSs (cxOf (L2.CX P w) P w K mg base ["_law_well_here", "_law_many", "_law_hidden", "_law_facts_here", "_law_other", "_law_any_order", "_law_one", "_law_two", "_law_fact_here"] "_law_right" (defScope s__law_right) f cdv A outer s H E) (defBody s__law_right) r__law_right_1 :=
  ss_cons (ss_set 1 c.g (se_op op_addA os_add (se_int) (se_call (dvs := []) (ok__law_pick T) c.g.gu (c.room.mono (by decide)) (sa_cons (b := true) (se_var 0) (sa_cons (b := false) (se_int) (sa_nil))))))
    (ss_cons (ss_set 2 c.g (se_sh (se_call (dvs := []) (ok__law_order T) c.g.gu (c.room.mono (by decide)) (sa_cons (b := true) (se_var 0) (sa_cons (b := false) (se_var 1) (sa_nil))))))
    (ss_cons (ss_set 3 c.g (se_sh (se_call (dvs := []) (ok__law_facts T) c.g.gu (c.room.mono (by decide)) (sa_cons (b := true) (se_var 0) (sa_cons (b := false) (se_var 2) (sa_cons (b := false) (se_ix ix_seq os_ix (se_lst (sa_cons (b := false) (se_int) (sa_cons (b := false) (se_int) (sa_cons (b := false) (se_int) (sa_cons (b := false) (se_int) (sa_nil)))))) (se_call (dvs := []) (ok__law_pick T) c.g.gu (c.room.mono (by decide)) (sa_cons (b := true) (se_var 0) (sa_cons (b := false) (se_int) (sa_nil)))) (fun _ _ => rfl)) (sa_cons (b := false) (se_bl) (sa_nil))))))))
    (ss_cons (ss_parC 4 5 true true c.g (se_sh (se_call (dvs := []) (ok__law_wandered T) c.g.gu (c.room.mono (by decide)) (sa_cons (b := true) (se_var 0) (sa_cons (b := false) (se_var 1) (sa_cons (b := false) (se_var 3) (sa_nil)))))) (se_sh (se_call (dvs := []) (ok__law_order T) c.g.gu (c.room.mono (by decide)) (sa_cons (b := true) (se_var 0) (sa_cons (b := false) (se_var 1) (sa_nil))))))
    (ss_cons (ss_fgB [6, 7] (ss_for c.g (si_lst (se_lst (sa_cons (b := false) (se_tup (sa_cons (b := false) (se_var 2) (sa_cons (b := false) (se_var 4) (sa_nil)))) (sa_cons (b := false) (se_tup (sa_cons (b := false) (se_var 4) (sa_cons (b := false) (se_var 2) (sa_nil)))) (sa_cons (b := false) (se_tup (sa_cons (b := false) (se_var 4) (sa_cons (b := false) (se_var 4) (sa_nil)))) (sa_nil)))))) (sg_tup c.g (sgs_cons 6 c.g (sgs_cons 7 c.g (sgs_nil)))) (sss_fgE [6, 7] (ss_one (ss_if (st_not (st_val (se_call (dvs := []) (ok__law_way T) c.g.gu (c.room.mono (by decide)) (sa_cons (b := false) (se_var 1) (sa_cons (b := false) (se_var 3) (sa_cons (b := false) (se_var 6) (sa_cons (b := false) (se_var 7) (sa_nil)))))))) (ss_one (ss_ret (se_bl))) (ss_nil))))))
    (ss_cons (ss_if (st_cmp (op_eqA c.room) cs_eq.os (se_lc [("_law_fact_here", 8)] c.g (si_any (se_var 3)) (by kernel_rfl) (fun s1 H1 C1 cl1 fp1 => sg_name 8 (cxg_blk c.g s1 H1 _ _ fp1)) (fun s1 H1 C1 cl1 fp1 => sts_one (st_not (st_val (se_call (dvs := []) (ok__law_holds T) c.g.gu (c.room.mono (by decide)) (sa_cons (b := false) (se_var 5) (sa_cons (b := false) (se_var 8) (sa_nil))))))) (fun s1 H1 C1 cl1 fp1 => se_var 8)) (se_lst (sa_nil)) (nomark _)) (ss_one (ss_if (st_not (st_val (se_call (dvs := []) (ok__law_way T) c.g.gu (c.room.mono (by decide)) (sa_cons (b := false) (se_var 1) (sa_cons (b := false) (se_var 3) (sa_cons (b := false) (se_var 5) (sa_cons (b := false) (se_var 2) (sa_nil)))))))) (ss_one (ss_ret (se_bl))) (ss_nil))) (ss_one (ss_fgB [6, 7] (ss_for c.g (si_lst (se_lst (sa_cons (b := false) (se_tup (sa_cons (b := false) (se_var 5) (sa_cons (b := false) (se_var 2) (sa_nil)))) (sa_cons (b := false) (se_tup (sa_cons (b := false) (se_var 2) (sa_cons (b := false) (se_var 5) (sa_nil)))) (sa_cons (b := false) (se_tup (sa_cons (b := false) (se_var 5) (sa_cons (b := false) (se_var 5) (sa_nil)))) (sa_nil)))))) (sg_tup c.g (sgs_cons 6 c.g (sgs_cons 7 c.g (sgs_nil)))) (sss_fgE [6, 7] (ss_one (ss_if (st_not (st_val (se_callLam (N := ["_law_call", "_law_told", "e"]) (ps := ["_law_call"]) (rc := fun lf lus => (r__law_fails_1 lf lus)) (rb := lam_rb) (is := [1, 3, 6, 7]) (a := "_law_call") (i := 0) c.g LK T.f__law_fails sc__law_fails rfl (fun _ _ _ _ _ _ us hl => match us, hl with | [_], _ => rfl) (fun fg cdv A outer s H E lf lus c act => b__law_fails T fg cdv A outer s H E lf lus c act) (fun A outer s H E f c0 c => se_un (se_call (dvs := []) (ok_way_between T) c.g.gu (c.room.mono (by decide)) (sa_cons (b := false) (se_var 1) (sa_cons (b := false) (se_var 3) (sa_cons (b := false) (se_var 6) (sa_cons (b := false) (se_var 7) (sa_nil))))))) (c.room.mono (by decide)) (LamX.lamS_by (by kernel_rfl)) rfl (fun _ _ _ _ _ => rfl) rfl (by first | exact Or.inl rfl | exact Or.inr (Or.inl rfl)) (sal_nil) (he := rfl)))) (ss_one (ss_ret (se_bl))) (ss_nil))))))))
    (ss_one (ss_ret (se_and (se_call (dvs := []) (ok__law_far T) c.g.gu (c.room.mono (by decide)) (sa_cons (b := true) (se_var 0) (sa_cons (b := false) (se_var 1) (sa_nil)))) (se_one (se_call (dvs := []) (ok__law_far T) c.g.gu (c.room.mono (by decide)) (sa_cons (b := true) (se_var 0) (sa_cons (b := false) (se_op op_addA os_add (se_int) (se_call (dvs := []) (ok__law_pick T) c.g.gu (c.room.mono (by decide)) (sa_cons (b := true) (se_var 0) (sa_cons (b := false) (se_int) (sa_nil))))) (sa_nil)))))))))))))
theorem ok__law_right (T : Txt K mg) (TL : tabB base mg K "_law_right") : Def P w K mg base "_law_right" 7 F__law_right 1 [] :=
  def_okL rfl T.f__law_right T.a__law_right TL sc__law_right rfl (fun _ _ _ _ _ _ us hl => match us, hl with | [_], _ => rfl) (b__law_right T TL)
theorem sc__law_well : FnScope ["_law_script", "_law_k", "_law_cell"] ["_law_script", "_law_k"] (defScope s__law_well) := ⟨rfl, rfl, rfl, by decide +kernel, rfl, by decide +kernel, by decide +kernel⟩
theorem b__law_well (T : Txt K mg) (f : Addr) (cdv : Value) (A : Around) (outer : List Env) (s : Shared) (H : Hp) (E : XK) (c : FnCx (cxOf (L2.CX P w) P w K mg base ["_law_script", "_law_k", "_law_cell"] "_law_well" (defScope s__law_well) f cdv A outer s H E) 0) :
  SSs (cxOf (L2.CX P w) P w K mg base ["_law_script", "_law_k", "_law_cell"] "_law_well" (defScope s__law_well) f cdv A outer s H E) (defBody s__law_well) r__law_well_1 :=
  ss_cons (ss_set 2 c.g (se_ifx (st_cmp op_lt cs_int.os (se_var 1) (se_callB (call_len) os_len T.n_len (sa_cons (b := true) (se_var 0) (sa_nil))) (nomark _)) (se_ix ix_seq os_ix (se_var 0) (se_var 1) (fun _ _ => rfl)) (se_int)))
    (ss_one (ss_ret (se_lst (sa_cons (b := false) (se_callB (call_max2 c.g.calm) os_max T.n_max (sa_cons (b := true) (se_int) (sa_cons (b := true) (se_op op_sub os_sub (se_var 2) (se_op op_pow os_pow (se_int) (se_int))) (sa_nil)))) (sa_cons (b := false) (se_op op_addA os_add (se_op op_addA os_add (se_op op_mod os_mod (se_callTy (call_int1) os_int T.n_int (sa_cons (b := true) (se_callB (call_abs) os_abs T.n_abs (sa_cons (b := true) (se_var 2) (sa_nil))) (sa_nil))) (se_op op_addA os_add (se_op op_pow os_pow (se_int) (se_int)) (se_int))) (se_op op_mulT os_mulT (se_int) (se_var 1))) (se_int)) (sa_cons (b := false) (se_int) (sa_nil)))))))
theorem ok__law_well (T : Txt K mg) : Def P w K mg base "_law_well" 1 F__law_well 2 [] :=
  def_ok T.f__law_well sc__law_well rfl (fun _ _ _ _ _ _ us hl => match us, hl with | [_, _], _ => rfl) (b__law_well T)
theorem sc_law : FnScope ["_law_script", "_law_k"] ["_law_script"] (defScope s_law) := ⟨rfl, rfl, rfl, by decide +kernel, rfl, by decide +kernel, by decide +kernel⟩
theorem b_law (T : Txt K mg) (TL : tabB base mg K "_law_right") (f : Addr) (cdv : Value) (A : Around) (outer : List Env) (s : Shared) (H : Hp) (E : XK) (c : FnCx (cxOf (L2.CX P w) P w K mg base ["_law_script", "_law_k"] "law" (defScope s_law) f cdv A outer s H E) 7) :
  SSs (cxOf (L2.CX P w) P w K mg base ["_law_script", "_law_k"] "law" (defScope s_law) f cdv A outer s H E) (defBody s_law) r_law_1 :=
  ss_cons (ss_fgB [1] (ss_for c.g (si_rng1 T.n_range (sa_cons (b := true) (se_callB (call_max2 c.g.calm) os_max T.n_max (sa_cons (b := true) (se_int) (sa_cons (b := true) (se_callB (call_min2 c.g.calm) os_min T.n_min (sa_cons (b := true) (se_int) (sa_cons (b := true) (se_callB (call_len) os_len T.n_len (sa_cons (b := true) (se_var 0) (sa_nil))) (sa_nil)))) (sa_nil)))) (sa_nil))) (sg_name 1 c.g) (sss_fgE [1] (ss_one (ss_if (st_not (st_val (se_call (dvs := []) (ok__law_right T TL) c.g.gu (c.room.mono (by decide)) (sa_cons (b := true) (se_call (dvs := []) (ok__law_well T) c.g.gu (c.room.mono (by decide)) (sa_cons (b := false) (se_var 0) (sa_cons (b := false) (se_var 1) (sa_nil)))) (sa_nil))))) (ss_one (ss_ret (se_bl))) (ss_nil))))))
    (ss_one (ss_ret (se_bl)))
end
end Law_strictranks_k26_ways_of_exchanges
end
section
set_option Elab.async false
set_option linter.all false
set_option maxRecDepth 100000
set_option maxHeartbeats 0
namespace Law_strictranks_k26_ways_of_exchanges
open PySem PySem.Spec PyProof.Rows L2 L2.VL L2.TX
theorem txt {K : PySem.W.Frag} {h : Heap} {mg : Str → Option Value} (X : K.In h) (G : h.Ns mainGlobals mg) (c : He.SaysD fa fn K) (cx : (fc.all fun f => f.ok K) = true) : Txt K mg where
  n_ValueError := He.free_ok X G (c.fact 27 (f := .free "ValueError") rfl)
  n_abs := He.free_ok X G (c.fact 28 (f := .free "abs") rfl)
  n_all := He.free_ok X G (c.fact 29 (f := .free "all") rfl)
  n_bool := He.free_ok X G (c.fact 30 (f := .free "bool") rfl)
  n_enumerate := He.free_ok X G (c.fact 31 (f := .free "enumerate") rfl)
  n_int := He.free_ok X G (c.fact 32 (f := .free "int") rfl)
  n_isinstance := He.free_ok X G (c.fact 33 (f := .free "isinstance") rfl)
  n_len := He.free_ok X G (c.fact 34 (f := .free "len") rfl)
  n_list := He.free_ok X G (c.fact 35 (f := .free "list") rfl)
  n_max := He.free_ok X G (c.fact 36 (f := .free "max") rfl)
  n_min := He.free_ok X G (c.fact 37 (f := .free "min") rfl)
  n_range := He.free_ok X G (c.fact 38 (f := .free "range") rfl)
  n_repr := He.free_ok X G (c.fact 39 (f := .free "repr") rfl)
  n_sorted := He.free_ok X G (c.fact 40 (f := .free "sorted") rfl)
  n_str := He.free_ok X G (c.fact 41 (f := .free "str") rfl)
  n_sum := He.free_ok X G (c.fact 42 (f := .free "sum") rfl)
  n_zip := He.free_ok X G (c.fact 43 (f := .free "zip") rfl)
  c_AGAINST := He.str_ok X G (c.fact 44 (f := .str "AGAINST" "L") rfl)
  c_FOR := He.str_ok X G (c.fact 45 (f := .str "FOR" "W") rfl)
  c_MOST_COUNTED := He.int_ok X G (c.fact 46 (f := .int "MOST_COUNTED" 14) rfl)
  c_MOST_FACTS := He.int_ok X G (c.fact 47 (f := .int "MOST_FACTS" 200) rfl)
  c_MOST_RULES := He.int_ok X G (c.fact 48 (f := .int "MOST_RULES" 60) rfl)
  c_SILENT := He.str_ok X G (c.fact 49 (f := .str "SILENT" ".") rfl)
  f__law_pick := ⟨_, (c.def_ 0 (d := d__law_pick) rfl).imp fun fd F => ⟨He.glo_ok X G (c.fact 0 (f := .glo "_law_pick") rfl), F⟩⟩
  f__law_order := ⟨_, (c.def_ 1 (d := d__law_order) rfl).imp fun fd F => ⟨He.glo_ok X G (c.fact 1 (f := .glo "_law_order") rfl), F⟩⟩
  f__law_fact := ⟨_, (c.def_ 2 (d := d__law_fact) rfl).imp fun fd F => ⟨He.glo_ok X G (c.fact 2 (f := .glo "_law_fact") rfl), F⟩⟩
  f__law_holds := ⟨_, (c.def_ 3 (d := d__law_holds) rfl).imp fun fd F => ⟨He.glo_ok X G (c.fact 3 (f := .glo "_law_holds") rfl), F⟩⟩
  f__law_facts := ⟨_, (c.def_ 4 (d := d__law_facts) rfl).imp fun fd F => ⟨He.glo_ok X G (c.fact 4 (f := .glo "_law_facts") rfl), F⟩⟩
  f__law_can := ⟨_, (c.def_ 5 (d := d__law_can) rfl).imp fun fd F => ⟨He.glo_ok X G (c.fact 5 (f := .glo "_law_can") rfl), F⟩⟩
  f__law_wandered := ⟨_, (c.def_ 6 (d := d__law_wandered) rfl).imp fun fd F => ⟨He.glo_ok X G (c.fact 6 (f := .glo "_law_wandered") rfl), F⟩⟩
  f_is_integer := ⟨_, (c.def_ 7 (d := d_is_integer) rfl).imp fun fd F => ⟨He.glo_ok X G (c.fact 7 (f := .glo "is_integer") rfl), F⟩⟩
  f_need_count := ⟨_, (c.def_ 8 (d := d_need_count) rfl).imp fun fd F => ⟨He.glo_ok X G (c.fact 8 (f := .glo "need_count") rfl), F⟩⟩
  f_fits_fact := ⟨_, (c.def_ 9 (d := d_fits_fact) rfl).imp fun fd F => ⟨He.glo_ok X G (c.fact 9 (f := .glo "fits_fact") rfl), F⟩⟩
  f_need_facts := ⟨_, (c.def_ 10 (d := d_need_facts) rfl).imp fun fd F => ⟨He.glo_ok X G (c.fact 10 (f := .glo "need_facts") rfl), F⟩⟩
  f_need_count_and_facts := ⟨_, (c.def_ 11 (d := d_need_count_and_facts) rfl).imp fun fd F => ⟨He.glo_ok X G (c.fact 11 (f := .glo "need_count_and_facts") rfl), F⟩⟩
  f_is_order := ⟨_, (c.def_ 12 (d := d_is_order) rfl).imp fun fd F => ⟨He.glo_ok X G (c.fact 12 (f := .glo "is_order") rfl), F⟩⟩
  f_need_order := ⟨_, (c.def_ 13 (d := d_need_order) rfl).imp fun fd F => ⟨He.glo_ok X G (c.fact 13 (f := .glo "need_order") rfl), F⟩⟩
  f_holds_along := ⟨_, (c.def_ 14 (d := d_holds_along) rfl).imp fun fd F => ⟨He.glo_ok X G (c.fact 14 (f := .glo "holds_along") rfl), F⟩⟩
  f_need_holding := ⟨_, (c.def_ 15 (d := d_need_holding) rfl).imp fun fd F => ⟨He.glo_ok X G (c.fact 15 (f := .glo "need_holding") rfl), F⟩⟩
  f_way_between := ⟨_, (c.def_ 16 (d := d_way_between) rfl).imp fun fd F => ⟨He.glo_ok X G (c.fact 16 (f := .glo "way_between") rfl), F⟩⟩
  f__law_pairs := ⟨_, (c.def_ 17 (d := d__law_pairs) rfl).imp fun fd F => ⟨He.glo_ok X G (c.fact 17 (f := .glo "_law_pairs") rfl), F⟩⟩
  f__law_is_step := ⟨_, (c.def_ 18 (d := d__law_is_step) rfl).imp fun fd F => ⟨He.glo_ok X G (c.fact 18 (f := .glo "_law_is_step") rfl), F⟩⟩
  f__law_way := ⟨_, (c.def_ 19 (d := d__law_way) rfl).imp fun fd F => ⟨He.glo_ok X G (c.fact 19 (f := .glo "_law_way") rfl), F⟩⟩
  f__law_fails := ⟨_, (c.def_ 20 (d := d__law_fails) rfl).imp fun fd F => ⟨He.glo_ok X G (c.fact 20 (f := .glo "_law_fails") rfl), F⟩⟩
  f_turned_pairs := ⟨_, (c.def_ 21 (d := d_turned_pairs) rfl).imp fun fd F => ⟨He.glo_ok X G (c.fact 21 (f := .glo "turned_pairs") rfl), F⟩⟩
  f_exchanges_between := ⟨_, (c.def_ 22 (d := d_exchanges_between) rfl).imp fun fd F => ⟨He.glo_ok X G (c.fact 22 (f := .glo "exchanges_between") rfl), F⟩⟩
  f__law_far := ⟨_, (c.def_ 23 (d := d__law_far) rfl).imp fun fd F => ⟨He.glo_ok X G (c.fact 23 (f := .glo "_law_far") rfl), F⟩⟩
  f__law_right := ⟨_, (c.def_ 24 (d := d__law_right) rfl).imp fun fd F => ⟨He.glo_ok X G (c.fact 24 (f := .glo "_law_right") rfl), F⟩⟩
  f__law_well := ⟨_, (c.def_ 25 (d := d__law_well) rfl).imp fun fd F => ⟨He.glo_ok X G (c.fact 25 (f := .glo "_law_well") rfl), F⟩⟩
  f_law := ⟨_, (c.def_ 26 (d := d_law) rfl).imp fun fd F => ⟨He.glo_ok X G (c.fact 26 (f := .glo "law") rfl), F⟩⟩
  x_Fails := exct_ok (He.glo_ok X G (c.fact 50 (f := .glo "Fails") rfl)) (c.fact 55 (f := .exc "Fails") rfl)
  x_InvalidCount := exct_ok (He.glo_ok X G (c.fact 51 (f := .glo "InvalidCount") rfl)) (c.fact 56 (f := .exc "InvalidCount") rfl)
  x_InvalidFacts := exct_ok (He.glo_ok X G (c.fact 52 (f := .glo "InvalidFacts") rfl)) (c.fact 57 (f := .exc "InvalidFacts") rfl)
  x_InvalidOrder := exct_ok (He.glo_ok X G (c.fact 53 (f := .glo "InvalidOrder") rfl)) (c.fact 58 (f := .exc "InvalidOrder") rfl)
  x_RankError := exct_ok (He.glo_ok X G (c.fact 54 (f := .glo "RankError") rfl)) (c.fact 59 (f := .exc "RankError") rfl)
  k_Fails := kx_ok (fc_at cx 0 (f := .kx "Fails"))
  k_InvalidCount := kx_ok (fc_at cx 1 (f := .kx "InvalidCount"))
  k_InvalidFacts := kx_ok (fc_at cx 2 (f := .kx "InvalidFacts"))
  k_InvalidOrder := kx_ok (fc_at cx 3 (f := .kx "InvalidOrder"))
  z_Fails_Fails := ko_ok (fc_at cx 4 (f := .ko "Fails" "Fails" true))
  z_Fails_InvalidOrder := ko_ok (fc_at cx 5 (f := .ko "Fails" "InvalidOrder" false))
  z_InvalidCount_Fails := ko_ok (fc_at cx 6 (f := .ko "InvalidCount" "Fails" false))
  z_InvalidCount_InvalidOrder := ko_ok (fc_at cx 7 (f := .ko "InvalidCount" "InvalidOrder" false))
  z_InvalidFacts_Fails := ko_ok (fc_at cx 8 (f := .ko "InvalidFacts" "Fails" false))
  z_InvalidFacts_InvalidOrder := ko_ok (fc_at cx 9 (f := .ko "InvalidFacts" "InvalidOrder" false))
  z_InvalidOrder_Fails := ko_ok (fc_at cx 10 (f := .ko "InvalidOrder" "Fails" false))
  z_InvalidOrder_InvalidOrder := ko_ok (fc_at cx 11 (f := .ko "InvalidOrder" "InvalidOrder" true))
  zb_Fails_ValueError := kb_ok (fc_at cx 12 (f := .kb "Fails" "ValueError" true))
  zb_InvalidCount_ValueError := kb_ok (fc_at cx 13 (f := .kb "InvalidCount" "ValueError" true))
  zb_InvalidFacts_ValueError := kb_ok (fc_at cx 14 (f := .kb "InvalidFacts" "ValueError" true))
  zb_InvalidOrder_ValueError := kb_ok (fc_at cx 15 (f := .kb "InvalidOrder" "ValueError" true))
  m_Fails_RankError := He.exm_ok (c.fact 60 (f := .exm "Fails" "RankError" true) rfl)
  m_InvalidCount_RankError := He.exm_ok (c.fact 61 (f := .exm "InvalidCount" "RankError" true) rfl)
  m_InvalidFacts_RankError := He.exm_ok (c.fact 62 (f := .exm "InvalidFacts" "RankError" true) rfl)
  m_InvalidOrder_RankError := He.exm_ok (c.fact 63 (f := .exm "InvalidOrder" "RankError" true) rfl)
  a__law_right := He.glo_ok X G (c.fact 24 (f := .glo "_law_right") rfl)
end Law_strictranks_k26_ways_of_exchanges
open PySem PySem.W PySem.Calls PyProof.Rows
theorem Law_strictranks_k26_ways_of_exchanges.holds (hspec : ∀ ns : List Int, ns.length ≤ 63 → L2.VL.FRes.post (Law_strictranks_k26_ways_of_exchanges.F_law [L2.VL.shA (.lst (ns.map fun n => .con (.int n)))]) (fun d _ _ => d = .bl true) fun _ _ => False) : PySem.Challenge.rw_strictranks_k26_ways_of_exchanges.Holds := by
  w_on; o_law
  refine HandSHeadRun.head_any (r := OpenLaw.row PySem.Challenge.rw_strictranks_k26_ways_of_exchanges) (q := view (OpenLaw.row PySem.Challenge.rw_strictranks_k26_ways_of_exchanges).prog [41]) (H := Law_strictranks_k26_ways_of_exchanges.hk) (ob := Law_strictranks_k26_ways_of_exchanges.ob) (M := 2812) (loose := Law_strictranks_k26_ways_of_exchanges.loose) (d := HandSHeadRun.topDef (OpenLaw.row PySem.Challenge.rw_strictranks_k26_ways_of_exchanges).prog 41) (kwd := []) Law_strictranks_k26_ways_of_exchanges.ob_eq
    (by kernel_rfl) (fun s => by kernel_rfl) Law_strictranks_k26_ways_of_exchanges.run (by kernel_rfl) (by kernel_rfl) (by kernel_rfl) (by rfl) (by first | assumption | decide +kernel) (by decide +kernel) ⟨rfl, rfl, rfl, rfl, rfl, by decide +kernel⟩ ?hw ?hc
  case hw => w_witness2
  case hc =>
    refine L2.VL.walkT (l := PySem.Challenge.rw_strictranks_k26_ways_of_exchanges) (n := 63) (k := 8) (x := "_law_script") rfl (by decide) (by kernel_rfl) ⟨rfl, by decide, by decide⟩ ?_
    intro w mg fa h Y G hmg0
    obtain ⟨K, S⟩ := Y
    have KX := S.inK
    have c := S.d
    have cx := S.c
    have hmg : mg ("law" : PySem.Str) = some (.ref fa) := by
      have e : (HandSHeadRun.topDef (OpenLaw.row PySem.Challenge.rw_strictranks_k26_ways_of_exchanges).prog 41).name = ("law" : PySem.Str) := by kernel_rfl
      rw [← e]
      exact hmg0
    have T := Law_strictranks_k26_ways_of_exchanges.txt KX G c cx
    obtain ⟨f, fd, hm, F⟩ := T.f_law.ex
    rw [hmg] at hm
    cases hm
    have b := L2.FunD.bindsA (ps := ["_law_script"]) F fun _ _ _ _ _ _ us hl => match us, hl with | [_], _ => rfl
    refine ⟨K, fd, Law_strictranks_k26_ways_of_exchanges.F_law, _, _, KX, S.empty, S.out, PySem.W.codeHd_of_K KX S.hd, fun s v => b s [v] rfl, fun H a ns hl hH hS => L2.VL.law_spT rfl hH hS (hspec ns hl), fun base TL => ?_⟩
    exact L2.VL.fn_ok F Law_strictranks_k26_ways_of_exchanges.sc_law (fun cdv A outer s H E c => Law_strictranks_k26_ways_of_exchanges.b_law T TL fa cdv A outer s H E c)
end
section
set_option Elab.async false
set_option linter.all false
set_option maxRecDepth 100000
set_option autoImplicit false
noncomputable section
namespace Law_strictranks_k26_ways_of_exchanges
open PySem PySem.Spec PyProof.Rows L2 L2.VL L2.TX
def g__law_pick (well_here : (List Int)) (bound : Int) : Option (Int × (List Int)) :=
  (ixL well_here 0).bind fun x =>
  (if (decide (x > 0)) = true then (ixL well_here 0).bind fun x_1 =>
  (modI x_1 bound).bind fun x_2 =>
  (ixL well_here 0).bind fun x_3 =>
  (divI x_3 bound).bind fun x_4 =>
  (setL well_here 0 x_4).bind fun well_here_1 => some (x_2, well_here_1) else (ixL well_here 2).bind fun x_5 =>
  (setL well_here 2 (x_5 + 1)).bind fun well_here_2 =>
  (ixL well_here_2 1).bind fun x_6 =>
  (ixL well_here_2 2).bind fun x_7 =>
  (powN (x_6 + (524287 * x_7)) 5).bind fun x_8 =>
  (modI x_8 (1000000000000000000000000000000000 + 61)).bind fun x_9 =>
  (ixL well_here_2 2).bind fun x_10 =>
  (powN (x_9 + (2097143 * x_10)) 3).bind fun x_11 =>
  (modI x_11 (1000000000000000000000000000 + 103)).bind fun x_12 =>
  (modI (x_12 / 4093) bound).bind fun x_13 => some (x_13, well_here_2))
def g__law_order_b1  (s' : ((List Int) × (List Int) × (List Int))) (turn : Int) : Option (((List Int) × (List Int) × (List Int))) :=
  (g__law_pick s'.1 (s'.2.1.length : Int)).bind fun x =>
  (popL s'.2.1 x.1).bind fun x_1 =>
  (appL s'.2.2 x_1.1).bind fun found => some (x.2, x_1.2, found)
def g__law_order (well_here : (List Int)) (many : Int) : Option ((List Int) × (List Int)) :=
  (lrg many).bind fun left =>
  (rng 0 many).bind fun r =>
  (fo (fun s turn => g__law_order_b1 s turn) r (well_here, left, [])).bind fun s'_1 => some (s'_1.2.2, s'_1.1)
def g__law_fact_b2 (many : Int) (s' : ((List Int) × (List (List Nat)))) (sign : (List Nat)) : Option (((List Int) × (List (List Nat)))) :=
  (g__law_pick s'.1 many).bind fun x_6 =>
  (setL s'.2 x_6.1 sign).bind fun signs_1 => some (x_6.2, signs_1)
def g__law_fact (well_here : (List Int)) (many : Int) (kind : Int) : Option ((List Nat) × (List Int)) :=
  (rng 0 many).bind fun r =>
  (lcXC (fun t rule => some (true, t)) (fun t rule =>
  (g__law_pick t 3).bind fun x_2 =>
  (ixS [87, 76, 46] x_2.1).bind fun x_3 => some (x_3, x_2.2)) r well_here).bind fun signs =>
  (if (decide (kind > 0)) = true then (repL [[46]] many).bind fun x_4 =>
  (ixL [[87, 87, 76, 76], [87, 87, 87, 76]] (kind - 1)).bind fun x_5 =>
  (fo (fun s sign => g__law_fact_b2 many s sign) (chs x_5) (signs.2, x_4)).bind fun s'_1 => some (s'_1.1, s'_1.2) else some (signs.2, signs.1)).bind fun s'_2 =>
  (joinS [] s'_2.2).bind fun res => some (res, s'_2.1)
def g__law_holds (order_here : (List Int)) (fact_here : (List Nat)) : Option (Bool) :=
  (lcC (fun rule => some true) (fun rule =>
  (ixS fact_here rule).bind fun x => some x) order_here).bind fun x_1 =>
  (joinS [] x_1).bind fun x_2 =>
  (repT [46] [] x_2).bind fun x_3 =>
  (cutT x_3 none (some 1)).bind fun x_4 => some (!(decide (x_4 = [76])))
def g__law_facts_b1 (order_here : (List Int)) (is_true : Bool) (kind : (Int × (List Int))) (s' : ((List Int) × (List (List Nat)))) (turn : Int) : Option (((List Int) × (List (List Nat)))) :=
  (g__law_fact s'.1 (order_here.length : Int) kind.1).bind fun fact_here =>
  (if is_true = true then ((g__law_holds order_here fact_here.1).bind fun x_1 => some (!x_1)) else some false).bind fun b =>
  (if b = true then (repT [87] [63] fact_here.1).bind fun x_2 =>
  (repT [76] [87] x_2).bind fun x_3 =>
  (repT [63] [76] x_3).bind fun fact_here_1 => some fact_here_1 else some fact_here.1).bind fun fact_here_2 =>
  (g__law_pick fact_here.2 12).bind fun way_here =>
  (if (decide (way_here.1 = 0)) = true then (mulS [46] (order_here.length : Int)).bind fun x_4 => some x_4 else some fact_here_2).bind fun fact_here_3 =>
  (if (decide (way_here.1 = 1)) = true then ((eqG (fun xs => xs.all okS) s'.2 []).bind fun b_1 => some (!b_1)) else some false).bind fun b_2 =>
  (if b_2 = true then (g__law_pick way_here.2 (s'.2.length : Int)).bind fun x_5 =>
  (ixL s'.2 x_5.1).bind fun fact_here_4 => some (x_5.2, fact_here_4) else some (way_here.2, fact_here_3)).bind fun s'_1 =>
  (appL s'.2 s'_1.2).bind fun found => some (s'_1.1, found)
def g__law_facts (well_here : (List Int)) (order_here : (List Int)) (most : Int) (is_true : Bool) : Option ((List (List Nat)) × (List Int)) :=
  (g__law_pick well_here 3).bind fun kind =>
  (g__law_pick kind.2 (most + 1)).bind fun x =>
  (rng 0 x.1).bind fun r =>
  (fo (fun s turn => g__law_facts_b1 order_here is_true kind s turn) r (x.2, [])).bind fun s'_2 => some (s'_2.2, s'_2.1)
def g__law_can (facts_here : (List (List Nat))) (front : (List Int)) (rule : Int) : Option (Bool) :=
  (lcC (fun fact_here =>
  (ixS fact_here rule).bind fun x => some (decide (x = [76]))) (fun fact_here => some fact_here) facts_here).bind fun against =>
  (lcC (fun fact_here_1 =>
  (lcC (fun one => some true) (fun one =>
  (ixS fact_here_1 one).bind fun x_1 => some x_1) front).bind fun x_2 => some (!(decide ([87] ∈ x_2)))) (fun fact_here_1 => some fact_here_1) against).bind fun x_3 =>
  (eqG (fun xs => xs.all okS) x_3 []).bind fun b => some b
def g__law_wandered_b1 (many : Int) (facts_here : (List (List Nat))) (s' : ((List Int) × (List Int)))  : Option (Fw ((List Int) × (List Int)) Empty) :=
  (rng 0 many).bind fun r =>
  (lcC (fun rule =>
  (if (!(decide (rule ∈ s'.2))) = true then ((g__law_can facts_here s'.2 rule).bind fun x => some x) else some false).bind fun b => some b) (fun rule => some rule) r).bind fun fit =>
  (g__law_pick s'.1 (fit.length : Int)).bind fun x_1 =>
  (ixL fit x_1.1).bind fun x_2 =>
  (appL s'.2 x_2).bind fun found => some (.nx (x_1.2, found))
def g__law_wandered (well_here : (List Int)) (many : Int) (facts_here : (List (List Nat))) : Option ((List Int) × (List Int)) :=
  (wh (fun s' => some (decide ((s'.2.length : Int) < many))) (fun s => g__law_wandered_b1 many facts_here s) (well_here, [])).bind (fwOut (fun s'_1 => some (s'_1.2, s'_1.1)) Empty.elim)
def g_is_integer (value : Int) (low : Int) (high : (Option Int)) : Option (Bool) :=
  (if ((!true) || false) = true then some false else (if (decide (low ≤ value)) = true then ((if high.isNone = true then some true else ((high).bind fun x => some (decide (value ≤ x)))).bind fun b => some b) else some false).bind fun b_1 => some b_1)
def g_need_count (count : Int) (most : Int) : Option (Except Exn Unit) :=
  (g_is_integer count 1 (some most)).bind fun x =>
  (if (!x) = true then some (.error ⟨"InvalidCount", none⟩) else some (.ok ()))
def g_fits_fact (count : Int) (value : (List Nat)) : Option (Bool) :=
  (if (!true) = true then some true else ((lenS value).bind fun x => some (!(decide (x = count))))).bind fun b =>
  (if b = true then some false else (lcC (fun sign => some true) (fun sign => some (decide (sign ∈ [[87], [76], [46]]))) (chs value)).bind fun x_1 => some (x_1.all id))
def g_need_facts (count : Int) (facts : (List (List Nat))) : Option (Except Exn Unit) :=
  (if (!true) = true then some true else ((if (decide ((facts.length : Int) > 200)) = true then some true else ((lcC (fun fact => some true) (fun fact =>
  (g_fits_fact count fact).bind fun x => some x) facts).bind fun x_1 => some (!(x_1.all id)))).bind fun b => some b)).bind fun b_1 =>
  (if b_1 = true then some (.error ⟨"InvalidFacts", none⟩) else some (.ok ()))
def g_need_count_and_facts (count : Int) (facts : (List (List Nat))) (most : Int) : Option (Except Exn Unit) :=
  (xb (g_need_count count most) fun x =>
  (xb (g_need_facts count facts) fun x_1 => some (.ok ())))
def g_is_order (value : (List Int)) : Option (Bool) :=
  (if ((!true) || (!((decide (1 ≤ (value.length : Int))) && (decide ((value.length : Int) ≤ 60))))) = true then some false else (lcC (fun rule => some true) (fun rule =>
  (g_is_integer rule 0 none).bind fun x => some x) value).bind fun x_1 =>
  (if (x_1.all id) = true then ((lrg (value.length : Int)).bind fun x_2 => some (decide (sortI value = x_2))) else some false).bind fun b => some b)
def g_need_order (order : (List Int)) (count : (Option Int)) : Option (Except Exn Unit) :=
  (g_is_order order).bind fun x =>
  (if ((!x) || (count.isSome && (!(decide (some (order.length : Int) = count))))) = true then some (.error ⟨"InvalidOrder", none⟩) else some (.ok ()))
def g_holds_along (order : (List Int)) (fact : (List Nat)) : Option (Bool) :=
  (lcC (fun rule =>
  (ixS fact rule).bind fun x => some (!(decide (x = [46])))) (fun rule =>
  (ixS fact rule).bind fun x_1 => some x_1) order).bind fun signs =>
  (eqG (fun xs => xs.all okS) signs []).bind fun b =>
  (if b = true then some true else ((ixL signs 0).bind fun x_2 => some (decide (x_2 = [87])))).bind fun b_1 => some b_1
def g_need_holding (facts : (List (List Nat))) (order : (List Int)) : Option (Except Exn Unit) :=
  (lcC (fun fact => some true) (fun fact =>
  (g_holds_along order fact).bind fun x => some x) facts).bind fun x_1 =>
  (if (!(x_1.all id)) = true then some (.error ⟨"Fails", none⟩) else some (.ok ()))
def g_way_between_b2  (s'_1 : ((List (List Int)) × (List Int))) (at' : Int) : Option (((List (List Int)) × (List Int))) :=
  (ixL s'_1.2 at').bind fun x_6 =>
  (ixL s'_1.2 (at' - 1)).bind fun x_7 =>
  (catL (cutL s'_1.2 none (some (at' - 1))) [x_6, x_7]).bind fun x_8 =>
  (catL x_8 (cutL s'_1.2 (some (at' + 1)) none)).bind fun x_9 =>
  (appL s'_1.1 x_9).bind fun found_1 => some (found_1, x_9)
def g_way_between_b1  (s' : ((List (List Int)) × (List Int))) (p : (Int × Int)) : Option (((List (List Int)) × (List Int))) :=
  (idxL s'.2 p.2).bind fun x_5 =>
  (rngDn x_5 p.1).bind fun r =>
  (fo (fun s at' => g_way_between_b2 s at') r (s'.1, s'.2)).bind fun s'_2 => some (s'_2.1, s'_2.2)
def g_way_between (count : Int) (facts : (List (List Nat))) (order : (List Int)) (other : (List Int)) : Option (Except Exn (List (List Int))) :=
  (xb (g_need_count_and_facts count facts 14) fun x =>
  (xb (g_need_order order (some count)) fun x_1 =>
  (xb (g_need_order other (some count)) fun x_2 =>
  (xb (g_need_holding facts order) fun x_3 =>
  (xb (g_need_holding facts other) fun x_4 =>
  lt ([order] : (List (List Int))) fun found =>
  (fo (fun s p => g_way_between_b1 s p) (enm other) (found, order)).bind fun s'_3 => some (.ok s'_3.1))))))
def g__law_pairs_b1 (two : (List Int)) (s' : (List Int)) (place : Int) : Option ((List Int)) :=
  (ixL two place).bind fun x_1 =>
  (setL s' x_1 place).bind fun where' => some where'
def g__law_pairs (one : (List Int)) (two : (List Int)) : Option (Int) :=
  (repL [0] (two.length : Int)).bind fun x =>
  (rng 0 (two.length : Int)).bind fun r =>
  (fo (fun s place => g__law_pairs_b1 two s place) r x).bind fun where'_1 =>
  (rng 0 (one.length : Int)).bind fun r_1 =>
  (lcC (fun k => some true) (fun k =>
  (lcC (fun other =>
  (ixL where'_1 other).bind fun x_2 =>
  (ixL one k).bind fun x_3 =>
  (ixL where'_1 x_3).bind fun x_4 => some (decide (x_2 < x_4))) (fun other => some (1 : Int)) (cutL one (some k) none)).bind fun x_5 => some (x_5.length : Int)) r_1).bind fun x_6 => some x_6.sum
def g__law_is_step (one : (List Int)) (two : (List Int)) : Option (Bool) :=
  (if ((!true) || (!(decide ((one.length : Int) = (two.length : Int))))) = true then some false else (rng 0 (one.length : Int)).bind fun r =>
  (lcC (fun k =>
  (ixL one k).bind fun x =>
  (ixL two k).bind fun x_1 => some (!(decide (x = x_1)))) (fun k => some k) r).bind fun there =>
  (if (!(decide ((there.length : Int) = 2))) = true then some true else ((ixL there 1).bind fun x_2 =>
  (ixL there 0).bind fun x_3 => some (!(decide (x_2 = x_3 + 1))))).bind fun b =>
  (if b = true then some false else (repG ((rL rI) two)).bind fun x_4 =>
  (ixL there 0).bind fun x_5 =>
  (ixL there 1).bind fun x_6 =>
  (ixL one x_6).bind fun x_7 =>
  (ixL there 0).bind fun x_8 =>
  (ixL one x_8).bind fun x_9 =>
  (catL (cutL one none (some x_5)) [x_7, x_9]).bind fun x_10 =>
  (ixL there 1).bind fun x_11 =>
  (catL x_10 (cutL one (some (x_11 + 1)) none)).bind fun x_12 =>
  (repG ((rL rI) x_12)).bind fun x_13 => some (decide (x_4 = x_13))))
def g__law_way (many : Int) (facts_here : (List (List Nat))) (one : (List Int)) (two : (List Int)) : Option (Bool) :=
  lt ((facts_here, one, two) : ((List (List Nat)) × (List Int) × (List Int))) fun passed =>
  (noRs (g_way_between many passed.1 passed.2.1 passed.2.2)).bind fun way_here =>
  (if (!true) = true then some true else ((g__law_pairs one two).bind fun x =>
  (if (!(decide ((way_here.length : Int) = 1 + x))) = true then some true else ((eqG (fun p =>
  (fun xs => xs.all okS) p.1 && ((fun _ => true) p.2.1 && (fun _ => true) p.2.2)) passed (facts_here, one, two)).bind fun b => some (!b))).bind fun b_1 => some b_1)).bind fun b_2 =>
  (if b_2 = true then some false else (ixL way_here 0).bind fun x_1 =>
  (ixL way_here (-1)).bind fun x_2 =>
  (repG ((rL (rL rI)) [x_1, x_2])).bind fun x_3 =>
  (repG ((rL (rL rI)) [one, two])).bind fun x_4 =>
  (if (!(decide (x_3 = x_4))) = true then some false else (lcC (fun p =>
  (g__law_is_step p.1 p.2).bind fun x_5 => some (!x_5)) (fun p => some (1 : Int)) (way_here.zip (cutL way_here (some 1) none))).bind fun x_6 =>
  (if (!(decide (x_6 = []))) = true then some false else (lcC (fun order_here =>
  (lcC (fun fact_here =>
  (g__law_holds order_here fact_here).bind fun x_7 => some (!x_7)) (fun fact_here => some fact_here) facts_here).bind fun x_8 =>
  (eqG (fun xs => xs.all okS) x_8 []).bind fun b_3 => some (!b_3)) (fun order_here => some (1 : Int)) way_here).bind fun x_9 =>
  (if (!(decide (x_9 = []))) = true then some false else (revI way_here 0).bind fun way_here_1 =>
  (eqG (fun p =>
  (fun xs => xs.all okS) p.1 && ((fun _ => true) p.2.1 && (fun _ => true) p.2.2)) passed (facts_here, one, two)).bind fun b_4 => some b_4))))
def g__law_fails (call : (Int × (List (List Nat)) × (List Int) × (List Int))) : Option (Bool) :=
  (tryA [("Fails", true), ("InvalidCount", true), ("InvalidFacts", true), ("InvalidOrder", true)] ((xb (g_way_between call.1 call.2.1 call.2.2.1 call.2.2.2) fun x => some (.ok []))) (fun x =>
  (isLB [[("Fails", true), ("InvalidCount", false), ("InvalidFacts", false), ("InvalidOrder", false)], [("Fails", false), ("InvalidCount", false), ("InvalidFacts", false), ("InvalidOrder", true)], [("Fails", true), ("InvalidCount", true), ("InvalidFacts", true), ("InvalidOrder", true)]] x).map fun d' => d')).bind fun told => some (decide (told = [true, false, true]))
def g_turned_pairs (order : (List Int)) (other : (List Int)) : Option (Int) :=
  (lcC (fun rule => some true) (fun rule =>
  (idxL other rule).bind fun x => some x) order).bind fun places =>
  (lcC (fun p => some true) (fun p =>
  (lcC (fun later => some (decide (later < p.2))) (fun later => some later) (cutL places (some (p.1 + 1)) none)).bind fun x_1 => some (x_1.length : Int)) (enm places)).bind fun x_2 => some x_2.sum
def g_exchanges_between (order : (List Int)) (other : (List Int)) : Option (Except Exn Int) :=
  (xb (g_need_order order none) fun x =>
  (xb (g_need_order other (some (order.length : Int))) fun x_1 =>
  (g_turned_pairs order other).bind fun res => some (.ok res)))
def g__law_far (well_here : (List Int)) (many : Int) : Option (Bool × (List Int)) :=
  (g__law_order well_here many).bind fun one =>
  (g__law_order one.2 many).bind fun two =>
  (g__law_pairs one.1 two.1).bind fun due =>
  (noRs (g_exchanges_between one.1 two.1)).bind fun x =>
  (noRs (g_exchanges_between two.1 one.1)).bind fun x_1 =>
  (noRs (g_exchanges_between one.1 one.1)).bind fun x_2 =>
  lt ([x, x_1, x_2] : (List Int)) fun told =>
  (repG ((rL rI) told)).bind fun x_3 =>
  (repG ((rL rI) [due, due, 0])).bind fun x_4 => some (decide (x_3 = x_4), two.2)
def g__law_right_b1 (many : Int) (facts_here : ((List (List Nat)) × (List Int))) (any_order : ((List Int) × (List Int))) (s' : Unit) (p : ((List Int) × (List Int))) : Option (Fw Unit (Bool × (List Int))) :=
  (g__law_way many facts_here.1 p.1 p.2).bind fun x_3 =>
  (if (!x_3) = true then some (.ret (false, any_order.2)) else some (.nx ()))
def g__law_right_b2 (many : Int) (facts_here : ((List (List Nat)) × (List Int))) (any_order : ((List Int) × (List Int))) (s'_1 : Unit) (p_1 : ((List Int) × (List Int))) : Option (Fw Unit (Bool × (List Int))) :=
  (g__law_fails (many, facts_here.1, p_1.1, p_1.2)).bind fun x_10 =>
  (if (!x_10) = true then some (.ret (false, any_order.2)) else some (.nx ()))
def g__law_right (well_here : (List Int)) : Option (Bool × (List Int)) :=
  (g__law_pick well_here 14).bind fun x =>
  lt (1 + x.1 : Int) fun many =>
  (g__law_order x.2 many).bind fun hidden =>
  (g__law_pick hidden.2 4).bind fun x_1 =>
  (ixL [8, 8, 8, 60] x_1.1).bind fun x_2 =>
  (g__law_facts x_1.2 hidden.1 x_2 true).bind fun facts_here =>
  (g__law_wandered facts_here.2 many facts_here.1).bind fun other =>
  (g__law_order other.2 many).bind fun any_order =>
  (foW (fun s p => g__law_right_b1 many facts_here any_order s p) [(hidden.1, other.1), (other.1, hidden.1), (other.1, other.1)] ()).bind (fwOut (fun _u =>
  (lcC (fun fact_here =>
  (g__law_holds any_order.1 fact_here).bind fun x_4 => some (!x_4)) (fun fact_here => some fact_here) facts_here.1).bind fun x_5 =>
  (eqG (fun xs => xs.all okS) x_5 []).bind fun b =>
  (if b = true then (g__law_way many facts_here.1 any_order.1 hidden.1).bind fun x_6 =>
  (if (!x_6) = true then some (false, any_order.2) else (g__law_far any_order.2 many).bind fun x_7 =>
  (if x_7.1 = true then ((g__law_pick x_7.2 60).bind fun x_8 =>
  (g__law_far x_8.2 (1 + x_8.1)).bind fun x_9 => some (x_9.1, x_9.2)) else some (false, x_7.2)).bind fun w => some (w.1, w.2)) else (foW (fun s p_1 => g__law_right_b2 many facts_here any_order s p_1) [(any_order.1, hidden.1), (hidden.1, any_order.1), (any_order.1, any_order.1)] ()).bind (fwOut (fun _u =>
  (g__law_far any_order.2 many).bind fun x_11 =>
  (if x_11.1 = true then ((g__law_pick x_11.2 60).bind fun x_12 =>
  (g__law_far x_12.2 (1 + x_12.1)).bind fun x_13 => some (x_13.1, x_13.2)) else some (false, x_11.2)).bind fun w_1 => some (w_1.1, w_1.2)) fun a => some (a)))) fun a => some (a))
def g__law_well (script : (List Int)) (k : Int) : Option ((List Int)) :=
  (if (decide (k < (script.length : Int))) = true then (ixL script k).bind fun x => some x else some 0).bind fun x_1 =>
  (modI (if x_1 < 0 then -x_1 else x_1) (10000000000000000000000000000000 + 33)).bind fun x_2 => some [(if x_1 - 1000000000000000000 > 0 then x_1 - 1000000000000000000 else 0), (x_2 + (6700417 * k)) + 257, 0]
def g_law_b1 (script : (List Int)) (s' : Unit) (k : Int) : Option (Fw Unit Bool) :=
  (g__law_well script k).bind fun x =>
  (g__law_right x).bind fun x_1 =>
  (if (!x_1.1) = true then some (.ret false) else some (.nx ()))
def g_law (script : (List Int)) : Option (Bool) :=
  (rng 0 (if (if (script.length : Int) < 4 then (script.length : Int) else 4) > 1 then (if (script.length : Int) < 4 then (script.length : Int) else 4) else 1)).bind fun r =>
  (foW (fun s k => g_law_b1 script s k) r ()).bind (fwOut (fun _u => some true) fun a => some (a))
end Law_strictranks_k26_ways_of_exchanges
end
end
section
set_option Elab.async false
set_option linter.all false
set_option maxRecDepth 100000
set_option maxHeartbeats 1000000
namespace Law_strictranks_k26_ways_of_exchanges
open PySem PySem.Spec PyProof.Rows L2 L2.VL L2.TX
theorem strK0 : ("WL." : Str) = sx [87, 76, 46] := by decide
theorem strK1 : ("." : Str) = sx [46] := by decide
theorem strK2 : ("WWLL" : Str) = sx [87, 87, 76, 76] := by decide
theorem strK3 : ("WWWL" : Str) = sx [87, 87, 87, 76] := by decide
theorem strK4 : ("" : Str) = sx [] := by decide
theorem strK5 : ("L" : Str) = sx [76] := by decide
theorem strK6 : ("W" : Str) = sx [87] := by decide
theorem strK7 : ("?" : Str) = sx [63] := by decide
theorem rf__law_pick (well_here : (List Int)) (bound : Int) : RefT F__law_pick [⟨(rL rI) well_here, true⟩, ⟨rI bound, false⟩] rI false (fun tz => [sp_ (rL rI) tz, sl_ rI bound]) (g__law_pick well_here bound) := ref_ofT (ρ := [sp_ (rL rI) well_here, sl_ rI bound, none, none]) rfl rfl (by
  unfold g__law_pick
  exact bl_last (bl_assoc (bl_bind fun x hx => (bl_if (q_dB (q_cmp (q_op2 (q_var rfl) q_con rfl rfl (g_ixL (f := rI) hx)) q_con rfl rfl g_gtI) rfl) (fun _ => (bl_assoc (bl_bind fun x_1 hx_1 => (bl_bind fun x_2 hx_2 => (bl_setV (ρ2 := [sp_ (rL rI) well_here, sl_ rI bound, sl_ rI x_2, none]) (q_op2 (q_bi (a_T (q_op2 (q_var rfl) q_con rfl rfl (g_ixL (f := rI) hx_1)) a_nil) (cs_cons rfl cs_nil) g_intI) (q_var rfl) rfl rfl (g_modI hx_2)) rfl rfl rfl (bl_assoc (bl_bind fun x_3 hx_3 => (bl_bind fun x_4 hx_4 => (bl_bind fun well_here_1 hwell_here_1 => (bl_seq (ρ1 := [sp_ (rL rI) well_here_1, sl_ rI bound, sl_ rI x_2, none]) (q_setIx (q_op2 (q_op2 (q_var rfl) q_con rfl rfl (g_ixL (f := rI) hx_3)) (q_var rfl) rfl rfl (g_divI hx_4)) rfl rfl rfl q_con rfl rfl (g_setL (f := rI) hwell_here_1) rfl) (bl_ret (q_shN (q_var rfl) rfl rfl) rfl rfl ⟨_, rfl, rfl⟩))))))))))) (fun _ => (bl_nextS (bl_assoc (bl_bind fun x_5 hx_5 => (bl_bind fun well_here_2 hwell_here_2 => (bl_seq (ρ1 := [sp_ (rL rI) well_here_2, sl_ rI bound, none, none]) (q_setIx (q_op2 (q_op2 (q_var rfl) q_con rfl rfl (g_ixL (f := rI) hx_5)) q_con rfl rfl g_addI) rfl rfl rfl q_con rfl rfl (g_setL (f := rI) hwell_here_2) rfl) (bl_assoc (bl_bind fun x_6 hx_6 => (bl_bind fun x_7 hx_7 => (bl_bind fun x_8 hx_8 => (bl_bind fun x_9 hx_9 => (bl_setV (ρ2 := [sp_ (rL rI) well_here_2, sl_ rI bound, none, sl_ rI x_9]) (q_op2 (q_bi (a_T (q_op2 (q_op2 (q_op2 (q_var rfl) q_con rfl rfl (g_ixL (f := rI) hx_6)) (q_op2 q_con (q_op2 (q_var rfl) q_con rfl rfl (g_ixL (f := rI) hx_7)) rfl rfl (g_mulIl (by decide))) rfl rfl g_addI) q_con rfl rfl (g_powN hx_8)) a_nil) (cs_cons rfl cs_nil) g_intI) (q_op2 (q_op2 q_con q_con rfl rfl (g_powIk (by decide) (by decide))) q_con rfl rfl g_addI) rfl rfl (g_modI hx_9)) rfl rfl rfl (bl_assoc (bl_bind fun x_10 hx_10 => (bl_bind fun x_11 hx_11 => (bl_bind fun x_12 hx_12 => (bl_setV (ρ2 := [sp_ (rL rI) well_here_2, sl_ rI bound, none, sl_ rI x_12]) (q_op2 (q_bi (a_T (q_op2 (q_op2 (q_var rfl) (q_op2 q_con (q_op2 (q_var rfl) q_con rfl rfl (g_ixL (f := rI) hx_10)) rfl rfl (g_mulIl (by decide))) rfl rfl g_addI) q_con rfl rfl (g_powN hx_11)) a_nil) (cs_cons rfl cs_nil) g_intI) (q_op2 (q_op2 q_con q_con rfl rfl (g_powIk (by decide) (by decide))) q_con rfl rfl g_addI) rfl rfl (g_modI hx_12)) rfl rfl rfl (bl_bind fun x_13 hx_13 => (bl_ret (q_op2 (q_bi (a_T (q_op2 (q_var rfl) q_con rfl rfl (g_divIk (by decide))) a_nil) (cs_cons rfl cs_nil) g_intI) (q_var rfl) rfl rfl (g_modI hx_13)) rfl rfl ⟨_, rfl, rfl⟩)))))))))))))))))))))))
theorem rf__law_order_b1 (many : Int) (s' : ((List Int) × (List Int) × (List Int))) (turn : Int) : BL (PF [4] (PL (fun (s' : ((List Int) × (List Int) × (List Int))) => [sp_ (rL rI) s'.1, sl_ rI many, so_ (rL rI) s'.2.1, so_ (rL rI) s'.2.2, none]))) [sp_ (rL rI) s'.1, sl_ rI many, so_ (rL rI) s'.2.1, so_ (rL rI) s'.2.2, sl_ rI turn] r__law_order_2_l_1 (g__law_order_b1 s' turn) := by
  unfold g__law_order_b1
  exact bl_last (bl_bind fun x hx => (bl_bind fun x_1 hx_1 => (bl_bind fun found hfound => (bl_expr (q_mut (ρ2 := [sp_ (rL rI) x.2, sl_ rI many, so_ (rL rI) x_1.2, so_ (rL rI) found, sl_ rI turn]) rfl (a_FN (q_mut (ρ2 := [sp_ (rL rI) x.2, sl_ rI many, so_ (rL rI) x_1.2, so_ (rL rI) s'.2.2, sl_ rI turn]) rfl (a_FN (q_callT (ρ2 := [sp_ (rL rI) x.2, sl_ rI many, so_ (rL rI) s'.2.1, so_ (rL rI) s'.2.2, sl_ rI turn]) (rf__law_pick s'.1 (s'.2.1.length : Int)) hx (a_T (q_var rfl) (a_FN (q_bi (a_T (q_var rfl) a_nil) (cs_cons rfl cs_nil) (g_lenL (f := rI))) rfl rfl a_nil)) rfl rfl rfl rfl) rfl rfl a_nil) rfl rfl (g_pop (f := rI) hx_1) rfl) rfl rfl a_nil) rfl rfl (g_app (f := rI) hfound) rfl) (bl_end (Or.inl rfl))))))
theorem rf__law_order (well_here : (List Int)) (many : Int) : RefT F__law_order [⟨(rL rI) well_here, true⟩, ⟨rI many, false⟩] (rL rI) true (fun tz => [sp_ (rL rI) tz, sl_ rI many]) (g__law_order well_here many) := ref_ofT (ρ := [sp_ (rL rI) well_here, sl_ rI many, none, none, none]) rfl rfl (by
  unfold g__law_order
  exact bl_last (bl_assoc (bl_bind fun left hleft => (bl_seq (q_par (a_T (q_lrg (q_var rfl) rfl hleft) (a_T (q_lst (ds := List.map rI []) a_nil rfl rfl) a_nil)) rfl (q_put rfl rfl rfl) (q_put rfl rfl rfl)) (bl_assoc (bl_bind fun r hr => (bl_for (fb := rI) (s0 := (well_here, left, [])) (fun (s' : ((List Int) × (List Int) × (List Int))) => [sp_ (rL rI) s'.1, sl_ rI many, so_ (rL rI) s'.2.1, so_ (rL rI) s'.2.2, none]) (fun (s' : ((List Int) × (List Int) × (List Int))) (turn : Int) => [sp_ (rL rI) s'.1, sl_ rI many, so_ (rL rI) s'.2.1, so_ (rL rI) s'.2.2, sl_ rI turn]) rfl (i_rng (a_T (q_var rfl) a_nil) (cs_cons rfl cs_nil) (g_rng1 hr)) (fun _ _ => rfl) (fun s turn => rf__law_order_b1 many s turn) fun s'_1 => (bl_ret (q_var rfl) rfl rfl ⟨_, rfl, rfl⟩))))))))
theorem rf__law_fact_b2 (many : Int) (kind : Int) (s' : ((List Int) × (List (List Nat)))) (sign : (List Nat)) : BL (PF [4] (PL (fun (s' : ((List Int) × (List (List Nat)))) => [sp_ (rL rI) s'.1, sl_ rI many, sl_ rI kind, so_ (rL rS) s'.2, none, none]))) [sp_ (rL rI) s'.1, sl_ rI many, sl_ rI kind, so_ (rL rS) s'.2, sl_ rS sign, none] r__law_fact_2_a_2_l_1 (g__law_fact_b2 many s' sign) := by
  unfold g__law_fact_b2
  exact bl_last (bl_bind fun x_6 hx_6 => (bl_bind fun signs_1 hsigns_1 => (bl_seq (ρ1 := [sp_ (rL rI) x_6.2, sl_ rI many, sl_ rI kind, so_ (rL rS) signs_1, sl_ rS sign, none]) (q_setIx (q_var rfl) rfl rfl rfl (q_callT (ρ2 := [sp_ (rL rI) x_6.2, sl_ rI many, sl_ rI kind, so_ (rL rS) s'.2, sl_ rS sign, none]) (rf__law_pick s'.1 many) hx_6 (a_T (q_var rfl) (a_FN (q_var rfl) rfl rfl a_nil)) rfl rfl rfl rfl) rfl rfl (g_setL (f := rS) hsigns_1) rfl) (bl_end (Or.inl rfl)))))
theorem rf__law_fact (well_here : (List Int)) (many : Int) (kind : Int) : RefT F__law_fact [⟨(rL rI) well_here, true⟩, ⟨rI many, false⟩, ⟨rI kind, false⟩] rS false (fun tz => [sp_ (rL rI) tz, sl_ rI many, sl_ rI kind]) (g__law_fact well_here many kind) := ref_ofT (ρ := [sp_ (rL rI) well_here, sl_ rI many, sl_ rI kind, none, none, none]) rfl rfl (by
  unfold g__law_fact
  exact bl_last (bl_assoc (bl_bind fun r hr => (bl_bind fun signs hsigns => (bl_setV (ρ2 := [sp_ (rL rI) signs.2, sl_ rI many, sl_ rI kind, so_ (rL rS) signs.1, none, none]) (q_lcX (f := rS) (s := well_here) (fun t => [sp_ (rL rI) t, sl_ rI many, sl_ rI kind, none, none, none]) (fun t rule => [sp_ (rL rI) t, sl_ rI many, sl_ rI kind, none, none, sl_ rI rule]) (i_rng (a_T (q_var rfl) a_nil) (cs_cons rfl cs_nil) (g_rng1 hr)) rfl rfl (fun _ _ => rfl) (fun _ _ => rfl) (fun t rule => (xt_ret rfl)) (fun t rule => (xe_bind fun x_2 hx_2 => (xe_bind fun x_3 hx_3 => (xe_ret (f := rS) (q_op2 (q_str strK0) (q_callT (ρ2 := [sp_ (rL rI) x_2.2, sl_ rI many, sl_ rI kind, none, none, sl_ rI rule]) (rf__law_pick t 3) hx_2 (a_T (q_var rfl) (a_FN q_con rfl rfl a_nil)) rfl rfl rfl rfl) rfl rfl (g_ixS hx_3)) rfl rfl)))) hsigns) rfl rfl rfl (bl_assoc (bl_ifJ (fun (s'_2 : ((List Int) × (List (List Nat)))) => [sp_ (rL rI) s'_2.1, sl_ rI many, sl_ rI kind, so_ (rL rS) s'_2.2, none, none]) (q_dB (q_cmp (q_var rfl) q_con rfl rfl g_gtI) rfl) (fun _ => (bl_last (bl_assoc (bl_bind fun x_4 hx_4 => (bl_setV (ρ2 := [sp_ (rL rI) signs.2, sl_ rI many, sl_ rI kind, so_ (rL rS) x_4, none, none]) (q_op2 (q_lst (ds := List.map rS [[46]]) (a_FN (q_str strK1) rfl rfl a_nil) rfl rfl) (q_var rfl) rfl rfl (g_repL (f := rS) hx_4)) rfl rfl rfl (bl_bind fun x_5 hx_5 => (bl_for (fb := rS) (s0 := (signs.2, x_4)) (fun (s' : ((List Int) × (List (List Nat)))) => [sp_ (rL rI) s'.1, sl_ rI many, sl_ rI kind, so_ (rL rS) s'.2, none, none]) (fun (s' : ((List Int) × (List (List Nat)))) (sign : (List Nat)) => [sp_ (rL rI) s'.1, sl_ rI many, sl_ rI kind, so_ (rL rS) s'.2, sl_ rS sign, none]) rfl (i_anyN (q_op2 (q_lst (ds := List.map rS [[87, 87, 76, 76], [87, 87, 87, 76]]) (a_FN (q_str strK2) rfl rfl (a_FN (q_str strK3) rfl rfl a_nil)) rfl rfl) (q_op2 (q_var rfl) q_con rfl rfl g_subI) rfl rfl (g_ixL (f := rS) hx_5)) rfl rfl (any_S _)) (fun _ _ => rfl) (fun s sign => rf__law_fact_b2 many kind s sign) fun s'_1 => (bl_end rfl)))))))) (fun _ => (bl_last (bl_nextS (bl_end rfl)))) fun s'_2 => (bl_bind fun res hres => (bl_ret (q_mt (q_str strK4) rfl isStr_S (a_T (q_var rfl) a_nil) rfl (cs_cons rfl cs_nil) (g_join hres)) rfl rfl ⟨_, rfl, rfl⟩)))))))))
theorem rf__law_holds (order_here : (List Int)) (fact_here : (List Nat)) : Ref F__law_holds [⟨(rL rI) order_here, false⟩, ⟨rS fact_here, false⟩] rB false (g__law_holds order_here fact_here) := ref_of (ρ := [sl_ (rL rI) order_here, sl_ rS fact_here, none]) rfl (by
  unfold g__law_holds
  exact bl_last (bl_bind fun x_1 hx_1 => (bl_bind fun x_2 hx_2 => (bl_bind fun x_3 hx_3 => (bl_bind fun x_4 hx_4 => (bl_ret (q_cmp (q_slS (q_rep (y := [46]) (z := []) strK1 strK4 (q_mt (q_str strK4) rfl isStr_S (a_T (q_lc (f := rS) (fun rule => [sl_ (rL rI) order_here, sl_ rS fact_here, sl_ rI rule]) (i_anyN (q_var rfl) rfl rfl rfl) rfl rfl (fun _ => rfl) (fun _ => rfl) (fun rule => (vt_ret rfl)) (fun rule => (ve_bind fun x hx => (ve_ret (f := rS) (q_op2 (q_var rfl) (q_var rfl) rfl rfl (g_ixS hx)) rfl rfl))) hx_1) a_nil) rfl (cs_cons rfl cs_nil) (g_join hx_2)) rfl hx_3) q_part0 (q_part q_con rfl) rfl hx_4) (q_str strK5) rfl rfl (g_ne g_eqS)) rfl rfl ⟨_, rfl⟩))))))
theorem rf__law_facts_b1 (order_here : (List Int)) (most : Int) (is_true : Bool) (kind : (Int × (List Int))) (s' : ((List Int) × (List (List Nat)))) (turn : Int) : BL (PF [6, 7, 8] (PL (fun (s' : ((List Int) × (List (List Nat)))) => [sp_ (rL rI) s'.1, sl_ (rL rI) order_here, sl_ rI most, sl_ rB is_true, sl_ rI kind.1, so_ (rL rS) s'.2, none, none, none]))) [sp_ (rL rI) s'.1, sl_ (rL rI) order_here, sl_ rI most, sl_ rB is_true, sl_ rI kind.1, so_ (rL rS) s'.2, sl_ rI turn, none, none] r__law_facts_2_l_1 (g__law_facts_b1 order_here is_true kind s' turn) := by
  unfold g__law_facts_b1
  exact bl_last (bl_assoc (bl_bind fun fact_here hfact_here => (bl_setV (ρ2 := [sp_ (rL rI) fact_here.2, sl_ (rL rI) order_here, sl_ rI most, sl_ rB is_true, sl_ rI kind.1, so_ (rL rS) s'.2, sl_ rI turn, sl_ rS fact_here.1, none]) (q_callT (ρ2 := [sp_ (rL rI) fact_here.2, sl_ (rL rI) order_here, sl_ rI most, sl_ rB is_true, sl_ rI kind.1, so_ (rL rS) s'.2, sl_ rI turn, none, none]) (rf__law_fact s'.1 (order_here.length : Int) kind.1) hfact_here (a_T (q_var rfl) (a_FN (q_bi (a_T (q_var rfl) a_nil) (cs_cons rfl cs_nil) (g_lenL (f := rI))) rfl rfl (a_FN (q_var rfl) rfl rfl a_nil))) rfl rfl rfl rfl) rfl rfl rfl (bl_assoc (bl_bind fun b hb => (bl_ifJ (fun (fact_here_2 : (List Nat)) => [sp_ (rL rI) fact_here.2, sl_ (rL rI) order_here, sl_ rI most, sl_ rB is_true, sl_ rI kind.1, so_ (rL rS) s'.2, sl_ rI turn, sl_ rS fact_here_2, none]) (q_andP (q_dTr (q_var rfl) rfl t_B) (vt_bind fun x_1 hx_1 => (vt_ret (q_not (q_dTr (q_callR (rf__law_holds order_here fact_here.1) hx_1 (a_FN (q_var rfl) rfl rfl (a_FN (q_var rfl) rfl rfl a_nil)) rfl rfl rfl (fun _ => rfl)) rfl t_B)))) hb) (fun _ => (bl_last (bl_bind fun x_2 hx_2 => (bl_bind fun x_3 hx_3 => (bl_bind fun fact_here_1 hfact_here_1 => (bl_setV (ρ2 := [sp_ (rL rI) fact_here.2, sl_ (rL rI) order_here, sl_ rI most, sl_ rB is_true, sl_ rI kind.1, so_ (rL rS) s'.2, sl_ rI turn, sl_ rS fact_here_1, none]) (q_rep (y := [63]) (z := [76]) strK7 strK5 (q_rep (y := [76]) (z := [87]) strK5 strK6 (q_rep (y := [87]) (z := [63]) strK6 strK7 (q_var rfl) rfl hx_2) rfl hx_3) rfl hfact_here_1) rfl rfl rfl (bl_end rfl))))))) (fun _ => (bl_last (bl_nextS (bl_end rfl)))) fun fact_here_2 => (bl_assoc (bl_bind fun way_here hway_here => (bl_setV (ρ2 := [sp_ (rL rI) way_here.2, sl_ (rL rI) order_here, sl_ rI most, sl_ rB is_true, sl_ rI kind.1, so_ (rL rS) s'.2, sl_ rI turn, sl_ rS fact_here_2, sl_ rI way_here.1]) (q_callT (ρ2 := [sp_ (rL rI) way_here.2, sl_ (rL rI) order_here, sl_ rI most, sl_ rB is_true, sl_ rI kind.1, so_ (rL rS) s'.2, sl_ rI turn, sl_ rS fact_here_2, none]) (rf__law_pick fact_here.2 12) hway_here (a_T (q_var rfl) (a_FN q_con rfl rfl a_nil)) rfl rfl rfl rfl) rfl rfl rfl (bl_assoc (bl_ifJ (fun (fact_here_3 : (List Nat)) => [sp_ (rL rI) way_here.2, sl_ (rL rI) order_here, sl_ rI most, sl_ rB is_true, sl_ rI kind.1, so_ (rL rS) s'.2, sl_ rI turn, sl_ rS fact_here_3, sl_ rI way_here.1]) (q_dB (q_cmp (q_var rfl) q_con rfl rfl g_eqI) rfl) (fun _ => (bl_last (bl_bind fun x_4 hx_4 => (bl_setV (ρ2 := [sp_ (rL rI) way_here.2, sl_ (rL rI) order_here, sl_ rI most, sl_ rB is_true, sl_ rI kind.1, so_ (rL rS) s'.2, sl_ rI turn, sl_ rS x_4, sl_ rI way_here.1]) (q_op2 (q_str strK1) (q_bi (a_T (q_var rfl) a_nil) (cs_cons rfl cs_nil) (g_lenL (f := rI))) rfl rfl (g_mulS hx_4)) rfl rfl rfl (bl_end rfl))))) (fun _ => (bl_last (bl_nextS (bl_end rfl)))) fun fact_here_3 => (bl_assoc (bl_bind fun b_2 hb_2 => (bl_ifJ (fun (s'_1 : ((List Int) × (List Nat))) => [sp_ (rL rI) s'_1.1, sl_ (rL rI) order_here, sl_ rI most, sl_ rB is_true, sl_ rI kind.1, so_ (rL rS) s'.2, sl_ rI turn, sl_ rS s'_1.2, sl_ rI way_here.1]) (q_andP (q_dB (q_cmp (q_var rfl) q_con rfl rfl g_eqI) rfl) (vt_bind fun b_1 hb_1 => (vt_ret (q_dB (q_cmp (q_var rfl) (q_lst (ds := List.map rS []) a_nil rfl rfl) rfl rfl (g_ne (g_eqR (f := (rL rS)) (er_L er_S) rfl hb_1))) rfl))) hb_2) (fun _ => (bl_last (bl_bind fun x_5 hx_5 => (bl_bind fun fact_here_4 hfact_here_4 => (bl_setV (ρ2 := [sp_ (rL rI) x_5.2, sl_ (rL rI) order_here, sl_ rI most, sl_ rB is_true, sl_ rI kind.1, so_ (rL rS) s'.2, sl_ rI turn, sl_ rS fact_here_4, sl_ rI way_here.1]) (q_op2 (q_var rfl) (q_callT (ρ2 := [sp_ (rL rI) x_5.2, sl_ (rL rI) order_here, sl_ rI most, sl_ rB is_true, sl_ rI kind.1, so_ (rL rS) s'.2, sl_ rI turn, sl_ rS fact_here_3, sl_ rI way_here.1]) (rf__law_pick way_here.2 (s'.2.length : Int)) hx_5 (a_T (q_var rfl) (a_FN (q_bi (a_T (q_var rfl) a_nil) (cs_cons rfl cs_nil) (g_lenL (f := rS))) rfl rfl a_nil)) rfl rfl rfl rfl) rfl rfl (g_ixL (f := rS) hfact_here_4)) rfl rfl rfl (bl_end rfl)))))) (fun _ => (bl_last (bl_nextS (bl_end rfl)))) fun s'_1 => (bl_bind fun found hfound => (bl_expr (q_mut (ρ2 := [sp_ (rL rI) s'_1.1, sl_ (rL rI) order_here, sl_ rI most, sl_ rB is_true, sl_ rI kind.1, so_ (rL rS) found, sl_ rI turn, sl_ rS s'_1.2, sl_ rI way_here.1]) rfl (a_FN (q_var rfl) rfl rfl a_nil) rfl rfl (g_app (f := rS) hfound) rfl) (bl_end (Or.inl rfl))))))))))))))))))
theorem rf__law_facts (well_here : (List Int)) (order_here : (List Int)) (most : Int) (is_true : Bool) : RefT F__law_facts [⟨(rL rI) well_here, true⟩, ⟨(rL rI) order_here, false⟩, ⟨rI most, false⟩, ⟨rB is_true, false⟩] (rL rS) true (fun tz => [sp_ (rL rI) tz, sl_ (rL rI) order_here, sl_ rI most, sl_ rB is_true]) (g__law_facts well_here order_here most is_true) := ref_ofT (ρ := [sp_ (rL rI) well_here, sl_ (rL rI) order_here, sl_ rI most, sl_ rB is_true, none, none, none, none, none]) rfl rfl (by
  unfold g__law_facts
  exact bl_last (bl_assoc (bl_bind fun kind hkind => (bl_seq (q_par (a_T (q_callT (ρ2 := [sp_ (rL rI) kind.2, sl_ (rL rI) order_here, sl_ rI most, sl_ rB is_true, none, none, none, none, none]) (rf__law_pick well_here 3) hkind (a_T (q_var rfl) (a_FN q_con rfl rfl a_nil)) rfl rfl rfl rfl) (a_T (q_lst (ds := List.map rS []) a_nil rfl rfl) a_nil)) rfl (q_put rfl rfl rfl) (q_put rfl rfl rfl)) (bl_assoc (bl_bind fun x hx => (bl_bind fun r hr => (bl_for (fb := rI) (s0 := (x.2, [])) (fun (s' : ((List Int) × (List (List Nat)))) => [sp_ (rL rI) s'.1, sl_ (rL rI) order_here, sl_ rI most, sl_ rB is_true, sl_ rI kind.1, so_ (rL rS) s'.2, none, none, none]) (fun (s' : ((List Int) × (List (List Nat)))) (turn : Int) => [sp_ (rL rI) s'.1, sl_ (rL rI) order_here, sl_ rI most, sl_ rB is_true, sl_ rI kind.1, so_ (rL rS) s'.2, sl_ rI turn, none, none]) rfl (i_rng (a_T (q_callT (ρ2 := [sp_ (rL rI) x.2, sl_ (rL rI) order_here, sl_ rI most, sl_ rB is_true, sl_ rI kind.1, so_ (rL rS) [], none, none, none]) (rf__law_pick kind.2 (most + 1)) hx (a_T (q_var rfl) (a_FN (q_op2 (q_var rfl) q_con rfl rfl g_addI) rfl rfl a_nil)) rfl rfl rfl rfl) a_nil) (cs_cons rfl cs_nil) (g_rng1 hr)) (fun _ _ => rfl) (fun s turn => rf__law_facts_b1 order_here most is_true kind s turn) fun s'_2 => (bl_ret (q_var rfl) rfl rfl ⟨_, rfl, rfl⟩)))))))))
theorem rf__law_can (facts_here : (List (List Nat))) (front : (List Int)) (rule : Int) : Ref F__law_can [⟨(rL rS) facts_here, false⟩, ⟨(rL rI) front, false⟩, ⟨rI rule, false⟩] rB false (g__law_can facts_here front rule) := ref_of (ρ := [sl_ (rL rS) facts_here, sl_ (rL rI) front, sl_ rI rule, none, none, none]) rfl (by
  unfold g__law_can
  exact bl_last (bl_assoc (bl_bind fun against hagainst => (bl_seq (ρ1 := [sl_ (rL rS) facts_here, sl_ (rL rI) front, sl_ rI rule, sl_ (rL rS) against, none, none]) (q_shE (q_set (q_lc (f := rS) (fun fact_here => [sl_ (rL rS) facts_here, sl_ (rL rI) front, sl_ rI rule, none, sl_ rS fact_here, none]) (i_anyN (q_var rfl) rfl rfl rfl) rfl rfl (fun _ => rfl) (fun _ => rfl) (fun fact_here => (vt_bind fun x hx => (vt_ret (q_dB (q_cmp (q_op2 (q_var rfl) (q_var rfl) rfl rfl (g_ixS hx)) (q_str strK5) rfl rfl g_eqS) rfl)))) (fun fact_here => (ve_ret (f := rS) (q_var rfl) rfl rfl)) hagainst) rfl rfl rfl) rfl) (bl_bind fun x_3 hx_3 => (bl_bind fun b hb => (bl_ret (q_cmp (q_lc (f := rS) (cq := (fun fact_here_1 : (List Nat) => (lcC (fun one => some true) (fun one => (ixS fact_here_1 one).bind fun x_1 => some x_1) front).bind fun x_2 => some (!(decide ([87] ∈ x_2))))) (ce := (fun fact_here_1 : (List Nat) => some fact_here_1)) (fun fact_here_1 => [sl_ (rL rS) facts_here, sl_ (rL rI) front, sl_ rI rule, sl_ (rL rS) against, sl_ rS fact_here_1, none]) (i_anyN (q_var rfl) rfl rfl rfl) rfl rfl (fun _ => rfl) (fun _ => rfl) (fun fact_here_1 => (vt_bind fun x_2 hx_2 => (vt_ret (q_dB (q_cmp (q_str strK6) (q_lc (f := rS) (fun one => [sl_ (rL rS) facts_here, sl_ (rL rI) front, sl_ rI rule, sl_ (rL rS) against, sl_ rS fact_here_1, sl_ rI one]) (i_anyN (q_var rfl) rfl rfl rfl) rfl rfl (fun _ => rfl) (fun _ => rfl) (fun one => (vt_ret rfl)) (fun one => (ve_bind fun x_1 hx_1 => (ve_ret (f := rS) (q_op2 (q_var rfl) (q_var rfl) rfl rfl (g_ixS hx_1)) rfl rfl))) hx_2) rfl rfl (g_nin (inV_str _ _))) rfl)))) (fun fact_here_1 => (ve_ret (f := rS) (q_var rfl) rfl rfl)) hx_3) (q_lst (ds := List.map rS []) a_nil rfl rfl) rfl rfl (g_eqR (f := (rL rS)) (er_L er_S) rfl hb)) rfl rfl ⟨_, rfl⟩)))))))
theorem rf__law_wandered_b1 (many : Int) (facts_here : (List (List Nat))) (s' : ((List Int) × (List Int)))  : BL (PF [4] (PW (fun (s' : ((List Int) × (List Int))) => [sp_ (rL rI) s'.1, sl_ rI many, sl_ (rL rS) facts_here, so_ (rL rI) s'.2, none, none]) (fun _ (_ : Empty) => False))) [sp_ (rL rI) s'.1, sl_ rI many, sl_ (rL rS) facts_here, so_ (rL rI) s'.2, none, none] r__law_wandered_2_l_1 (g__law_wandered_b1 many facts_here s') := by
  unfold g__law_wandered_b1
  exact bl_last (bl_assoc (bl_bind fun r hr => (bl_bind fun fit hfit => (bl_seq (ρ1 := [sp_ (rL rI) s'.1, sl_ rI many, sl_ (rL rS) facts_here, so_ (rL rI) s'.2, sl_ (rL rI) fit, none]) (q_shE (q_set (q_lc (f := rI) (fun rule => [sp_ (rL rI) s'.1, sl_ rI many, sl_ (rL rS) facts_here, so_ (rL rI) s'.2, none, sl_ rI rule]) (i_rng (a_T (q_var rfl) a_nil) (cs_cons rfl cs_nil) (g_rng1 hr)) rfl rfl (fun _ => rfl) (fun _ => rfl) (fun rule => (vt_bind fun b hb => (vt_ret (q_andP (q_dB (q_cmp (q_var rfl) (q_var rfl) rfl rfl (g_nin (inV_int _ _))) rfl) (vt_bind fun x hx => (vt_ret (q_dTr (q_bor (q_callR (rf__law_can facts_here s'.2 rule) hx (a_FN (q_var rfl) rfl rfl (a_FN (q_var rfl) rfl rfl (a_FN (q_var rfl) rfl rfl a_nil))) rfl rfl rfl (fun _ => rfl)) rfl) rfl t_B))) hb)))) (fun rule => (ve_ret (f := rI) (q_var rfl) rfl rfl)) hfit) rfl rfl rfl) rfl) (bl_bind fun x_1 hx_1 => (bl_bind fun x_2 hx_2 => (bl_bind fun found hfound => (bl_expr (q_mut (ρ2 := [sp_ (rL rI) x_1.2, sl_ rI many, sl_ (rL rS) facts_here, so_ (rL rI) found, sl_ (rL rI) fit, none]) rfl (a_FN (q_op2 (q_var rfl) (q_callT (ρ2 := [sp_ (rL rI) x_1.2, sl_ rI many, sl_ (rL rS) facts_here, so_ (rL rI) s'.2, sl_ (rL rI) fit, none]) (rf__law_pick s'.1 (fit.length : Int)) hx_1 (a_T (q_var rfl) (a_FN (q_bi (a_T (q_var rfl) a_nil) (cs_cons rfl cs_nil) (g_lenL (f := rI))) rfl rfl a_nil)) rfl rfl rfl rfl) rfl rfl (g_ixL (f := rI) hx_2)) rfl rfl a_nil) rfl rfl (g_app (f := rI) hfound) rfl) (bl_end (Or.inl rfl))))))))))
theorem rf__law_wandered (well_here : (List Int)) (many : Int) (facts_here : (List (List Nat))) : RefT F__law_wandered [⟨(rL rI) well_here, true⟩, ⟨rI many, false⟩, ⟨(rL rS) facts_here, false⟩] (rL rI) true (fun tz => [sp_ (rL rI) tz, sl_ rI many, sl_ (rL rS) facts_here]) (g__law_wandered well_here many facts_here) := ref_ofT (ρ := [sp_ (rL rI) well_here, sl_ rI many, sl_ (rL rS) facts_here, none, none, none]) rfl rfl (by
  unfold g__law_wandered
  exact bl_last (bl_assoc (bl_setV (ρ2 := [sp_ (rL rI) well_here, sl_ rI many, sl_ (rL rS) facts_here, so_ (rL rI) [], none, none]) (q_lst (ds := List.map rI []) a_nil rfl rfl) rfl rfl rfl (bl_assoc (bl_whileB (s0 := (well_here, [])) (fun (s' : ((List Int) × (List Int))) => [sp_ (rL rI) s'.1, sl_ rI many, sl_ (rL rS) facts_here, so_ (rL rI) s'.2, none, none]) rfl (fun s' => (vt_ret (q_dB (q_cmp (q_bi (a_T (q_var rfl) a_nil) (cs_cons rfl cs_nil) (g_lenL (f := rI))) (q_var rfl) rfl rfl g_ltI) rfl))) (fun s => rf__law_wandered_b1 many facts_here s) fun s'_1 => (bl_ret (q_var rfl) rfl rfl ⟨_, rfl, rfl⟩))))))
theorem rf_is_integer (value : Int) (low : Int) (high : (Option Int)) : Ref F_is_integer [⟨rI value, false⟩, ⟨rI low, false⟩, ⟨(rO rI) high, false⟩] rB false (g_is_integer value low high) := ref_of (ρ := [sl_ rI value, sl_ rI low, sl_ (rO rI) high]) rfl (by
  unfold g_is_integer
  exact bl_last (bl_assoc (bl_if (q_or (q_not (q_dTr (q_isi (t := .int) (q_var rfl) rfl rfl) rfl t_B)) (q_dTr (q_isi (t := .int) (q_var rfl) rfl rfl) rfl t_B)) (fun _ => (bl_ret q_con rfl rfl ⟨_, rfl⟩)) (fun _ => (bl_nextS (bl_bind fun b_1 hb_1 => (bl_ret (q_andVP (q_dB (q_cmp (q_var rfl) (q_var rfl) rfl rfl g_leI) rfl) (vb_bind fun b hb => (vb_ret (q_orVP (q_dB (q_cmp (q_var rfl) q_con rfl rfl (g_isN (f := rI) nn_I)) rfl) (vb_bind fun x hx => (vb_ret (q_cmp (q_var rfl) (q_var rfl) rfl (co_cur (f := rI) hx rfl) g_leI))) hb))) hb_1) rfl rfl ⟨_, rfl⟩)))))))
theorem rf_need_count (count : Int) (most : Int) : RefX F_need_count [⟨rI count, false⟩, ⟨rI most, false⟩] rN false (g_need_count count most) := ref_ofUX (ρ := [sl_ rI count, sl_ rI most]) rfl (by
  unfold g_need_count
  exact bl_last (bl_bind fun x hx => (bl_if (q_not (q_dTr (q_callR (rf_is_integer count 1 (some most)) hx (a_FN (q_var rfl) rfl rfl (a_FN q_con rfl rfl (a_FN (q_var rfl) rfl rfl a_nil))) rfl rfl rfl (fun _ => rfl)) rfl t_B)) (fun _ => (bl_raise0 fun _ => ⟨_, rfl⟩)) (fun _ => (bl_nextS (bl_end (.inl ⟨_, rfl⟩)))))))
theorem rf_fits_fact (count : Int) (value : (List Nat)) : Ref F_fits_fact [⟨rI count, false⟩, ⟨rS value, false⟩] rB false (g_fits_fact count value) := ref_of (ρ := [sl_ rI count, sl_ rS value, none]) rfl (by
  unfold g_fits_fact
  exact bl_last (bl_assoc (bl_bind fun b hb => (bl_if (q_orP (q_not (q_dTr (q_isi (t := .str) (q_var rfl) rfl rfl) rfl t_B)) (vt_bind fun x hx => (vt_ret (q_dB (q_cmp (q_bi (a_T (q_var rfl) a_nil) (cs_cons rfl cs_nil) (g_lenS hx)) (q_var rfl) rfl rfl (g_ne g_eqI)) rfl))) hb) (fun _ => (bl_ret q_con rfl rfl ⟨_, rfl⟩)) (fun _ => (bl_nextS (bl_bind fun x_1 hx_1 => (bl_ret (q_bi (a_T (q_lc (f := rB) (fun sign => [sl_ rI count, sl_ rS value, sl_ rS sign]) (i_anyN (q_var rfl) rfl rfl (any_S _)) rfl rfl (fun _ => rfl) (fun _ => rfl) (fun sign => (vt_ret rfl)) (fun sign => (ve_ret (f := rB) (q_cmp (q_var rfl) (q_tup (ds := [rS [87], rS [76], rS [46]]) (a_FN (q_str strK6) rfl rfl (a_FN (q_str strK5) rfl rfl (a_FN (q_str strK1) rfl rfl a_nil))) rfl rfl) rfl rfl (inV_strTu _ [[87], [76], [46]])) rfl rfl)) hx_1) a_nil) (cs_cons rfl cs_nil) g_all) rfl rfl ⟨_, rfl⟩))))))))
theorem rf_need_facts (count : Int) (facts : (List (List Nat))) : RefX F_need_facts [⟨rI count, false⟩, ⟨(rL rS) facts, false⟩] rN false (g_need_facts count facts) := ref_ofUX (ρ := [sl_ rI count, sl_ (rL rS) facts, none]) rfl (by
  unfold g_need_facts
  exact bl_last (bl_bind fun b_1 hb_1 => (bl_if (q_orP (q_not (q_dTr (q_isi (t := .list) (q_var rfl) rfl rfl) rfl t_B)) (vt_bind fun b hb => (vt_ret (q_orP (q_dB (q_cmp (q_bi (a_T (q_var rfl) a_nil) (cs_cons rfl cs_nil) (g_lenL (f := rS))) q_con rfl rfl g_gtI) rfl) (vt_bind fun x_1 hx_1 => (vt_ret (q_not (q_dTr (q_bi (a_T (q_lc (f := rB) (fun fact => [sl_ rI count, sl_ (rL rS) facts, sl_ rS fact]) (i_anyN (q_var rfl) rfl rfl rfl) rfl rfl (fun _ => rfl) (fun _ => rfl) (fun fact => (vt_ret rfl)) (fun fact => (ve_bind fun x hx => (ve_ret (f := rB) (q_callR (rf_fits_fact count fact) hx (a_FN (q_var rfl) rfl rfl (a_FN (q_var rfl) rfl rfl a_nil)) rfl rfl rfl (fun _ => rfl)) rfl rfl))) hx_1) a_nil) (cs_cons rfl cs_nil) g_all) rfl t_B)))) hb))) hb_1) (fun _ => (bl_raise0 fun _ => ⟨_, rfl⟩)) (fun _ => (bl_nextS (bl_end (.inl ⟨_, rfl⟩)))))))
theorem rf_need_count_and_facts (count : Int) (facts : (List (List Nat))) (most : Int) : RefX F_need_count_and_facts [⟨rI count, false⟩, ⟨(rL rS) facts, false⟩, ⟨rI most, false⟩] rN false (g_need_count_and_facts count facts most) := ref_ofUX (ρ := [sl_ rI count, sl_ (rL rS) facts, sl_ rI most]) rfl (by
  unfold g_need_count_and_facts
  exact bl_last (bl_assoc (bl_xb (fun x hx => (bl_expr (q_callX (rf_need_count count most) hx (a_FN (q_var rfl) rfl rfl (a_FN (q_var rfl) rfl rfl a_nil)) rfl rfl rfl (fun _ => rfl)) (bl_xb (fun x_1 hx_1 => (bl_expr (q_callX (rf_need_facts count facts) hx_1 (a_FN (q_var rfl) rfl rfl (a_FN (q_var rfl) rfl rfl a_nil)) rfl rfl rfl (fun _ => rfl)) (bl_end (.inl ⟨_, rfl⟩)))) (fun _ he => ⟨_, (ex_seq (ex_expr (ex_callX (rf_need_facts count facts) he (a_FN (q_var rfl) rfl rfl (a_FN (q_var rfl) rfl rfl a_nil)) rfl rfl rfl (fun _ => rfl))))⟩)))) (fun _ he => ⟨_, (ex_seq (ex_expr (ex_callX (rf_need_count count most) he (a_FN (q_var rfl) rfl rfl (a_FN (q_var rfl) rfl rfl a_nil)) rfl rfl rfl (fun _ => rfl))))⟩))))
theorem rf_is_order (value : (List Int)) : Ref F_is_order [⟨(rL rI) value, false⟩] rB false (g_is_order value) := ref_of (ρ := [sl_ (rL rI) value, none]) rfl (by
  unfold g_is_order
  exact bl_last (bl_assoc (bl_if (q_or (q_not (q_dTr (q_isi (t := .list) (q_var rfl) rfl rfl) rfl t_B)) (q_not (q_dB (q_chain q_con (q_bi (a_T (q_var rfl) a_nil) (cs_cons rfl cs_nil) (g_lenL (f := rI))) q_con rfl rfl rfl g_leI g_leI) rfl))) (fun _ => (bl_ret q_con rfl rfl ⟨_, rfl⟩)) (fun _ => (bl_nextS (bl_bind fun x_1 hx_1 => (bl_bind fun b hb => (bl_ret (q_andVP (q_dB (q_bi (a_T (q_lc (f := rB) (fun rule => [sl_ (rL rI) value, sl_ rI rule]) (i_anyN (q_var rfl) rfl rfl rfl) rfl rfl (fun _ => rfl) (fun _ => rfl) (fun rule => (vt_ret rfl)) (fun rule => (ve_bind fun x hx => (ve_ret (f := rB) (q_callR (rf_is_integer rule 0 none) hx (a_FN (q_var rfl) rfl rfl (a_FN q_con rfl rfl a_nil)) rfl rfl rfl (fun _ => rfl)) rfl rfl))) hx_1) a_nil) (cs_cons rfl cs_nil) g_all) rfl) (vb_bind fun x_2 hx_2 => (vb_ret (q_cmp (q_bi (a_T (q_var rfl) a_nil) (cs_cons rfl cs_nil) g_sortI) (q_lrg (q_bi (a_T (q_var rfl) a_nil) (cs_cons rfl cs_nil) (g_lenL (f := rI))) rfl hx_2) rfl rfl (g_eqT (f := (rL rI)) (et_L et_I) rfl)))) hb) rfl rfl ⟨_, rfl⟩))))))))
theorem rf_need_order (order : (List Int)) (count : (Option Int)) : RefX F_need_order [⟨(rL rI) order, false⟩, ⟨(rO rI) count, false⟩] rN false (g_need_order order count) := ref_ofUX (ρ := [sl_ (rL rI) order, sl_ (rO rI) count]) rfl (by
  unfold g_need_order
  exact bl_last (bl_bind fun x hx => (bl_if (q_or (q_not (q_dTr (q_callR (rf_is_order order) hx (a_FN (q_var rfl) rfl rfl a_nil) rfl rfl rfl (fun _ => rfl)) rfl t_B)) (q_and (q_dB (q_cmp (q_var rfl) q_con rfl rfl (g_notN (f := rI) nn_I)) rfl) (q_dB (q_cmp (q_bi (a_T (q_var rfl) a_nil) (cs_cons rfl cs_nil) (g_lenL (f := rI))) (q_var rfl) rfl rfl (g_ne (g_eqOI (x := some (order.length : Int)) (y := count)))) rfl))) (fun _ => (bl_raise0 fun _ => ⟨_, rfl⟩)) (fun _ => (bl_nextS (bl_end (.inl ⟨_, rfl⟩)))))))
theorem rf_holds_along (order : (List Int)) (fact : (List Nat)) : Ref F_holds_along [⟨(rL rI) order, false⟩, ⟨rS fact, false⟩] rB false (g_holds_along order fact) := ref_of (ρ := [sl_ (rL rI) order, sl_ rS fact, none, none]) rfl (by
  unfold g_holds_along
  exact bl_last (bl_assoc (bl_bind fun signs hsigns => (bl_seq (ρ1 := [sl_ (rL rI) order, sl_ rS fact, sl_ (rL rS) signs, none]) (q_shE (q_set (q_lc (f := rS) (fun rule => [sl_ (rL rI) order, sl_ rS fact, none, sl_ rI rule]) (i_anyN (q_var rfl) rfl rfl rfl) rfl rfl (fun _ => rfl) (fun _ => rfl) (fun rule => (vt_bind fun x hx => (vt_ret (q_dB (q_cmp (q_op2 (q_var rfl) (q_var rfl) rfl rfl (g_ixS hx)) (q_str strK1) rfl rfl (g_ne g_eqS)) rfl)))) (fun rule => (ve_bind fun x_1 hx_1 => (ve_ret (f := rS) (q_op2 (q_var rfl) (q_var rfl) rfl rfl (g_ixS hx_1)) rfl rfl))) hsigns) rfl rfl rfl) rfl) (bl_bind fun b hb => (bl_bind fun b_1 hb_1 => (bl_ret (q_orVP (q_dB (q_cmp (q_var rfl) (q_lst (ds := List.map rS []) a_nil rfl rfl) rfl rfl (g_eqR (f := (rL rS)) (er_L er_S) rfl hb)) rfl) (vb_bind fun x_2 hx_2 => (vb_ret (q_cmp (q_op2 (q_var rfl) q_con rfl rfl (g_ixL (f := rS) hx_2)) (q_str strK6) rfl rfl g_eqS))) hb_1) rfl rfl ⟨_, rfl⟩)))))))
theorem rf_need_holding (facts : (List (List Nat))) (order : (List Int)) : RefX F_need_holding [⟨(rL rS) facts, false⟩, ⟨(rL rI) order, false⟩] rN false (g_need_holding facts order) := ref_ofUX (ρ := [sl_ (rL rS) facts, sl_ (rL rI) order, none]) rfl (by
  unfold g_need_holding
  exact bl_last (bl_bind fun x_1 hx_1 => (bl_if (q_not (q_dTr (q_bi (a_T (q_lc (f := rB) (fun fact => [sl_ (rL rS) facts, sl_ (rL rI) order, sl_ rS fact]) (i_anyN (q_var rfl) rfl rfl rfl) rfl rfl (fun _ => rfl) (fun _ => rfl) (fun fact => (vt_ret rfl)) (fun fact => (ve_bind fun x hx => (ve_ret (f := rB) (q_callR (rf_holds_along order fact) hx (a_FN (q_var rfl) rfl rfl (a_FN (q_var rfl) rfl rfl a_nil)) rfl rfl rfl (fun _ => rfl)) rfl rfl))) hx_1) a_nil) (cs_cons rfl cs_nil) g_all) rfl t_B)) (fun _ => (bl_raise0 fun _ => ⟨_, rfl⟩)) (fun _ => (bl_nextS (bl_end (.inl ⟨_, rfl⟩)))))))
theorem rf_way_between_b2 (count : Int) (facts : (List (List Nat))) (order : (List Int)) (other : (List Int)) (p : (Int × Int)) (s'_1 : ((List (List Int)) × (List Int))) (at' : Int) : BL (PF [8] (PL (fun (s'_1 : ((List (List Int)) × (List Int))) => [sl_ rI count, sl_ (rL rS) facts, sl_ (rL rI) order, sl_ (rL rI) other, so_ (rW (rL rI)) s'_1.1, sl_ (rL rI) s'_1.2, sl_ rI p.1, sl_ rI p.2, none]))) [sl_ rI count, sl_ (rL rS) facts, sl_ (rL rI) order, sl_ (rL rI) other, so_ (rW (rL rI)) s'_1.1, sl_ (rL rI) s'_1.2, sl_ rI p.1, sl_ rI p.2, sl_ rI at'] r_way_between_7_l_1_l_1 (g_way_between_b2 s'_1 at') := by
  unfold g_way_between_b2
  exact bl_last (bl_assoc (bl_bind fun x_6 hx_6 => (bl_bind fun x_7 hx_7 => (bl_bind fun x_8 hx_8 => (bl_bind fun x_9 hx_9 => (bl_setV (ρ2 := [sl_ rI count, sl_ (rL rS) facts, sl_ (rL rI) order, sl_ (rL rI) other, so_ (rW (rL rI)) s'_1.1, sl_ (rL rI) x_9, sl_ rI p.1, sl_ rI p.2, sl_ rI at']) (q_shN (q_op2 (q_op2 (q_slT (q_var rfl) q_part0 (q_part (q_op2 (q_var rfl) q_con rfl rfl g_subI) rfl) rfl) (q_lst (ds := List.map rI [x_6, x_7]) (a_FN (q_op2 (q_var rfl) (q_var rfl) rfl rfl (g_ixL (f := rI) hx_6)) rfl rfl (a_FN (q_op2 (q_var rfl) (q_op2 (q_var rfl) q_con rfl rfl g_subI) rfl rfl (g_ixL (f := rI) hx_7)) rfl rfl a_nil)) rfl rfl) rfl rfl (g_addL (f := rI) hx_8)) (q_slT (q_var rfl) (q_part (q_op2 (q_var rfl) q_con rfl rfl g_addI) rfl) q_part0 rfl) rfl rfl (g_addL (f := rI) hx_9)) rfl rfl) rfl rfl rfl (bl_bind fun found_1 hfound_1 => (bl_expr (q_pushF (ρ2 := [sl_ rI count, sl_ (rL rS) facts, sl_ (rL rI) order, sl_ (rL rI) other, so_ (rW (rL rI)) found_1, sl_ (rL rI) x_9, sl_ rI p.1, sl_ rI p.2, sl_ rI at']) (f := rI) rfl (q_bi (a_T (q_var rfl) a_nil) (cs_cons rfl cs_nil) g_list) rfl hfound_1 rfl) (bl_end (Or.inl rfl))))))))))
theorem rf_way_between_b1 (count : Int) (facts : (List (List Nat))) (order : (List Int)) (other : (List Int)) (s' : ((List (List Int)) × (List Int))) (p : (Int × Int)) : BL (PF [6, 7, 8] (PL (fun (s' : ((List (List Int)) × (List Int))) => [sl_ rI count, sl_ (rL rS) facts, sl_ (rL rI) order, sl_ (rL rI) other, so_ (rW (rL rI)) s'.1, sl_ (rL rI) s'.2, none, none, none]))) [sl_ rI count, sl_ (rL rS) facts, sl_ (rL rI) order, sl_ (rL rI) other, so_ (rW (rL rI)) s'.1, sl_ (rL rI) s'.2, sl_ rI p.1, sl_ rI p.2, none] r_way_between_7_l_1 (g_way_between_b1 s' p) := by
  unfold g_way_between_b1
  exact bl_last (bl_bind fun x_5 hx_5 => (bl_bind fun r hr => (bl_for (fb := rI) (s0 := (s'.1, s'.2)) (fun (s'_1 : ((List (List Int)) × (List Int))) => [sl_ rI count, sl_ (rL rS) facts, sl_ (rL rI) order, sl_ (rL rI) other, so_ (rW (rL rI)) s'_1.1, sl_ (rL rI) s'_1.2, sl_ rI p.1, sl_ rI p.2, none]) (fun (s'_1 : ((List (List Int)) × (List Int))) (at' : Int) => [sl_ rI count, sl_ (rL rS) facts, sl_ (rL rI) order, sl_ (rL rI) other, so_ (rW (rL rI)) s'_1.1, sl_ (rL rI) s'_1.2, sl_ rI p.1, sl_ rI p.2, sl_ rI at']) rfl (i_rng (a_T (q_mt (q_var rfl) rfl isLst_L (a_T (q_var rfl) a_nil) rfl (cs_cons rfl cs_nil) (g_idx hx_5)) (a_T (q_var rfl) (a_T (q_op1 q_con rfl g_negI) a_nil))) (cs_cons rfl (cs_cons rfl (cs_cons rfl cs_nil))) (g_rng3 hr)) (fun _ _ => rfl) (fun s at' => rf_way_between_b2 count facts order other p s at') fun s'_2 => (bl_end (Or.inl rfl)))))
theorem rf_way_between (count : Int) (facts : (List (List Nat))) (order : (List Int)) (other : (List Int)) : RefX F_way_between [⟨rI count, false⟩, ⟨(rL rS) facts, false⟩, ⟨(rL rI) order, false⟩, ⟨(rL rI) other, false⟩] (rW (rL rI)) true (g_way_between count facts order other) := ref_ofX (ρ := [sl_ rI count, sl_ (rL rS) facts, sl_ (rL rI) order, sl_ (rL rI) other, none, none, none, none, none]) rfl (by
  unfold g_way_between
  exact bl_last (bl_assoc (bl_xb (fun x hx => (bl_expr (q_callX (rf_need_count_and_facts count facts 14) hx (a_FN (q_var rfl) rfl rfl (a_FN (q_var rfl) rfl rfl (a_FN q_con rfl rfl a_nil))) rfl rfl rfl (fun _ => rfl)) (bl_assoc (bl_xb (fun x_1 hx_1 => (bl_expr (q_callX (rf_need_order order (some count)) hx_1 (a_FN (q_var rfl) rfl rfl (a_FN (q_var rfl) rfl rfl a_nil)) rfl rfl rfl (fun _ => rfl)) (bl_assoc (bl_xb (fun x_2 hx_2 => (bl_expr (q_callX (rf_need_order other (some count)) hx_2 (a_FN (q_var rfl) rfl rfl (a_FN (q_var rfl) rfl rfl a_nil)) rfl rfl rfl (fun _ => rfl)) (bl_assoc (bl_xb (fun x_3 hx_3 => (bl_expr (q_callX (rf_need_holding facts order) hx_3 (a_FN (q_var rfl) rfl rfl (a_FN (q_var rfl) rfl rfl a_nil)) rfl rfl rfl (fun _ => rfl)) (bl_assoc (bl_xb (fun x_4 hx_4 => (bl_expr (q_callX (rf_need_holding facts other) hx_4 (a_FN (q_var rfl) rfl rfl (a_FN (q_var rfl) rfl rfl a_nil)) rfl rfl rfl (fun _ => rfl)) (bl_assoc (bl_seq (q_par (a_T (q_own1 (q_bi (a_T (q_var rfl) a_nil) (cs_cons rfl cs_nil) g_list)) (a_T (q_shN (q_bi (a_T (q_var rfl) a_nil) (cs_cons rfl cs_nil) g_list) rfl rfl) a_nil)) rfl (q_put rfl rfl rfl) (q_put rfl rfl rfl)) (bl_lt (S := (fun found => [sl_ rI count, sl_ (rL rS) facts, sl_ (rL rI) order, sl_ (rL rI) other, so_ (rW (rL rI)) found, sl_ (rL rI) order, none, none, none])) rfl fun found => (bl_assoc (bl_for (fb := (rP rI rI)) (s0 := (found, order)) (fun (s' : ((List (List Int)) × (List Int))) => [sl_ rI count, sl_ (rL rS) facts, sl_ (rL rI) order, sl_ (rL rI) other, so_ (rW (rL rI)) s'.1, sl_ (rL rI) s'.2, none, none, none]) (fun (s' : ((List (List Int)) × (List Int))) (p : (Int × Int)) => [sl_ rI count, sl_ (rL rS) facts, sl_ (rL rI) order, sl_ (rL rI) other, so_ (rW (rL rI)) s'.1, sl_ (rL rI) s'.2, sl_ rI p.1, sl_ rI p.2, none]) rfl (i_enumL (a_FN (q_var rfl) rfl rfl a_nil) rfl) (fun _ _ => rfl) (fun s p => rf_way_between_b1 count facts order other s p) fun s'_3 => (bl_ret (q_var rfl) rfl rfl ⟨_, rfl⟩)))))))) (fun _ he => ⟨_, (ex_seq (ex_expr (ex_callX (rf_need_holding facts other) he (a_FN (q_var rfl) rfl rfl (a_FN (q_var rfl) rfl rfl a_nil)) rfl rfl rfl (fun _ => rfl))))⟩))))) (fun _ he => ⟨_, (ex_seq (ex_expr (ex_callX (rf_need_holding facts order) he (a_FN (q_var rfl) rfl rfl (a_FN (q_var rfl) rfl rfl a_nil)) rfl rfl rfl (fun _ => rfl))))⟩))))) (fun _ he => ⟨_, (ex_seq (ex_expr (ex_callX (rf_need_order other (some count)) he (a_FN (q_var rfl) rfl rfl (a_FN (q_var rfl) rfl rfl a_nil)) rfl rfl rfl (fun _ => rfl))))⟩))))) (fun _ he => ⟨_, (ex_seq (ex_expr (ex_callX (rf_need_order order (some count)) he (a_FN (q_var rfl) rfl rfl (a_FN (q_var rfl) rfl rfl a_nil)) rfl rfl rfl (fun _ => rfl))))⟩))))) (fun _ he => ⟨_, (ex_seq (ex_expr (ex_callX (rf_need_count_and_facts count facts 14) he (a_FN (q_var rfl) rfl rfl (a_FN (q_var rfl) rfl rfl (a_FN q_con rfl rfl a_nil))) rfl rfl rfl (fun _ => rfl))))⟩))))
theorem rf__law_pairs_b1 (one : (List Int)) (two : (List Int)) (s' : (List Int)) (place : Int) : BL (PF [3] (PL (fun (s' : (List Int)) => [sl_ (rL rI) one, sl_ (rL rI) two, so_ (rL rI) s', none, none, none]))) [sl_ (rL rI) one, sl_ (rL rI) two, so_ (rL rI) s', sl_ rI place, none, none] r__law_pairs_2_l_1 (g__law_pairs_b1 two s' place) := by
  unfold g__law_pairs_b1
  exact bl_last (bl_bind fun x_1 hx_1 => (bl_bind fun where' hwhere' => (bl_seq (ρ1 := [sl_ (rL rI) one, sl_ (rL rI) two, so_ (rL rI) where', sl_ rI place, none, none]) (q_setIx (q_var rfl) rfl rfl rfl (q_op2 (q_var rfl) (q_var rfl) rfl rfl (g_ixL (f := rI) hx_1)) rfl rfl (g_setL (f := rI) hwhere') rfl) (bl_end (Or.inl rfl)))))
theorem rf__law_pairs (one : (List Int)) (two : (List Int)) : Ref F__law_pairs [⟨(rL rI) one, false⟩, ⟨(rL rI) two, false⟩] rI false (g__law_pairs one two) := ref_of (ρ := [sl_ (rL rI) one, sl_ (rL rI) two, none, none, none, none]) rfl (by
  unfold g__law_pairs
  exact bl_last (bl_assoc (bl_bind fun x hx => (bl_setV (ρ2 := [sl_ (rL rI) one, sl_ (rL rI) two, so_ (rL rI) x, none, none, none]) (q_op2 (q_lst (ds := List.map rI [0]) (a_FN q_con rfl rfl a_nil) rfl rfl) (q_bi (a_T (q_var rfl) a_nil) (cs_cons rfl cs_nil) (g_lenL (f := rI))) rfl rfl (g_repL (f := rI) hx)) rfl rfl rfl (bl_assoc (bl_bind fun r hr => (bl_for (fb := rI) (s0 := x) (fun (s' : (List Int)) => [sl_ (rL rI) one, sl_ (rL rI) two, so_ (rL rI) s', none, none, none]) (fun (s' : (List Int)) (place : Int) => [sl_ (rL rI) one, sl_ (rL rI) two, so_ (rL rI) s', sl_ rI place, none, none]) rfl (i_rng (a_T (q_bi (a_T (q_var rfl) a_nil) (cs_cons rfl cs_nil) (g_lenL (f := rI))) a_nil) (cs_cons rfl cs_nil) (g_rng1 hr)) (fun _ _ => rfl) (fun s place => rf__law_pairs_b1 one two s place) fun where'_1 => (bl_bind fun r_1 hr_1 => (bl_bind fun x_6 hx_6 => (bl_ret (q_bi (a_T (q_lc (f := rI) (cq := (fun k : Int => some true)) (ce := (fun k : Int => (lcC (fun other => (ixL where'_1 other).bind fun x_2 => (ixL one k).bind fun x_3 => (ixL where'_1 x_3).bind fun x_4 => some (decide (x_2 < x_4))) (fun other => some (1 : Int)) (cutL one (some k) none)).bind fun x_5 => some (x_5.length : Int))) (fun k => [sl_ (rL rI) one, sl_ (rL rI) two, so_ (rL rI) where'_1, none, none, sl_ rI k]) (i_rng (a_T (q_bi (a_T (q_var rfl) a_nil) (cs_cons rfl cs_nil) (g_lenL (f := rI))) a_nil) (cs_cons rfl cs_nil) (g_rng1 hr_1)) rfl rfl (fun _ => rfl) (fun _ => rfl) (fun k => (vt_ret rfl)) (fun k => (ve_bind fun x_5 hx_5 => (ve_ret (f := rI) (q_bi (a_T (q_lc (f := rI) (fun other => [sl_ (rL rI) one, sl_ (rL rI) two, so_ (rL rI) where'_1, none, sl_ rI other, sl_ rI k]) (i_anyN (q_slT (q_var rfl) (q_part (q_var rfl) rfl) q_part0 rfl) rfl rfl rfl) rfl rfl (fun _ => rfl) (fun _ => rfl) (fun other => (vt_bind fun x_2 hx_2 => (vt_bind fun x_3 hx_3 => (vt_bind fun x_4 hx_4 => (vt_ret (q_dB (q_cmp (q_op2 (q_var rfl) (q_var rfl) rfl rfl (g_ixL (f := rI) hx_2)) (q_op2 (q_var rfl) (q_op2 (q_var rfl) (q_var rfl) rfl rfl (g_ixL (f := rI) hx_3)) rfl rfl (g_ixL (f := rI) hx_4)) rfl rfl g_ltI) rfl)))))) (fun other => (ve_ret (f := rI) q_con rfl rfl)) hx_5) a_nil) (cs_cons rfl cs_nil) (g_lenL (f := rI))) rfl rfl))) hx_6) a_nil) (cs_cons rfl cs_nil) g_sum) rfl rfl ⟨_, rfl⟩))))))))))
theorem rf__law_is_step (one : (List Int)) (two : (List Int)) : Ref F__law_is_step [⟨(rL rI) one, false⟩, ⟨(rL rI) two, false⟩] rB false (g__law_is_step one two) := ref_of (ρ := [sl_ (rL rI) one, sl_ (rL rI) two, none, none]) rfl (by
  unfold g__law_is_step
  exact bl_last (bl_assoc (bl_if (q_or (q_not (q_dTr (q_isi (t := .list) (q_var rfl) rfl rfl) rfl t_B)) (q_dB (q_cmp (q_bi (a_T (q_var rfl) a_nil) (cs_cons rfl cs_nil) (g_lenL (f := rI))) (q_bi (a_T (q_var rfl) a_nil) (cs_cons rfl cs_nil) (g_lenL (f := rI))) rfl rfl (g_ne g_eqI)) rfl)) (fun _ => (bl_ret q_con rfl rfl ⟨_, rfl⟩)) (fun _ => (bl_nextS (bl_assoc (bl_bind fun r hr => (bl_bind fun there hthere => (bl_seq (ρ1 := [sl_ (rL rI) one, sl_ (rL rI) two, sl_ (rL rI) there, none]) (q_shE (q_set (q_lc (f := rI) (fun k => [sl_ (rL rI) one, sl_ (rL rI) two, none, sl_ rI k]) (i_rng (a_T (q_bi (a_T (q_var rfl) a_nil) (cs_cons rfl cs_nil) (g_lenL (f := rI))) a_nil) (cs_cons rfl cs_nil) (g_rng1 hr)) rfl rfl (fun _ => rfl) (fun _ => rfl) (fun k => (vt_bind fun x hx => (vt_bind fun x_1 hx_1 => (vt_ret (q_dB (q_cmp (q_op2 (q_var rfl) (q_var rfl) rfl rfl (g_ixL (f := rI) hx)) (q_op2 (q_var rfl) (q_var rfl) rfl rfl (g_ixL (f := rI) hx_1)) rfl rfl (g_ne g_eqI)) rfl))))) (fun k => (ve_ret (f := rI) (q_var rfl) rfl rfl)) hthere) rfl rfl rfl) rfl) (bl_assoc (bl_bind fun b hb => (bl_if (q_orP (q_dB (q_cmp (q_bi (a_T (q_var rfl) a_nil) (cs_cons rfl cs_nil) (g_lenL (f := rI))) q_con rfl rfl (g_ne g_eqI)) rfl) (vt_bind fun x_2 hx_2 => (vt_bind fun x_3 hx_3 => (vt_ret (q_dB (q_cmp (q_op2 (q_var rfl) q_con rfl rfl (g_ixL (f := rI) hx_2)) (q_op2 (q_op2 (q_var rfl) q_con rfl rfl (g_ixL (f := rI) hx_3)) q_con rfl rfl g_addI) rfl rfl (g_ne g_eqI)) rfl)))) hb) (fun _ => (bl_ret q_con rfl rfl ⟨_, rfl⟩)) (fun _ => (bl_nextS (bl_bind fun x_4 hx_4 => (bl_bind fun x_5 hx_5 => (bl_bind fun x_6 hx_6 => (bl_bind fun x_7 hx_7 => (bl_bind fun x_8 hx_8 => (bl_bind fun x_9 hx_9 => (bl_bind fun x_10 hx_10 => (bl_bind fun x_11 hx_11 => (bl_bind fun x_12 hx_12 => (bl_bind fun x_13 hx_13 => (bl_ret (q_cmp (q_bi (a_T (q_var rfl) a_nil) (cs_cons rfl cs_nil) (g_repG hx_4)) (q_bi (a_T (q_op2 (q_op2 (q_slT (q_var rfl) q_part0 (q_part (q_op2 (q_var rfl) q_con rfl rfl (g_ixL (f := rI) hx_5)) rfl) rfl) (q_lst (ds := List.map rI [x_7, x_9]) (a_FN (q_op2 (q_var rfl) (q_op2 (q_var rfl) q_con rfl rfl (g_ixL (f := rI) hx_6)) rfl rfl (g_ixL (f := rI) hx_7)) rfl rfl (a_FN (q_op2 (q_var rfl) (q_op2 (q_var rfl) q_con rfl rfl (g_ixL (f := rI) hx_8)) rfl rfl (g_ixL (f := rI) hx_9)) rfl rfl a_nil)) rfl rfl) rfl rfl (g_addL (f := rI) hx_10)) (q_slT (q_var rfl) (q_part (q_op2 (q_op2 (q_var rfl) q_con rfl rfl (g_ixL (f := rI) hx_11)) q_con rfl rfl g_addI) rfl) q_part0 rfl) rfl rfl (g_addL (f := rI) hx_12)) a_nil) (cs_cons rfl cs_nil) (g_repG hx_13)) rfl rfl g_eqS) rfl rfl ⟨_, rfl⟩)))))))))))))))))))))))))
theorem rf__law_way (many : Int) (facts_here : (List (List Nat))) (one : (List Int)) (two : (List Int)) : Ref F__law_way [⟨rI many, false⟩, ⟨(rL rS) facts_here, false⟩, ⟨(rL rI) one, false⟩, ⟨(rL rI) two, false⟩] rB false (g__law_way many facts_here one two) := ref_of (ρ := [sl_ rI many, sl_ (rL rS) facts_here, sl_ (rL rI) one, sl_ (rL rI) two, none, none, none, none, none, none]) rfl (by
  unfold g__law_way
  exact bl_last (bl_assoc (bl_set (f := (rF3 (rL rS) (rL rI) (rL rI))) (S := (fun passed => [sl_ rI many, sl_ (rL rS) facts_here, sl_ (rL rI) one, sl_ (rL rI) two, sl_ (rF3 (rL rS) (rL rI) (rL rI)) passed, none, none, none, none, none])) (q_shN (q_lst (ds := [(rL rS) facts_here, (rL rI) one, (rL rI) two]) (a_FN (q_bi (a_T (q_var rfl) a_nil) (cs_cons rfl cs_nil) g_list) rfl rfl (a_FN (q_bi (a_T (q_var rfl) a_nil) (cs_cons rfl cs_nil) g_list) rfl rfl (a_FN (q_bi (a_T (q_var rfl) a_nil) (cs_cons rfl cs_nil) g_list) rfl rfl a_nil))) rfl rfl) rfl rfl) rfl rfl (fun _ => rfl) fun passed => (bl_assoc (bl_bind fun way_here hway_here => (bl_setV (ρ2 := [sl_ rI many, sl_ (rL rS) facts_here, sl_ (rL rI) one, sl_ (rL rI) two, sl_ (rF3 (rL rS) (rL rI) (rL rI)) passed, so_ (rW (rL rI)) way_here, none, none, none, none]) (q_callX (rf_way_between many passed.1 passed.2.1 passed.2.2) (noRs_ok hway_here) (a_FN (q_var rfl) rfl rfl (a_FN (q_op2 (q_var rfl) q_con rfl rfl rfl) rfl rfl (a_FN (q_op2 (q_var rfl) q_con rfl rfl rfl) rfl rfl (a_FN (q_op2 (q_var rfl) q_con rfl rfl rfl) rfl rfl a_nil)))) rfl rfl rfl (fun _ => rfl)) rfl rfl rfl (bl_assoc (bl_bind fun b_2 hb_2 => (bl_if (q_orP (q_not (q_tbor (q_dTr (q_isi (t := .list) (q_un (f := (rL rI)) (q_var rfl) rfl rfl) rfl rfl) rfl t_B))) (vt_bind fun x hx => (vt_bind fun b_1 hb_1 => (vt_ret (q_orP (q_dB (q_cmp (q_bor (q_bi (a_T (q_un (f := (rL rI)) (q_var rfl) rfl rfl) a_nil) (cs_cons rfl cs_nil) (g_lenL (f := (rL rI)))) rfl) (q_op2 q_con (q_callR (rf__law_pairs one two) hx (a_FN (q_var rfl) rfl rfl (a_FN (q_var rfl) rfl rfl a_nil)) rfl rfl rfl (fun _ => rfl)) rfl rfl g_addI) rfl rfl (g_ne g_eqI)) rfl) (vt_bind fun b hb => (vt_ret (q_dB (q_cmp (q_var rfl) (q_lst (ds := [(rL rS) facts_here, (rL rI) one, (rL rI) two]) (a_FN (q_var rfl) rfl rfl (a_FN (q_var rfl) rfl rfl (a_FN (q_var rfl) rfl rfl a_nil))) rfl rfl) rfl rfl (g_ne (g_eqR (f := (rF3 (rL rS) (rL rI) (rL rI))) (er_F3 (er_L er_S) (EqT.er (et_L et_I)) (EqT.er (et_L et_I))) rfl hb))) rfl))) hb_1)))) hb_2) (fun _ => (bl_ret q_con rfl rfl ⟨_, rfl⟩)) (fun _ => (bl_nextS (bl_assoc (bl_bind fun x_1 hx_1 => (bl_bind fun x_2 hx_2 => (bl_bind fun x_3 hx_3 => (bl_bind fun x_4 hx_4 => (bl_if (q_tbor (q_dB (q_cmp (q_bi (a_T (q_lst (ds := List.map (rL rI) [x_1, x_2]) (a_FN (q_op2 (q_un (f := (rL rI)) (q_var rfl) rfl rfl) q_con rfl rfl (g_ixL (f := (rL rI)) hx_1)) rfl rfl (a_FN (q_op2 (q_un (f := (rL rI)) (q_var rfl) rfl rfl) (q_op1 q_con rfl g_negI) rfl rfl (g_ixL (f := (rL rI)) hx_2)) rfl rfl a_nil)) rfl rfl) a_nil) (cs_cons rfl cs_nil) (g_repG hx_3)) (q_bi (a_T (q_lst (ds := List.map (rL rI) [one, two]) (a_FN (q_var rfl) rfl rfl (a_FN (q_var rfl) rfl rfl a_nil)) rfl rfl) a_nil) (cs_cons rfl cs_nil) (g_repG hx_4)) rfl rfl (g_ne g_eqS)) rfl)) (fun _ => (bl_ret q_con rfl rfl ⟨_, rfl⟩)) (fun _ => (bl_nextS (bl_assoc (bl_bind fun x_6 hx_6 => (bl_if (q_dB (q_cmp (q_lnd (q_lc (f := rI) (fun p => [sl_ rI many, sl_ (rL rS) facts_here, sl_ (rL rI) one, sl_ (rL rI) two, sl_ (rF3 (rL rS) (rL rI) (rL rI)) passed, sl_ (rW (rL rI)) way_here, sl_ (rL rI) p.1, sl_ (rL rI) p.2, none, none]) (i_zip (a_FN (q_un (f := (rL rI)) (q_var rfl) rfl rfl) rfl rfl (a_FN (q_slT (q_un (f := (rL rI)) (q_var rfl) rfl rfl) (q_part q_con rfl) q_part0 rfl) rfl rfl a_nil)) rfl) rfl rfl (fun _ => rfl) (fun _ => rfl) (fun p => (vt_bind fun x_5 hx_5 => (vt_ret (q_not (q_dTr (q_callR (rf__law_is_step p.1 p.2) hx_5 (a_FN (q_var rfl) rfl rfl (a_FN (q_var rfl) rfl rfl a_nil)) rfl rfl rfl (fun _ => rfl)) rfl t_B))))) (fun p => (ve_ret (f := rI) q_con rfl rfl)) hx_6) (conL_map _ _)) (q_lst (ds := List.map rI []) a_nil rfl rfl) rfl rfl (g_ne (g_eqT (f := (rL rI)) (et_L et_I) rfl))) rfl) (fun _ => (bl_ret q_con rfl rfl ⟨_, rfl⟩)) (fun _ => (bl_nextS (bl_assoc (bl_bind fun x_9 hx_9 => (bl_if (q_dB (q_cmp (q_lnd (q_lc (f := rI) (cq := (fun order_here : (List Int) => (lcC (fun fact_here => (g__law_holds order_here fact_here).bind fun x_7 => some (!x_7)) (fun fact_here => some fact_here) facts_here).bind fun x_8 => (eqG (fun xs => xs.all okS) x_8 []).bind fun b_3 => some (!b_3))) (ce := (fun order_here : (List Int) => some (1 : Int))) (fun order_here => [sl_ rI many, sl_ (rL rS) facts_here, sl_ (rL rI) one, sl_ (rL rI) two, sl_ (rF3 (rL rS) (rL rI) (rL rI)) passed, sl_ (rW (rL rI)) way_here, none, none, sl_ (rL rI) order_here, none]) (i_anyN (q_un (f := (rL rI)) (q_var rfl) rfl rfl) rfl rfl rfl) rfl rfl (fun _ => rfl) (fun _ => rfl) (fun order_here => (vt_bind fun x_8 hx_8 => (vt_bind fun b_3 hb_3 => (vt_ret (q_dB (q_cmp (q_lc (f := rS) (fun fact_here => [sl_ rI many, sl_ (rL rS) facts_here, sl_ (rL rI) one, sl_ (rL rI) two, sl_ (rF3 (rL rS) (rL rI) (rL rI)) passed, sl_ (rW (rL rI)) way_here, none, none, sl_ (rL rI) order_here, sl_ rS fact_here]) (i_anyN (q_var rfl) rfl rfl rfl) rfl rfl (fun _ => rfl) (fun _ => rfl) (fun fact_here => (vt_bind fun x_7 hx_7 => (vt_ret (q_not (q_dTr (q_callR (rf__law_holds order_here fact_here) hx_7 (a_FN (q_var rfl) rfl rfl (a_FN (q_var rfl) rfl rfl a_nil)) rfl rfl rfl (fun _ => rfl)) rfl t_B))))) (fun fact_here => (ve_ret (f := rS) (q_var rfl) rfl rfl)) hx_8) (q_lst (ds := List.map rS []) a_nil rfl rfl) rfl rfl (g_ne (g_eqR (f := (rL rS)) (er_L er_S) rfl hb_3))) rfl))))) (fun order_here => (ve_ret (f := rI) q_con rfl rfl)) hx_9) (conL_map _ _)) (q_lst (ds := List.map rI []) a_nil rfl rfl) rfl rfl (g_ne (g_eqT (f := (rL rI)) (et_L et_I) rfl))) rfl) (fun _ => (bl_ret q_con rfl rfl ⟨_, rfl⟩)) (fun _ => (bl_nextS (bl_assoc (bl_bind fun way_here_1 hway_here_1 => (bl_expr (q_revI (ρ2 := [sl_ rI many, sl_ (rL rS) facts_here, sl_ (rL rI) one, sl_ (rL rI) two, sl_ (rF3 (rL rS) (rL rI) (rL rI)) passed, so_ (rW (rL rI)) way_here_1, none, none, none, none]) (f := rI) rfl q_con rfl rfl hway_here_1 rfl) (bl_bind fun b_4 hb_4 => (bl_ret (q_cmp (q_var rfl) (q_lst (ds := [(rL rS) facts_here, (rL rI) one, (rL rI) two]) (a_FN (q_var rfl) rfl rfl (a_FN (q_var rfl) rfl rfl (a_FN (q_var rfl) rfl rfl a_nil))) rfl rfl) rfl rfl (g_eqR (f := (rF3 (rL rS) (rL rI) (rL rI))) (er_F3 (er_L er_S) (EqT.er (et_L et_I)) (EqT.er (et_L et_I))) rfl hb_4)) rfl rfl ⟨_, rfl⟩))))))))))))))))))))))))))))))))))
theorem rf__law_fails (lf : Addr) (lus : List V) (call : (Int × (List (List Nat)) × (List Int) × (List Int))) : Ref (F__law_fails lf lus) [⟨(rLm4 lf lus rI (rL rS) (rL rI) (rL rI)) call, false⟩] rB false (g__law_fails call) := ref_of (ρ := [sl_ (rLm4 lf lus rI (rL rS) (rL rI) (rL rI)) call, none, none]) rfl (by
  unfold g__law_fails
  exact bl_last (bl_assoc (bl_setV (ρ2 := [sl_ (rLm4 lf lus rI (rL rS) (rL rI) (rL rI)) call, sl_ (rL rB) [], none]) (q_shN (q_lst (ds := List.map rB []) a_nil rfl rfl) rfl rfl) rfl rfl rfl (bl_assoc (bl_tryE (fun (told : (List Bool)) => [sl_ (rLm4 lf lus rI (rL rS) (rL rI) (rL rI)) call, sl_ (rL rB) told, none]) [sl_ (rLm4 lf lus rI (rL rS) (rL rI) (rL rI)) call, sl_ (rL rB) [], none] (bl_last (bl_xb (fun x hx => (bl_seq (q_lamC (ρl := [none, sl_ rI call.1, none, sl_ (rL rS) call.2.1, none, none, sl_ (rL rI) call.2.2.1, sl_ (rL rI) call.2.2.2, none]) rfl rfl (q_un (f := (rL rI)) (q_callX (rf_way_between call.1 call.2.1 call.2.2.1 call.2.2.2) hx (a_FN (q_var rfl) rfl rfl (a_FN (q_var rfl) rfl rfl (a_FN (q_var rfl) rfl rfl (a_FN (q_var rfl) rfl rfl a_nil)))) rfl rfl rfl (fun _ => rfl)) rfl rfl)) (bl_end rfl))) (fun _ he => (ex_seq (ex_lamC (ρl := [none, sl_ rI call.1, none, sl_ (rL rS) call.2.1, none, none, sl_ (rL rI) call.2.2.1, sl_ (rL rI) call.2.2.2, none]) rfl rfl (ex_un (ex_callX (rf_way_between call.1 call.2.1 call.2.2.1 call.2.2.2) he (a_FN (q_var rfl) rfl rfl (a_FN (q_var rfl) rfl rfl (a_FN (q_var rfl) rfl rfl (a_FN (q_var rfl) rfl rfl a_nil)))) rfl rfl rfl (fun _ => rfl)))))))) rfl (h2_isL (k := fun d' => d') rfl (fun _ => rfl)) fun told => (bl_ret (q_cmp (q_var rfl) (q_lst (ds := List.map rB [true, false, true]) (a_FN q_con rfl rfl (a_FN q_con rfl rfl (a_FN q_con rfl rfl a_nil))) rfl rfl) rfl rfl (g_eqT (f := (rL rB)) (et_L et_B) rfl)) rfl rfl ⟨_, rfl⟩))))))
theorem rf_turned_pairs (order : (List Int)) (other : (List Int)) : Ref F_turned_pairs [⟨(rL rI) order, false⟩, ⟨(rL rI) other, false⟩] rI false (g_turned_pairs order other) := ref_of (ρ := [sl_ (rL rI) order, sl_ (rL rI) other, none, none, none, none, none]) rfl (by
  unfold g_turned_pairs
  exact bl_last (bl_assoc (bl_bind fun places hplaces => (bl_setV (ρ2 := [sl_ (rL rI) order, sl_ (rL rI) other, sl_ (rL rI) places, none, none, none, none]) (q_shN (q_lc (f := rI) (fun rule => [sl_ (rL rI) order, sl_ (rL rI) other, none, sl_ rI rule, none, none, none]) (i_anyN (q_var rfl) rfl rfl rfl) rfl rfl (fun _ => rfl) (fun _ => rfl) (fun rule => (vt_ret rfl)) (fun rule => (ve_bind fun x hx => (ve_ret (f := rI) (q_mt (q_var rfl) rfl isLst_L (a_T (q_var rfl) a_nil) rfl (cs_cons rfl cs_nil) (g_idx hx)) rfl rfl))) hplaces) rfl rfl) rfl rfl rfl (bl_bind fun x_2 hx_2 => (bl_ret (q_bi (a_T (q_lc (f := rI) (cq := (fun p : (Int × Int) => some true)) (ce := (fun p : (Int × Int) => (lcC (fun later => some (decide (later < p.2))) (fun later => some later) (cutL places (some (p.1 + 1)) none)).bind fun x_1 => some (x_1.length : Int))) (fun p => [sl_ (rL rI) order, sl_ (rL rI) other, sl_ (rL rI) places, none, none, sl_ rI p.1, sl_ rI p.2]) (i_enumL (a_FN (q_var rfl) rfl rfl a_nil) rfl) rfl rfl (fun _ => rfl) (fun _ => rfl) (fun p => (vt_ret rfl)) (fun p => (ve_bind fun x_1 hx_1 => (ve_ret (f := rI) (q_bi (a_T (q_lc (f := rI) (fun later => [sl_ (rL rI) order, sl_ (rL rI) other, sl_ (rL rI) places, none, sl_ rI later, sl_ rI p.1, sl_ rI p.2]) (i_anyN (q_slT (q_var rfl) (q_part (q_op2 (q_var rfl) q_con rfl rfl g_addI) rfl) q_part0 rfl) rfl rfl rfl) rfl rfl (fun _ => rfl) (fun _ => rfl) (fun later => (vt_ret (q_dB (q_cmp (q_var rfl) (q_var rfl) rfl rfl g_ltI) rfl))) (fun later => (ve_ret (f := rI) (q_var rfl) rfl rfl)) hx_1) a_nil) (cs_cons rfl cs_nil) (g_lenL (f := rI))) rfl rfl))) hx_2) a_nil) (cs_cons rfl cs_nil) g_sum) rfl rfl ⟨_, rfl⟩))))))
theorem rf_exchanges_between (order : (List Int)) (other : (List Int)) : RefX F_exchanges_between [⟨(rL rI) order, false⟩, ⟨(rL rI) other, false⟩] rI false (g_exchanges_between order other) := ref_ofX (ρ := [sl_ (rL rI) order, sl_ (rL rI) other]) rfl (by
  unfold g_exchanges_between
  exact bl_last (bl_assoc (bl_xb (fun x hx => (bl_expr (q_callX (rf_need_order order none) hx (a_FN (q_var rfl) rfl rfl a_nil) rfl rfl rfl (fun _ => rfl)) (bl_assoc (bl_xb (fun x_1 hx_1 => (bl_expr (q_callX (rf_need_order other (some (order.length : Int))) hx_1 (a_FN (q_var rfl) rfl rfl (a_FN (q_bi (a_T (q_var rfl) a_nil) (cs_cons rfl cs_nil) (g_lenL (f := rI))) rfl rfl a_nil)) rfl rfl rfl (fun _ => rfl)) (bl_bind fun res hres => (bl_ret (q_callR (rf_turned_pairs order other) hres (a_FN (q_var rfl) rfl rfl (a_FN (q_var rfl) rfl rfl a_nil)) rfl rfl rfl (fun _ => rfl)) rfl rfl ⟨_, rfl⟩)))) (fun _ he => ⟨_, (ex_seq (ex_expr (ex_callX (rf_need_order other (some (order.length : Int))) he (a_FN (q_var rfl) rfl rfl (a_FN (q_bi (a_T (q_var rfl) a_nil) (cs_cons rfl cs_nil) (g_lenL (f := rI))) rfl rfl a_nil)) rfl rfl rfl (fun _ => rfl))))⟩))))) (fun _ he => ⟨_, (ex_seq (ex_expr (ex_callX (rf_need_order order none) he (a_FN (q_var rfl) rfl rfl a_nil) rfl rfl rfl (fun _ => rfl))))⟩))))
theorem rf__law_far (well_here : (List Int)) (many : Int) : RefT F__law_far [⟨(rL rI) well_here, true⟩, ⟨rI many, false⟩] rB false (fun tz => [sp_ (rL rI) tz, sl_ rI many]) (g__law_far well_here many) := ref_ofT (ρ := [sp_ (rL rI) well_here, sl_ rI many, none, none, none, none]) rfl rfl (by
  unfold g__law_far
  exact bl_last (bl_assoc (bl_bind fun one hone => (bl_bind fun two htwo => (bl_seq (q_par (a_T (q_shN (q_callT (ρ2 := [sp_ (rL rI) one.2, sl_ rI many, none, none, none, none]) (rf__law_order well_here many) hone (a_T (q_var rfl) (a_FN (q_var rfl) rfl rfl a_nil)) rfl rfl rfl rfl) rfl rfl) (a_T (q_shN (q_callT (ρ2 := [sp_ (rL rI) two.2, sl_ rI many, none, none, none, none]) (rf__law_order one.2 many) htwo (a_T (q_var rfl) (a_FN (q_var rfl) rfl rfl a_nil)) rfl rfl rfl rfl) rfl rfl) a_nil)) rfl (q_put rfl rfl rfl) (q_put rfl rfl rfl)) (bl_assoc (bl_bind fun due hdue => (bl_setV (ρ2 := [sp_ (rL rI) two.2, sl_ rI many, sl_ (rL rI) one.1, sl_ (rL rI) two.1, sl_ rI due, none]) (q_callR (rf__law_pairs one.1 two.1) hdue (a_FN (q_var rfl) rfl rfl (a_FN (q_var rfl) rfl rfl a_nil)) rfl rfl rfl (fun _ => rfl)) rfl rfl rfl (bl_assoc (bl_bind fun x hx => (bl_bind fun x_1 hx_1 => (bl_bind fun x_2 hx_2 => (bl_set (f := (rL rI)) (S := (fun told => [sp_ (rL rI) two.2, sl_ rI many, sl_ (rL rI) one.1, sl_ (rL rI) two.1, sl_ rI due, sl_ (rL rI) told])) (q_shN (q_lst (ds := List.map rI [x, x_1, x_2]) (a_FN (q_callX (rf_exchanges_between one.1 two.1) (noRs_ok hx) (a_FN (q_var rfl) rfl rfl (a_FN (q_var rfl) rfl rfl a_nil)) rfl rfl rfl (fun _ => rfl)) rfl rfl (a_FN (q_callX (rf_exchanges_between two.1 one.1) (noRs_ok hx_1) (a_FN (q_var rfl) rfl rfl (a_FN (q_var rfl) rfl rfl a_nil)) rfl rfl rfl (fun _ => rfl)) rfl rfl (a_FN (q_callX (rf_exchanges_between one.1 one.1) (noRs_ok hx_2) (a_FN (q_var rfl) rfl rfl (a_FN (q_bi (a_T (q_var rfl) a_nil) (cs_cons rfl cs_nil) g_list) rfl rfl a_nil)) rfl rfl rfl (fun _ => rfl)) rfl rfl a_nil))) rfl rfl) rfl rfl) rfl rfl (fun _ => rfl) fun told => (bl_bind fun x_3 hx_3 => (bl_bind fun x_4 hx_4 => (bl_ret (q_cmp (q_bi (a_T (q_var rfl) a_nil) (cs_cons rfl cs_nil) (g_repG hx_3)) (q_bi (a_T (q_lst (ds := List.map rI [due, due, 0]) (a_FN (q_var rfl) rfl rfl (a_FN (q_var rfl) rfl rfl (a_FN q_con rfl rfl a_nil))) rfl rfl) a_nil) (cs_cons rfl cs_nil) (g_repG hx_4)) rfl rfl g_eqS) rfl rfl ⟨_, rfl, rfl⟩))))))))))))))))
theorem rf__law_right_b1 (many : Int) (hidden : ((List Int) × (List Int))) (facts_here : ((List (List Nat)) × (List Int))) (other : ((List Int) × (List Int))) (any_order : ((List Int) × (List Int))) (s' : Unit) (p : ((List Int) × (List Int))) : BL (PF [6, 7] (PW (fun (s' : Unit) => [sp_ (rL rI) any_order.2, sl_ rI many, sl_ (rL rI) hidden.1, sl_ (rL rS) facts_here.1, sl_ (rL rI) other.1, sl_ (rL rI) any_order.1, none, none, none]) (PRt rB false 1 (fun tz => [sp_ (rL rI) tz])))) [sp_ (rL rI) any_order.2, sl_ rI many, sl_ (rL rI) hidden.1, sl_ (rL rS) facts_here.1, sl_ (rL rI) other.1, sl_ (rL rI) any_order.1, sl_ (rL rI) p.1, sl_ (rL rI) p.2, none] r__law_right_5_l_1 (g__law_right_b1 many facts_here any_order s' p) := by
  unfold g__law_right_b1
  exact bl_last (bl_bind fun x_3 hx_3 => (bl_if (q_not (q_dTr (q_callR (rf__law_way many facts_here.1 p.1 p.2) hx_3 (a_FN (q_var rfl) rfl rfl (a_FN (q_var rfl) rfl rfl (a_FN (q_var rfl) rfl rfl (a_FN (q_var rfl) rfl rfl a_nil)))) rfl rfl rfl (fun _ => rfl)) rfl t_B)) (fun _ => (bl_ret q_con rfl rfl ⟨⟨_, _, _, rfl⟩, ⟨_, rfl, rfl⟩⟩)) (fun _ => (bl_nextS (bl_end (Or.inl rfl))))))
theorem rf__law_right_b2 (many : Int) (hidden : ((List Int) × (List Int))) (facts_here : ((List (List Nat)) × (List Int))) (other : ((List Int) × (List Int))) (any_order : ((List Int) × (List Int))) (s'_1 : Unit) (p_1 : ((List Int) × (List Int))) : BL (PF [6, 7] (PW (fun (s'_1 : Unit) => [sp_ (rL rI) any_order.2, sl_ rI many, sl_ (rL rI) hidden.1, sl_ (rL rS) facts_here.1, sl_ (rL rI) other.1, sl_ (rL rI) any_order.1, none, none, none]) (PRt rB false 1 (fun tz => [sp_ (rL rI) tz])))) [sp_ (rL rI) any_order.2, sl_ rI many, sl_ (rL rI) hidden.1, sl_ (rL rS) facts_here.1, sl_ (rL rI) other.1, sl_ (rL rI) any_order.1, sl_ (rL rI) p_1.1, sl_ (rL rI) p_1.2, none] r__law_right_6_b_1_l_1 (g__law_right_b2 many facts_here any_order s'_1 p_1) := by
  unfold g__law_right_b2
  exact bl_last (bl_bind fun x_10 hx_10 => (bl_if (q_not (q_dTr (q_callLam (fun lf lus => rf__law_fails lf lus (many, facts_here.1, p_1.1, p_1.2)) hx_10 a_nil rfl rfl rfl rfl (fun _ _ => rfl)) rfl t_B)) (fun _ => (bl_ret q_con rfl rfl ⟨⟨_, _, _, rfl⟩, ⟨_, rfl, rfl⟩⟩)) (fun _ => (bl_nextS (bl_end (Or.inl rfl))))))
theorem rf__law_right (well_here : (List Int)) : RefT F__law_right [⟨(rL rI) well_here, true⟩] rB false (fun tz => [sp_ (rL rI) tz]) (g__law_right well_here) := ref_ofT (ρ := [sp_ (rL rI) well_here, none, none, none, none, none, none, none, none]) rfl rfl (by
  unfold g__law_right
  exact bl_last (bl_assoc (bl_bind fun x hx => (bl_set (f := rI) (S := (fun many => [sp_ (rL rI) x.2, sl_ rI many, none, none, none, none, none, none, none])) (q_op2 q_con (q_callT (ρ2 := [sp_ (rL rI) x.2, none, none, none, none, none, none, none, none]) (rf__law_pick well_here 14) hx (a_T (q_var rfl) (a_FN q_con rfl rfl a_nil)) rfl rfl rfl rfl) rfl rfl g_addI) rfl rfl (fun _ => rfl) fun many => (bl_assoc (bl_bind fun hidden hhidden => (bl_setV (ρ2 := [sp_ (rL rI) hidden.2, sl_ rI many, sl_ (rL rI) hidden.1, none, none, none, none, none, none]) (q_shN (q_callT (ρ2 := [sp_ (rL rI) hidden.2, sl_ rI many, none, none, none, none, none, none, none]) (rf__law_order x.2 many) hhidden (a_T (q_var rfl) (a_FN (q_var rfl) rfl rfl a_nil)) rfl rfl rfl rfl) rfl rfl) rfl rfl rfl (bl_assoc (bl_bind fun x_1 hx_1 => (bl_bind fun x_2 hx_2 => (bl_bind fun facts_here hfacts_here => (bl_setV (ρ2 := [sp_ (rL rI) facts_here.2, sl_ rI many, sl_ (rL rI) hidden.1, sl_ (rL rS) facts_here.1, none, none, none, none, none]) (q_shN (q_callT (ρ2 := [sp_ (rL rI) facts_here.2, sl_ rI many, sl_ (rL rI) hidden.1, none, none, none, none, none, none]) (rf__law_facts x_1.2 hidden.1 x_2 true) hfacts_here (a_T (q_var rfl) (a_FN (q_var rfl) rfl rfl (a_FN (q_op2 (q_lst (ds := List.map rI [8, 8, 8, 60]) (a_FN q_con rfl rfl (a_FN q_con rfl rfl (a_FN q_con rfl rfl (a_FN q_con rfl rfl a_nil)))) rfl rfl) (q_callT (ρ2 := [sp_ (rL rI) x_1.2, sl_ rI many, sl_ (rL rI) hidden.1, none, none, none, none, none, none]) (rf__law_pick hidden.2 4) hx_1 (a_T (q_var rfl) (a_FN q_con rfl rfl a_nil)) rfl rfl rfl rfl) rfl rfl (g_ixL (f := rI) hx_2)) rfl rfl (a_FN q_con rfl rfl a_nil)))) rfl rfl rfl rfl) rfl rfl) rfl rfl rfl (bl_assoc (bl_bind fun other hother => (bl_bind fun any_order hany_order => (bl_seq (q_par (a_T (q_shN (q_callT (ρ2 := [sp_ (rL rI) other.2, sl_ rI many, sl_ (rL rI) hidden.1, sl_ (rL rS) facts_here.1, none, none, none, none, none]) (rf__law_wandered facts_here.2 many facts_here.1) hother (a_T (q_var rfl) (a_FN (q_var rfl) rfl rfl (a_FN (q_var rfl) rfl rfl a_nil))) rfl rfl rfl rfl) rfl rfl) (a_T (q_shN (q_callT (ρ2 := [sp_ (rL rI) any_order.2, sl_ rI many, sl_ (rL rI) hidden.1, sl_ (rL rS) facts_here.1, none, none, none, none, none]) (rf__law_order other.2 many) hany_order (a_T (q_var rfl) (a_FN (q_var rfl) rfl rfl a_nil)) rfl rfl rfl rfl) rfl rfl) a_nil)) rfl (q_put rfl rfl rfl) (q_put rfl rfl rfl)) (bl_assoc (bl_forW (fb := (rP (rL rI) (rL rI))) (s0 := ()) (Q := (PRt rB false 1 (fun tz => [sp_ (rL rI) tz]))) (rt := fun a => a) (fun (s' : Unit) => [sp_ (rL rI) any_order.2, sl_ rI many, sl_ (rL rI) hidden.1, sl_ (rL rS) facts_here.1, sl_ (rL rI) other.1, sl_ (rL rI) any_order.1, none, none, none]) (fun (s' : Unit) (p : ((List Int) × (List Int))) => [sp_ (rL rI) any_order.2, sl_ rI many, sl_ (rL rI) hidden.1, sl_ (rL rS) facts_here.1, sl_ (rL rI) other.1, sl_ (rL rI) any_order.1, sl_ (rL rI) p.1, sl_ (rL rI) p.2, none]) rfl (i_lstN (q_lst (ds := List.map (rP (rL rI) (rL rI)) [(hidden.1, other.1), (other.1, hidden.1), (other.1, other.1)]) (a_FN (q_tup (ds := [(rL rI) hidden.1, (rL rI) other.1]) (a_FN (q_var rfl) rfl rfl (a_FN (q_var rfl) rfl rfl a_nil)) rfl rfl) rfl rfl (a_FN (q_tup (ds := [(rL rI) other.1, (rL rI) hidden.1]) (a_FN (q_var rfl) rfl rfl (a_FN (q_var rfl) rfl rfl a_nil)) rfl rfl) rfl rfl (a_FN (q_tup (ds := [(rL rI) other.1, (rL rI) other.1]) (a_FN (q_var rfl) rfl rfl (a_FN (q_var rfl) rfl rfl a_nil)) rfl rfl) rfl rfl a_nil))) rfl rfl) rfl rfl) (fun _ _ => rfl) (fun s p => rf__law_right_b1 many hidden facts_here other any_order s p) out_R fun _u => (bl_assoc (bl_bind fun x_5 hx_5 => (bl_bind fun b hb => (bl_if (q_dB (q_cmp (q_lc (f := rS) (fun fact_here => [sp_ (rL rI) any_order.2, sl_ rI many, sl_ (rL rI) hidden.1, sl_ (rL rS) facts_here.1, sl_ (rL rI) other.1, sl_ (rL rI) any_order.1, none, none, sl_ rS fact_here]) (i_anyN (q_var rfl) rfl rfl rfl) rfl rfl (fun _ => rfl) (fun _ => rfl) (fun fact_here => (vt_bind fun x_4 hx_4 => (vt_ret (q_not (q_dTr (q_callR (rf__law_holds any_order.1 fact_here) hx_4 (a_FN (q_var rfl) rfl rfl (a_FN (q_var rfl) rfl rfl a_nil)) rfl rfl rfl (fun _ => rfl)) rfl t_B))))) (fun fact_here => (ve_ret (f := rS) (q_var rfl) rfl rfl)) hx_5) (q_lst (ds := List.map rS []) a_nil rfl rfl) rfl rfl (g_eqR (f := (rL rS)) (er_L er_S) rfl hb)) rfl) (fun _ => (bl_bind fun x_6 hx_6 => (bl_if (q_not (q_dTr (q_callR (rf__law_way many facts_here.1 any_order.1 hidden.1) hx_6 (a_FN (q_var rfl) rfl rfl (a_FN (q_var rfl) rfl rfl (a_FN (q_var rfl) rfl rfl (a_FN (q_var rfl) rfl rfl a_nil)))) rfl rfl rfl (fun _ => rfl)) rfl t_B)) (fun _ => (bl_ret q_con rfl rfl ⟨_, rfl, rfl⟩)) (fun _ => (bl_nextS (bl_bind fun x_7 hx_7 => (bl_bind fun w hw => (bl_ret (q_andVX (S := (fun z => [sp_ (rL rI) z, sl_ rI many, sl_ (rL rI) hidden.1, sl_ (rL rS) facts_here.1, sl_ (rL rI) other.1, sl_ (rL rI) any_order.1, none, none, none])) (t0 := x_7.2) (q_dB (q_callT (ρ2 := [sp_ (rL rI) x_7.2, sl_ rI many, sl_ (rL rI) hidden.1, sl_ (rL rS) facts_here.1, sl_ (rL rI) other.1, sl_ (rL rI) any_order.1, none, none, none]) (rf__law_far any_order.2 many) hx_7 (a_T (q_var rfl) (a_FN (q_var rfl) rfl rfl a_nil)) rfl rfl rfl rfl) rfl) (xs_bind fun x_8 hx_8 => (xs_bind fun x_9 hx_9 => (xs_ret (q_callT (ρ2 := [sp_ (rL rI) x_9.2, sl_ rI many, sl_ (rL rI) hidden.1, sl_ (rL rS) facts_here.1, sl_ (rL rI) other.1, sl_ (rL rI) any_order.1, none, none, none]) (rf__law_far x_8.2 (1 + x_8.1)) hx_9 (a_T (q_var rfl) (a_FN (q_op2 q_con (q_callT (ρ2 := [sp_ (rL rI) x_8.2, sl_ rI many, sl_ (rL rI) hidden.1, sl_ (rL rS) facts_here.1, sl_ (rL rI) other.1, sl_ (rL rI) any_order.1, none, none, none]) (rf__law_pick x_7.2 60) hx_8 (a_T (q_var rfl) (a_FN q_con rfl rfl a_nil)) rfl rfl rfl rfl) rfl rfl g_addI) rfl rfl a_nil)) rfl rfl rfl rfl)))) hw) rfl rfl ⟨_, rfl, rfl⟩)))))))) (fun _ => (bl_forW (fb := (rP (rL rI) (rL rI))) (s0 := ()) (Q := (PRt rB false 1 (fun tz => [sp_ (rL rI) tz]))) (rt := fun a => a) (fun (s'_1 : Unit) => [sp_ (rL rI) any_order.2, sl_ rI many, sl_ (rL rI) hidden.1, sl_ (rL rS) facts_here.1, sl_ (rL rI) other.1, sl_ (rL rI) any_order.1, none, none, none]) (fun (s'_1 : Unit) (p_1 : ((List Int) × (List Int))) => [sp_ (rL rI) any_order.2, sl_ rI many, sl_ (rL rI) hidden.1, sl_ (rL rS) facts_here.1, sl_ (rL rI) other.1, sl_ (rL rI) any_order.1, sl_ (rL rI) p_1.1, sl_ (rL rI) p_1.2, none]) rfl (i_lstN (q_lst (ds := List.map (rP (rL rI) (rL rI)) [(any_order.1, hidden.1), (hidden.1, any_order.1), (any_order.1, any_order.1)]) (a_FN (q_tup (ds := [(rL rI) any_order.1, (rL rI) hidden.1]) (a_FN (q_var rfl) rfl rfl (a_FN (q_var rfl) rfl rfl a_nil)) rfl rfl) rfl rfl (a_FN (q_tup (ds := [(rL rI) hidden.1, (rL rI) any_order.1]) (a_FN (q_var rfl) rfl rfl (a_FN (q_var rfl) rfl rfl a_nil)) rfl rfl) rfl rfl (a_FN (q_tup (ds := [(rL rI) any_order.1, (rL rI) any_order.1]) (a_FN (q_var rfl) rfl rfl (a_FN (q_var rfl) rfl rfl a_nil)) rfl rfl) rfl rfl a_nil))) rfl rfl) rfl rfl) (fun _ _ => rfl) (fun s p_1 => rf__law_right_b2 many hidden facts_here other any_order s p_1) out_R fun _u => (bl_bind fun x_11 hx_11 => (bl_bind fun w_1 hw_1 => (bl_ret (q_andVX (S := (fun z => [sp_ (rL rI) z, sl_ rI many, sl_ (rL rI) hidden.1, sl_ (rL rS) facts_here.1, sl_ (rL rI) other.1, sl_ (rL rI) any_order.1, none, none, none])) (t0 := x_11.2) (q_dB (q_callT (ρ2 := [sp_ (rL rI) x_11.2, sl_ rI many, sl_ (rL rI) hidden.1, sl_ (rL rS) facts_here.1, sl_ (rL rI) other.1, sl_ (rL rI) any_order.1, none, none, none]) (rf__law_far any_order.2 many) hx_11 (a_T (q_var rfl) (a_FN (q_var rfl) rfl rfl a_nil)) rfl rfl rfl rfl) rfl) (xs_bind fun x_12 hx_12 => (xs_bind fun x_13 hx_13 => (xs_ret (q_callT (ρ2 := [sp_ (rL rI) x_13.2, sl_ rI many, sl_ (rL rI) hidden.1, sl_ (rL rS) facts_here.1, sl_ (rL rI) other.1, sl_ (rL rI) any_order.1, none, none, none]) (rf__law_far x_12.2 (1 + x_12.1)) hx_13 (a_T (q_var rfl) (a_FN (q_op2 q_con (q_callT (ρ2 := [sp_ (rL rI) x_12.2, sl_ rI many, sl_ (rL rI) hidden.1, sl_ (rL rS) facts_here.1, sl_ (rL rI) other.1, sl_ (rL rI) any_order.1, none, none, none]) (rf__law_pick x_11.2 60) hx_12 (a_T (q_var rfl) (a_FN q_con rfl rfl a_nil)) rfl rfl rfl rfl) rfl rfl g_addI) rfl rfl a_nil)) rfl rfl rfl rfl)))) hw_1) rfl rfl ⟨_, rfl, rfl⟩)))))))))))))))))))))))))))
theorem rf__law_well (script : (List Int)) (k : Int) : Ref F__law_well [⟨(rL rI) script, false⟩, ⟨rI k, false⟩] (rL rI) true (g__law_well script k) := ref_of (ρ := [sl_ (rL rI) script, sl_ rI k, none]) rfl (by
  unfold g__law_well
  exact bl_last (bl_assoc (bl_bind fun x_1 hx_1 => (bl_setV (ρ2 := [sl_ (rL rI) script, sl_ rI k, sl_ rI x_1]) (q_ifxP (f := rI) (q_dB (q_cmp (q_var rfl) (q_bi (a_T (q_var rfl) a_nil) (cs_cons rfl cs_nil) (g_lenL (f := rI))) rfl rfl g_ltI) rfl) (vs_bind fun x hx => (vs_ret (q_op2 (q_var rfl) (q_var rfl) rfl rfl (g_ixL (f := rI) hx)))) (vs_ret q_con) hx_1) rfl rfl rfl (bl_bind fun x_2 hx_2 => (bl_ret (q_lst (ds := List.map rI [(if x_1 - 1000000000000000000 > 0 then x_1 - 1000000000000000000 else 0), (x_2 + (6700417 * k)) + 257, 0]) (a_FN (q_bi (a_T q_con (a_T (q_op2 (q_var rfl) (q_op2 q_con q_con rfl rfl (g_powIk (by decide) (by decide))) rfl rfl g_subI) a_nil)) (cs_cons rfl (cs_cons rfl cs_nil)) g_max2) rfl rfl (a_FN (q_op2 (q_op2 (q_op2 (q_bi (a_T (q_bi (a_T (q_var rfl) a_nil) (cs_cons rfl cs_nil) g_abs) a_nil) (cs_cons rfl cs_nil) g_intI) (q_op2 (q_op2 q_con q_con rfl rfl (g_powIk (by decide) (by decide))) q_con rfl rfl g_addI) rfl rfl (g_modI hx_2)) (q_op2 q_con (q_var rfl) rfl rfl (g_mulIl (by decide))) rfl rfl g_addI) q_con rfl rfl g_addI) rfl rfl (a_FN q_con rfl rfl a_nil))) rfl rfl) rfl rfl ⟨_, rfl⟩))))))
theorem rf_law_b1 (script : (List Int)) (s' : Unit) (k : Int) : BL (PF [1] (PW (fun (s' : Unit) => [sl_ (rL rI) script, none]) (PR rB false))) [sl_ (rL rI) script, sl_ rI k] r_law_1_l_1 (g_law_b1 script s' k) := by
  unfold g_law_b1
  exact bl_last (bl_bind fun x hx => (bl_bind fun x_1 hx_1 => (bl_if (q_not (q_dTr (q_callT (rf__law_right x) hx_1 (a_T (q_callR (rf__law_well script k) hx (a_FN (q_var rfl) rfl rfl (a_FN (q_var rfl) rfl rfl a_nil)) rfl rfl rfl (fun _ => rfl)) a_nil) rfl rfl rfl rfl) rfl t_B)) (fun _ => (bl_ret q_con rfl rfl ⟨⟨_, _, _, rfl⟩, ⟨_, rfl⟩⟩)) (fun _ => (bl_nextS (bl_end (Or.inl rfl)))))))
theorem rf_law (script : (List Int)) : Ref F_law [⟨(rL rI) script, false⟩] rB false (g_law script) := ref_of (ρ := [sl_ (rL rI) script, none]) rfl (by
  unfold g_law
  exact bl_last (bl_assoc (bl_bind fun r hr => (bl_forW (fb := rI) (s0 := ()) (Q := (PR rB false)) (rt := fun a => a) (fun (s' : Unit) => [sl_ (rL rI) script, none]) (fun (s' : Unit) (k : Int) => [sl_ (rL rI) script, sl_ rI k]) rfl (i_rng (a_T (q_bi (a_T q_con (a_T (q_bi (a_T q_con (a_T (q_bi (a_T (q_var rfl) a_nil) (cs_cons rfl cs_nil) (g_lenL (f := rI))) a_nil)) (cs_cons rfl (cs_cons rfl cs_nil)) g_min2) a_nil)) (cs_cons rfl (cs_cons rfl cs_nil)) g_max2) a_nil) (cs_cons rfl cs_nil) (g_rng1 hr)) (fun _ _ => rfl) (fun s k => rf_law_b1 script s k) out_R fun _u => (bl_ret q_con rfl rfl ⟨_, rfl⟩)))))
end Law_strictranks_k26_ways_of_exchanges
end
section
set_option Elab.async false
set_option linter.all false
set_option maxRecDepth 100000
set_option maxHeartbeats 4000000
namespace L2.PM
open PySem PySem.Spec PyProof.Rows L2 L2.VL L2.TX
def InB (n : Nat) (xs : List Int) : Prop := ∀ x ∈ xs, 0 ≤ x ∧ x < n
def rg (n : Nat) : List Int := (List.range n).map fun (k : Nat) => (k : Int)
def Ord (n : Nat) (os : List Int) : Prop := os.Perm (rg n)
theorem Ord.len {n : Nat} {os : List Int} (h : Ord n os) : os.length = n := by
  have := List.Perm.length_eq h
  simpa [rg] using this
theorem Ord.inb {n : Nat} {os : List Int} (h : Ord n os) : InB n os := fun x hx => by
  obtain ⟨k, hk, rfl⟩ := List.mem_map.mp ((List.Perm.mem_iff h).mp hx)
  rw [List.mem_range] at hk
  omega
theorem erase_map {α β : Type} (f : α → β) : ∀ (xs : List α) (k : Nat), (xs.map f).eraseIdx k = (xs.eraseIdx k).map f
  | [], _ => rfl
  | x :: xs, 0 => rfl
  | x :: xs, k + 1 => congrArg (f x :: ·) (erase_map f xs k)
abbrev fs (cs : List Nat) : Str := ⟨cs.toArray⟩
def Sg (c : Nat) : Prop := c = 87 ∨ c = 76 ∨ c = 46
def FOk (n : Nat) (cs : List Nat) : Prop := cs.length = n ∧ ∀ c ∈ cs, Sg c
abbrev fl (fss : List (List Nat)) : D := .lst (fss.map fun cs => .con (.str (fs cs)))
def LOk (n : Nat) (ls : List Int) : Prop := ls.length = n ∧ ∀ x ∈ ls, 0 ≤ x ∧ x ≤ 59
/-- the rules with a sign -/
def rw_ (cs : List Nat) (c : Nat) : List Int := ((cs.zipIdx.filter fun p => decide (p.1 = c)).map fun p => (p.2 : Int))
/-- the rules by their layers -/
def lp (ls : List Int) : List (Int × Int) := ls.zipIdx.map fun p => (p.1, (p.2 : Int))
theorem rg_sorted (n : Nat) : (rg n).Pairwise (· ≤ ·) := by
  unfold rg
  rw [List.pairwise_map]
  refine List.Pairwise.imp ?_ List.pairwise_lt_range
  intro a b h
  omega
theorem Ord.sort {n : Nat} {os : List Int} (h : Ord n os) : sortI os = rg n := (sortI_unique (List.Perm.symm h) (rg_sorted n)).symm
theorem LOk.at {n : Nat} {ls : List Int} (h : LOk n ls) {r : Nat} (hr : r < n) : 0 ≤ ls.getD r 0 ∧ ls.getD r 0 ≤ 59 := by
  have e : ls.getD r 0 = ls[r]'(by rw [h.1]; exact hr) := by simp [h.1, hr]
  rw [e]
  exact h.2 _ (List.getElem_mem _)
/-- the first sign along an order that is no point; W if there is none -/
def fsgn (os : List Int) (cs : List Nat) : Nat := ((os.map fun r => cs.getD r.toNat 46).find? fun c => decide (c ≠ 46)).getD 87
def turnC (c : Nat) : Nat := if c = 87 then 76 else if c = 76 then 87 else c
theorem FOk.map {n : Nat} {cs : List Nat} (hf : FOk n cs) : FOk n (cs.map turnC) := ⟨by rw [List.length_map]; exact hf.1, fun c hc => by
  obtain ⟨a, ha, rfl⟩ := List.mem_map.mp hc
  rcases hf.2 a ha with rfl | rfl | rfl
  · exact .inr (.inl rfl)
  · exact .inl rfl
  · exact .inr (.inr rfl)⟩
theorem getD_turn (cs : List Nat) (k : Nat) : (cs.map turnC).getD k 46 = turnC (cs.getD k 46) := by
  rw [List.getD_eq_getElem?_getD, List.getD_eq_getElem?_getD, List.getElem?_map]
  cases cs[k]? <;> rfl
theorem turn_ne (c : Nat) : (turnC c ≠ 46) ↔ c ≠ 46 := by
  unfold turnC
  split
  · subst_vars; simp
  · split
    · subst_vars; simp
    · exact Iff.rfl
theorem fsgn_turn {os : List Int} {cs : List Nat} (h : fsgn os cs = 76) : fsgn os (cs.map turnC) = 87 := by
  unfold fsgn at h ⊢
  have e : (os.map fun r => (cs.map turnC).getD r.toNat 46) = (os.map fun r => cs.getD r.toNat 46).map turnC := by
    rw [List.map_map]
    exact List.map_congr_left fun r _ => getD_turn cs r.toNat
  rw [e, List.find?_map]
  have p : ((fun c => decide (c ≠ 46)) ∘ turnC) = fun c => decide (c ≠ 46) := by
    funext c
    simp only [Function.comp_apply, decide_eq_decide]
    exact turn_ne c
  rw [p]
  cases q : (os.map fun r => cs.getD r.toNat 46).find? fun c => decide (c ≠ 46) with
  | none => rfl
  | some c =>
    rw [q] at h
    have : c = 76 := h
    subst this
    rfl
def bm (p : Nat → Bool) : Nat → Nat
  | 0 => 0
  | n + 1 => (if p n = true then 2 ^ n else 0) + bm p n
theorem bm_lt (p : Nat → Bool) : ∀ n, bm p n < 2 ^ n
  | 0 => by simp [bm]
  | n + 1 => by
    have := bm_lt p n
    unfold bm
    rw [Nat.pow_succ]
    split <;> omega
theorem bm_test (p : Nat → Bool) : ∀ n r, (bm p n).testBit r = (decide (r < n) && p r)
  | 0, r => by simp [bm]
  | n + 1, r => by
    have ih := bm_test p n r
    have lt := bm_lt p n
    unfold bm
    by_cases h : p n = true
    · rw [if_pos h]
      rcases Nat.lt_trichotomy r n with q | q | q
      · rw [Nat.testBit_two_pow_add_gt q, ih]
        simp [q, show r < n + 1 by omega]
      · subst q
        rw [Nat.testBit_two_pow_add_eq, Nat.testBit_lt_two_pow lt]
        simp [h]
      · rw [Nat.testBit_lt_two_pow]
        · simp [show ¬ r < n + 1 by omega]
        · have : 2 ^ (n + 1) ≤ 2 ^ r := Nat.pow_le_pow_right (by omega) (by omega)
          rw [Nat.pow_succ] at this
          omega
    · rw [if_neg h, Nat.zero_add, ih]
      by_cases q : r = n
      · subst q; simp [h]
      · simp [show (r < n + 1) = (r < n) by simp; omega]
theorem zipIdx_range {α : Type} (d : α) (xs : List α) : xs.zipIdx = (List.range xs.length).map fun k => (xs.getD k d, k) := by
  refine List.ext_getElem (by simp) fun i h1 h2 => ?_
  simp at h1
  simp [h1]
/-- the rules with a sign, as bits -/
def mks (cs : List Nat) (c : Nat) : Nat := bm (fun k => decide (cs.getD k 46 = c)) cs.length
theorem mk_test {cs : List Nat} {c r : Nat} (h : c ≠ 46) : (mks cs c).testBit r = decide (cs.getD r 46 = c) := by
  unfold mks
  rw [bm_test]
  by_cases q : r < cs.length
  · simp [q]
  · have : cs.getD r 46 = 46 := by simp [List.getD_eq_getElem?_getD, List.getElem?_eq_none (Nat.le_of_not_lt q)]
    rw [this]
    simp [q, Ne.symm h]
def LEq (n : Nat) (fss : List (List Nat)) (ly : Nat → Nat) : Prop :=
  (∀ r, r < n → ∀ f ∈ fss, f.getD r 46 = 76 → ∃ w, w < n ∧ f.getD w 46 = 87 ∧ ly w < ly r) ∧
  ∀ r, r < n → 0 < ly r → ∃ f ∈ fss, f.getD r 46 = 76 ∧ ∀ w, w < n → f.getD w 46 = 87 → ly r ≤ ly w + 1
def nsl (f : List Nat) : Bool := f.any fun c => decide (c ≠ 46)
/-- the facts that are left ahead of a front -/
def lf (fss : List (List Nat)) (F : Nat) : List (List Nat × Nat) := fss.zipIdx.filter fun p => nsl p.1 && decide (mks p.1 87 &&& F = 0)
theorem and_test {a F r : Nat} (h : a &&& F = 0) (h1 : a.testBit r = true) : F.testBit r = false := by
  have := congrArg (fun x => Nat.testBit x r) h
  simp only [Nat.testBit_and, h1, Bool.true_and, Nat.zero_testBit] at this
  exact this
theorem and_ne {a F : Nat} (h : a &&& F ≠ 0) : ∃ r, a.testBit r = true ∧ F.testBit r = true := by
  obtain ⟨r, hr⟩ := Nat.exists_testBit_of_ne_zero h
  rw [Nat.testBit_and, Bool.and_eq_true] at hr
  exact ⟨r, hr.1, hr.2⟩
theorem whole_test (n r : Nat) : (2 ^ n - 1).testBit r = decide (r < n) := Nat.testBit_two_pow_sub_one n r
structure LInv (n : Nat) (fss : List (List Nat)) (F t : Nat) (ly : Nat → Nat) (P : List Nat) : Prop where
  lt : ∀ r, F.testBit r = true → r < n
  nd : P.Nodup
  mem : ∀ r, r ∈ P ↔ F.testBit r = true
  tm : ∀ r, F.testBit r = true → ly r < t
  a : ∀ r, F.testBit r = true → ∀ f ∈ fss, f.getD r 46 = 76 → ∃ w, F.testBit w = true ∧ f.getD w 46 = 87 ∧ ly w < ly r
  b : ∀ r, F.testBit r = true → 0 < ly r → ∃ f ∈ fss, f.getD r 46 = 76 ∧ ∀ w, F.testBit w = true → f.getD w 46 = 87 → ly r ≤ ly w + 1
  c : 0 < t → ∀ r, r < n → F.testBit r = false → ∃ f ∈ fss, f.getD r 46 = 76 ∧ ∀ w, F.testBit w = true → f.getD w 46 = 87 → t ≤ ly w + 1
section
variable {n : Nat} {fss : List (List Nat)} {F t : Nat} {ly : Nat → Nat} {P : List Nat}
theorem LInv.done (I : LInv n fss F t ly P) (h : F = 2 ^ n - 1) : LEq n fss ly ∧ P.Perm (List.range n) := by
  subst h
  have w : ∀ r, (2 ^ n - 1).testBit r = true ↔ r < n := fun r => by rw [whole_test, decide_eq_true_eq]
  refine ⟨⟨fun r hr f hf hl => ?_, fun r hr hp => ?_⟩, ?_⟩
  · obtain ⟨w1, h1, h2, h3⟩ := I.a r ((w r).mpr hr) f hf hl
    exact ⟨w1, (w w1).mp h1, h2, h3⟩
  · obtain ⟨f, h1, h2, h3⟩ := I.b r ((w r).mpr hr) hp
    exact ⟨f, h1, h2, fun w1 hw hs => h3 w1 ((w w1).mpr hw) hs⟩
  · rw [List.perm_ext_iff_of_nodup I.nd List.nodup_range]
    intro r
    rw [I.mem, w, List.mem_range]
end
def pl (ly : Nat → Nat) (P : List Nat) : List (Int × Int) := P.map fun (k : Nat) => ((k : Int), ((ly k : Nat) : Int))
theorem LInv.len {n : Nat} {fss : List (List Nat)} {F t : Nat} {ly : Nat → Nat} {P : List Nat} (I : LInv n fss F t ly P) : P.length ≤ n := by
  have : P.Perm ((List.range n).filter fun r => F.testBit r) := by
    rw [List.perm_ext_iff_of_nodup I.nd (List.Pairwise.filter _ List.nodup_range)]
    intro r
    rw [I.mem, List.mem_filter, List.mem_range]
    exact ⟨fun h => ⟨I.lt r h, h⟩, fun h => h.2⟩
  rw [this.length_eq]
  refine Nat.le_trans (List.length_filter_le _ _) ?_
  simp
theorem first_at {n : Nat} {os : List Int} {f : List Nat} (ho : Ord n os) (hf : FOk n f) (h : fsgn os f ≠ 76) (hs : ∃ r, r < n ∧ f.getD r 46 ≠ 46) :
    ∃ k w : Nat, os[k]? = some (w : Int) ∧ w < n ∧ f.getD w 46 = 87 ∧ ∀ j u, j < k → os[j]? = some u → f.getD u.toNat 46 = 46 := by
  unfold fsgn at h
  have inb := ho.inb
  cases q : (os.map fun r => f.getD r.toNat 46).find? fun c => decide (c ≠ 46) with
  | none =>
    obtain ⟨r, hr, e⟩ := hs
    rw [List.find?_eq_none] at q
    have : (r : Int) ∈ os := ho.mem_iff.mpr (by unfold rg; exact List.mem_map.mpr ⟨r, List.mem_range.mpr hr, rfl⟩)
    have := q _ (List.mem_map.mpr ⟨(r : Int), this, rfl⟩)
    simp at this
    exact absurd this (by simpa using e)
  | some c =>
    rw [q] at h
    replace h : c ≠ 76 := h
    obtain ⟨h1, as, bs, e, h2⟩ := List.find?_eq_some_iff_append.mp q
    have hk : (os.map fun r => f.getD r.toNat 46)[as.length]? = some c := by rw [e]; simp
    rw [List.getElem?_map] at hk
    obtain ⟨u, hu, eu⟩ := Option.map_eq_some_iff.mp hk
    have hb := inb u (List.mem_of_getElem? hu)
    obtain ⟨w, rfl⟩ : ∃ w : Nat, u = w := ⟨u.toNat, by omega⟩
    have hw : w < n := by omega
    have hg : f.getD w 46 = c := eu
    have hc : c ∈ f := by
      rw [← hg, List.getD_eq_getElem?_getD, List.getElem?_eq_getElem (by rw [hf.1]; exact hw)]
      exact List.getElem_mem _
    refine ⟨as.length, w, hu, hw, ?_, fun j v hj hv => ?_⟩
    · rw [hg]
      rcases hf.2 c hc with q | q | q
      · exact q
      · exact absurd q h
      · rw [q] at h1; simp at h1
    · have hm : (os.map fun r => f.getD r.toNat 46)[j]? = some (f.getD v.toNat 46) := by rw [List.getElem?_map, hv]; rfl
      rw [e, List.getElem?_append_left hj] at hm
      have := h2 _ (List.mem_of_getElem? hm)
      simpa using this
theorem LEq.mono {n : Nat} {fss gss : List (List Nat)} {la lb : Nat → Nat} (a : LEq n fss la) (b : LEq n gss lb) (h : ∀ f ∈ fss, f ∈ gss) : ∀ r, r < n → la r ≤ lb r := by
  have key : ∀ m, ∀ r, r < n → lb r = m → la r ≤ lb r := by
    intro m
    induction m using Nat.strongRecOn with
    | _ m ih =>
      intro r hr e
      by_cases h0 : 0 < la r
      · obtain ⟨f, f1, f2, f3⟩ := a.2 r hr h0
        obtain ⟨w, w1, w2, w3⟩ := b.1 r hr f (h f f1) f2
        have i := ih (lb w) (by omega) w w1 rfl
        have := f3 w w1 w2
        omega
      · omega
  exact fun r hr => key _ r hr rfl
theorem LEq.down {n : Nat} {fss : List (List Nat)} {ly : Nat → Nat} (a : LEq n fss ly) {r : Nat} (hr : r < n) (h : 0 < ly r) : ∃ w, w < n ∧ ly w + 1 = ly r := by
  obtain ⟨f, f1, f2, f3⟩ := a.2 r hr h
  obtain ⟨w, w1, w2, w3⟩ := a.1 r hr f f1 f2
  have := f3 w w1 w2
  exact ⟨w, w1, by omega⟩
theorem LEq.all {n : Nat} {fss : List (List Nat)} {ly : Nat → Nat} (a : LEq n fss ly) : ∀ m r, r < n → ly r = m → ∀ v, v ≤ m → ∃ w, w < n ∧ ly w = v := by
  intro m
  induction m with
  | zero => intro r hr e v hv; exact ⟨r, hr, by omega⟩
  | succ m ih =>
    intro r hr e v hv
    obtain ⟨w, w1, w2⟩ := a.down hr (by omega)
    by_cases q : v = m + 1
    · exact ⟨r, hr, by omega⟩
    · exact ih w w1 (by omega) v (by omega)
/-- the layers stay below the number of the rules -/
theorem LEq.lt {n : Nat} {fss : List (List Nat)} {ly : Nat → Nat} (a : LEq n fss ly) {r : Nat} (hr : r < n) : ly r < n := by
  refine Classical.byContradiction fun z => ?_
  have sub : (List.range (ly r + 1)).Subset ((List.range n).map ly) := fun v hv => by
    obtain ⟨w, w1, w2⟩ := a.all (ly r) r hr rfl v (by have := List.mem_range.mp hv; omega)
    exact List.mem_map.mpr ⟨w, List.mem_range.mpr w1, w2⟩
  have := List.Nodup.length_le_of_subset List.nodup_range sub
  simp at this
  omega
/-- the masks of a rule: what stands ahead of it, by each fact with L there -/
def mk0 (fss : List (List Nat)) (k : Nat) : List Int := (fss.filter fun f => decide (f.getD k 46 = 76)).map fun f => ((mks f 87 : Nat) : Int)
def msk (fss : List (List Nat)) (k : Nat) : List Int := sortU (mk0 fss k)
/-- whether a rule can stand behind a front -/
def canS (fss : List (List Nat)) (F r : Nat) : Bool := fss.all fun f => !decide (f.getD r 46 = 76) || !decide (mks f 87 &&& F = 0)
/-- the rules that can be the next -/
def plc (n : Nat) (fss : List (List Nat)) (F : Nat) : List Nat := (List.range n).filter fun r => !F.testBit r && canS fss F r
/-- the rules of a list as bits -/
def bitsOf (os : List Nat) : Nat := os.foldl (fun F r => F ||| 2 ^ r) 0
/-- the least order, place by place -/
def lo (n : Nat) (fss : List (List Nat)) : Nat → List Nat
  | 0 => []
  | k + 1 => lo n fss k ++ [(plc n fss (bitsOf (lo n fss k))).headD 0]
theorem bitsOf_snoc (os : List Nat) (r : Nat) : bitsOf (os ++ [r]) = bitsOf os ||| 2 ^ r := by
  unfold bitsOf
  rw [List.foldl_append]
  rfl
theorem bits_mem (os : List Nat) (r : Nat) : (bitsOf os).testBit r = decide (r ∈ os) := by
  refine snoc_ind (P := fun os => (bitsOf os).testBit r = decide (r ∈ os)) (by simp [bitsOf]) (fun l a ih => ?_) os
  rw [bitsOf_snoc, Nat.testBit_or, ih, Nat.testBit_two_pow, Bool.eq_iff_iff]
  simp only [Bool.or_eq_true, decide_eq_true_eq, List.mem_append, List.mem_singleton]
  constructor
  · rintro (h | h)
    · exact .inl h
    · exact .inr h.symm
  · rintro (h | h)
    · exact .inl h
    · exact .inr h.symm
theorem canS_iff {fss : List (List Nat)} {os : List Nat} {r : Nat} : canS fss (bitsOf os) r = true ↔ ∀ f ∈ fss, f.getD r 46 = 76 → ∃ w ∈ os, f.getD w 46 = 87 := by
  unfold canS
  rw [List.all_eq_true]
  constructor
  · intro h f hf e
    have := h f hf
    rw [decide_eq_true e] at this
    simp only [Bool.not_true, Bool.false_or, Bool.not_eq_true', decide_eq_false_iff_not] at this
    obtain ⟨w, w1, w2⟩ := and_ne this
    rw [mk_test (by decide), decide_eq_true_eq] at w1
    rw [bits_mem, decide_eq_true_eq] at w2
    exact ⟨w, w2, w1⟩
  · intro h f hf
    by_cases e : f.getD r 46 = 76
    · obtain ⟨w, w1, w2⟩ := h f hf e
      rw [decide_eq_true e]
      simp only [Bool.not_true, Bool.false_or, Bool.not_eq_true', decide_eq_false_iff_not]
      intro z
      have := and_test z (r := w) (by rw [mk_test (by decide), decide_eq_true_eq]; exact w2)
      rw [bits_mem, decide_eq_false_iff_not] at this
      exact this w1
    · rw [decide_eq_false e]; rfl
theorem mem_plc {n : Nat} {fss : List (List Nat)} {os : List Nat} {r : Nat} : r ∈ plc n fss (bitsOf os) ↔ r < n ∧ r ∉ os ∧ ∀ f ∈ fss, f.getD r 46 = 76 → ∃ w ∈ os, f.getD w 46 = 87 := by
  unfold plc
  rw [List.mem_filter, List.mem_range, Bool.and_eq_true, canS_iff, bits_mem, Bool.not_eq_true', decide_eq_false_iff_not]
theorem least_nat {P : Nat → Prop} : ∀ m, P m → ∃ k, P k ∧ ∀ j, j < k → ¬ P j := by
  intro m
  induction m using Nat.strongRecOn with
  | _ m ih =>
    intro hm
    by_cases z : ∃ j, j < m ∧ P j
    · obtain ⟨j, h1, h2⟩ := z
      exact ih j h1 h2
    · exact ⟨m, hm, fun j hj hp => z ⟨j, hj, hp⟩⟩
abbrev NB (n : Nat) (os : List Int) (fss : List (List Nat)) : Prop := ∀ cs ∈ fss, FOk n cs ∧ fsgn os cs ≠ 76
/-- the first rule of an order that is not in front can stand there -/
theorem first_plc {n : Nat} {os : List Int} {fss : List (List Nat)} {pre : List Nat} {i r : Nat} (ho : Ord n os) (h : NB n os fss) (hi : os[i]? = some (r : Int)) (hr : r ∉ pre) (hb : ∀ j u, j < i → os[j]? = some u → u.toNat ∈ pre) : r ∈ plc n fss (bitsOf pre) := by
  rw [mem_plc]
  have hrn := ho.inb _ (List.mem_of_getElem? hi)
  refine ⟨by omega, hr, fun f hf e => ?_⟩
  obtain ⟨k, w, a1, a2, a3, a4⟩ := first_at ho (h f hf).1 (h f hf).2 ⟨r, by omega, by rw [e]; decide⟩
  rcases Nat.lt_trichotomy k i with z | z | z
  · have := hb k w z a1
    rw [Int.toNat_natCast] at this
    exact ⟨w, this, a3⟩
  · subst z
    rw [a1] at hi
    have : w = r := by have := Option.some.inj hi; omega
    subst this
    rw [a3] at e
    cases e
  · have := a4 i r z hi
    rw [Int.toNat_natCast, e] at this
    cases this
theorem plc_ne {n : Nat} {os : List Int} {fss : List (List Nat)} {pre : List Nat} (ho : Ord n os) (h : NB n os fss) (hl : pre.length < n) : ∃ i r : Nat, os[i]? = some (r : Int) ∧ r ∈ plc n fss (bitsOf pre) ∧ ∀ j u, j < i → os[j]? = some u → u.toNat ∈ pre := by
  have ex : ∃ i : Nat, ∃ r : Nat, os[i]? = some (r : Int) ∧ r ∉ pre := by
    refine Classical.byContradiction fun z => ?_
    have sub : (List.range n).Subset pre := fun r hr => by
      have hr := List.mem_range.mp hr
      have : (r : Int) ∈ os := ho.mem_iff.mpr (by unfold rg; exact List.mem_map.mpr ⟨r, List.mem_range.mpr hr, rfl⟩)
      obtain ⟨i, hi, e⟩ := List.mem_iff_getElem.mp this
      refine Classical.byContradiction fun q => z ⟨i, r, by rw [List.getElem?_eq_getElem hi, e], q⟩
    have := List.Nodup.length_le_of_subset List.nodup_range sub
    simp at this
    omega
  obtain ⟨i0, h0⟩ := ex
  obtain ⟨i, ⟨r, h1, h2⟩, h3⟩ := least_nat (P := fun i : Nat => ∃ r : Nat, os[i]? = some (r : Int) ∧ r ∉ pre) i0 h0
  have hb : ∀ (j : Nat) u, j < i → os[j]? = some u → u.toNat ∈ pre := fun j u hj hu => by
    refine Classical.byContradiction fun q => h3 j hj ⟨u.toNat, ?_, q⟩
    have := ho.inb u (List.mem_of_getElem? hu)
    rw [hu]
    congr 1
    omega
  exact ⟨i, r, h1, first_plc ho h h1 h2 hb, hb⟩
/-- no order in which all facts hold -/
def BarF (n : Nat) (fss : List (List Nat)) : Prop := ∀ os, Ord n os → ¬ ∀ f ∈ fss, fsgn os f ≠ 76
def FrS (n : Nat) (fss : List (List Nat)) (pre : List Nat) : Prop := ∀ a r b, pre = a ++ r :: b → r ∈ plc n fss (bitsOf a)
theorem FrS.nil {n : Nat} {fss : List (List Nat)} : FrS n fss [] := fun a r b e => by cases a <;> cases e
theorem FrS.snoc {n : Nat} {fss : List (List Nat)} {pre : List Nat} {r : Nat} (h : FrS n fss pre) (hr : r ∈ plc n fss (bitsOf pre)) : FrS n fss (pre ++ [r]) := fun a s b e => by
  rcases List.eq_nil_or_concat b with rfl | ⟨b', x, rfl⟩
  · obtain ⟨e1, e2⟩ := List.append_inj' e rfl
    subst e1
    cases e2
    exact hr
  · rw [List.concat_eq_append, ← List.cons_append, ← List.append_assoc] at e
    obtain ⟨e1, _⟩ := List.append_inj' e rfl
    exact h a s b' e1
theorem FrS.init {n : Nat} {fss : List (List Nat)} {a b : List Nat} (h : FrS n fss (a ++ b)) : FrS n fss a := fun c r d e => h c r (d ++ b) (by rw [e]; simp)
theorem FrS.ok {n : Nat} {fss : List (List Nat)} {pre : List Nat} : FrS n fss pre → pre.Nodup ∧ ∀ r ∈ pre, r < n := by
  refine snoc_ind (P := fun pre => FrS n fss pre → pre.Nodup ∧ ∀ r ∈ pre, r < n) (fun _ => ⟨List.nodup_nil, fun r hr => by cases hr⟩) (fun pre x ih h => ?_) pre
  obtain ⟨i1, i2⟩ := ih h.init
  obtain ⟨h1, h2, _⟩ := mem_plc.mp (h pre x [] rfl)
  refine ⟨?_, fun r hr => ?_⟩
  · rw [List.nodup_append]
    refine ⟨i1, by simp, fun a ha b hb e => ?_⟩
    rw [List.mem_singleton] at hb
    subst hb; subst e
    exact h2 ha
  · rcases List.mem_append.mp hr with z | z
    · exact i2 r z
    · rw [List.mem_singleton.mp z]; exact h1
theorem FrS.len {n : Nat} {fss : List (List Nat)} {pre : List Nat} (h : FrS n fss pre) : pre.length ≤ n := by
  have := List.Nodup.length_le_of_subset h.ok.1 (l₂ := List.range n) fun r hr => List.mem_range.mpr (h.ok.2 r hr)
  simpa using this
abbrev toO (pre : List Nat) : List Int := pre.map fun (r : Nat) => (r : Int)
/-- a whole front is an order in which all facts hold -/
theorem FrS.full {n : Nat} {fss : List (List Nat)} {pre : List Nat} (h : FrS n fss pre) (hl : pre.length = n) : Ord n (toO pre) ∧ ∀ f ∈ fss, fsgn (toO pre) f ≠ 76 := by
  obtain ⟨i1, i2⟩ := h.ok
  refine ⟨?_, fun f hf z => ?_⟩
  · unfold Ord rg
    refine List.Perm.map _ ?_
    rw [List.perm_ext_iff_of_nodup i1 List.nodup_range]
    intro r
    rw [List.mem_range]
    refine ⟨i2 r, fun hr => Classical.byContradiction fun z => ?_⟩
    have nd : (r :: pre).Nodup := List.nodup_cons.mpr ⟨z, i1⟩
    have sub : (r :: pre).Subset (List.range n) := fun x hx => by
      rcases List.mem_cons.mp hx with q | q
      · rw [q]; exact List.mem_range.mpr hr
      · exact List.mem_range.mpr (i2 x q)
    have := List.Nodup.length_le_of_subset nd sub
    simp [hl] at this
    omega
  · unfold fsgn at z
    cases q : ((toO pre).map fun r => f.getD r.toNat 46).find? fun c => decide (c ≠ 46) with
    | none => rw [q] at z; cases z
    | some c =>
      rw [q] at z
      replace z : c = 76 := z
      subst z
      obtain ⟨_, as, bs, e, h2⟩ := List.find?_eq_some_iff_append.mp q
      rw [List.map_map] at e
      obtain ⟨p1, p2, e1, e2, e3⟩ := List.map_eq_append_iff.mp e
      obtain ⟨r, p3, e4, e5, e6⟩ := List.map_eq_cons_iff.mp e3
      subst e4
      obtain ⟨_, _, h3⟩ := mem_plc.mp (h p1 r p3 e1)
      obtain ⟨w, w1, w2⟩ := h3 f hf (by simpa using e5)
      have := h2 87 (by
        rw [← e2]
        exact List.mem_map.mpr ⟨w, w1, by simpa using w2⟩)
      simp at this
/-- each front can be made an order -/
theorem FrS.ext {n : Nat} {fss : List (List Nat)} {os : List Int} (ho : Ord n os) (hN : NB n os fss) : ∀ d (pre : List Nat), pre.length + d = n → FrS n fss pre → ∃ post, (pre ++ post).length = n ∧ FrS n fss (pre ++ post)
  | 0, pre, e, h => ⟨[], by simpa using e, by simpa using h⟩
  | d + 1, pre, e, h => by
    obtain ⟨i, r, _, h2, _⟩ := plc_ne (pre := pre) ho hN (by omega)
    obtain ⟨post, p1, p2⟩ := FrS.ext ho hN d (pre ++ [r]) (by simp; omega) (h.snoc h2)
    exact ⟨r :: post, by simpa using p1, by simpa using p2⟩
/-- the first sign that is no point, by places -/
theorem fsgn_L {os : List Int} {f : List Nat} (h : fsgn os f = 76) : ∃ (k : Nat) (x : Int), os[k]? = some x ∧ f.getD x.toNat 46 = 76 ∧ ∀ (j : Nat) u, j < k → os[j]? = some u → f.getD u.toNat 46 = 46 := by
  unfold fsgn at h
  cases q : (os.map fun r => f.getD r.toNat 46).find? fun c => decide (c ≠ 46) with
  | none => rw [q] at h; cases h
  | some c =>
    rw [q] at h
    replace h : c = 76 := h
    subst h
    obtain ⟨_, as, bs, e, h2⟩ := List.find?_eq_some_iff_append.mp q
    have hk : (os.map fun r => f.getD r.toNat 46)[as.length]? = some 76 := by rw [e]; simp
    rw [List.getElem?_map] at hk
    obtain ⟨x, hx, ex⟩ := Option.map_eq_some_iff.mp hk
    refine ⟨as.length, x, hx, ex, fun j u hj hu => ?_⟩
    have hm : (os.map fun r => f.getD r.toNat 46)[j]? = some (f.getD u.toNat 46) := by rw [List.getElem?_map, hu]; rfl
    rw [e, List.getElem?_append_left hj] at hm
    have := h2 _ (List.mem_of_getElem? hm)
    simpa using this
theorem cutL_drop {α : Type} (as : List α) (j : Nat) : cutL as (some (j : Int)) none = as.drop j := by
  unfold cutL
  rw [HT.sIx_nat, HT.sIx_none]
  by_cases h : j ≤ as.length
  · rw [Nat.min_eq_left h, List.take_of_length_le (by simp)]
  · rw [Nat.min_eq_right (by omega), List.drop_of_length_le (Nat.le_refl _), List.drop_of_length_le (by omega)]
    simp
theorem cutL_take {α : Type} (as : List α) (j : Nat) : cutL as none (some (j : Int)) = as.take j := by
  unfold cutL
  rw [HT.sIx_nat, HT.sIx_none, List.drop_zero, Nat.sub_zero]
  by_cases h : j ≤ as.length
  · rw [Nat.min_eq_left h]
  · rw [Nat.min_eq_right (by omega), List.take_of_length_le (Nat.le_refl _), List.take_of_length_le (by omega)]
/-- rising indices -/
def Asc (m : Nat) (ks : List Nat) : Prop := ks.Pairwise (· < ·) ∧ ∀ i ∈ ks, i < m
theorem Asc.nodup {m : Nat} {ks : List Nat} (h : Asc m ks) : ks.Nodup := h.1.imp fun h => Nat.ne_of_lt h
theorem Asc.len {m : Nat} {ks : List Nat} (h : Asc m ks) : ks.length ≤ m := by
  have := List.Nodup.length_le_of_subset h.nodup (l₂ := List.range m) fun r hr => List.mem_range.mpr (h.2 r hr)
  simpa using this
/-- fewer facts bar less -/
theorem BarF.mono {n : Nat} {fss gss : List (List Nat)} (h : BarF n fss) (hs : ∀ f ∈ fss, f ∈ gss) : BarF n gss := fun os ho hN => h os ho fun f hf => hN f (hs f hf)
def ovA (gs : List (List Nat)) (r : Nat) : Nat := if 76 ∈ gs.map (fun f => f.getD r 46) then 76 else if 87 ∈ gs.map (fun f => f.getD r 46) then 87 else 46
def oc (n : Nat) (g : Nat → Nat) : List Nat := (List.range n).map g
def ov (n : Nat) (gs : List (List Nat)) : List Nat := oc n (ovA gs)
theorem sg_get {n : Nat} {f : List Nat} (hf : FOk n f) (r : Nat) : Sg (f.getD r 46) := by
  by_cases h : r < f.length
  · rw [show f.getD r 46 = f[r] by simp [h]]
    exact hf.2 _ (List.getElem_mem _)
  · rw [show f.getD r 46 = 46 by simp [List.getD_eq_getElem?_getD, List.getElem?_eq_none (Nat.le_of_not_lt h)]]
    exact .inr (.inr rfl)
def Shw (n : Nat) (gs : List (List Nat)) (f : List Nat) : Prop := (∀ r, r < n → f.getD r 46 ≠ 76) ∨
  (gs ≠ [] ∧ (∀ r, r < n → ovA gs r = 87 → f.getD r 46 = 87) ∧ (((∃ r, r < n ∧ ovA gs r = 76) ∧ ∀ r, r < n → ovA gs r ≠ 87) ∨ ∀ r, r < n → f.getD r 46 = 76 → ovA gs r = 76))
end L2.PM
end
section
set_option Elab.async false
set_option linter.all false
set_option maxRecDepth 100000
namespace L2.TX
open PySem PySem.Spec PyProof.Rows L2 L2.VL L2.PM
/-- o is there, and Q holds of it -/
def WP {α : Type} (o : Option α) (Q : α → Prop) : Prop := ∃ a, o = some a ∧ Q a
section
variable {α β γ σ τ : Type} {o : Option α} {Q Q' : α → Prop} {R : β → Prop} {a : α}
theorem wp_some (h : Q a) : WP (some a) Q := ⟨a, rfl, h⟩
theorem wp_of (e : o = some a) (h : Q a) : WP o Q := ⟨a, e, h⟩
theorem WP.mono (h : WP o Q) (i : ∀ a, Q a → Q' a) : WP o Q' := let ⟨a, e, q⟩ := h; ⟨a, e, i a q⟩
theorem WP.bind {p : Option β} {h : β → Option α} (hp : WP p R) (hk : ∀ b, R b → WP (h b) Q) : WP (p.bind h) Q := by
  obtain ⟨b, e, r⟩ := hp
  rw [e]
  exact hk b r
theorem wp_eq {p : Option β} {b : β} {h : β → Option α} (e : p = some b) (hk : WP (h b) Q) : WP (p.bind h) Q := by
  rw [e]; exact hk
theorem wp_lt {v : β} {h : β → Option α} (hk : WP (h v) Q) : WP (lt v h) Q := by rw [lt_eq]; exact hk
theorem wp_bs {b : β} {h : β → Option α} (hk : WP (h b) Q) : WP ((some b).bind h) Q := hk
theorem wp_if {c : Bool} {o1 o2 : Option α} (h1 : c = true → WP o1 Q) (h2 : c = false → WP o2 Q) : WP (if c = true then o1 else o2) Q := by
  cases c with
  | true => exact h1 rfl
  | false => exact h2 rfl
theorem wp_ifd {p : Prop} [Decidable p] {o1 o2 : Option α} (h1 : p → WP o1 Q) (h2 : ¬ p → WP o2 Q) : WP (if decide p = true then o1 else o2) Q := by
  by_cases h : p
  · rw [if_pos (decide_eq_true h)]; exact h1 h
  · rw [if_neg (fun z => h (of_decide_eq_true z))]; exact h2 h
theorem WP.eq (h : WP o fun r => r = a) : o = some a := by
  obtain ⟨b, e, rfl⟩ := h
  exact e
theorem wp_assoc {p : Option β} {h : β → Option γ} {k : γ → Option α} (w : WP (p.bind fun b => (h b).bind k) Q) : WP ((p.bind h).bind k) Q := by
  rwa [Option.bind_assoc]
theorem wp_ifb {c : Bool} {o1 o2 : Option β} {h : β → Option α} (h1 : c = true → WP (o1.bind h) Q) (h2 : c = false → WP (o2.bind h) Q) : WP ((if c = true then o1 else o2).bind h) Q := by
  cases c with
  | true => exact h1 rfl
  | false => exact h2 rfl
theorem bind_id (o : Option α) : (o.bind fun x => some x) = o := by cases o <;> rfl
theorem wp_id (w : WP o Q) : WP (o.bind fun x => some x) Q := by rwa [bind_id]
theorem wp_fo {b : σ → β → Option σ} {xs : List β} {s0 : σ} {Q : σ → Prop} (I : List β → σ → Prop) (h0 : I [] s0) (hs : ∀ pre x post s, xs = pre ++ x :: post → I pre s → WP (b s x) (I (pre ++ [x]))) (he : ∀ s, I xs s → Q s) : WP (fo b xs s0) Q := by
  have go : ∀ (post pre : List β) (s : σ), xs = pre ++ post → I pre s → WP (fo b post s) Q := by
    intro post
    induction post with
    | nil => intro pre s e h; exact wp_some (he s (by rw [e, List.append_nil]; exact h))
    | cons x post ih =>
      intro pre s e h
      exact (hs pre x post s e h).bind fun s' h' => ih (pre ++ [x]) s' (by rw [e]; simp) h'
  exact go xs [] s0 rfl h0
/-- a loop over range(i, j) -/
theorem wp_foN {b : σ → Int → Option σ} {n : Nat} {s0 : σ} {Q : σ → Prop} (I : Nat → σ → Prop) (h0 : I 0 s0) (hs : ∀ k s, k < n → I k s → WP (b s (k : Int)) (I (k + 1))) (he : ∀ s, I n s → Q s) : WP (fo b ((List.range n).map fun (k : Nat) => (k : Int)) s0) Q := by
  refine wp_fo (fun pre s => I pre.length s) h0 (fun pre x post s e h => ?_) fun s h => he s (by simpa using h)
  have hx : ((List.range n).map fun (k : Nat) => (k : Int))[pre.length]? = some x := by rw [e]; simp
  rw [List.getElem?_map] at hx
  obtain ⟨k, hk, rfl⟩ := Option.map_eq_some_iff.mp hx
  have h2 := List.getElem?_eq_some_iff.mp hk
  obtain ⟨h3, h4⟩ := h2
  rw [List.length_range] at h3
  rw [List.getElem_range] at h4
  subst h4
  rw [List.length_append]
  exact hs _ s h3 h
/-- a loop that may be left -/
theorem wp_foW {b : σ → β → Option (Fw σ γ)} {xs : List β} {s0 : σ} {Q : Fw σ γ → Prop} (I : List β → σ → Prop) (h0 : I [] s0)
    (hs : ∀ pre x post s, xs = pre ++ x :: post → I pre s → WP (b s x) fun w => match w with | .nx s' => I (pre ++ [x]) s' | .brk s' => Q (.nx s') | .ret a => Q (.ret a)) (he : ∀ s, I xs s → Q (.nx s)) : WP (foW b xs s0) Q := by
  have go : ∀ (post pre : List β) (s : σ), xs = pre ++ post → I pre s → WP (foW b post s) Q := by
    intro post
    induction post with
    | nil => intro pre s e h; exact wp_some (he s (by rw [e, List.append_nil]; exact h))
    | cons x post ih =>
      intro pre s e h
      refine (hs pre x post s e h).bind fun w h' => ?_
      cases w with
      | nx s' => exact ih (pre ++ [x]) s' (by rw [e]; simp) h'
      | brk s' => exact wp_some h'
      | ret a => exact wp_some h'
  exact go xs [] s0 rfl h0
theorem wp_foWN {b : σ → Int → Option (Fw σ γ)} {n : Nat} {s0 : σ} {Q : Fw σ γ → Prop} (I : Nat → σ → Prop) (h0 : I 0 s0)
    (hs : ∀ k s, k < n → I k s → WP (b s (k : Int)) fun w => match w with | .nx s' => I (k + 1) s' | .brk s' => Q (.nx s') | .ret a => Q (.ret a)) (he : ∀ s, I n s → Q (.nx s)) : WP (foW b ((List.range n).map fun (k : Nat) => (k : Int)) s0) Q := by
  refine wp_foW (fun pre s => I pre.length s) h0 (fun pre x post s e h => ?_) fun s h => he s (by simpa using h)
  have hx : ((List.range n).map fun (k : Nat) => (k : Int))[pre.length]? = some x := by rw [e]; simp
  rw [List.getElem?_map] at hx
  obtain ⟨k, hk, rfl⟩ := Option.map_eq_some_iff.mp hx
  obtain ⟨h3, h4⟩ := List.getElem?_eq_some_iff.mp hk
  rw [List.length_range] at h3
  rw [List.getElem_range] at h4
  subst h4
  rw [List.length_append]
  exact hs _ s h3 h
/-- a while, by a measure -/
theorem wp_wh {tq : σ → Option Bool} {gb : σ → Option (Fw σ γ)} {s0 : σ} {Q : Fw σ γ → Prop} (I : σ → Prop) (μ : σ → Nat) (h0 : I s0)
    (hs : ∀ s, I s → WP (tq s) fun c => (c = true → WP (gb s) fun w => match w with | .nx s' => I s' ∧ μ s' < μ s | .brk s' => Q (.nx s') | .ret a => Q (.ret a)) ∧ (c = false → Q (.nx s))) : WP (wh tq gb s0) Q := by
  have go : ∀ (m : Nat) (s : σ), μ s = m → I s → WP (wh tq gb s) Q := by
    intro m
    induction m using Nat.strongRecOn with
    | _ m ih =>
      intro s e h
      rw [wh_eq]
      refine (hs s h).bind fun c hc => ?_
      cases c with
      | false => exact wp_some (hc.2 rfl)
      | true =>
        refine WP.bind (R := _) (hc.1 rfl) fun w hw => ?_
        cases w with
        | nx s' => exact ih (μ s') (by rw [← e]; exact hw.2) s' rfl hw.1
        | brk s' => exact wp_some hw
        | ret a => exact wp_some hw
  exact go (μ s0) s0 rfl h0
theorem wp_out {o : Option (Fw σ γ)} {k : σ → Option α} {r : γ → Option α} (h : WP o fun w => match w with | .nx s => WP (k s) Q | .brk s => WP (k s) Q | .ret a => WP (r a) Q) : WP (o.bind (fwOut k r)) Q := WP.bind h fun w hw => by
  cases w <;> exact hw
theorem lc_of {q : β → Option Bool} {e : β → Option γ} (q' : β → Bool) (e' : β → γ) : ∀ (xs : List β), (∀ x ∈ xs, q x = some (q' x)) → (∀ x ∈ xs, q' x = true → e x = some (e' x)) → lc q e xs = some ((xs.filter q').map e')
  | [], _, _ => rfl
  | x :: xs, h1, h2 => by
    unfold lc
    rw [h1 x List.mem_cons_self]
    have ih := lc_of q' e' xs (fun y hy => h1 y (List.mem_cons_of_mem _ hy)) (fun y hy => h2 y (List.mem_cons_of_mem _ hy))
    cases hq : q' x with
    | false =>
      rw [List.filter_cons_of_neg (by rw [hq]; exact Bool.false_ne_true)]
      exact ih
    | true =>
      rw [List.filter_cons_of_pos hq]
      show (e x).bind _ = _
      rw [h2 x List.mem_cons_self hq]
      show (lc q e xs).bind _ = _
      rw [ih]; rfl
theorem lcC_of {q : β → Option Bool} {e : β → Option γ} {xs : List β} (q' : β → Bool) (e' : β → γ) (hl : (xs.filter q').length ≤ cap) (h1 : ∀ x ∈ xs, q x = some (q' x)) (h2 : ∀ x ∈ xs, q' x = true → e x = some (e' x)) : lcC q e xs = some ((xs.filter q').map e') := by
  unfold lcC
  rw [lc_of q' e' xs h1 h2]
  show chk _ = _
  unfold chk
  rw [List.length_map]
  exact if_pos hl
theorem lcC_map {q : β → Option Bool} {e : β → Option γ} {xs : List β} (e' : β → γ) (hl : xs.length ≤ cap) (h1 : ∀ x ∈ xs, q x = some true) (h2 : ∀ x ∈ xs, e x = some (e' x)) : lcC q e xs = some (xs.map e') := by
  have := lcC_of (q := q) (e := e) (xs := xs) (fun _ => true) e' (Nat.le_trans (List.length_filter_le _ _) hl) h1 (fun x hx _ => h2 x hx)
  rwa [List.filter_eq_self.mpr (fun _ _ => rfl)] at this
theorem lcC_flt {q : β → Option Bool} {xs : List β} (q' : β → Bool) (hl : xs.length ≤ cap) (h1 : ∀ x ∈ xs, q x = some (q' x)) : lcC q (fun x => some x) xs = some (xs.filter q') := by
  have := lcC_of (q := q) (e := fun x => some x) q' id (Nat.le_trans (List.length_filter_le _ _) hl) h1 (fun x _ _ => rfl)
  rwa [List.map_id] at this
theorem wp_lcX {q : τ → β → Option (Bool × τ)} {e : τ → β → Option (γ × τ)} {xs : List β} {t0 : τ} {Q : List γ × τ → Prop} (hl : xs.length ≤ cap) (I : List β → List γ → τ → Prop) (h0 : I [] [] t0)
    (hs : ∀ pre x post ys t, xs = pre ++ x :: post → I pre ys t → WP (q t x) fun c => if c.1 = true then WP (e c.2 x) fun y => I (pre ++ [x]) (ys ++ [y.1]) y.2 else I (pre ++ [x]) ys c.2) (he : ∀ ys t, I xs ys t → Q (ys, t)) : WP (lcXC q e xs t0) Q := by
  have go : ∀ (post pre : List β) (ys : List γ) (t : τ), xs = pre ++ post → I pre ys t → WP (lcX q e post t) fun zs => zs.1.length ≤ post.length ∧ I xs (ys ++ zs.1) zs.2 := by
    intro post
    induction post with
    | nil => intro pre ys t e h; exact wp_some ⟨Nat.le_refl _, by rw [List.append_nil]; rwa [e, List.append_nil]⟩
    | cons x post ih =>
      intro pre ys t ex h
      unfold lcX
      refine (hs pre x post ys t ex h).bind fun c hc => ?_
      obtain ⟨c1, c2⟩ := c
      cases c1 with
      | false => exact (ih (pre ++ [x]) ys c2 (by rw [ex]; simp) hc).mono fun zs hz => ⟨Nat.le_succ_of_le hz.1, hz.2⟩
      | true =>
        refine WP.bind (R := _) hc fun y hy => ?_
        refine (ih (pre ++ [x]) (ys ++ [y.1]) y.2 (by rw [ex]; simp) hy).bind fun zs hz => wp_some ⟨Nat.succ_le_succ hz.1, ?_⟩
        have := hz.2
        rwa [List.append_assoc] at this
  obtain ⟨zs, e1, h1, h2⟩ := go xs [] [] t0 rfl h0
  refine ⟨zs, ?_, he zs.1 zs.2 h2⟩
  unfold lcXC
  rw [e1]
  exact if_pos (Nat.le_trans h1 hl)
theorem rng0 {n : Nat} (h : n < 4611686018427387904) : rng 0 (n : Int) = some ((List.range n).map fun (k : Nat) => (k : Int)) := by
  unfold rng
  rw [if_pos (by unfold small62; simp; omega)]
  simp
theorem lrg_eq {n : Nat} (h : n ≤ 16777216) : lrg (n : Int) = some ((List.range n).map fun (k : Nat) => (k : Int)) := by
  unfold lrg
  rw [if_pos (by omega)]
  simp
theorem ixL_nat {xs : List α} {k : Nat} (d : α) (h : k < xs.length) : ixL xs (k : Int) = some (xs.getD k d) := by
  unfold ixL atI ixN
  rw [if_pos (by omega), if_pos (by simp; omega)]
  simp [h]
theorem ixL_lt {xs : List α} {k : Nat} (h : k < xs.length) : ixL xs (k : Int) = some xs[k] := by
  unfold ixL atI ixN
  rw [if_pos (by omega), if_pos (by simp; omega)]
  simp [h]
theorem ixS_nat {cs : List Nat} {k : Nat} (h : k < cs.length) (hc : cs.length ≤ cap) : ixS cs (k : Int) = some [cs.getD k 46] := by
  unfold ixS
  rw [if_pos hc, show atI cs (k : Int) = some (cs.getD k 46) from ixL_nat 46 h]
  rfl
theorem ixS_int {cs : List Nat} {i : Int} (h : 0 ≤ i ∧ i < cs.length) (hc : cs.length ≤ cap) : ixS cs i = some [cs.getD i.toNat 46] := by
  obtain ⟨k, rfl⟩ : ∃ k : Nat, i = k := ⟨i.toNat, by omega⟩
  exact ixS_nat (by omega) hc
theorem lenS_eq {cs : List Nat} (hc : cs.length ≤ cap) : lenS cs = some (cs.length : Int) := if_pos hc
theorem appL_eq {xs : List α} {x : α} (h : xs.length < cap) : appL xs x = some (xs ++ [x]) := if_pos h
theorem catL_eq {xs ys : List α} (h : xs.length + ys.length ≤ cap) : catL xs ys = some (xs ++ ys) := if_pos h
theorem setL_nat {xs : List α} {k : Nat} {x : α} (h : k < xs.length) : setL xs (k : Int) x = some (xs.set k x) := by
  unfold setL ixN
  rw [if_pos (by omega), if_pos (by simp; omega)]
  simp
theorem popL_nat {xs : List α} {k : Nat} (h : k < xs.length) (hc : xs.length ≤ cap) : popL xs (k : Int) = some (xs[k], xs.eraseIdx k) := by
  unfold popL ixN
  simp only [cap] at hc
  rw [if_pos (by unfold small62; simp; omega), if_pos (by omega), if_pos (by simp; omega)]
  simp [h]
theorem divI_eq {i j : Int} (h : 0 < j ∧ j < 1606938044258990275541962092341162602522202993782792835301376) : divI i j = some (i / j) := if_pos (by unfold CDivB; simpa using h)
theorem modI_eq {i j : Int} (h : 0 < j) : modI i j = some (i % j) := if_pos h
theorem joinS_eq {s : List Nat} {ts : List (List Nat)} (h : (ts.map List.length).sum + ts.length * s.length ≤ 16777216) : joinS s ts = some (joinT s ts) := if_pos h
/-- signs put together -/
theorem joinS_chars {cs : List Nat} (h : cs.length ≤ cap) : joinS [] (cs.map fun c => [c]) = some cs := by
  have e1 : ((cs.map fun c => [c]).map List.length).sum = cs.length := by
    clear h
    induction cs with
    | nil => rfl
    | cons c cs ih => simp only [List.map_cons, List.sum_cons, ih, List.length_cons, List.length_nil]; omega
  rw [joinS_eq (by rw [e1]; simp only [cap] at h; simp; omega), joinT_nil]
  congr 1
  clear h e1
  induction cs with
  | nil => rfl
  | cons c cs ih => simp [ih]
theorem repL_eq {xs : List α} {n : Nat} (h : n < 4611686018427387904) (hl : xs.length * n ≤ cap) : repL xs (n : Int) = some (List.replicate n xs).flatten := by
  unfold repL
  rw [if_pos (by unfold small62; simp; omega)]
  rfl
theorem rep1 (x : α) (n : Nat) : (List.replicate n [x]).flatten = List.replicate n x := by
  induction n with
  | zero => rfl
  | succ n ih => rw [List.replicate_succ, List.replicate_succ, List.flatten_cons, ih]; rfl
theorem eqG_eq [DecidableEq α] {ok : α → Bool} {x y : α} (h1 : ok x = true) (h2 : ok y = true) : eqG ok x y = some (decide (x = y)) := if_pos (by rw [h1, h2]; rfl)
theorem chs_len (cs : List Nat) : (chs cs).length = cs.length := by simp [chs]
end
end L2.TX
end
section
set_option Elab.async false
set_option linter.all false
set_option maxRecDepth 100000
namespace L2.TX
open PySem PySem.Spec PyProof.Rows L2 L2.VL L2.PM
/-- d has a text of at most B signs, at most n deep -/
structure RB (n B : Nat) (d : D) : Prop where
  ex : ∃ p, toPyN n d = some p ∧ p.showable = true ∧ p.shown.length ≤ B ∧ p.depth ≤ n + 1
theorem RB.mono {n B B' : Nat} {d : D} (h : RB n B d) (hB : B ≤ B') : RB n B' d := let ⟨p, e, s, l, k⟩ := h.ex; ⟨p, e, s, Nat.le_trans l hB, k⟩
theorem RB.int {n : Nat} {i : Int} (h : i.natAbs.log2 < 1920) : RB n 1921 (rI i) := ⟨.int i, (by cases n <;> rfl), by simpa [PyData.showable] using h, by
  simp only [PyData.shown]
  exact PyProof.Rows.int_text_len_1921 h, by simp [PyData.depth]⟩
theorem RB.bool {n : Nat} {b : Bool} : RB n 5 (rB b) := ⟨.bool b, (by cases n <;> rfl), rfl, by cases b <;> (simp only [PyData.shown]; decide), by simp [PyData.depth]⟩
theorem RB.non {n : Nat} : RB n 4 (.con .non) := ⟨.none, (by cases n <;> rfl), rfl, by simp only [PyData.shown]; decide, by simp [PyData.depth]⟩
theorem RB.str {n : Nat} {cs : List Nat} (h : ∀ c ∈ cs, c < 16 ^ 8) : RB n (10 * cs.length + 2) (rS cs) := ⟨.str (sx cs), (by cases n <;> rfl), rfl, by
  simp only [PyData.shown]
  have := StrLaws.reprText_len (sx cs) (by simpa using h)
  rwa [sx_len] at this, by simp [PyData.depth]⟩
theorem RB.all {n B : Nat} : ∀ {ds : List D}, (∀ d ∈ ds, RB n B d) → ∃ ps, optAll (toPyN n) ds = some ps ∧ PyData.showableAll ps = true ∧ ((PyData.shownAll ps).map (·.length)).sum ≤ ds.length * B ∧ (PyData.shownAll ps).length = ds.length ∧ PyData.depthAll ps ≤ n + 1
  | [], _ => ⟨[], rfl, by simp [PyData.showableAll], by simp [PyData.shownAll], by simp [PyData.shownAll], by simp [PyData.depthAll]⟩
  | d :: ds, h => by
    obtain ⟨p, e, s, l, k⟩ := (h d (by simp)).ex
    obtain ⟨ps, e2, s2, l2, l3, k2⟩ := RB.all (ds := ds) fun x hx => h x (by simp [hx])
    refine ⟨p :: ps, ?_, ?_, ?_, ?_, ?_⟩
    · unfold optAll
      rw [e, e2]; rfl
    · simp only [PyData.showableAll, s, s2, Bool.and_self]
    · simp only [PyData.shownAll, List.map_cons, List.sum_cons, List.length_cons, Nat.add_mul]; omega
    · simp only [PyData.shownAll, List.length_cons, l3]
    · simp only [PyData.depthAll]; exact Nat.max_le.mpr ⟨k, k2⟩
theorem RB.lst {n B : Nat} {ds : List D} (h : ∀ d ∈ ds, RB n B d) : RB (n + 1) (ds.length * (B + 2) + 3) (.lst ds) := by
  obtain ⟨ps, e, s, l, l2, k⟩ := RB.all h
  refine ⟨.list ps, ?_, by simpa [PyData.showable] using s, ?_, by simp only [PyData.depth]; omega⟩
  · show (optAll (toPyN n) ds).map _ = _
    rw [e]; rfl
  · simp only [PyData.shown]
    have := listText_len_le (PyData.shownAll ps)
    rw [Nat.mul_add]
    omega
theorem RB.tup {n B : Nat} {ds : List D} (h : ∀ d ∈ ds, RB n B d) : RB (n + 1) (ds.length * (B + 2) + 3) (.tup ds) := by
  obtain ⟨ps, e, s, l, l2, k⟩ := RB.all h
  refine ⟨.tuple ps, ?_, by simpa [PyData.showable] using s, ?_, by simp only [PyData.depth]; omega⟩
  · show (optAll (toPyN n) ds).map _ = _
    rw [e]; rfl
  · simp only [PyData.shown]
    have := tupleText_len_le (PyData.shownAll ps)
    rw [Nat.mul_add]
    omega
theorem isDic_lst {ds : List D} {n : Nat} {p : PyData} (h : toPyN n (.lst ds) = some p) : isDic p = false := by
  cases n with
  | zero => cases h
  | succ n =>
    obtain ⟨ps, _, rfl⟩ := Option.map_eq_some_iff.mp (show (optAll (toPyN n) ds).map PyData.list = some p from h)
    rfl
theorem repG_lst {B : Nat} {ds : List D} (h : RB 60 B (.lst ds)) (hB : B ≤ 16777216) : ∃ t, repG (.lst ds) = some t := by
  obtain ⟨p, e, s, l, k⟩ := h.ex
  refine ⟨(p.shown).cps.toList, ?_⟩
  have : reprOf (.lst ds) = some p.shown := by
    unfold reprOf
    rw [e]
    exact if_pos ⟨s, by rw [sizeLine_eq]; omega, by omega, isDic_lst e⟩
  unfold repG
  rw [this]
  rfl
/-- texts of the model are equal as they stand -/
theorem eqG_same {α : Type} [DecidableEq α] {ok : α → Bool} {a : α} (h : ok a = true) : eqG ok a a = some true := by
  unfold eqG
  rw [h]
  simp
theorem lc_mapC {α β γ : Type} {q : β → Option Bool} {e : β → Option γ} (f : α → β) : ∀ xs : List α, lc q e (xs.map f) = lc (fun x => q (f x)) (fun x => e (f x)) xs
  | [] => rfl
  | x :: xs => by
    show (q (f x)).bind (fun c => if c then (e (f x)).bind fun y => (lc q e (xs.map f)).bind fun ys => some (y :: ys) else lc q e (xs.map f)) = _
    rw [lc_mapC f xs]
    rfl
theorem lcC_comp {α β γ : Type} {q : β → Option Bool} {e : β → Option γ} (f : α → β) (xs : List α) : lcC q e (xs.map f) = lcC (fun x => q (f x)) (fun x => e (f x)) xs := by
  unfold lcC
  rw [lc_mapC]
theorem ix_draw {α : Type} {xs : List α} {r : Int} {P : α → Prop} (hr : 0 ≤ r ∧ r < xs.length) (h : ∀ x ∈ xs, P x) : WP (ixL xs r) P := by
  obtain ⟨k, rfl⟩ : ∃ k : Nat, r = k := ⟨r.toNat, by omega⟩
  exact wp_of (ixL_lt (by omega)) (h _ (List.getElem_mem _))
theorem toO_mem {ks : List Nat} {i : Nat} : ((i : Int) ∈ toO ks) ↔ i ∈ ks := by
  constructor
  · intro h
    obtain ⟨s, h1, h2⟩ := List.mem_map.mp h
    have : s = i := by omega
    rw [← this]; exact h1
  · exact fun h => List.mem_map.mpr ⟨i, h, rfl⟩
end L2.TX
end
section
set_option Elab.async false
set_option linter.all false
set_option maxRecDepth 100000
set_option maxHeartbeats 2000000
namespace L2.TX
open PySem PySem.Spec PyProof.Rows L2 L2.VL L2.PM
local macro_rules | `(tactic| walk_at "w") => `(tactic| (repeat (first | with_reducible refine wp_some ?_ | with_reducible refine wp_lt ?_ | with_reducible refine wp_bs ?_ | with_reducible refine wp_id ?_ | with_reducible refine wp_assoc ?_); try dsimp only))
/-- signs, one text for each -/
def SgL (n : Nat) (ss : List (List Nat)) : Prop := ∃ cs, ss = chs cs ∧ FOk n cs
theorem SgL.set {n k : Nat} {ss : List (List Nat)} {c : Nat} (h : SgL n ss) (hk : k < n) (hc : Sg c) : WP (setL ss (k : Int) [c]) (SgL n) := by
  obtain ⟨cs, rfl, h1, h2⟩ := h
  refine wp_of (setL_nat (by rw [chs_len]; omega)) ⟨cs.set k c, ?_, by simp [h1], fun x hx => ?_⟩
  · unfold chs; rw [List.map_set]
  · rcases List.mem_or_eq_of_mem_set hx with h | h
    · exact h2 x h
    · rw [h]; exact hc
theorem SgL.join {n : Nat} {ss : List (List Nat)} (hn : n ≤ 60) (h : SgL n ss) : WP (joinS [] ss) (FOk n) := by
  obtain ⟨cs, rfl, h1, h2⟩ := h
  exact wp_of (joinS_chars (by simp only [cap]; omega)) ⟨h1, h2⟩
theorem SgL.pts {n : Nat} (hn : n ≤ 60) : WP (repL [[46]] (n : Int)) (SgL n) := by
  refine wp_of (repL_eq (by omega) (by simp [cap]; omega)) ⟨List.replicate n 46, ?_, by simp, fun c hc => .inr (.inr (List.eq_of_mem_replicate hc))⟩
  rw [rep1]
  unfold chs
  rw [List.map_replicate]
theorem fact_ix {n k : Nat} {f : List Nat} (hf : f.length = n) (hn : n ≤ 60) (hk : k < n) : ixS f (k : Int) = some [f.getD k 46] := ixS_nat (by omega) (by simp only [cap]; omega)
theorem one_eq (a b : Nat) : decide (([a] : List Nat) = [b]) = decide (a = b) := by simp
theorem FOk_oks {n : Nat} {f : List Nat} (h : FOk n f) : okS f = true := by
  unfold okS
  rw [List.all_eq_true]
  intro c hc
  rcases h.2 c hc with rfl | rfl | rfl <;> decide
theorem FOk_okl {n : Nat} {fss : List (List Nat)} (h : ∀ f ∈ fss, FOk n f) : (fss.all okS) = true := List.all_eq_true.mpr fun f hf => FOk_oks (h f hf)
theorem eqG_fl {n m : Nat} {xs ys : List (List Nat)} (h1 : ∀ f ∈ xs, FOk n f) (h2 : ∀ f ∈ ys, FOk m f) : eqG (fun xs => xs.all okS) xs ys = some (decide (xs = ys)) := eqG_eq (ok := fun xs : List (List Nat) => xs.all okS) (FOk_okl h1) (FOk_okl h2)
def FctR (n : Nat) (os : List Int) (tr : Bool) (f : List Nat) : Prop := FOk n f ∧ (tr = true → fsgn os f ≠ 76)
theorem rule_at {n : Nat} {rs : List Int} (ho : InB n rs) {p : Nat} (hp : p < rs.length) : ∃ j : Nat, ixL rs (p : Int) = some (j : Int) ∧ j < n ∧ rs[p] = j := by
  have hy := ho _ (List.getElem_mem hp)
  exact ⟨rs[p].toNat, by rw [ixL_lt hp]; congr 1; omega, by omega, by omega⟩
theorem pts_ok (n : Nat) : FOk n (List.replicate n 46) := ⟨by simp, fun c hc => by rw [List.eq_of_mem_replicate hc]; exact .inr (.inr rfl)⟩
def isIn (a b : Int) (x : D) : Bool := match x with
  | .con (.int i) => decide (a ≤ i) && decide (i ≤ b)
  | _ => false
theorem sil_ix {n : Nat} (hn : n ≤ 60) : mulS [46] (n : Int) = some (List.replicate n 46) := by
  unfold mulS
  rw [if_pos ⟨by omega, by omega, by decide⟩]
  simp
theorem eqG_nil {n : Nat} {gs : List (List Nat)} (hf : ∀ f ∈ gs, FOk n f) : eqG (fun xs => xs.all okS) gs [] = some (decide (gs = [])) := eqG_fl hf (m := n) fun _ z => nomatch z
end L2.TX
end
section
set_option Elab.async false
set_option linter.all false
set_option maxRecDepth 100000
set_option maxHeartbeats 2000000
namespace L2.TX
open PySem PySem.Spec PyProof.Rows L2 L2.VL L2.PM
theorem nb_of {n : Nat} {fss : List (List Nat)} {os : List Int} (hf : ∀ f ∈ fss, FOk n f) (h : ∀ f ∈ fss, fsgn os f ≠ 76) : NB n os fss := fun f m => ⟨hf f m, h f m⟩
theorem not_barF {n : Nat} {fss : List (List Nat)} (h : ¬ BarF n fss) : ∃ os, Ord n os ∧ ∀ f ∈ fss, fsgn os f ≠ 76 := Classical.byContradiction fun z => h fun os ho hN => z ⟨os, ho, hN⟩
theorem frs_tail {n : Nat} {fss : List (List Nat)} {pre : List Nat} {r : Nat} (h : FrS n fss (pre ++ [r])) : r ∈ plc n fss (bitsOf pre) := h pre r [] rfl
end L2.TX
end
section
set_option Elab.async false
set_option linter.all false
set_option maxRecDepth 100000
set_option maxHeartbeats 2000000
namespace L2.TX
open PySem PySem.Spec PyProof.Rows L2 L2.VL L2.PM
def cpm (n : Nat) (fss : List (List Nat)) : Nat → Nat → List (List Nat)
  | 0, _ => [[]]
  | k + 1, F => (plc n fss F).flatMap fun r => (cpm n fss k (F ||| 2 ^ r)).map fun c => r :: c
theorem mem_cpm {n : Nat} {fss : List (List Nat)} : ∀ {k : Nat} {pre c : List Nat}, FrS n fss pre → (c ∈ cpm n fss k (bitsOf pre) ↔ c.length = k ∧ FrS n fss (pre ++ c))
  | 0, pre, c, h => by
    unfold cpm
    rw [List.mem_singleton]
    constructor
    · intro e; subst e; exact ⟨rfl, by rw [List.append_nil]; exact h⟩
    · intro e; exact List.length_eq_zero_iff.mp e.1
  | k + 1, pre, c, h => by
    unfold cpm
    rw [List.mem_flatMap]
    constructor
    · rintro ⟨r, hr, hc⟩
      obtain ⟨d, hd, rfl⟩ := List.mem_map.mp hc
      rw [← bitsOf_snoc, mem_cpm (h.snoc hr)] at hd
      refine ⟨by simp [hd.1], ?_⟩
      have := hd.2
      rwa [List.append_assoc] at this
    · rintro ⟨e, hf⟩
      cases c with
      | nil => simp at e
      | cons r d =>
        have hr : r ∈ plc n fss (bitsOf pre) := hf pre r d rfl
        refine ⟨r, hr, List.mem_map.mpr ⟨d, ?_, rfl⟩⟩
        rw [← bitsOf_snoc, mem_cpm (h.snoc hr)]
        refine ⟨by simpa using e, ?_⟩
        rwa [List.append_assoc]
/-- no way is barred -/
theorem cpm_ne {n : Nat} {fss : List (List Nat)} {pre : List Nat} (hf : ∀ f ∈ fss, FOk n f) (nb : ¬ BarF n fss) (h : FrS n fss pre) : ∃ c, c ∈ cpm n fss (n - pre.length) (bitsOf pre) := by
  obtain ⟨os, ho, hN⟩ := not_barF nb
  obtain ⟨post, e, hp⟩ := FrS.ext ho (nb_of hf hN) (n - pre.length) pre (by have := h.len; omega) h
  exact ⟨post, (mem_cpm h).mpr ⟨by rw [List.length_append] at e; omega, hp⟩⟩
def kc (n : Nat) (key : Nat → Nat) (F r : Nat) : Nat := ((List.range n).filter fun q => !F.testBit q && decide (key q < key r)).length
def tc (n : Nat) (key : Nat → Nat) : Nat → List Nat → Nat
  | _, [] => 0
  | F, r :: c => kc n key F r + tc n key (F ||| 2 ^ r) c
def minN : List Nat → Nat
  | [] => 0
  | [x] => x
  | x :: y :: r => min x (minN (y :: r))
def bm (n : Nat) (fss : List (List Nat)) (key : Nat → Nat) : Nat → Nat → Nat
  | 0, _ => 0
  | k + 1, F => minN ((plc n fss F).map fun r => kc n key F r + bm n fss key k (F ||| 2 ^ r))
end L2.TX
end
section
set_option Elab.async false
set_option linter.all false
set_option maxRecDepth 100000
set_option maxHeartbeats 2000000
namespace L2.TX
open PySem PySem.Spec PyProof.Rows L2 L2.VL L2.PM
def ps : List Int → Int → Nat
  | [], _ => 0
  | a :: r, x => if a = x then 0 else ps r x + 1
theorem at1_ps : ∀ {w : List Int} {x : Int}, x ∈ w → at1 w x = some (ps w x)
  | a :: r, x, h => by
    unfold at1 ps
    by_cases e : a = x
    · rw [if_pos e, if_pos e]
    · rw [if_neg e, if_neg e, at1_ps ((List.mem_cons.mp h).resolve_left fun z => e z.symm)]; rfl
theorem ps_lt : ∀ {w : List Int} {x : Int}, x ∈ w → ps w x < w.length
  | a :: r, x, h => by
    unfold ps
    by_cases e : a = x
    · rw [if_pos e]; simp
    · rw [if_neg e]
      have := ps_lt ((List.mem_cons.mp h).resolve_left fun z => e z.symm)
      rw [List.length_cons]; omega
theorem ps_get : ∀ {w : List Int} {x : Int}, x ∈ w → w[ps w x]? = some x
  | a :: r, x, h => by
    unfold ps
    by_cases e : a = x
    · rw [if_pos e, e]; rfl
    · rw [if_neg e]
      simpa using ps_get ((List.mem_cons.mp h).resolve_left fun z => e z.symm)
theorem ps_inj {w : List Int} {x y : Int} (hx : x ∈ w) (hy : y ∈ w) (e : ps w x = ps w y) : x = y := by
  have h1 := ps_get hx
  rw [e, ps_get hy] at h1
  exact (Option.some.inj h1).symm
theorem ps_at : ∀ {w : List Int} {i : Nat} {x : Int}, w.Nodup → w[i]? = some x → ps w x = i
  | a :: r, i, x, nd, h => by
    rw [List.nodup_cons] at nd
    unfold ps
    cases i with
    | zero =>
      have : a = x := by simpa using h
      rw [if_pos this]
    | succ i =>
      have h : r[i]? = some x := by simpa using h
      have hx : x ∈ r := List.mem_of_getElem? h
      rw [if_neg (fun e => nd.1 (by rw [e]; exact hx)), ps_at nd.2 h]
theorem idxL_ps {w : List Int} {x : Int} (h : x ∈ w) : idxL w x = some ((ps w x : Nat) : Int) := by
  unfold idxL
  rw [at1_ps h]; rfl
def tn (key : Int → Nat) : List Int → Nat
  | [] => 0
  | r :: c => (c.filter fun q => decide (key q < key r)).length + tn key c
theorem tn_swap {key : Int → Nat} {a b : Int} (h : key b < key a) (v : List Int) : ∀ u : List Int, tn key (u ++ a :: b :: v) = tn key (u ++ b :: a :: v) + 1
  | [] => by
    show ((b :: v).filter _).length + ((v.filter _).length + tn key v) = (((a :: v).filter _).length + ((v.filter _).length + tn key v)) + 1
    rw [List.filter_cons_of_pos (by exact decide_eq_true h), List.filter_cons_of_neg (by rw [decide_eq_true_eq]; omega), List.length_cons]
    omega
  | x :: u => by
    have p : (u ++ a :: b :: v).Perm (u ++ b :: a :: v) := List.Perm.append_left u (List.Perm.swap b a v)
    show ((u ++ a :: b :: v).filter _).length + tn key (u ++ a :: b :: v) = ((u ++ b :: a :: v).filter _).length + tn key (u ++ b :: a :: v) + 1
    rw [tn_swap h v u, (p.filter _).length_eq]
    omega
theorem tn_zero {key : Int → Nat} : ∀ {c : List Int}, tn key c = 0 → c.Pairwise fun a b => key a ≤ key b
  | [], _ => .nil
  | r :: c, h => by
    unfold tn at h
    have h1 : (c.filter fun q => decide (key q < key r)) = [] := List.length_eq_zero_iff.mp (by omega)
    refine .cons (fun q hq => ?_) (tn_zero (by omega))
    have := List.filter_eq_nil_iff.mp h1 q hq
    simp only [decide_eq_true_eq] at this
    omega
theorem tn_own : ∀ {c : List Int} {key : Int → Nat}, (c.Pairwise fun a b => key a ≤ key b) → tn key c = 0
  | [], _, _ => rfl
  | r :: c, key, h => by
    rw [List.pairwise_cons] at h
    unfold tn
    rw [tn_own h.2, List.filter_eq_nil_iff.mpr fun q hq => by have := h.1 q hq; rw [decide_eq_true_eq]; omega]
    rfl
theorem ps_pw {w : List Int} (nd : w.Nodup) : w.Pairwise fun a b => ps w a < ps w b := by
  rw [List.pairwise_iff_getElem]
  intro i j hi hj hij
  rw [ps_at nd (List.getElem?_eq_getElem hi), ps_at nd (List.getElem?_eq_getElem hj)]
  exact hij
theorem tn_self {w : List Int} (nd : w.Nodup) : tn (ps w) w = 0 := tn_own ((ps_pw nd).imp fun h => Nat.le_of_lt h)
theorem tn_eq {w o : List Int} (nd : w.Nodup) (p : o.Perm w) (h : tn (ps w) o = 0) : o = w :=
  List.Perm.eq_of_pairwise (le := fun a b => ps w a ≤ ps w b) (fun a b ha hb h1 h2 => ps_inj (p.mem_iff.mp ha) hb (Nat.le_antisymm h1 h2)) (tn_zero h) ((ps_pw nd).imp fun h => Nat.le_of_lt h) p
/-- by pairs -/
theorem tn_pairs {key : Int → Nat} : ∀ {w : List Int}, w.Nodup → tn key w = (w.map fun x => (w.filter fun y => decide (ps w x < ps w y) && decide (key y < key x)).length).sum
  | [], _ => rfl
  | a :: v, nd => by
    rw [List.nodup_cons] at nd
    have ne : ∀ y ∈ v, ¬ a = y := fun y hy e => nd.1 (by rw [e]; exact hy)
    have pa : ps (a :: v) a = 0 := by unfold ps; rw [if_pos rfl]
    have py : ∀ y ∈ v, ps (a :: v) y = ps v y + 1 := fun y hy => by rw [ps, if_neg (ne y hy)]
    rw [List.map_cons, List.sum_cons, tn, tn_pairs nd.2]
    congr 1
    · rw [List.filter_cons_of_neg (by simp)]
      congr 1
      refine List.filter_congr fun y hy => ?_
      rw [pa, py y hy, decide_eq_true (show 0 < ps v y + 1 by omega), Bool.true_and]
    · congr 1
      refine List.map_congr_left fun x hx => ?_
      rw [List.filter_cons_of_neg (by rw [pa]; simp)]
      congr 1
      refine List.filter_congr fun y hy => ?_
      rw [py x hx, py y hy]
      congr 1
      exact decide_eq_decide.mpr (by omega)
theorem dbl {P : Int → Int → Bool} (ys : List Int) : ∀ xs : List Int, (xs.map fun x => (ys.filter fun y => P x y).length).sum = (ys.map fun y => (xs.filter fun x => P x y).length).sum
  | [] => by
    show 0 = (ys.map fun _ => 0).sum
    induction ys with
    | nil => rfl
    | cons a r ih => rw [List.map_cons, List.sum_cons, ← ih]; rfl
  | a :: xs => by
    rw [List.map_cons, List.sum_cons, dbl ys xs]
    induction ys with
    | nil => rfl
    | cons b r ih =>
      rw [List.map_cons, List.sum_cons, List.map_cons, List.sum_cons, ← ih]
      cases h : P a b with
      | true => rw [List.filter_cons_of_pos (by exact h), List.filter_cons_of_pos (by exact h), List.length_cons, List.length_cons]; omega
      | false => rw [List.filter_cons_of_neg (by rw [h]; simp), List.filter_cons_of_neg (by rw [h]; simp)]; omega
theorem tn_sym {w o : List Int} (nw : w.Nodup) (p : o.Perm w) : tn (ps o) w = tn (ps w) o := by
  have no : o.Nodup := p.nodup_iff.mpr nw
  rw [tn_pairs nw, tn_pairs no, (p.map _).sum_nat]
  rw [show (w.map fun x => (o.filter fun y => decide (ps o x < ps o y) && decide (ps w y < ps w x)).length) = w.map fun x => (w.filter fun y => decide (ps o x < ps o y) && decide (ps w y < ps w x)).length from List.map_congr_left fun x _ => (p.filter _).length_eq]
  rw [dbl w w]
  congr 1
  refine List.map_congr_left fun x _ => ?_
  congr 1
  refine List.filter_congr fun y _ => ?_
  exact Bool.and_comm _ _
def sil (f : List Nat) (P : List Int) : Prop := ∀ u ∈ P, f.getD u.toNat 46 = 46
theorem fsgn_sil {f : List Nat} {P Q : List Int} (h : sil f P) : fsgn (P ++ Q) f = fsgn Q f := by
  unfold fsgn
  rw [List.map_append, List.find?_append, List.find?_eq_none.mpr fun c hc => by
    obtain ⟨u, hu, rfl⟩ := List.mem_map.mp hc
    rw [h u hu]
    decide]
  rfl
theorem fsgn_nsil {f : List Nat} {P Q : List Int} (h : ¬ sil f P) : fsgn (P ++ Q) f = fsgn P f := by
  unfold fsgn
  rw [List.map_append, List.find?_append]
  cases e : (P.map fun r => f.getD r.toNat 46).find? fun c => decide (c ≠ 46) with
  | none =>
    exfalso
    refine h fun u hu => Classical.byContradiction fun z => ?_
    have := List.find?_eq_none.mp e _ (List.mem_map.mpr ⟨u, hu, rfl⟩)
    exact this (decide_eq_true z)
  | some c => rfl
theorem fsgn_cons {f : List Nat} {x : Int} {Q : List Int} : fsgn (x :: Q) f = if f.getD x.toNat 46 = 46 then fsgn Q f else f.getD x.toNat 46 := by
  unfold fsgn
  rw [List.map_cons]
  by_cases h : f.getD x.toNat 46 = 46
  · rw [if_pos h, List.find?_cons_of_neg (by rw [h]; decide)]
  · rw [if_neg h, List.find?_cons_of_pos (by exact decide_eq_true h)]
    rfl
/-- a rule is led ahead on the way to another order: what holds in both holds on -/
theorem lead {f : List Nat} {B P Q : List Int} {x r : Int} {k : Nat} (hB : fsgn B f ≠ 76) (hk : B[k]? = some r) (hP : ∀ u ∈ B.take k, u ∈ P) (h : fsgn (P ++ x :: r :: Q) f ≠ 76) : fsgn (P ++ r :: x :: Q) f ≠ 76 := by
  by_cases s : sil f P
  · rw [fsgn_sil s] at h ⊢
    have hb : fsgn (B.drop k) f ≠ 76 := by
      have e := List.take_append_drop k B
      rw [← e, fsgn_sil fun u hu => s u (hP u hu)] at hB
      exact hB
    have ed : B.drop k = r :: B.drop (k + 1) := by
      obtain ⟨hl, e⟩ := List.getElem?_eq_some_iff.mp hk
      rw [List.drop_eq_getElem_cons hl, e]
    rw [ed, fsgn_cons] at hb
    rw [fsgn_cons, fsgn_cons] at h
    rw [fsgn_cons, fsgn_cons]
    by_cases e1 : f.getD r.toNat 46 = 46
    · rw [if_pos e1]
      rw [if_pos e1] at h
      exact h
    · rw [if_neg e1] at hb ⊢
      exact hb
  · rw [fsgn_nsil s] at h ⊢
    exact h
abbrev Hld (n : Nat) (fss : List (List Nat)) (os : List Int) : Prop := Ord n os ∧ ∀ f ∈ fss, fsgn os f ≠ 76
def NearP (n : Nat) (fss : List (List Nat)) (w N : List Int) : Prop := Hld n fss N ∧ ∀ os, Hld n fss os → tn (ps w) N ≤ tn (ps w) os ∧ (tn (ps w) os = tn (ps w) N → lexI os N = false)
theorem ord_nd {n : Nat} {os : List Int} (h : Ord n os) : os.Nodup := h.nodup_iff.mpr (by
  unfold rg
  exact List.Pairwise.map _ (fun a b h z => h (Int.ofNat.inj z)) List.nodup_range)
theorem ord_pm {n : Nat} {os w : List Int} (h : Ord n os) (hw : Ord n w) : os.Perm w := List.Perm.trans h (List.Perm.symm hw)
theorem lexI_conn' : ∀ a b : List Int, lexI a b = false → lexI b a = false → a = b
  | [], [], _, _ => rfl
  | [], _ :: _, h, _ => nomatch h
  | _ :: _, [], _, h => nomatch h
  | a :: r, b :: s, h1, h2 => by
    unfold lexI at h1 h2
    by_cases h : a = b
    · subst h
      rw [if_pos rfl] at h1 h2
      rw [lexI_conn' r s h1 h2]
    · rw [if_neg h] at h1
      rw [if_neg fun z => h z.symm] at h2
      have := of_decide_eq_false h1
      have := of_decide_eq_false h2
      omega
theorem NearP.own {n : Nat} {fss : List (List Nat)} {w N : List Int} (a : NearP n fss w N) (h : Hld n fss w) : N = w := by
  have h1 := (a.2 w h).1
  rw [tn_self (ord_nd h.1)] at h1
  exact tn_eq (ord_nd h.1) (ord_pm a.1.1 h.1) (by omega)
theorem NearP.more {n : Nat} {fss gss : List (List Nat)} {w N M : List Int} (a : NearP n fss w N) (b : NearP n gss w M) (hs : ∀ f ∈ fss, f ∈ gss) : tn (ps w) N ≤ tn (ps w) M ∧ ((∀ f ∈ gss, fsgn N f ≠ 76) → M = N) := by
  have hM : Hld n fss M := ⟨b.1.1, fun f hf => b.1.2 f (hs f hf)⟩
  have h1 := a.2 M hM
  refine ⟨h1.1, fun h => ?_⟩
  have h2 := b.2 N ⟨a.1.1, h⟩
  have e : tn (ps w) N = tn (ps w) M := Nat.le_antisymm h1.1 h2.1
  exact (lexI_conn' N M (h2.2 e) (h1.2 e.symm)).symm
end L2.TX
end
section
set_option Elab.async false
set_option linter.all false
set_option maxRecDepth 100000
set_option maxHeartbeats 2000000
namespace L2.TX
open PySem PySem.Spec PyProof.Rows L2 L2.VL L2.PM
theorem bits_lt {n : Nat} {pre : List Nat} (h : ∀ x ∈ pre, x < n) : bitsOf pre < 2 ^ n := Nat.lt_pow_two_of_testBit _ fun i hi => by
  rw [bits_mem, decide_eq_false_iff_not]
  exact fun z => by have := h i z; omega
theorem frs_lt {n : Nat} {fss : List (List Nat)} {pre : List Nat} (h : FrS n fss pre) : bitsOf pre < 2 ^ n := bits_lt h.ok.2
/-- the fronts of a size -/
def Lv (n : Nat) (fss : List (List Nat)) (i : Nat) (l : List Int) : Prop := l.Nodup ∧ ∀ x, x ∈ l ↔ ∃ pre, FrS n fss pre ∧ pre.length = i ∧ x = ((bitsOf pre : Nat) : Int)
theorem nodup_lt {m : Nat} {l : List Int} (nd : l.Nodup) (h : ∀ x ∈ l, ∃ k : Nat, x = k ∧ k < m) : l.length ≤ m := by
  have := List.Nodup.length_le_of_subset nd (l₂ := (List.range m).map fun (k : Nat) => (k : Int)) fun x hx => by
    obtain ⟨k, rfl, hk⟩ := h x hx
    exact List.mem_map.mpr ⟨k, List.mem_range.mpr hk, rfl⟩
  simpa using this
theorem Lv.len {n i : Nat} {fss : List (List Nat)} {l : List Int} (h : Lv n fss i l) : l.length ≤ 2 ^ n := nodup_lt h.1 fun x hx => by
  obtain ⟨pre, h1, _, rfl⟩ := (h.2 x).mp hx
  exact ⟨_, rfl, frs_lt h1⟩
/-- the next level -/
theorem Lv.next {n i : Nat} {fss : List (List Nat)} {l ks : List Int} (h : Lv n fss i l) (nd : ks.Nodup) (hk : ∀ x, x ∈ ks ↔ ∃ F : Nat, (F : Int) ∈ l ∧ ∃ r ∈ plc n fss F, x = ((F ||| 2 ^ r : Nat) : Int)) : Lv n fss (i + 1) ks := ⟨nd, fun x => by
  rw [hk]
  constructor
  · rintro ⟨F, hF, r, hr, rfl⟩
    obtain ⟨pre, h1, h2, e⟩ := (h.2 _).mp hF
    have e : F = bitsOf pre := by omega
    subst e
    exact ⟨pre ++ [r], h1.snoc hr, by simp [h2], by rw [bitsOf_snoc]⟩
  · rintro ⟨pre, h1, h2, rfl⟩
    obtain ⟨as, a, rfl⟩ : ∃ as a, pre = as ++ [a] := by
      have : pre ≠ [] := fun z => by rw [z] at h2; cases h2
      exact ⟨_, _, (List.dropLast_concat_getLast this).symm⟩
    refine ⟨bitsOf as, (h.2 _).mpr ⟨as, h1.init, by simpa using h2, rfl⟩, a, frs_tail h1, by rw [bitsOf_snoc]⟩⟩
def swp (xs : List Int) (i : Nat) : List Int := xs.take i ++ [xs.getD (i + 1) 0, xs.getD i 0] ++ xs.drop (i + 2)
theorem swp_parts {xs : List Int} {i : Nat} (h : i + 1 < xs.length) : ∃ u a b v, xs = u ++ a :: b :: v ∧ u.length = i ∧ swp xs i = u ++ b :: a :: v := by
  have e : xs = xs.take i ++ xs[i] :: xs[i + 1] :: xs.drop (i + 2) := by
    rw [← List.drop_eq_getElem_cons (by omega), ← List.drop_eq_getElem_cons (by omega), List.take_append_drop]
  refine ⟨xs.take i, xs[i], xs[i + 1], xs.drop (i + 2), e, by rw [List.length_take]; omega, ?_⟩
  unfold swp
  rw [List.getD_eq_getElem?_getD, List.getElem?_eq_getElem h, List.getD_eq_getElem?_getD, List.getElem?_eq_getElem (by omega : i < xs.length)]
  simp
theorem swp_perm {xs : List Int} {i : Nat} (h : i + 1 < xs.length) : (swp xs i).Perm xs := by
  obtain ⟨u, a, b, v, e, _, es⟩ := swp_parts h
  rw [es, e]
  exact List.Perm.append_left u (List.Perm.swap a b v)
theorem swp_ord {n i : Nat} {xs : List Int} (ho : Ord n xs) (h : i + 1 < n) : Ord n (swp xs i) := List.Perm.trans (swp_perm (by rw [ho.len]; exact h)) ho
/-- two neighbours exchanged, as the code writes it -/
theorem wp_swp {β : Type} {xs : List Int} {i : Nat} {k : List Int → Option β} {Q : β → Prop} {i1 i0 i2 : Int} (h : i + 1 < xs.length) (hl : xs.length ≤ 1000) (e1 : i1 = (i : Int) + 1) (e0 : i0 = (i : Int)) (e2 : i2 = (i : Int) + 2) (H : WP (k (swp xs i)) Q) :
    WP ((ixL xs i1).bind fun a => (ixL xs i0).bind fun b => (catL (cutL xs none (some i0)) [a, b]).bind fun c => (catL c (cutL xs (some i2) none)).bind k) Q := by
  subst e0
  rw [e1, e2, show (i : Int) + 1 = ((i + 1 : Nat) : Int) by omega, show (i : Int) + 2 = ((i + 2 : Nat) : Int) by omega]
  refine wp_eq (ixL_nat 0 h) (wp_eq (ixL_nat 0 (by omega)) ?_)
  rw [cutL_take, cutL_drop]
  have a := List.length_take_le i xs
  have b : (xs.drop (i + 2)).length ≤ xs.length := by rw [List.length_drop]; omega
  refine wp_eq (catL_eq (by simp only [cap, List.length_cons, List.length_nil]; omega)) (wp_eq (catL_eq (by simp only [List.length_append, cap, List.length_cons, List.length_nil]; omega)) H)
theorem ixL_end {α : Type} {xs : List α} {x : α} : ixL (xs ++ [x]) (-1) = some x := by
  unfold ixL atI ixN
  rw [if_neg (by omega), if_pos (by simp; omega)]
  simp
  rw [show ((-1 : Int) + ((xs.length : Int) + 1)).toNat = xs.length by omega]
  simp
theorem replS_one (a b : Nat) : ∀ l : List Nat, StrLaws.replL [a] [b] l = l.map fun c => if c = a then b else c
  | [] => StrLaws.replL_nil
  | c :: r => by
    by_cases h : c = a
    · rw [StrLaws.replL_hit (by simp) (by rw [h]; rfl)]
      show [b] ++ StrLaws.replL [a] [b] ((c :: r).drop 1) = _
      rw [List.drop_succ_cons, List.drop_zero, replS_one a b r, List.map_cons, if_pos h]
      rfl
    · rw [StrLaws.replL_miss (by show ¬ [c] = [a]; simpa using h), replS_one a b r, List.map_cons, if_neg h]
theorem repT_one {a b : Nat} {l : List Nat} (hl : l.length ≤ 1000) : repT [a] [b] l = some (l.map fun c => if c = a then b else c) := by
  unfold repT
  rw [if_pos (by simp; omega), StrLaws.replace_list (show 1 ≤ (sx [a]).length from Nat.le_refl 1)]
  show some (StrLaws.replL [a].toArray.toList [b].toArray.toList l.toArray.toList) = _
  rw [List.toList_toArray, List.toList_toArray, List.toList_toArray, replS_one]
theorem turn_rep {n : Nat} {f : List Nat} (hn : n ≤ 60) (hf : FOk n f) {β : Type} {k : List Nat → Option β} {R : β → Prop} (h : WP (k (f.map turnC)) R) :
    WP ((repT [87] [63] f).bind fun x => (repT [76] [87] x).bind fun y => (repT [63] [76] y).bind fun z => k z) R := by
  have hl := hf.1
  refine wp_eq (repT_one (by omega)) (wp_eq (repT_one (by rw [List.length_map]; omega)) (wp_eq (repT_one (by rw [List.length_map, List.length_map]; omega)) ?_))
  rw [List.map_map, List.map_map]
  have : List.map (((fun c => if c = 63 then 76 else c) ∘ fun c => if c = 76 then 87 else c) ∘ fun c => if c = 87 then 63 else c) f = f.map turnC := List.map_congr_left fun c hc => by
    rcases hf.2 c hc with rfl | rfl | rfl <;> rfl
  rw [this]
  exact h
end L2.TX
end
section
set_option Elab.async false
set_option linter.all false
set_option maxRecDepth 100000
set_option maxHeartbeats 2000000
open PySem PySem.Spec PyProof.Rows L2 L2.VL L2.PM L2.TX
local macro_rules | `(tactic| walk_at "w") => `(tactic| (repeat (first | with_reducible refine wp_some ?_ | with_reducible refine wp_lt ?_ | with_reducible refine wp_bs ?_ | with_reducible refine wp_id ?_ | with_reducible refine wp_assoc ?_); try dsimp only))
namespace Law_strictranks_k26_ways_of_exchanges
def isIn (a : Int) (b : Option Int) (x : Int) : Bool := decide (a ≤ x) && (match b with | none => true | some b => decide (x ≤ b))
theorem sp_isint {x a : Int} {b : Option Int} : g_is_integer x a b = some (isIn a b x) := by
  unfold g_is_integer isIn
  show (if decide (a ≤ x) = true then _ else _ : Option Bool).bind _ = some (decide (a ≤ x) && _)
  cases decide (a ≤ x) with
  | false => rfl
  | true => cases b with
    | none => rfl
    | some b => rfl
theorem isIn_ok {x a b : Int} (h : a ≤ x ∧ x ≤ b) : isIn a (some b) x = true := by
  show (decide (a ≤ x) && decide (x ≤ b)) = true
  rw [decide_eq_true h.1, decide_eq_true h.2]; rfl
end Law_strictranks_k26_ways_of_exchanges
end
section
set_option Elab.async false
set_option linter.all false
set_option maxRecDepth 100000
set_option maxHeartbeats 2000000
open PySem PySem.Spec PyProof.Rows L2 L2.VL L2.PM L2.TX
local macro_rules | `(tactic| walk_at "w") => `(tactic| (repeat (first | with_reducible refine wp_some ?_ | with_reducible refine wp_lt ?_ | with_reducible refine wp_bs ?_ | with_reducible refine wp_id ?_ | with_reducible refine wp_assoc ?_); try dsimp only))
namespace Law_strictranks_k26_ways_of_exchanges
def sgs (os : List Int) (f : List Nat) : List Nat := os.map fun r => f.getD r.toNat 46
def sgl (os : List Int) (f : List Nat) : List Nat := (sgs os f).filter fun c => decide (c ≠ 46)
theorem fsgn_sgl {os : List Int} {f : List Nat} : fsgn os f = (sgl os f).head?.getD 87 := by
  unfold fsgn sgl sgs
  rw [List.head?_filter]
/-- a fact holds along an order -/
def Hd (os : List Int) (f : List Nat) : Bool := !decide (fsgn os f = 76)
theorem Hd_iff {os : List Int} {f : List Nat} : Hd os f = true ↔ fsgn os f ≠ 76 := by unfold Hd; simp
theorem sp_lawholds {n : Nat} {os : List Int} {f : List Nat} (hn : n ≤ 60) (hl : os.length ≤ 60) (ho : InB n os) (hf : FOk n f) : g__law_holds os f = some (Hd os f) := by
  have hs : (sgs os f).length ≤ 60 := by unfold sgs; rw [List.length_map]; exact hl
  have er : repT [46] [] (sgs os f) = some (sgl os f) := by
    unfold repT
    rw [if_pos (by simp; omega)]
    have : (Txt.replace (sx (sgs os f)) (sx [46]) (sx [])).cps.toList = (sx (sgs os f)).cps.toList.filter (· != 46) := PyProof.Rows.replace_strikes (sx (sgs os f)) 46
    rw [this]
    have e : (sx (sgs os f)).cps.toList = sgs os f := by show (sgs os f).toArray.toList = _; simp
    rw [e]
    congr 1
    unfold sgl
    exact List.filter_congr fun c _ => by by_cases h : c = 46 <;> simp [h]
  have ll : (sgl os f).length ≤ 60 := Nat.le_trans (List.length_filter_le _ _) hs
  have ec : cutT (sgl os f) none (some 1) = some ((sgl os f).take 1) := by
    unfold cutT
    rw [if_pos (by simp only [cap]; omega)]
    exact congrArg some (cutL_take _ 1)
  refine WP.eq ?_
  unfold g__law_holds
  refine wp_eq (lcC_map (fun r : Int => [f.getD r.toNat 46]) (by simp only [cap]; omega) (fun _ _ => rfl) (fun r hr => ?_)) ?_
  · rw [ixS_int (by have := ho r hr; rw [hf.1]; omega) (by rw [hf.1]; simp only [cap]; omega)]; rfl
  have e : (os.map fun r : Int => [f.getD r.toNat 46]) = (sgs os f).map fun c => [c] := by unfold sgs; rw [List.map_map]; rfl
  rw [e]
  refine wp_eq (joinS_chars (by simp only [cap]; omega)) (wp_eq er (wp_eq ec (wp_some ?_)))
  unfold Hd
  rw [fsgn_sgl]
  cases sgl os f with
  | nil => rfl
  | cons c r =>
    show (!decide ([c] = [76])) = !decide (c = 76)
    rw [one_eq]
end Law_strictranks_k26_ways_of_exchanges
end
section
set_option Elab.async false
set_option linter.all false
set_option maxRecDepth 100000
set_option maxHeartbeats 2000000
open PySem PySem.Spec PyProof.Rows L2 L2.VL L2.PM L2.TX
local macro_rules | `(tactic| walk_at "w") => `(tactic| (repeat (first | with_reducible refine wp_some ?_ | with_reducible refine wp_lt ?_ | with_reducible refine wp_bs ?_ | with_reducible refine wp_id ?_ | with_reducible refine wp_assoc ?_); try dsimp only))
namespace Law_strictranks_k26_ways_of_exchanges
def Well (k : Nat) (t : List Int) : Prop := ∃ a b c : Int, t = [a, b, c] ∧ 0 ≤ a ∧ (0 ≤ b ∧ b < 100000000000000000000000000000000) ∧ (0 ≤ c ∧ c ≤ k)
theorem Well.mono {k m : Nat} {t : List Int} (h : Well k t) (hk : k ≤ m) : Well m t := let ⟨a, b, c, e, h1, h2, h3⟩ := h; ⟨a, b, c, e, h1, h2, by omega⟩
theorem powN_eq {i j : Int} (h : 0 ≤ j ∧ j ≤ 1000 ∧ i.natAbs < 1606938044258990275541962092341162602522202993782792835301376) : powN i j = some (i ^ j.toNat) := if_pos (by unfold CPwB; simpa using h)
theorem sp_pick {k : Nat} {t : List Int} (ht : Well k t) (hk : k ≤ 100000) {n : Int} (hn : 0 < n ∧ n < 1000000000000000000000000000000000000000000000000) : WP (g__law_pick t n) fun p => (0 ≤ p.1 ∧ p.1 < n) ∧ Well (k + 1) p.2 := by
  obtain ⟨a, b, c, rfl, ha, hb, hc⟩ := ht
  unfold g__law_pick
  refine wp_eq (b := a) rfl (wp_ifd (fun h => ?_) fun h => ?_)
  · refine wp_eq (b := a) rfl (wp_eq (modI_eq hn.1) (wp_eq (b := a) rfl (wp_eq (divI_eq ⟨hn.1, by omega⟩) (wp_eq (b := [_, b, c]) rfl (wp_some ?_)))))
    exact ⟨⟨Int.emod_nonneg _ (by omega), Int.emod_lt_of_pos _ hn.1⟩, _, _, _, rfl, Int.ediv_nonneg ha (by omega), hb, by omega⟩
  · refine wp_eq (b := c) rfl (wp_eq (b := [a, b, c + 1]) rfl (wp_eq (b := b) rfl (wp_eq (b := c + 1) rfl (wp_eq (powN_eq (by omega)) (wp_eq (modI_eq (by decide)) ?_)))))
    generalize (b + 524287 * (c + 1)) ^ (5 : Int).toNat = X
    have x1 := Int.emod_nonneg X (show ((1000000000000000000000000000000000 : Int) + 61) ≠ 0 by decide)
    have x2 := Int.emod_lt_of_pos X (show (0 : Int) < (1000000000000000000000000000000000 : Int) + 61 by decide)
    generalize X % (1000000000000000000000000000000000 + 61) = Y at x1 x2 ⊢
    refine wp_eq (b := c + 1) rfl (wp_eq (powN_eq (by omega)) (wp_eq (modI_eq (by decide)) (wp_eq (modI_eq hn.1) (wp_some ?_))))
    exact ⟨⟨Int.emod_nonneg _ (by omega), Int.emod_lt_of_pos _ hn.1⟩, _, _, _, rfl, ha, hb, by omega⟩
end Law_strictranks_k26_ways_of_exchanges
end
section
set_option Elab.async false
set_option linter.all false
set_option maxRecDepth 100000
set_option maxHeartbeats 2000000
open PySem PySem.Spec PyProof.Rows L2 L2.VL L2.PM L2.TX
local macro_rules | `(tactic| walk_at "w") => `(tactic| (repeat (first | with_reducible refine wp_some ?_ | with_reducible refine wp_lt ?_ | with_reducible refine wp_bs ?_ | with_reducible refine wp_id ?_ | with_reducible refine wp_assoc ?_); try dsimp only))
namespace Law_strictranks_k26_ways_of_exchanges
theorem sp_order {k : Nat} {t : List Int} (ht : Well k t) (hk : k ≤ 50000) {n : Nat} (hn : n ≤ 60) : WP (g__law_order t n) fun p => Ord n p.1 ∧ Well (k + n) p.2 := by
  unfold g__law_order
  refine wp_eq (lrg_eq (by omega)) (wp_eq (rng0 (by omega)) (WP.bind (R := fun s => Ord n s.2.2 ∧ Well (k + n) s.1) ?_ fun s h => wp_some h))
  refine wp_foN (fun j s => Well (k + j) s.1 ∧ s.2.1.length + j = n ∧ (s.2.2 ++ s.2.1).Perm (rg n)) ⟨ht, by simp, List.Perm.refl _⟩ ?_ ?_
  · rintro j ⟨t, left, found⟩ hj ⟨ht, hl, hp⟩
    dsimp only at ht hl hp
    unfold g__law_order_b1
    dsimp only
    refine (sp_pick ht (by omega) ⟨by omega, by omega⟩).bind fun ⟨r, t2⟩ ⟨hr, ht2⟩ => ?_
    dsimp only at hr ht2
    obtain ⟨i, rfl⟩ : ∃ i : Nat, r = i := ⟨r.toNat, by omega⟩
    have hi : i < left.length := by omega
    refine wp_eq (popL_nat hi (by simp [cap]; omega)) (wp_eq (appL_eq ?_) (wp_some ⟨ht2, ?_, ?_⟩))
    · have := hp.length_eq
      simp [rg] at this
      simp [cap]; omega
    · simp [List.length_eraseIdx, hi]; omega
    · refine List.Perm.trans ?_ hp
      rw [List.append_assoc]
      refine List.Perm.append_left _ ?_
      have p : left.Perm (left[i] :: left.eraseIdx i) := by
        rw [List.eraseIdx_eq_take_drop_succ]
        have e : left = left.take i ++ (left[i] :: left.drop (i + 1)) := by rw [← List.drop_eq_getElem_cons hi, List.take_append_drop]
        generalize left[i] = y at e ⊢
        generalize left.take i = u at e ⊢
        generalize left.drop (i + 1) = v at e ⊢
        rw [e]
        exact List.perm_middle
      exact p.symm
  · rintro ⟨t, left, found⟩ ⟨ht, hl, hp⟩
    have : left = [] := List.eq_nil_of_length_eq_zero (by simpa using hl)
    dsimp only at hp
    rw [this, List.append_nil] at hp
    exact ⟨hp, ht⟩
end Law_strictranks_k26_ways_of_exchanges
end
section
set_option Elab.async false
set_option linter.all false
set_option maxRecDepth 100000
set_option maxHeartbeats 2000000
open PySem PySem.Spec PyProof.Rows L2 L2.VL L2.PM L2.TX
local macro_rules | `(tactic| walk_at "w") => `(tactic| (repeat (first | with_reducible refine wp_some ?_ | with_reducible refine wp_lt ?_ | with_reducible refine wp_bs ?_ | with_reducible refine wp_id ?_ | with_reducible refine wp_assoc ?_); try dsimp only))
namespace Law_strictranks_k26_ways_of_exchanges
theorem sp_lawfact {k : Nat} {t : List Int} (ht : Well k t) (hk : k ≤ 50000) {n : Nat} (hn : 1 ≤ n ∧ n ≤ 60) {kd : Int} (hkd : 0 ≤ kd ∧ kd < 3) : WP (g__law_fact t n kd) fun p => FOk n p.1 ∧ Well (k + 64) p.2 := by
  unfold g__law_fact
  refine wp_eq (rng0 (by omega)) (WP.bind (R := fun p => SgL n p.1 ∧ Well (k + n) p.2) ?_ fun p hp => ?_)
  · refine wp_lcX (by simp [cap]; omega) (fun pre ys t => Well (k + pre.length) t ∧ SgL pre.length ys) ⟨ht, [], rfl, rfl, fun _ z => by cases z⟩ (fun pre x post ys t e ⟨ht, cs, hy, h1, h2⟩ => wp_some ?_) fun ys t h => ⟨by have := h.2; simpa using this, by have := h.1; simpa using this⟩
    have hp : pre.length ≤ n := by have := congrArg List.length e; simp at this; omega
    refine (sp_pick ht (by omega) ⟨by decide, by decide⟩).bind fun ⟨r, t2⟩ ⟨hr, ht2⟩ => ?_
    obtain ⟨c, hc, es⟩ : ∃ c, Sg c ∧ ixS [87, 76, 46] r = some [c] := by
      rcases (by have := hr; dsimp only at this; omega : r = 0 ∨ r = 1 ∨ r = 2) with rfl | rfl | rfl
      · exact ⟨87, .inl rfl, rfl⟩
      · exact ⟨76, .inr (.inl rfl), rfl⟩
      · exact ⟨46, .inr (.inr rfl), rfl⟩
    refine wp_eq es (wp_some ⟨by rw [List.length_append]; exact ht2, cs ++ [c], ?_, by simp [h1], fun x hx => ?_⟩)
    · rw [hy]; simp [chs]
    · rcases List.mem_append.mp hx with h | h
      · exact h2 x h
      · rw [List.mem_singleton.mp h]; exact hc
  · refine WP.bind (R := fun s => SgL n s.2 ∧ Well (k + 64) s.1) ?_ fun s hs => (hs.1.join hn.2).bind fun f hf => wp_some ⟨hf, hs.2⟩
    refine wp_ifd (fun h => ?_) fun _ => wp_some ⟨hp.1, hp.2.mono (by omega)⟩
    refine (SgL.pts hn.2).bind fun ss hss => ?_
    obtain ⟨m, em, hm⟩ : ∃ m : List Nat, ixL [[87, 87, 76, 76], [87, 87, 87, 76]] (kd - 1) = some m ∧ (m = [87, 87, 76, 76] ∨ m = [87, 87, 87, 76]) := by
      rcases (by omega : kd = 1 ∨ kd = 2) with rfl | rfl
      · exact ⟨_, rfl, .inl rfl⟩
      · exact ⟨_, rfl, .inr rfl⟩
    have hm4 : m.length = 4 := by rcases hm with rfl | rfl <;> rfl
    have hms : ∀ c ∈ m, Sg c := fun c hc => by
      unfold Sg
      rcases hm with rfl | rfl <;> simp at hc <;> omega
    refine wp_eq em (WP.bind (R := fun s => Well (k + n + 4) s.1 ∧ SgL n s.2) (wp_fo (fun pre s => Well (k + n + pre.length) s.1 ∧ SgL n s.2) ⟨hp.2, hss⟩ (fun pre sg post s e hs => ?_) fun s h => by rw [chs_len, hm4] at h; exact h) fun s h => wp_some ⟨h.2, h.1.mono (by omega)⟩)
    have pl : pre.length ≤ 4 := by have := congrArg List.length e; rw [chs_len, hm4] at this; simp at this; omega
    obtain ⟨c, hc, rfl⟩ : ∃ c, Sg c ∧ sg = [c] := by
      have : sg ∈ chs m := by rw [e]; simp
      obtain ⟨c, hc, rfl⟩ := List.mem_map.mp this
      exact ⟨c, hms c hc, rfl⟩
    unfold g__law_fact_b2
    refine (sp_pick hs.1 (by omega) ⟨by omega, by omega⟩).bind fun ⟨r, t2⟩ ⟨hr, ht2⟩ => ?_
    obtain ⟨j, rfl⟩ : ∃ j : Nat, r = j := ⟨r.toNat, by omega⟩
    exact (hs.2.set (by omega) hc).bind fun s2 h2 => wp_some ⟨by rw [List.length_append]; exact ht2, h2⟩
theorem sil_hold {n : Nat} {os : List Int} : fsgn os (List.replicate n 46) ≠ 76 := fun z => by
  obtain ⟨k, x, _, e, _⟩ := fsgn_L z
  rw [List.getD_eq_getElem?_getD, List.getElem?_replicate] at e
  split at e <;> cases e
theorem sp_lawfacts {k : Nat} {t : List Int} (ht : Well k t) (hk : k ≤ 40000) {n : Nat} (hn : 1 ≤ n ∧ n ≤ 60) {os : List Int} (hl : os.length = n) (ho : InB n os) {most : Nat} (hm : most ≤ 60) {tr : Bool} : WP (g__law_facts t os most tr) fun p => (p.1.length ≤ most ∧ ∀ f ∈ p.1, FctR n os tr f) ∧ Well (k + 4300) p.2 := by
  unfold g__law_facts
  refine (sp_pick ht (by omega) ⟨by decide, by decide⟩).bind fun kd hkd => (sp_pick hkd.2 (by omega) ⟨by omega, by omega⟩).bind fun x hx => ?_
  obtain ⟨m, em, hm2⟩ : ∃ m : Nat, x.1 = m ∧ m ≤ most := ⟨x.1.toNat, by have := hx.1; omega, by have := hx.1; omega⟩
  rw [em]
  refine wp_eq (rng0 (by omega)) (WP.bind (R := fun s => Well (k + 2 + m * 70) s.1 ∧ s.2.length = m ∧ ∀ f ∈ s.2, FctR n os tr f) ?_ fun s hs => wp_some ⟨⟨by rw [hs.2.1]; exact hm2, hs.2.2⟩, hs.1.mono (by omega)⟩)
  refine wp_foN (fun j s => Well (k + 2 + j * 70) s.1 ∧ s.2.length = j ∧ ∀ f ∈ s.2, FctR n os tr f) ⟨hx.2.mono (by omega), rfl, fun _ h => nomatch h⟩ (fun j s hj h => ?_) fun s h => h
  obtain ⟨t, fss⟩ := s
  obtain ⟨h1, h2, h3⟩ := h
  dsimp only at h1 h2 h3
  have hj2 : j * 70 ≤ 4200 := by omega
  unfold g__law_facts_b1
  dsimp only
  rw [hl]
  refine (sp_lawfact h1 (by omega) hn hkd.1).bind fun f hf => ?_
  refine WP.bind (R := fun b => b = (tr && !Hd os f.1)) ?_ fun b hb => ?_
  · refine wp_if (fun h => ?_) fun h => wp_some (by rw [h]; rfl)
    exact wp_eq (sp_lawholds hn.2 (by omega) ho hf.1) (wp_some (by rw [h]; rfl))
  subst hb
  refine WP.bind (R := FctR n os tr) ?_ fun g hg => ?_
  · refine wp_if (fun h => ?_) fun h => wp_some ⟨hf.1, fun z => ?_⟩
    · refine turn_rep hn.2 hf.1 (wp_some ⟨hf.1.map, fun _ => ?_⟩)
      have : fsgn os f.1 = 76 := by
        rw [Bool.and_eq_true, Bool.not_eq_true', ← Bool.not_eq_true, Hd_iff, Classical.not_not] at h
        exact h.2
      rw [fsgn_turn this]
      decide
    · rw [z, Bool.true_and, Bool.not_eq_false', Hd_iff] at h
      exact h
  refine (sp_pick hf.2 (by omega) ⟨by decide, by decide⟩).bind fun way hway => WP.bind (R := FctR n os tr) ?_ fun g2 hg2 => WP.bind (R := fun b => b = true → fss ≠ []) ?_ fun b hb => WP.bind (R := fun s : List Int × List Nat => Well (k + 2 + j * 70 + 64 + 2) s.1 ∧ FctR n os tr s.2) ?_ fun s hs => ?_
  · exact wp_ifd (fun _ => wp_eq (sil_ix hn.2) (wp_some ⟨pts_ok n, fun _ => sil_hold⟩)) fun _ => wp_some hg
  · refine wp_ifd (fun _ => wp_eq (eqG_nil fun f h => (h3 f h).1) (wp_some fun z => ?_)) fun _ => wp_some fun z => nomatch z
    simpa using z
  · refine wp_if (fun h => ?_) fun _ => wp_some ⟨hway.2.mono (by omega), hg2⟩
    have : 0 < fss.length := List.length_pos_iff.mpr (hb h)
    exact (sp_pick hway.2 (by omega) ⟨by omega, by omega⟩).bind fun p hp => (ix_draw (P := FctR n os tr) hp.1 h3).bind fun r hr => wp_some ⟨hp.2.mono (by omega), hr⟩
  · refine wp_eq (appL_eq (by simp only [cap]; omega)) (wp_some ⟨hs.1.mono (by omega), by simp [h2], fun r hr => ?_⟩)
    rcases List.mem_append.mp hr with z | z
    · exact h3 r z
    · rw [List.mem_singleton.mp z]; exact hs.2
end Law_strictranks_k26_ways_of_exchanges
end
section
set_option Elab.async false
set_option linter.all false
set_option maxRecDepth 100000
set_option maxHeartbeats 2000000
open PySem PySem.Spec PyProof.Rows L2 L2.VL L2.PM L2.TX
local macro_rules | `(tactic| walk_at "w") => `(tactic| (repeat (first | with_reducible refine wp_some ?_ | with_reducible refine wp_lt ?_ | with_reducible refine wp_bs ?_ | with_reducible refine wp_id ?_ | with_reducible refine wp_assoc ?_); try dsimp only))
namespace Law_strictranks_k26_ways_of_exchanges
theorem sp_isorder {n : Nat} {os : List Int} (hn : 1 ≤ n ∧ n ≤ 60) (ho : Ord n os) : g_is_order os = some true := by
  have hl := ho.len
  refine WP.eq ?_
  unfold g_is_order
  rw [hl, decide_eq_true (show (1 : Int) ≤ n by omega), decide_eq_true (show (n : Int) ≤ 60 by omega)]
  refine wp_if (fun z => nomatch z) fun _ => wp_eq (lcC_map (fun _ => true) (by simp only [cap]; omega) (fun _ _ => rfl) (fun x hx => ?_)) ?_
  · rw [sp_isint]
    show some (decide (0 ≤ x) && true) = _
    rw [decide_eq_true (ho.inb x hx).1]; rfl
  · refine wp_id (wp_if (fun _ => wp_eq (lrg_eq (by omega)) (wp_some ?_)) fun z => absurd z (by simp))
    rw [ho.sort]
    exact decide_eq_true rfl
end Law_strictranks_k26_ways_of_exchanges
end
section
set_option Elab.async false
set_option linter.all false
set_option maxRecDepth 100000
set_option maxHeartbeats 2000000
open PySem PySem.Spec PyProof.Rows L2 L2.VL L2.PM L2.TX
local macro_rules | `(tactic| walk_at "w") => `(tactic| (repeat (first | with_reducible refine wp_some ?_ | with_reducible refine wp_lt ?_ | with_reducible refine wp_bs ?_ | with_reducible refine wp_id ?_ | with_reducible refine wp_assoc ?_); try dsimp only))
namespace Law_strictranks_k26_ways_of_exchanges
theorem sp_holdsalong {n : Nat} {os : List Int} {f : List Nat} (hn : 1 ≤ n ∧ n ≤ 60) (ho : Ord n os) (hf : FOk n f) : g_holds_along os f = some (Hd os f) := by
  have hl := ho.len
  have ix : ∀ r ∈ os, ixS f r = some [f.getD r.toNat 46] := fun r hr => ixS_int (by have := ho.inb r hr; rw [hf.1]; omega) (by rw [hf.1]; simp only [cap]; omega)
  unfold g_holds_along
  have e : lcC (fun rule => (ixS f rule).bind fun x => some (!(decide (x = [46])))) (fun rule => (ixS f rule).bind fun x_1 => some x_1) os = some (chs (sgl os f)) := by
    rw [lcC_of (fun r : Int => decide (f.getD r.toNat 46 ≠ 46)) (fun r => [f.getD r.toNat 46]) (Nat.le_trans (List.length_filter_le _ _) (by simp only [cap]; omega)) (fun r hr => ?_) (fun r hr _ => by rw [ix r hr]; rfl)]
    · unfold chs sgl sgs
      rw [List.filter_map, List.map_map]
      rfl
    · rw [ix r hr]
      show some (!decide ([f.getD r.toNat 46] = [46])) = _
      rw [one_eq]
      congr 1
      by_cases h : f.getD r.toNat 46 = 46
      · rw [decide_eq_true h, decide_eq_false (by simpa using h)]; rfl
      · rw [decide_eq_false h, decide_eq_true h]; rfl
  have wl : ∀ c ∈ sgl os f, c = 87 ∨ c = 76 := fun c hc => by
    have h0 := List.mem_filter.mp hc
    have h1 : Sg c := by
      obtain ⟨r, _, rfl⟩ := List.mem_map.mp h0.1
      exact sg_get hf _
    have h2 := of_decide_eq_true h0.2
    unfold Sg at h1
    omega
  have ok : (chs (sgl os f)).all okS = true := List.all_eq_true.mpr fun s hs => by
    obtain ⟨c, hc, rfl⟩ := List.mem_map.mp hs
    rcases wl c hc with rfl | rfl <;> rfl
  refine WP.eq (wp_eq e (wp_eq (eqG_eq (ok := fun xs : List (List Nat) => xs.all okS) ok rfl) ?_))
  unfold Hd
  rw [fsgn_sgl]
  cases q : sgl os f with
  | nil => exact wp_ifb (fun _ => wp_bs (wp_some rfl)) fun z => absurd z (by simp [chs])
  | cons c r =>
    rw [q] at wl
    refine wp_ifb (fun z => absurd z (by simp [chs])) fun _ => wp_assoc (wp_eq (b := [c]) (by show ixL ([c] :: chs r) ((0 : Nat) : Int) = _; exact ixL_lt (k := 0) (by simp)) (wp_bs (wp_some ?_)))
    show decide ([c] = [87]) = !decide (c = 76)
    rw [one_eq]
    rcases wl c (by simp) with rfl | rfl <;> rfl
end Law_strictranks_k26_ways_of_exchanges
end
section
set_option Elab.async false
set_option linter.all false
set_option maxRecDepth 100000
set_option maxHeartbeats 2000000
open PySem PySem.Spec PyProof.Rows L2 L2.VL L2.PM L2.TX
local macro_rules | `(tactic| walk_at "w") => `(tactic| (repeat (first | with_reducible refine wp_some ?_ | with_reducible refine wp_lt ?_ | with_reducible refine wp_bs ?_ | with_reducible refine wp_id ?_ | with_reducible refine wp_assoc ?_); try dsimp only))
namespace Law_strictranks_k26_ways_of_exchanges
theorem enm_rng {α : Type} (d : α) (xs : List α) : enm xs = (List.range xs.length).map fun (k : Nat) => ((k : Int), xs.getD k d) := by
  unfold enm
  rw [zipIdx_range (d := d), List.map_map]
  rfl
theorem sum_cast {xs : List Nat} : (xs.map fun (k : Nat) => (k : Int)).sum = ((xs.sum : Nat) : Int) := by
  induction xs with
  | nil => rfl
  | cons a r ih => rw [List.map_cons, List.sum_cons, List.sum_cons, ih]; omega
theorem plc_len {n : Nat} {fss : List (List Nat)} {F : Nat} : (plc n fss F).length ≤ n := by
  unfold plc
  have := List.length_filter_le (fun r => !F.testBit r && canS fss F r) (List.range n)
  simpa using this
end Law_strictranks_k26_ways_of_exchanges
end
section
set_option Elab.async false
set_option linter.all false
set_option maxRecDepth 100000
set_option maxHeartbeats 2000000
open PySem PySem.Spec PyProof.Rows L2 L2.VL L2.PM L2.TX
local macro_rules | `(tactic| walk_at "w") => `(tactic| (repeat (first | with_reducible refine wp_some ?_ | with_reducible refine wp_lt ?_ | with_reducible refine wp_bs ?_ | with_reducible refine wp_id ?_ | with_reducible refine wp_assoc ?_); try dsimp only))
namespace Law_strictranks_k26_ways_of_exchanges
theorem tn_rng (key : Int → Nat) : ∀ a : List Int, ((List.range a.length).map fun i => ((a.drop (i + 1)).filter fun q => decide (key q < key (a.getD i 0))).length).sum = tn key a
  | [] => rfl
  | r :: c => by
    rw [List.length_cons, List.range_succ_eq_map, List.map_cons, List.sum_cons, List.map_map]
    unfold tn
    rw [← tn_rng key c]
    rfl
theorem tn_le {key : Int → Nat} : ∀ {a : List Int}, tn key a ≤ a.length * a.length
  | [] => Nat.le_refl _
  | r :: c => by
    have h := tn_le (key := key) (a := c)
    have h2 := List.length_filter_le (fun q => decide (key q < key r)) c
    unfold tn
    rw [List.length_cons, Nat.succ_mul, Nat.mul_succ]
    omega
theorem sp_turned {a b : List Int} (hl : a.length ≤ 1000) (hm : ∀ x ∈ a, x ∈ b) : g_turned_pairs a b = some ((tn (ps b) a : Nat) : Int) := by
  refine WP.eq ?_
  unfold g_turned_pairs
  refine wp_eq (lcC_map (fun x : Int => ((ps b x : Nat) : Int)) (by simp only [cap]; omega) (fun _ _ => rfl) (fun x hx => by rw [idxL_ps (hm x hx)]; rfl)) ?_
  rw [enm_rng (0 : Int), List.length_map]
  refine wp_eq (lcC_map (fun p : Int × Int => ((((a.map fun x : Int => ((ps b x : Nat) : Int)).drop (p.1.toNat + 1)).filter fun l => decide (l < p.2)).length : Int)) (by simp [cap]; omega) (fun _ _ => rfl) (fun p hp => ?_)) (wp_some ?_)
  · obtain ⟨k, hk, rfl⟩ := List.mem_map.mp hp
    dsimp only
    rw [show ((k : Int) + 1) = ((k + 1 : Nat) : Int) by omega, cutL_drop, Int.toNat_natCast]
    rw [lcC_flt (fun l : Int => decide (l < (a.map fun x : Int => ((ps b x : Nat) : Int)).getD k 0)) (by rw [List.length_drop, List.length_map]; simp only [cap]; omega) (fun _ _ => rfl)]
    rfl
  · rw [List.map_map, ← tn_rng, ← sum_cast, List.map_map]
    congr 1
    refine List.map_congr_left fun k hk => ?_
    have hk := List.mem_range.mp hk
    show (((((a.map fun x : Int => ((ps b x : Nat) : Int)).drop ((k : Int).toNat + 1)).filter fun l => decide (l < (a.map fun x : Int => ((ps b x : Nat) : Int)).getD k 0)).length : Nat) : Int) = (((a.drop (k + 1)).filter fun q => decide (ps b q < ps b (a.getD k 0))).length : Nat)
    rw [Int.toNat_natCast, ← List.map_drop, List.filter_map, List.length_map]
    congr 2
    refine List.filter_congr fun q _ => ?_
    have : (a.map fun x : Int => ((ps b x : Nat) : Int)).getD k 0 = ((ps b (a.getD k 0) : Nat) : Int) := by
      rw [List.getD_eq_getElem?_getD, List.getElem?_map, List.getElem?_eq_getElem hk, List.getD_eq_getElem?_getD, List.getElem?_eq_getElem hk]
      rfl
    rw [this]
    exact decide_eq_decide.mpr ⟨fun z => by have z : ((ps b q : Nat) : Int) < ((ps b (a.getD k 0) : Nat) : Int) := z; omega, fun z => by show ((ps b q : Nat) : Int) < ((ps b (a.getD k 0) : Nat) : Int); omega⟩
end Law_strictranks_k26_ways_of_exchanges
end
section
set_option Elab.async false
set_option linter.all false
set_option maxRecDepth 100000
set_option maxHeartbeats 2000000
open PySem PySem.Spec PyProof.Rows L2 L2.VL L2.PM L2.TX
local macro_rules | `(tactic| walk_at "w") => `(tactic| (repeat (first | with_reducible refine wp_some ?_ | with_reducible refine wp_lt ?_ | with_reducible refine wp_bs ?_ | with_reducible refine wp_id ?_ | with_reducible refine wp_assoc ?_); try dsimp only))
namespace Law_strictranks_k26_ways_of_exchanges
theorem ord_inj {n : Nat} {os : List Int} (ho : Ord n os) {i j : Nat} {x : Int} (h1 : os[i]? = some x) (h2 : os[j]? = some x) : i = j := by
  rw [← ps_at (ord_nd ho) h1, ps_at (ord_nd ho) h2]
theorem ord_at {n : Nat} {os : List Int} (ho : Ord n os) {i : Nat} (hi : i < n) : ∃ a : Nat, ixL os (i : Int) = some (a : Int) ∧ os[i]? = some (a : Int) ∧ a < n := by
  obtain ⟨a, e, ha, ea⟩ := rule_at ho.inb (p := i) (by rw [ho.len]; exact hi)
  exact ⟨a, e, by rw [List.getElem?_eq_getElem (by rw [ho.len]; exact hi), ea], ha⟩
end Law_strictranks_k26_ways_of_exchanges
end
section
set_option Elab.async false
set_option linter.all false
set_option maxRecDepth 100000
set_option maxHeartbeats 2000000
open PySem PySem.Spec PyProof.Rows L2 L2.VL L2.PM L2.TX
local macro_rules | `(tactic| walk_at "w") => `(tactic| (repeat (first | with_reducible refine wp_some ?_ | with_reducible refine wp_lt ?_ | with_reducible refine wp_bs ?_ | with_reducible refine wp_id ?_ | with_reducible refine wp_assoc ?_); try dsimp only))
namespace Law_strictranks_k26_ways_of_exchanges
def Stp (a b : List Int) : Prop := ∃ k, k + 1 < a.length ∧ b = swp a k
/-- what holds of a way so far -/
structure WayI (n : Nat) (fss : List (List Nat)) (os ot : List Int) (j : Nat) (found : List (List Int)) (here : List Int) : Prop where
  hh : Hld n fss here
  tk : here.take j = ot.take j
  ln : found.length + tn (ps ot) here = tn (ps ot) os + 1
  fst : found[0]? = some os
  lst : found.getLast? = some here
  all : ∀ o ∈ found, Hld n fss o
  stp : ∀ i a b, found[i]? = some a → found[i + 1]? = some b → Stp a b
theorem take_swp {xs : List Int} {i j : Nat} (h : i + 1 < xs.length) (hj : j ≤ i) : (swp xs i).take j = xs.take j := by
  unfold swp
  rw [List.append_assoc, List.take_append_of_le_length (by rw [List.length_take]; omega), List.take_take, Nat.min_eq_left hj]
theorem swp_lo {xs : List Int} {i : Nat} (h : i + 1 < xs.length) : (swp xs i)[i]? = xs[i + 1]? := by
  obtain ⟨u, a, b, v, e, eu, es⟩ := swp_parts h
  rw [es, e, ← eu, List.getElem?_append_right (Nat.le_refl _), List.getElem?_append_right (Nat.le_succ _)]
  simp
theorem WayI.next {n : Nat} {fss : List (List Nat)} {os ot : List Int} {j i : Nat} {found : List (List Int)} {here : List Int} {r : Int} (ht : Hld n fss ot) (I : WayI n fss os ot j found here) (hi : i + 1 < n) (hj : j ≤ i) (h1 : here[i + 1]? = some r) (h2 : ot[j]? = some r) : WayI n fss os ot j (found ++ [swp here i]) (swp here i) := by
  have hl := I.hh.1.len
  have hil : i + 1 < here.length := by omega
  obtain ⟨u, x, r', v, e, eu, es⟩ := swp_parts hil
  have er : r' = r := by
    rw [e, ← eu, List.getElem?_append_right (Nat.le_succ _)] at h1
    simpa using h1
  subst er
  have hx : here[i]? = some x := by rw [e, ← eu]; simp
  have nd := ord_nd I.hh.1
  have xr : x ≠ r' := fun z => by
    have := ord_inj I.hh.1 hx (z ▸ h1)
    omega
  have ut : here.take i = u := by rw [e, ← eu]; simp
  have xo : x ∈ ot := (ord_pm I.hh.1 ht.1).mem_iff.mp (List.mem_of_getElem? hx)
  have lt : ps ot r' < ps ot x := by
    rw [ps_at (ord_nd ht.1) h2]
    refine Classical.byContradiction fun z => ?_
    have g := ps_get xo
    by_cases c : ps ot x = j
    · rw [c, h2] at g
      exact xr (Option.some.inj g).symm
    · have : (ot.take j)[ps ot x]? = some x := by rw [List.getElem?_take_of_lt (by omega)]; exact g
      rw [← I.tk, List.getElem?_take_of_lt (by omega)] at this
      have := ord_inj I.hh.1 this hx
      omega
  have hh' : Hld n fss (swp here i) := ⟨swp_ord I.hh.1 hi, fun f hf => by
    rw [es]
    refine lead (B := ot) (k := j) (ht.2 f hf) h2 (fun y hy => ?_) ?_
    · rw [← I.tk] at hy
      have : here.take j = (here.take i).take j := by rw [List.take_take, Nat.min_eq_left hj]
      rw [this, ut] at hy
      exact List.mem_of_mem_take hy
    · rw [← e]; exact I.hh.2 f hf⟩
  have le : tn (ps ot) here = tn (ps ot) (swp here i) + 1 := by rw [es, e]; exact tn_swap lt v u
  have fl : found ≠ [] := fun z => by have := I.fst; rw [z] at this; cases this
  have fp : 0 < found.length := List.length_pos_iff.mpr fl
  refine ⟨hh', (take_swp hil hj).trans I.tk, ?_, ?_, by simp, fun o ho => ?_, fun q a b ha hb => ?_⟩
  · have := I.ln
    rw [List.length_append, List.length_singleton]
    omega
  · rw [List.getElem?_append_left fp]; exact I.fst
  · rcases List.mem_append.mp ho with z | z
    · exact I.all o z
    · rw [List.mem_singleton.mp z]; exact hh'
  · by_cases c : q + 1 < found.length
    · rw [List.getElem?_append_left c] at hb
      rw [List.getElem?_append_left (by omega)] at ha
      exact I.stp q a b ha hb
    · rw [List.getElem?_append_right (by omega)] at hb
      have e0 : q + 1 - found.length = 0 := by
        by_cases y : q + 1 - found.length = 0
        · exact y
        · rw [List.getElem?_eq_none (by simp; omega)] at hb; cases hb
      rw [e0] at hb
      have eb : swp here i = b := by simpa using hb
      rw [List.getElem?_append_left (by omega)] at ha
      have l := I.lst
      rw [List.getLast?_eq_getElem?, show found.length - 1 = q by omega, ha] at l
      have ea := Option.some.inj l
      subst ea
      exact ⟨i, hil, eb.symm⟩
theorem take_succ' {xs ys : List Int} {j : Nat} {r : Int} (h : xs.take j = ys.take j) (h1 : xs[j]? = some r) (h2 : ys[j]? = some r) : xs.take (j + 1) = ys.take (j + 1) := by
  rw [List.take_succ, List.take_succ, h, h1, h2]
def WayP (n : Nat) (fss : List (List Nat)) (os ot : List Int) (way : List (List Int)) : Prop := way.length = tn (ps ot) os + 1 ∧ way[0]? = some os ∧ way.getLast? = some ot ∧ (∀ o ∈ way, Hld n fss o) ∧ ∀ i a b, way[i]? = some a → way[i + 1]? = some b → Stp a b
end Law_strictranks_k26_ways_of_exchanges
end
section
set_option Elab.async false
set_option linter.all false
set_option maxRecDepth 100000
set_option maxHeartbeats 2000000
open PySem PySem.Spec PyProof.Rows L2 L2.VL L2.PM L2.TX
local macro_rules | `(tactic| walk_at "w") => `(tactic| (repeat (first | with_reducible refine wp_some ?_ | with_reducible refine wp_lt ?_ | with_reducible refine wp_bs ?_ | with_reducible refine wp_id ?_ | with_reducible refine wp_assoc ?_); try dsimp only))
namespace Law_strictranks_k26_ways_of_exchanges
theorem sp_wayfo {n : Nat} {fss : List (List Nat)} {os ot : List Int} (hn : 1 ≤ n ∧ n ≤ 14) (ho : Hld n fss os) (ht : Hld n fss ot) : WP (fo (fun s p => g_way_between_b1 s p) (enm ot) ([os], os)) fun s => WayP n fss os ot s.1 := by
  have tl : tn (ps ot) os ≤ 196 := by
    have := tn_le (key := ps ot) (a := os)
    rw [ho.1.len] at this
    have : n * n ≤ 14 * 14 := Nat.mul_le_mul hn.2 hn.2
    omega
  refine WP.mono (Q := fun s => WayI n fss os ot n s.1 s.2) ?_ fun s I => ?_
  · rw [enm_rng (0 : Int), ht.1.len]
    refine wp_fo (fun done s => WayI n fss os ot done.length s.1 s.2) ⟨ho, by simp, by rw [List.length_singleton]; dsimp only; omega, rfl, rfl, fun o h => by rw [List.mem_singleton.mp h]; exact ho, fun i a b _ hb => by simp at hb⟩ ?_ fun s h => by simpa using h
    rintro done p post s e I
    obtain ⟨found, here⟩ := s
    dsimp only at I
    have dl : done.length < n := by have := congrArg List.length e; simp at this; omega
    have hp : p = ((done.length : Int), ot.getD done.length 0) := by
      have h : ((List.range n).map fun (k : Nat) => ((k : Int), ot.getD k 0))[done.length]? = some p := by rw [e]; simp
      rw [List.getElem?_map, List.getElem?_range dl] at h
      exact (Option.some.inj h).symm
    subst hp
    rw [List.length_append, List.length_singleton]
    revert dl I
    generalize done.length = j
    intro I dl
    obtain ⟨r, xr, orr, rn⟩ := ord_at ht.1 dl
    have eg : ot.getD j 0 = (r : Int) := by rw [List.getD_eq_getElem?_getD, orr]; rfl
    rw [eg]
    have rm : (r : Int) ∈ here := (ord_pm I.hh.1 ht.1).mem_iff.mpr (List.mem_of_getElem? orr)
    obtain ⟨q, eq⟩ : ∃ q, ps here (r : Int) = q := ⟨_, rfl⟩
    have hq : here[q]? = some (r : Int) := by rw [← eq]; exact ps_get rm
    have qn : q < n := by have := ps_lt rm; rw [I.hh.1.len] at this; omega
    have jq : j ≤ q := Classical.byContradiction fun z => by
      have : (here.take j)[q]? = some (r : Int) := by rw [List.getElem?_take_of_lt (by omega)]; exact hq
      rw [I.tk, List.getElem?_take_of_lt (by omega)] at this
      have := ord_inj ht.1 this orr
      omega
    unfold g_way_between_b1
    dsimp only
    refine wp_eq (idxL_ps rm) ?_
    rw [eq]
    have er : rngDn (q : Int) (j : Int) = some ((List.range (q - j)).map fun (k : Nat) => (q : Int) - k) := by
      unfold rngDn
      rw [if_pos (by unfold small62; simp; omega)]
      congr 2
      congr 1
      omega
    refine wp_eq er (WP.bind (R := fun s => WayI n fss os ot j s.1 s.2 ∧ s.2[j]? = some (r : Int)) ?_ fun s hs => wp_some ?_)
    · refine wp_fo (fun dn s => WayI n fss os ot j s.1 s.2 ∧ s.2[q - dn.length]? = some (r : Int)) ⟨I, by simpa using hq⟩ ?_ fun s h => ⟨h.1, by have := h.2; rw [List.length_map, List.length_range] at this; rwa [show q - (q - j) = j by omega] at this⟩
      rintro dn at' pst ⟨f2, h2⟩ e2 ⟨I2, w2⟩
      dsimp only at I2 w2
      have dnl : dn.length < q - j := by have := congrArg List.length e2; simp at this; omega
      have ha : at' = (q : Int) - (dn.length : Int) := by
        have h : ((List.range (q - j)).map fun (k : Nat) => (q : Int) - k)[dn.length]? = some at' := by rw [e2]; simp
        rw [List.getElem?_map, List.getElem?_range dnl] at h
        exact (Option.some.inj h).symm
      obtain ⟨i, ei⟩ : ∃ i, q - dn.length = i + 1 := ⟨q - dn.length - 1, by omega⟩
      rw [ei] at w2
      have I3 := I2.next ht (i := i) (by omega) (by omega) w2 orr
      have fl : f2.length ≤ 1000 := by have := I2.ln; omega
      unfold g_way_between_b2
      dsimp only
      refine wp_swp (i := i) (by rw [I2.hh.1.len]; omega) (by rw [I2.hh.1.len]; omega) (by omega) (by omega) (by omega) (wp_eq (appL_eq (by simp only [cap]; omega)) (wp_some ⟨I3, ?_⟩))
      rw [List.length_append, List.length_singleton, show q - (dn.length + 1) = i by omega]
      dsimp only
      rw [swp_lo (by rw [I2.hh.1.len]; omega)]
      exact w2
    · exact ⟨hs.1.hh, take_succ' hs.1.tk hs.2 orr, hs.1.ln, hs.1.fst, hs.1.lst, hs.1.all, hs.1.stp⟩
  · have e : s.2 = ot := by
      have := I.tk
      rwa [List.take_of_length_le (by rw [I.hh.1.len]; omega), List.take_of_length_le (by rw [ht.1.len]; omega)] at this
    have l := I.ln
    have la := I.lst
    rw [e] at l la
    rw [tn_self (ord_nd ht.1)] at l
    exact ⟨by omega, I.fst, la, I.all, I.stp⟩
end Law_strictranks_k26_ways_of_exchanges
end
section
set_option Elab.async false
set_option linter.all false
set_option maxRecDepth 100000
set_option maxHeartbeats 2000000
open PySem PySem.Spec PyProof.Rows L2 L2.VL L2.PM L2.TX
local macro_rules | `(tactic| walk_at "w") => `(tactic| (repeat (first | with_reducible refine wp_some ?_ | with_reducible refine wp_lt ?_ | with_reducible refine wp_bs ?_ | with_reducible refine wp_id ?_ | with_reducible refine wp_assoc ?_); try dsimp only))
namespace Law_strictranks_k26_ways_of_exchanges
def exN (c : Str) : Exn := ⟨c, none⟩
theorem sp_needcountX {n : Nat} {m : Int} (h : 1 ≤ n ∧ (n : Int) ≤ m) : g_need_count n m = some (.ok ()) := by
  unfold g_need_count
  rw [sp_isint, isIn_ok ⟨by omega, h.2⟩]
  rfl
theorem sp_fits {n : Nat} {f : List Nat} (hn : n ≤ 60) (h : FOk n f) : g_fits_fact n f = some true := by
  unfold g_fits_fact
  have hc : f.length = n := h.1
  rw [lenS_eq (by simp only [cap]; omega), hc]
  show (some (!decide ((n : Int) = n))).bind _ = _
  rw [decide_eq_true rfl]
  show (lcC _ _ _).bind _ = _
  rw [lcC_map (fun _ => true) (by rw [chs_len]; simp only [cap]; omega) (fun _ _ => rfl) (fun s hs => ?_)]
  · show some (((chs f).map fun _ => true).all id) = _
    congr 1
    simp
  · obtain ⟨c, hc, rfl⟩ := List.mem_map.mp hs
    rcases h.2 c hc with rfl | rfl | rfl <;> rfl
theorem sp_needfactsX {n : Nat} {fss : List (List Nat)} (hn : n ≤ 60) (hl : fss.length ≤ 200) (h : ∀ f ∈ fss, FOk n f) : g_need_facts n fss = some (.ok ()) := by
  unfold g_need_facts
  rw [decide_eq_false (show ¬ ((fss.length : Int) > 200) by omega), lcC_map (fun _ => true) (by simp only [cap]; omega) (fun _ _ => rfl) (fun f hf => by rw [sp_fits hn (h f hf)]; rfl)]
  have : ((fss.map fun _ => true).all id) = true := by simp
  show (some (!((fss.map fun _ => true).all id))).bind _ = _
  rw [this]
  rfl
theorem sp_needcfX {n : Nat} {fss : List (List Nat)} {m : Int} (hn : 1 ≤ n ∧ n ≤ 60) (hm : (n : Int) ≤ m) (hl : fss.length ≤ 200) (h : ∀ f ∈ fss, FOk n f) : g_need_count_and_facts n fss m = some (.ok ()) := by
  unfold g_need_count_and_facts
  rw [sp_needcountX ⟨hn.1, hm⟩, sp_needfactsX hn.2 hl h]
  rfl
theorem sp_needorderX {n : Nat} {os : List Int} (hn : 1 ≤ n ∧ n ≤ 60) (ho : Ord n os) : g_need_order os (some (n : Int)) = some (.ok ()) := by
  unfold g_need_order
  rw [sp_isorder hn ho, ho.len]
  show (if (!true || (true && !decide (some (n : Int) = some (n : Int)))) = true then _ else _) = _
  rw [decide_eq_true rfl]
  rfl
theorem sp_needorder0X {n : Nat} {os : List Int} (hn : 1 ≤ n ∧ n ≤ 60) (ho : Ord n os) : g_need_order os none = some (.ok ()) := by
  unfold g_need_order
  rw [sp_isorder hn ho]
  rfl
theorem sp_needholdingX {n : Nat} {os : List Int} {fss : List (List Nat)} (hn : 1 ≤ n ∧ n ≤ 60) (hl : fss.length ≤ 200) (hf : ∀ f ∈ fss, FOk n f) (ho : Ord n os) : g_need_holding fss os = some (if (∀ f ∈ fss, fsgn os f ≠ 76) then .ok () else .error (exN "Fails")) := by
  refine WP.eq ?_
  unfold g_need_holding
  refine wp_eq (lcC_map (fun f => Hd os f) (by simp only [cap]; omega) (fun _ _ => rfl) (fun f h => by rw [sp_holdsalong hn ho (hf f h)]; rfl)) ?_
  have e : (((fss.map fun f => Hd os f).all id) = true) ↔ ∀ f ∈ fss, fsgn os f ≠ 76 := by
    rw [List.all_eq_true]
    constructor
    · intro h f hf
      exact Hd_iff.mp (h _ (List.mem_map.mpr ⟨f, hf, rfl⟩))
    · intro h b hb
      obtain ⟨f, h1, rfl⟩ := List.mem_map.mp hb
      exact Hd_iff.mpr (h f h1)
  refine wp_if (fun z => wp_some ?_) fun z => wp_some ?_
  · rw [if_neg (fun y => by rw [e.mpr y] at z; cases z)]; rfl
  · rw [if_pos (e.mp (by simpa using z))]
theorem sp_exchangesX {n : Nat} {a b : List Int} (hn : 1 ≤ n ∧ n ≤ 60) (ha : Ord n a) (hb : Ord n b) : g_exchanges_between a b = some (.ok ((tn (ps b) a : Nat) : Int)) := by
  unfold g_exchanges_between
  rw [ha.len, sp_needorder0X hn ha, sp_needorderX hn hb, sp_turned (by rw [ha.len]; omega) fun x hx => (ord_pm ha hb).mem_iff.mp hx]
  rfl
theorem sp_wayX {n : Nat} {fss : List (List Nat)} {os ot : List Int} (hn : 1 ≤ n ∧ n ≤ 14) (hl : fss.length ≤ 200) (hf : ∀ f ∈ fss, FOk n f) (ho : Hld n fss os) (ht : Hld n fss ot) : WP (noRs (g_way_between n fss os ot)) (WayP n fss os ot) := by
  have hn6 : 1 ≤ n ∧ n ≤ 60 := by omega
  obtain ⟨s, e, hs⟩ := sp_wayfo hn ho ht
  refine ⟨s.1, ?_, hs⟩
  unfold g_way_between
  rw [sp_needcfX hn6 (by omega) hl hf, sp_needorderX hn6 ho.1, sp_needorderX hn6 ht.1, sp_needholdingX hn6 hl hf ho.1, sp_needholdingX hn6 hl hf ht.1, if_pos ho.2, if_pos ht.2]
  show noRs (lt _ _) = _
  rw [lt_eq, e]
  rfl
theorem sp_wayF {n : Nat} {fss : List (List Nat)} {os ot : List Int} (hn : 1 ≤ n ∧ n ≤ 14) (hl : fss.length ≤ 200) (hf : ∀ f ∈ fss, FOk n f) (ho : Ord n os) (ht : Ord n ot) (hx : ¬ ((∀ f ∈ fss, fsgn os f ≠ 76) ∧ ∀ f ∈ fss, fsgn ot f ≠ 76)) : g_way_between n fss os ot = some (.error (exN "Fails")) := by
  have hn6 : 1 ≤ n ∧ n ≤ 60 := by omega
  unfold g_way_between
  rw [sp_needcfX hn6 (by omega) hl hf, sp_needorderX hn6 ho, sp_needorderX hn6 ht, sp_needholdingX hn6 hl hf ho, sp_needholdingX hn6 hl hf ht]
  by_cases c : ∀ f ∈ fss, fsgn os f ≠ 76
  · rw [if_pos c, if_neg fun z => hx ⟨c, z⟩]
    rfl
  · rw [if_neg c]
    rfl
theorem sp_fails {n : Nat} {fss : List (List Nat)} {os ot : List Int} (hn : 1 ≤ n ∧ n ≤ 14) (hl : fss.length ≤ 200) (hf : ∀ f ∈ fss, FOk n f) (ho : Ord n os) (ht : Ord n ot) (hx : ¬ ((∀ f ∈ fss, fsgn os f ≠ 76) ∧ ∀ f ∈ fss, fsgn ot f ≠ 76)) : g__law_fails ((n : Int), fss, os, ot) = some true := by
  unfold g__law_fails
  dsimp only
  rw [sp_wayF hn hl hf ho ht hx]
  rfl
end Law_strictranks_k26_ways_of_exchanges
end
section
set_option Elab.async false
set_option linter.all false
set_option maxRecDepth 100000
set_option maxHeartbeats 2000000
open PySem PySem.Spec PyProof.Rows L2 L2.VL L2.PM L2.TX
local macro_rules | `(tactic| walk_at "w") => `(tactic| (repeat (first | with_reducible refine wp_some ?_ | with_reducible refine wp_lt ?_ | with_reducible refine wp_bs ?_ | with_reducible refine wp_id ?_ | with_reducible refine wp_assoc ?_); try dsimp only))
namespace Law_strictranks_k26_ways_of_exchanges
def canL (fss : List (List Nat)) (pre : List Nat) (r : Nat) : Bool := fss.all fun f => !decide (f.getD r 46 = 76) || pre.any fun w => decide (f.getD w 46 = 87)
theorem sp_can {n r : Nat} {fss : List (List Nat)} {pre : List Nat} (hn : n ≤ 60) (hl : fss.length ≤ 1000) (hf : ∀ f ∈ fss, FOk n f) (hp : ∀ w ∈ pre, w < n) (hpl : pre.length ≤ 60) (hr : r < n) : g__law_can fss (toO pre) (r : Int) = some (canL fss pre r) := by
  refine WP.eq ?_
  unfold g__law_can
  refine wp_eq (lcC_flt (fun f => decide (f.getD r 46 = 76)) (by simp only [cap]; omega) fun f h => by rw [fact_ix (hf f h).1 hn hr]; show some (decide ([_] = [76])) = _; rw [one_eq]) ?_
  refine wp_eq (lcC_flt (fun f => !pre.any fun w => decide (f.getD w 46 = 87)) (Nat.le_trans (List.length_filter_le _ _) (by simp only [cap]; omega)) fun f h => ?_) ?_
  · have hf1 := hf f (List.mem_filter.mp h).1
    have e : lcC (fun _ => some true) (fun one => (ixS f one).bind fun x_1 => some x_1) (toO pre) = some ((toO pre).map fun r : Int => [f.getD r.toNat 46]) :=
      lcC_map (fun r : Int => [f.getD r.toNat 46]) (by unfold toO; rw [List.length_map]; simp only [cap]; omega) (fun _ _ => rfl) fun x hx => by
        obtain ⟨w, hw, rfl⟩ := List.mem_map.mp hx
        rw [fact_ix hf1.1 hn (hp w hw), Int.toNat_natCast]; rfl
    rw [e]
    show some (!(decide ([87] ∈ _))) = _
    congr 2
    rw [Bool.eq_iff_iff, decide_eq_true_eq, List.any_eq_true]
    constructor
    · intro h
      obtain ⟨x, hx, e⟩ := List.mem_map.mp h
      obtain ⟨w, hw, rfl⟩ := List.mem_map.mp hx
      rw [Int.toNat_natCast] at e
      exact ⟨w, hw, decide_eq_true (by simpa using e)⟩
    · rintro ⟨w, hw, e⟩
      exact List.mem_map.mpr ⟨(w : Int), List.mem_map.mpr ⟨w, hw, rfl⟩, by rw [Int.toNat_natCast, of_decide_eq_true e]⟩
  · refine wp_eq (eqG_nil fun f h => hf f (List.mem_filter.mp (List.mem_filter.mp h).1).1) (wp_some ?_)
    · rw [Bool.eq_iff_iff, decide_eq_true_eq, List.filter_eq_nil_iff]
      unfold canL
      rw [List.all_eq_true]
      constructor
      · intro h f hf
        by_cases c : f.getD r 46 = 76
        · have := h f (List.mem_filter.mpr ⟨hf, decide_eq_true c⟩)
          simp only [Bool.not_eq_true, Bool.not_eq_false'] at this
          rw [this]; simp
        · rw [decide_eq_false c]; rfl
      · intro h f hf
        obtain ⟨h1, h2⟩ := List.mem_filter.mp hf
        have := h f h1
        rw [h2] at this
        simp only [Bool.not_true, Bool.false_or] at this
        rw [this]; simp
theorem canL_plc {n r : Nat} {fss : List (List Nat)} {pre : List Nat} : (!decide (r ∈ pre) && canL fss pre r) = true ↔ (!(bitsOf pre).testBit r && canS fss (bitsOf pre) r) = true := by
  rw [Bool.and_eq_true, Bool.and_eq_true, canS_iff, bits_mem]
  refine and_congr_right fun _ => ?_
  unfold canL
  rw [List.all_eq_true]
  constructor
  · intro h f hf e
    have := h f hf
    rw [decide_eq_true e] at this
    have this : (pre.any fun w => decide (f.getD w 46 = 87)) = true := this
    obtain ⟨w, hw, e2⟩ := List.any_eq_true.mp this
    exact ⟨w, hw, of_decide_eq_true e2⟩
  · intro h f hf
    by_cases c : f.getD r 46 = 76
    · obtain ⟨w, hw, e⟩ := h f hf c
      have : pre.any (fun w => decide (f.getD w 46 = 87)) = true := List.any_eq_true.mpr ⟨w, hw, decide_eq_true e⟩
      rw [this]; simp
    · rw [decide_eq_false c]; rfl
/-- the rules that can be put next, as the law's code finds them -/
theorem sp_fit {n : Nat} {fss : List (List Nat)} {pre : List Nat} (hn : n ≤ 60) (hl : fss.length ≤ 1000) (hf : ∀ f ∈ fss, FOk n f) (hp : FrS n fss pre) : lcC (fun rule => (if (!(decide (rule ∈ toO pre))) = true then ((g__law_can fss (toO pre) rule).bind fun x => some x) else some false).bind fun b => some b) (fun rule => some rule) ((List.range n).map fun (k : Nat) => (k : Int)) = some (toO (plc n fss (bitsOf pre))) := by
  have pl := hp.len
  rw [lcC_comp, lcC_of (fun r : Nat => !decide (r ∈ pre) && canL fss pre r) (fun r => (r : Int)) (Nat.le_trans (List.length_filter_le _ _) (by simp [cap]; omega)) (fun r hr => ?_) (fun r _ _ => rfl)]
  · congr 1
    unfold toO plc
    congr 1
    exact List.filter_congr fun r _ => Bool.eq_iff_iff.mpr (canL_plc (n := n))
  · have hr := List.mem_range.mp hr
    rw [decide_eq_decide.mpr toO_mem]
    by_cases c : r ∈ pre
    · rw [decide_eq_true c]; rfl
    · rw [decide_eq_false c, sp_can hn hl hf hp.ok.2 (by omega) hr]
      rfl
end Law_strictranks_k26_ways_of_exchanges
end
section
set_option Elab.async false
set_option linter.all false
set_option maxRecDepth 100000
set_option maxHeartbeats 2000000
open PySem PySem.Spec PyProof.Rows L2 L2.VL L2.PM L2.TX
local macro_rules | `(tactic| walk_at "w") => `(tactic| (repeat (first | with_reducible refine wp_some ?_ | with_reducible refine wp_lt ?_ | with_reducible refine wp_bs ?_ | with_reducible refine wp_id ?_ | with_reducible refine wp_assoc ?_); try dsimp only))
namespace Law_strictranks_k26_ways_of_exchanges
theorem sp_pairs {n : Nat} {a b : List Int} (hn : n ≤ 60) (ha : Ord n a) (hb : Ord n b) : g__law_pairs a b = some ((tn (ps b) a : Nat) : Int) := by
  have la := ha.len
  have lb := hb.len
  have mem : ∀ q : Nat, q < n → (q : Int) ∈ b := fun q hq => hb.mem_iff.mpr (by unfold rg; exact List.mem_map.mpr ⟨q, List.mem_range.mpr hq, rfl⟩)
  refine WP.eq ?_
  unfold g__law_pairs
  rw [la, lb]
  refine wp_eq (repL_eq (xs := [(0 : Int)]) (n := n) (by omega) (by simp only [cap, List.length_singleton]; omega)) (wp_eq (rng0 (by omega)) (WP.bind (R := fun w : List Int => w.length = n ∧ ∀ q : Nat, q < n → w[q]? = some ((ps b (q : Int) : Nat) : Int)) ?_ fun w hw => wp_eq (rng0 (by omega)) ?_))
  · refine wp_foN (fun j w => w.length = n ∧ ∀ q : Nat, q < n → ps b (q : Int) < j → w[q]? = some ((ps b (q : Int) : Nat) : Int)) ⟨by simp, fun q _ h => absurd h (Nat.not_lt_zero _)⟩ (fun j w hj h => ?_) fun w h => ⟨h.1, fun q hq => h.2 q hq ?_⟩
    · unfold g__law_pairs_b1
      obtain ⟨r, xr, orr, rn⟩ := ord_at hb hj
      refine wp_eq xr (wp_eq (setL_nat (k := r) (by rw [h.1]; exact rn)) (wp_some ⟨by rw [List.length_set]; exact h.1, fun q hq hlt => ?_⟩))
      by_cases c : q = r
      · subst c
        rw [List.getElem?_set_self (by rw [h.1]; exact rn), ps_at (ord_nd hb) orr]
      · rw [List.getElem?_set_ne (fun z => c z.symm)]
        refine h.2 q hq (Nat.lt_of_le_of_ne (by omega) fun z => ?_)
        have g := ps_get (mem q hq)
        rw [z, orr] at g
        have := Option.some.inj g
        exact c (by omega)
    · have := ps_lt (mem q hq)
      omega
  · have wx : ∀ x ∈ a, ixL w x = some ((ps b x : Nat) : Int) := fun x hx => by
      have ib := ha.inb x hx
      obtain ⟨q, rfl⟩ : ∃ q : Nat, x = q := ⟨x.toNat, by omega⟩
      have hq : q < n := by omega
      have e := hw.2 q hq
      rw [ixL_lt (by rw [hw.1]; exact hq)]
      rw [List.getElem?_eq_getElem (by rw [hw.1]; exact hq)] at e
      exact e
    refine wp_eq (lcC_map (fun x : Int => ((((a.drop x.toNat).filter fun o => decide (ps b o < ps b (a.getD x.toNat 0))).length : Nat) : Int)) (by simp [cap]; omega) (fun _ _ => rfl) fun x hx => ?_) (wp_some ?_)
    · obtain ⟨k, hk, rfl⟩ := List.mem_map.mp hx
      have hk := List.mem_range.mp hk
      rw [Int.toNat_natCast, cutL_drop]
      have ak : a.getD k 0 ∈ a := by rw [List.getD_eq_getElem?_getD, List.getElem?_eq_getElem (by omega)]; exact List.getElem_mem _
      rw [lcC_of (fun o : Int => decide (ps b o < ps b (a.getD k 0))) (fun _ => (1 : Int)) (Nat.le_trans (List.length_filter_le _ _) (by rw [List.length_drop]; simp only [cap]; omega)) (fun o ho => ?_) fun _ _ _ => rfl]
      · show some _ = _
        rw [List.length_map]
      · rw [wx o (List.mem_of_mem_drop ho), ixL_nat 0 (by omega)]
        show (ixL w (a.getD k 0)).bind _ = _
        rw [wx _ ak]
        show some (decide (((ps b o : Nat) : Int) < ((ps b (a.getD k 0) : Nat) : Int))) = _
        exact congrArg some (decide_eq_decide.mpr ⟨fun z => by omega, fun z => by omega⟩)
    · rw [List.map_map, ← tn_rng, ← sum_cast, List.map_map, la]
      congr 1
      refine List.map_congr_left fun k hk => ?_
      have hk := List.mem_range.mp hk
      show (((((a.drop (k : Int).toNat).filter fun o => decide (ps b o < ps b (a.getD (k : Int).toNat 0))).length : Nat) : Int)) = _
      rw [Int.toNat_natCast, List.drop_eq_getElem_cons (by omega), List.filter_cons, if_neg]
      · rfl
      · rw [decide_eq_true_eq, List.getD_eq_getElem?_getD, List.getElem?_eq_getElem (by omega)]
        exact Nat.lt_irrefl _
theorem rp_ints {n : Nat} {ns : List Int} (hl : ns.length ≤ 1000) (h : ∀ i ∈ ns, 0 ≤ i ∧ i < n) (hn : n ≤ 100000) : RB 59 1930000 (rL TX.rI ns) := by
  refine (RB.lst (n := 58) (B := 1921) fun d hd => ?_).mono (by rw [List.length_map]; omega)
  obtain ⟨i, hi, rfl⟩ := List.mem_map.mp hd
  refine RB.int ?_
  have := h i hi
  have : i.natAbs < 2 ^ 17 := by omega
  by_cases z : i.natAbs = 0
  · rw [z]; decide
  · have := (Nat.log2_lt z).mpr this
    omega
theorem rp_int1 {n : Nat} {ns : List Int} (hl : ns.length ≤ 1000) (h : ∀ i ∈ ns, 0 ≤ i ∧ i < n) (hn : n ≤ 100000) : ∃ t, repG (rL TX.rI ns) = some t := by
  have r := rp_ints hl h hn
  obtain ⟨p, e, s, l, k⟩ := r.ex
  refine repG_lst (B := 1930000) ?_ (by omega)
  refine (RB.lst (n := 59) (B := 1921) fun d hd => ?_).mono (by rw [List.length_map]; omega)
  obtain ⟨i, hi, rfl⟩ := List.mem_map.mp hd
  refine RB.int ?_
  have := h i hi
  have : i.natAbs < 2 ^ 17 := by omega
  by_cases z : i.natAbs = 0
  · rw [z]; decide
  · have := (Nat.log2_lt z).mpr this
    omega
theorem rp_int2 {n : Nat} {a b : List Int} (ha : a.length ≤ 1000) (hb : b.length ≤ 1000) (h1 : ∀ i ∈ a, 0 ≤ i ∧ i < n) (h2 : ∀ i ∈ b, 0 ≤ i ∧ i < n) (hn : n ≤ 100000) : ∃ t, repG (rL (rL TX.rI) [a, b]) = some t := by
  refine repG_lst (B := 4000000) ((RB.lst (n := 59) (B := 1930000) fun d hd => ?_).mono (by simp)) (by omega)
  have hd : d = rL TX.rI a ∨ d = rL TX.rI b := by simpa using hd
  rcases hd with rfl | rfl
  · exact rp_ints ha h1 hn
  · exact rp_ints hb h2 hn
/-- two orders side by side differ at two neighbours alone -/
theorem stp_there {n : Nat} {a : List Int} {k : Nat} (ha : Ord n a) (hk : k + 1 < n) : ((List.range n).map fun (i : Nat) => (i : Int)).filter (fun i => !decide (a.getD i.toNat 0 = (swp a k).getD i.toNat 0)) = [(k : Int), (k : Int) + 1] := by
  have la := ha.len
  obtain ⟨u, x, y, v, e, eu, es⟩ := swp_parts (xs := a) (i := k) (by omega)
  have nd := ord_nd ha
  have xy : x ≠ y := fun z => by
    rw [e, z] at nd
    have := (List.nodup_append.mp nd).2.1
    simp at this
  refine rise_uniq ?_ ?_ fun i => ?_
  · exact List.Pairwise.filter _ (List.Pairwise.map _ (fun a b h => by omega) List.pairwise_lt_range)
  · refine List.pairwise_cons.mpr ⟨fun z hz => ?_, by simp⟩
    rw [List.mem_singleton.mp hz]; omega
  · rw [List.mem_filter, List.mem_map]
    simp only [List.mem_cons, List.not_mem_nil, or_false]
    constructor
    · rintro ⟨⟨q, hq, rfl⟩, h⟩
      rw [Int.toNat_natCast] at h
      refine Classical.byContradiction fun z => ?_
      have z1 : q ≠ k := fun y => z (.inl (by rw [y]))
      have z2 : q ≠ k + 1 := fun y => z (.inr (by rw [y]; omega))
      have : a.getD q 0 = (swp a k).getD q 0 := by
        rw [es, List.getD_eq_getElem?_getD, List.getD_eq_getElem?_getD]
        congr 1
        rw [e]
        by_cases c : q < u.length
        · rw [List.getElem?_append_left c, List.getElem?_append_left c]
        · rw [List.getElem?_append_right (by omega), List.getElem?_append_right (by omega)]
          obtain ⟨m, em⟩ : ∃ m, q - u.length = m + 2 := ⟨q - u.length - 2, by omega⟩
          rw [em]
          rfl
      rw [decide_eq_true this] at h
      cases h
    · have g : ∀ j, k ≤ j → j ≤ k + 1 → (a.getD j 0 = if j = k then x else y) ∧ ((swp a k).getD j 0 = if j = k then y else x) := fun j h1 h2 => by
        rw [es, List.getD_eq_getElem?_getD, List.getD_eq_getElem?_getD]
        rw [e, List.getElem?_append_right (by omega), List.getElem?_append_right (by omega)]
        rcases (by omega : j = k ∨ j = k + 1) with rfl | rfl
        · rw [show j - u.length = 0 by omega, if_pos rfl, if_pos rfl]; exact ⟨rfl, rfl⟩
        · rw [show k + 1 - u.length = 1 by omega, if_neg (by omega), if_neg (by omega)]; exact ⟨rfl, rfl⟩
      rintro (rfl | rfl)
      · refine ⟨⟨k, List.mem_range.mpr (by omega), rfl⟩, ?_⟩
        obtain ⟨g1, g2⟩ := g k (by omega) (by omega)
        rw [Int.toNat_natCast, g1, g2, if_pos rfl, if_pos rfl, decide_eq_false xy]; rfl
      · refine ⟨⟨k + 1, List.mem_range.mpr (by omega), by omega⟩, ?_⟩
        obtain ⟨g1, g2⟩ := g (k + 1) (by omega) (by omega)
        rw [show ((k : Int) + 1).toNat = k + 1 by omega, g1, g2, if_neg (by omega), if_neg (by omega), decide_eq_false (fun z => xy z.symm)]; rfl
theorem sp_isstep {n : Nat} {a b : List Int} (hn : n ≤ 60) (ha : Ord n a) (h : Stp a b) : g__law_is_step a b = some true := by
  obtain ⟨k, hk, rfl⟩ := h
  have la := ha.len
  rw [la] at hk
  have hb := swp_ord ha hk
  have lb := hb.len
  refine WP.eq ?_
  unfold g__law_is_step
  rw [la, lb]
  refine wp_if (fun z => by rw [decide_eq_true rfl] at z; cases z) fun _ => wp_eq (rng0 (by omega)) ?_
  refine wp_eq (lcC_flt (fun i : Int => !decide (a.getD i.toNat 0 = (swp a k).getD i.toNat 0)) (by simp [cap]; omega) fun i hi => ?_) ?_
  · obtain ⟨q, hq, rfl⟩ := List.mem_map.mp hi
    have hq := List.mem_range.mp hq
    rw [ixL_nat 0 (by omega), ixL_nat 0 (by omega), Int.toNat_natCast]
    rfl
  rw [stp_there ha hk]
  refine WP.bind (R := fun b => b = false) (wp_if (fun z => by cases z) fun _ => wp_eq (b := (k : Int) + 1) rfl (wp_eq (b := (k : Int)) rfl (wp_some ?_))) fun b hb2 => ?_
  · rw [decide_eq_true rfl]; rfl
  subst hb2
  obtain ⟨t, et⟩ := rp_int1 (n := n) (ns := swp a k) (by omega) (fun i hi => hb.inb i hi) (by omega)
  refine wp_if (fun z => nomatch z) fun _ => wp_eq et (wp_eq (b := (k : Int)) rfl (wp_eq (b := (k : Int) + 1) rfl ?_))
  rw [show (k : Int) + 1 = ((k + 1 : Nat) : Int) by omega]
  refine wp_eq (ixL_nat 0 (by omega)) (wp_eq (b := (k : Int)) rfl (wp_eq (ixL_nat 0 (by omega)) ?_))
  rw [cutL_take]
  have l1 := List.length_take_le k a
  refine wp_eq (catL_eq (by simp only [List.length_cons, List.length_nil, cap]; omega)) (wp_eq (b := ((k + 1 : Nat) : Int)) rfl ?_)
  rw [show ((k + 1 : Nat) : Int) + 1 = ((k + 2 : Nat) : Int) by omega, cutL_drop]
  refine wp_eq (catL_eq (by simp only [List.length_append, List.length_drop, List.length_cons, List.length_nil, cap]; omega)) ?_
  show WP ((repG (rL TX.rI (swp a k))).bind _) _
  exact wp_eq et (wp_some (decide_eq_true rfl))
theorem sp_wandered {k : Nat} {t : List Int} (ht : Well k t) (hk : k ≤ 50000) {n : Nat} {fss : List (List Nat)} (hn : 1 ≤ n ∧ n ≤ 60) (hl : fss.length ≤ 1000) (hf : ∀ f ∈ fss, FOk n f) (nb : ¬ BarF n fss) : WP (g__law_wandered t n fss) fun p => Hld n fss p.1 ∧ Well (k + 64) p.2 := by
  unfold g__law_wandered
  refine wp_out ((wp_wh (fun s => ∃ pre, s.2 = toO pre ∧ FrS n fss pre ∧ Well (k + pre.length) s.1) (fun s => n - s.2.length) ⟨[], rfl, FrS.nil, ht⟩ fun s ⟨pre, es, hp, hw⟩ => ?_).mono fun w h => h)
  obtain ⟨t1, found⟩ := s
  dsimp only at es hw
  subst es
  have pl := hp.len
  have ll : (toO pre).length = pre.length := by unfold toO; rw [List.length_map]
  refine wp_some ⟨fun c => ?_, fun c => ?_⟩
  · have c : ((toO pre).length : Int) < n := of_decide_eq_true c
    have lt : pre.length < n := by omega
    unfold g__law_wandered_b1
    dsimp only
    refine wp_eq (rng0 (by omega)) (wp_eq (sp_fit hn.2 hl hf hp) ?_)
    obtain ⟨c2, hc2⟩ := cpm_ne hf nb hp
    obtain ⟨d, ed⟩ : ∃ d, n - pre.length = d + 1 := ⟨n - pre.length - 1, by omega⟩
    rw [ed, cpm] at hc2
    have np : plc n fss (bitsOf pre) ≠ [] := fun z => by rw [z] at hc2; simp at hc2
    have lp : 0 < (plc n fss (bitsOf pre)).length := List.length_pos_iff.mpr np
    have lq : (toO (plc n fss (bitsOf pre))).length = (plc n fss (bitsOf pre)).length := by unfold toO; rw [List.length_map]
    refine (sp_pick hw (by omega) ⟨by omega, ?_⟩).bind fun x hx => ?_
    · have : (plc n fss (bitsOf pre)).length ≤ n := plc_len
      omega
    obtain ⟨j, ej⟩ : ∃ j : Nat, x.1 = j := ⟨x.1.toNat, by have := hx.1; omega⟩
    have hj : j < (plc n fss (bitsOf pre)).length := by have := hx.1; omega
    rw [ej]
    have ei : ixL (toO (plc n fss (bitsOf pre))) (j : Int) = some (((plc n fss (bitsOf pre))[j] : Nat) : Int) := by
      rw [ixL_lt (by omega)]
      unfold toO
      rw [List.getElem_map]
    refine wp_eq ei (wp_eq (appL_eq (by simp only [cap]; omega)) (wp_some ⟨⟨pre ++ [(plc n fss (bitsOf pre))[j]], by simp [toO], hp.snoc (List.getElem_mem _), ?_⟩, ?_⟩))
    · rw [List.length_append, List.length_singleton]; exact hx.2
    · dsimp only
      rw [List.length_append, List.length_singleton]
      omega
  · have c : ¬ (((toO pre).length : Int) < n) := of_decide_eq_false c
    have e : pre.length = n := by omega
    exact wp_some ⟨hp.full e, hw.mono (by omega)⟩
end Law_strictranks_k26_ways_of_exchanges
end
section
set_option Elab.async false
set_option linter.all false
set_option maxRecDepth 100000
set_option maxHeartbeats 2000000
open PySem PySem.Spec PyProof.Rows L2 L2.VL L2.PM L2.TX
local macro_rules | `(tactic| walk_at "w") => `(tactic| (repeat (first | with_reducible refine wp_some ?_ | with_reducible refine wp_lt ?_ | with_reducible refine wp_bs ?_ | with_reducible refine wp_id ?_ | with_reducible refine wp_assoc ?_); try dsimp only))
namespace Law_strictranks_k26_ways_of_exchanges
theorem last_ix {α : Type} {xs : List α} {x : α} (h : xs.getLast? = some x) : ixL xs (-1) = some x := by
  obtain ⟨ys, rfl⟩ : ∃ ys, xs = ys ++ [x] := by
    rcases List.eq_nil_or_concat xs with rfl | ⟨ys, y, rfl⟩
    · cases h
    · have : y = x := by simpa using h
      exact ⟨ys, by simp [this]⟩
  exact ixL_end
theorem zip_steps {α : Type} {P : α → α → Prop} {xs : List α} (h : ∀ i a b, xs[i]? = some a → xs[i + 1]? = some b → P a b) : ∀ p ∈ xs.zip (xs.drop 1), P p.1 p.2 := fun p hp => by
  obtain ⟨i, hi, e⟩ := List.getElem_of_mem hp
  have e2 : (xs.zip (xs.drop 1))[i]? = some p := by rw [List.getElem?_eq_getElem hi, e]
  rw [List.getElem?_zip_eq_some] at e2
  exact h i _ _ e2.1 (by have := e2.2; rwa [List.getElem?_drop, Nat.add_comm 1 i] at this)
theorem sp_lawway {n : Nat} {fss : List (List Nat)} {os ot : List Int} (hn : 1 ≤ n ∧ n ≤ 14) (hl : fss.length ≤ 200) (hf : ∀ f ∈ fss, FOk n f) (ho : Hld n fss os) (ht : Hld n fss ot) : g__law_way n fss os ot = some true := by
  have tl : tn (ps ot) os ≤ 196 := by
    have := tn_le (key := ps ot) (a := os)
    rw [ho.1.len] at this
    have : n * n ≤ 14 * 14 := Nat.mul_le_mul hn.2 hn.2
    omega
  have lo := ho.1.len
  have lt_ := ht.1.len
  have eq : eqG (fun p : List (List Nat) × List Int × List Int => (fun xs => xs.all okS) p.1 && ((fun _ => true) p.2.1 && (fun _ => true) p.2.2)) (fss, os, ot) (fss, os, ot) = some true := eqG_same (by
    show (fss.all okS && (true && true)) = true
    rw [FOk_okl hf]; rfl)
  refine WP.eq ?_
  unfold g__law_way
  refine wp_lt ((sp_wayX hn hl hf ho ht).bind fun way hw => ?_)
  obtain ⟨w1, w2, w3, w4, w5⟩ := hw
  refine WP.bind (R := fun b => b = false) (wp_if (fun z => by cases z) fun _ => wp_eq (sp_pairs (by omega) ho.1 ht.1) (WP.bind (R := fun b => b = false) (wp_if (fun z => ?_) fun _ => wp_eq eq (wp_some rfl)) fun b hb => wp_some hb)) fun b hb => ?_
  · rw [w1, decide_eq_true (by omega)] at z
    cases z
  subst hb
  obtain ⟨tx, et⟩ := rp_int2 (n := n) (a := os) (b := ot) (by omega) (by omega) (fun i h => ho.1.inb i h) (fun i h => ht.1.inb i h) (by omega)
  have wl : 0 < way.length := by omega
  have e0 : ixL way 0 = some os := by
    have := ixL_lt (xs := way) (k := 0) wl
    rw [List.getElem?_eq_getElem wl] at w2
    rw [← w2]
    exact this
  refine wp_if (fun z => nomatch z) fun _ => wp_eq e0 (wp_eq (last_ix w3) (wp_eq et (wp_eq et (wp_if (fun z => by rw [decide_eq_true rfl] at z; cases z) fun _ => ?_))))
  rw [show cutL way (some 1) none = way.drop 1 from cutL_drop way 1]
  have zl : (way.zip (way.drop 1)).length ≤ 1000 := by rw [List.length_zip]; omega
  refine wp_eq (lcC_of (fun _ => false) (fun _ => (1 : Int)) (Nat.le_trans (List.length_filter_le _ _) (by simp only [cap]; omega)) (fun p hp => ?_) fun _ _ _ => rfl) ?_
  · have hst := zip_steps (P := fun a b => Hld n fss a ∧ Stp a b) (xs := way) (fun i a b ha hb => ⟨w4 a (List.mem_of_getElem? ha), w5 i a b ha hb⟩) p hp
    rw [sp_isstep (by omega) hst.1.1 hst.2]
    rfl
  have ef : ((way.zip (way.drop 1)).filter fun _ => false) = [] := List.filter_eq_nil_iff.mpr fun _ _ z => by cases z
  rw [ef, List.map_nil]
  refine wp_if (fun z => by rw [decide_eq_true rfl] at z; cases z) fun _ => ?_
  refine wp_eq (lcC_of (fun _ => false) (fun _ => (1 : Int)) (Nat.le_trans (List.length_filter_le _ _) (by simp only [cap]; omega)) (fun o hom => ?_) fun _ _ _ => rfl) ?_
  · have hh := w4 o hom
    have e1 : lcC (fun fact_here => (g__law_holds o fact_here).bind fun x_7 => some (!x_7)) (fun fact_here => some fact_here) fss = some [] := by
      rw [lcC_flt (fun _ => false) (by simp only [cap]; omega) fun f h => by rw [sp_lawholds (by omega) (by rw [hh.1.len]; omega) hh.1.inb (hf f h), Hd_iff.mpr (hh.2 f h)]; rfl]
      rw [List.filter_eq_nil_iff.mpr fun _ _ z => by cases z]
    rw [e1]
    show (eqG (fun xs : List (List Nat) => xs.all okS) [] []).bind (fun b_3 => some (!b_3)) = _
    rw [eqG_nil (n := n) (gs := []) fun f h => by cases h]
    rfl
  have ef2 : (way.filter fun _ => false) = [] := List.filter_eq_nil_iff.mpr fun _ _ z => by cases z
  rw [ef2, List.map_nil]
  refine wp_if (fun z => by rw [decide_eq_true rfl] at z; cases z) fun _ => ?_
  have er : revI way 0 = some (way.set 0 (way[0]).reverse) := by
    unfold revI
    have : ixN way.length 0 = some 0 := by unfold ixN; rw [if_pos (by omega), if_pos (by simp; omega)]; rfl
    rw [this]
    show (way[0]?).map _ = _
    rw [List.getElem?_eq_getElem wl]
    rfl
  exact wp_eq er (wp_eq eq (wp_some rfl))
theorem sp_far {k : Nat} {t : List Int} (ht : Well k t) (hk : k ≤ 40000) {n : Nat} (hn : 1 ≤ n ∧ n ≤ 60) : WP (g__law_far t n) fun p => p.1 = true ∧ Well (k + 128) p.2 := by
  unfold g__law_far
  refine (sp_order ht (by omega) hn.2).bind fun a ha => (sp_order ha.2 (by omega) hn.2).bind fun b hb => ?_
  have la := ha.1.len
  have e : tn (ps a.1) b.1 = tn (ps b.1) a.1 := tn_sym (ord_nd hb.1) (ord_pm ha.1 hb.1)
  have es : tn (ps a.1) a.1 = 0 := tn_self (ord_nd ha.1)
  have tl : tn (ps b.1) a.1 ≤ 3600 := by
    have := tn_le (key := ps b.1) (a := a.1)
    rw [la] at this
    have : n * n ≤ 60 * 60 := Nat.mul_le_mul hn.2 hn.2
    omega
  refine wp_eq (sp_pairs hn.2 ha.1 hb.1) (wp_eq (by rw [sp_exchangesX hn ha.1 hb.1]; rfl) (wp_eq (by rw [sp_exchangesX hn hb.1 ha.1, e]; rfl) (wp_eq (by rw [sp_exchangesX hn ha.1 ha.1, es]; rfl) (wp_lt ?_))))
  obtain ⟨tx, et⟩ := rp_int1 (n := 4000) (ns := [((tn (ps b.1) a.1 : Nat) : Int), ((tn (ps b.1) a.1 : Nat) : Int), ((0 : Nat) : Int)]) (by simp) (fun i hi => by
    simp only [List.mem_cons, List.not_mem_nil, or_false] at hi
    rcases hi with rfl | rfl | rfl <;> omega) (by omega)
  exact wp_eq et (wp_eq et (wp_some ⟨decide_eq_true rfl, hb.2.mono (by omega)⟩))
end Law_strictranks_k26_ways_of_exchanges
end
section
set_option Elab.async false
set_option linter.all false
set_option maxRecDepth 100000
set_option maxHeartbeats 2000000
open PySem PySem.Spec PyProof.Rows L2 L2.VL L2.PM L2.TX
local macro_rules | `(tactic| walk_at "w") => `(tactic| (repeat (first | with_reducible refine wp_some ?_ | with_reducible refine wp_lt ?_ | with_reducible refine wp_bs ?_ | with_reducible refine wp_id ?_ | with_reducible refine wp_assoc ?_); try dsimp only))
namespace Law_strictranks_k26_ways_of_exchanges
theorem sp_right {t : List Int} (ht : Well 0 t) : WP (g__law_right t) fun p => p.1 = true := by
  unfold g__law_right
  refine (sp_pick ht (by omega) ⟨by decide, by decide⟩).bind fun x hx => ?_
  obtain ⟨n, en, hn⟩ : ∃ n : Nat, 1 + x.1 = n ∧ 1 ≤ n ∧ n ≤ 14 := ⟨(1 + x.1).toNat, by have := hx.1; omega, by have := hx.1; omega, by have := hx.1; omega⟩
  rw [lt_eq, en]
  have hn6 : 1 ≤ n ∧ n ≤ 60 := by omega
  refine (sp_order hx.2 (by omega) hn6.2).bind fun hid hh => (sp_pick hh.2 (by omega) ⟨by decide, by decide⟩).bind fun y hy => ?_
  obtain ⟨m, em, hm⟩ : ∃ m : Nat, ixL [(8 : Int), 8, 8, 60] y.1 = some (m : Int) ∧ m ≤ 60 := by
    rcases (by have := hy.1; omega : y.1 = 0 ∨ y.1 = 1 ∨ y.1 = 2 ∨ y.1 = 3) with e | e | e | e <;> rw [e]
    · exact ⟨8, rfl, by omega⟩
    · exact ⟨8, rfl, by omega⟩
    · exact ⟨8, rfl, by omega⟩
    · exact ⟨60, rfl, by omega⟩
  refine wp_eq em ((sp_lawfacts hy.2 (by omega) hn6 hh.1.len hh.1.inb hm (tr := true)).bind fun fs hfs => ?_)
  have hf : ∀ f ∈ fs.1, FOk n f := fun f h => (hfs.1.2 f h).1
  have hhid : Hld n fs.1 hid.1 := ⟨hh.1, fun f h => (hfs.1.2 f h).2 rfl⟩
  have hl : fs.1.length ≤ 60 := by have := hfs.1.1; omega
  have nb : ¬ BarF n fs.1 := fun z => z hid.1 hh.1 hhid.2
  refine (sp_wandered hfs.2 (by omega) hn6 (by omega) hf nb).bind fun oth ho => (sp_order ho.2 (by omega) hn6.2).bind fun any ha => ?_
  have way : ∀ os ot, Hld n fs.1 os → Hld n fs.1 ot → g__law_way n fs.1 os ot = some true := fun os ot h1 h2 => sp_lawway hn (by omega) hf h1 h2
  refine wp_out (wp_foW (fun _ _ => True) trivial (fun pre p post s e _ => ?_) fun s _ => ?_)
  · unfold g__law_right_b1
    have hp : p ∈ [(hid.1, oth.1), (oth.1, hid.1), (oth.1, oth.1)] := by rw [e]; simp
    have : Hld n fs.1 p.1 ∧ Hld n fs.1 p.2 := by
      simp only [List.mem_cons, List.not_mem_nil, or_false] at hp
      rcases hp with rfl | rfl | rfl
      · exact ⟨hhid, ho.1⟩
      · exact ⟨ho.1, hhid⟩
      · exact ⟨ho.1, ho.1⟩
    exact wp_eq (way _ _ this.1 this.2) (wp_if (fun z => nomatch z) fun _ => wp_some trivial)
  · have wa : Well 20000 any.2 := ha.2.mono (by omega)
    have tail : ∀ {β : Type} (k : Bool × List Int → Option β) (Q : β → Prop), (∀ w : Bool × List Int, w.1 = true → WP (k w) Q) → WP ((g__law_far any.2 n).bind fun x_7 => (if x_7.1 = true then ((g__law_pick x_7.2 60).bind fun x_8 => (g__law_far x_8.2 (1 + x_8.1)).bind fun x_9 => some (x_9.1, x_9.2)) else some (false, x_7.2)).bind k) Q := fun k Q hk => by
      refine (sp_far wa (by omega) hn6).bind fun u hu => WP.bind (R := fun w : Bool × List Int => w.1 = true) (wp_if (fun _ => ?_) fun z => by rw [hu.1] at z; cases z) fun w hw => hk w hw
      refine (sp_pick hu.2 (by omega) ⟨by decide, by decide⟩).bind fun v hv => ?_
      obtain ⟨m2, em2, hm2⟩ : ∃ m : Nat, 1 + v.1 = m ∧ 1 ≤ m ∧ m ≤ 60 := ⟨(1 + v.1).toNat, by have := hv.1; omega, by have := hv.1; omega, by have := hv.1; omega⟩
      rw [em2]
      exact (sp_far hv.2 (by omega) hm2).bind fun w hw => wp_some hw.1
    have e1 : lcC (fun fact_here => (g__law_holds any.1 fact_here).bind fun x_4 => some (!x_4)) (fun fact_here => some fact_here) fs.1 = some (fs.1.filter fun f => !Hd any.1 f) :=
      lcC_flt (fun f => !Hd any.1 f) (by simp only [cap]; omega) fun f h => by rw [sp_lawholds (by omega) (by rw [ha.1.len]; omega) ha.1.inb (hf f h)]; rfl
    refine wp_eq e1 (wp_eq (eqG_nil (n := n) fun f h => hf f (List.mem_filter.mp h).1) (wp_ifd (fun z => ?_) fun z => ?_))
    · have hany : Hld n fs.1 any.1 := ⟨ha.1, fun f h => Hd_iff.mp (by
        have := List.filter_eq_nil_iff.mp z f h
        simpa using this)⟩
      exact wp_eq (way _ _ hany hhid) (wp_if (fun z => nomatch z) fun _ => tail _ _ fun w hw => wp_some hw)
    · have na : ¬ ∀ f ∈ fs.1, fsgn any.1 f ≠ 76 := fun y => z (List.filter_eq_nil_iff.mpr fun f h => by
        have := Hd_iff.mpr (y f h)
        rw [this]; simp)
      refine wp_out (wp_foW (fun _ _ => True) trivial (fun pre p post s e _ => ?_) fun s _ => tail _ _ fun w hw => wp_some hw)
      unfold g__law_right_b2
      have hp : p ∈ [(any.1, hid.1), (hid.1, any.1), (any.1, any.1)] := by rw [e]; simp
      have : Ord n p.1 ∧ Ord n p.2 ∧ ¬ ((∀ f ∈ fs.1, fsgn p.1 f ≠ 76) ∧ ∀ f ∈ fs.1, fsgn p.2 f ≠ 76) := by
        simp only [List.mem_cons, List.not_mem_nil, or_false] at hp
        rcases hp with rfl | rfl | rfl
        · exact ⟨ha.1, hh.1, fun y => na y.1⟩
        · exact ⟨hh.1, ha.1, fun y => na y.2⟩
        · exact ⟨ha.1, ha.1, fun y => na y.1⟩
      exact wp_eq (sp_fails hn (by omega) hf this.1 this.2.1 this.2.2) (wp_if (fun z => nomatch z) fun _ => wp_some trivial)
theorem sp_well {ns : List Int} {k : Nat} (hk : k < 4) : WP (g__law_well ns (k : Int)) (Well 0) := by
  unfold g__law_well
  refine WP.bind (R := fun _ => True) (wp_ifd (fun h => ?_) fun _ => wp_some trivial) fun c _ => ?_
  · exact wp_eq (ixL_lt (by omega)) (wp_some trivial)
  refine wp_eq (modI_eq (by decide)) (wp_some ?_)
  have a := Int.emod_nonneg (if c < 0 then -c else c) (show ((10000000000000000000000000000000 : Int) + 33) ≠ 0 by decide)
  have b := Int.emod_lt_of_pos (if c < 0 then -c else c) (show (0 : Int) < (10000000000000000000000000000000 : Int) + 33 by decide)
  generalize (if c < 0 then -c else c) % (10000000000000000000000000000000 + 33) = X at a b
  refine ⟨_, _, _, rfl, ?_, ⟨by omega, by omega⟩, by omega, by omega⟩
  split <;> omega
theorem sp_law {ns : List Int} (hn : ns.length ≤ 63) : g_law ns = some true := by
  refine WP.eq ?_
  unfold g_law
  obtain ⟨m, em, hm⟩ : ∃ m : Nat, (if (if (ns.length : Int) < 4 then (ns.length : Int) else 4) > 1 then (if (ns.length : Int) < 4 then (ns.length : Int) else 4) else 1) = m ∧ m ≤ 4 := by
    by_cases c : (ns.length : Int) < 4
    · rw [if_pos c]
      by_cases d : (ns.length : Int) > 1
      · rw [if_pos d]; exact ⟨_, rfl, by omega⟩
      · rw [if_neg d]; exact ⟨1, rfl, by omega⟩
    · rw [if_neg c]; exact ⟨4, rfl, by omega⟩
  rw [em]
  refine wp_eq (rng0 (by omega)) (wp_out (wp_foWN (fun _ _ => True) trivial ?_ fun s _ => wp_some rfl))
  rintro k s hk _
  unfold g_law_b1
  refine (sp_well (by omega)).bind fun t ht => (sp_right ht).bind fun p hp => ?_
  rw [hp]
  exact wp_if (fun z => nomatch z) fun _ => wp_some trivial
end Law_strictranks_k26_ways_of_exchanges
end
section
set_option Elab.async false
set_option linter.all false
set_option maxRecDepth 100000
set_option maxHeartbeats 2000000
open PySem PySem.Spec PyProof.Rows L2 L2.VL L2.PM L2.TX
local macro_rules | `(tactic| walk_at "w") => `(tactic| (repeat (first | with_reducible refine wp_some ?_ | with_reducible refine wp_lt ?_ | with_reducible refine wp_bs ?_ | with_reducible refine wp_id ?_ | with_reducible refine wp_assoc ?_); try dsimp only))
namespace Law_strictranks_k26_ways_of_exchanges
theorem law_spec' (ns : List Int) (hn : ns.length ≤ 63) : L2.VL.FRes.post (F_law [L2.VL.shA (.lst (ns.map fun n => .con (.int n)))]) (fun d _ _ => d = .bl true) fun _ _ => False := by
  obtain ⟨outs, e⟩ := (rf_law ns).run true (sp_law hn)
  have e : F_law [L2.VL.shA (.lst (ns.map fun n => .con (.int n)))] = some (.ret (rB true) false outs) := e
  rw [e]
  exact rfl
end Law_strictranks_k26_ways_of_exchanges
end
set_option maxRecDepth 100000
theorem PySem.Challenge.cw_strictranks_k26_ways_of_exchanges_holds : PySem.Challenge.rw_strictranks_k26_ways_of_exchanges.Holds := by
  exact Law_strictranks_k26_ways_of_exchanges.holds Law_strictranks_k26_ways_of_exchanges.law_spec'
