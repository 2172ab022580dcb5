import PyProof.Rows.All
import Wide.All
import OpenK.AllK
import Wide.FinOn
import KE.KStateDown
import HandS.ForMost
import HandS.Exc
import HandS.TryOnly
import HandS.ExcOwn
import HandS.Wide
import HandS.IsInst
import HandS.Defaults
import HandS.WordsExc
import HandS.HeadHook1
import HandS.HeadHook2
import HandS.CallSlots
import HandS.SortInts
import HandS.Text
import HandS.Head0
import HandS.Head1
import HandS.Head2
import HandS.HeadEnd
import HandS.Conv
import HandS.Style
import HandS.More
import HandS.TupLe
import HandS.SortOrd
import HandS.SortRule
import PyProof.Draws
import PyProof.EnumMake
import HandS.SetFor
import PyProof.SetRoads
import PyProof.Rows.SetFrom
import PyProof.StrOps2
import HandS.SetBool
import HandS.Strs
import KE.DataCmp
import KE.KStar
import HandS.Star
import HandS.ExcField
import HandS.ExcInit
import KE.KDictSum
import HandS.ExcValue
import PySem.Challenge.RW_strictranks_k61_whole_orders_or_barring
section
set_option Elab.async false
set_option linter.all false
set_option maxRecDepth 100000
/-! VLa: values as data, ownership, the relation between slots and the abstract heap. -/
namespace L2.VL
open PySem PySem.Spec PyProof.Rows

/-! ### data -/
inductive D where
  | con (v : V)
  | lst (xs : List D)
  | tup (xs : List D)
  | dic (kvs : List (Key × D))
  | dit (kvs : List (List Key × D))
abbrev D.int (i : Int) : D := .con (.int i)
abbrev D.str (s : Str) : D := .con (.str s)
abbrev D.bl (b : Bool) : D := .con (.bl b)
abbrev D.non : D := .con .non

/-- a list, a tuple of the written part -/
def KL (K : PySem.W.Frag) (a : Addr) (vs : List V) : Prop :=
  ∃ (o : Obj) (its : Array Value) (n : Nat), K.lookup a = some o ∧ o.cls = .type "list" ∧ o.dict = none ∧ o.data = .seq its n ∧ its.size ≤ sizeLine ∧ Vals vs its.toList
def KT (K : PySem.W.Frag) (a : Addr) (vs : List V) : Prop :=
  ∃ (o : Obj) (its : Array Value) (n : Nat), K.lookup a = some o ∧ o.cls = .type "tuple" ∧ o.data = .seq its n ∧ its.size ≤ sizeLine ∧ Vals vs its.toList

mutual
/-- the value v is the data d; L: the addresses that it may not hold -/
inductive Rep (K : PySem.W.Frag) (H : Hp) (L : Addr → Prop) : V → D → Prop
  | con (v : V) : Rep K H L v (.con v)
  | obj {a : Addr} {ho : HO} {d : D} : ¬ L a → Rd H a ho → Cont K H L ho d → Rep K H L (.ref a) d
  | kl {a : Addr} {vs : List V} {ds : List D} : KL K a vs → Reps K H L vs ds → Rep K H L (.ref a) (.lst ds)
  | kt {a : Addr} {vs : List V} {ds : List D} : KT K a vs → Reps K H L vs ds → Rep K H L (.ref a) (.tup ds)
inductive Reps (K : PySem.W.Frag) (H : Hp) (L : Addr → Prop) : List V → List D → Prop
  | nil : Reps K H L [] []
  | cons {v : V} {vs : List V} {d : D} {ds : List D} : Rep K H L v d → Reps K H L vs ds → Reps K H L (v :: vs) (d :: ds)
inductive RepK (K : PySem.W.Frag) (H : Hp) (L : Addr → Prop) : List (Key × V) → List (Key × D) → Prop
  | nil : RepK K H L [] []
  | cons {k : Key} {v : V} {vs : List (Key × V)} {d : D} {ds : List (Key × D)} : Rep K H L v d → RepK K H L vs ds → RepK K H L ((k, v) :: vs) ((k, d) :: ds)
inductive RepT (K : PySem.W.Frag) (H : Hp) (L : Addr → Prop) : List (List Key × V) → List (List Key × D) → Prop
  | nil : RepT K H L [] []
  | cons {k : List Key} {v : V} {vs : List (List Key × V)} {d : D} {ds : List (List Key × D)} : Rep K H L v d → RepT K H L vs ds → RepT K H L ((k, v) :: vs) ((k, d) :: ds)
/-- what an object's content says -/
inductive Cont (K : PySem.W.Frag) (H : Hp) (L : Addr → Prop) : HO → D → Prop
  | lst {vs : List V} {ds : List D} : Reps K H L vs ds → Cont K H L (.lst vs) (.lst ds)
  | tup {vs : List V} {ds : List D} : Reps K H L vs ds → Cont K H L (.tup vs) (.tup ds)
  | dic {vs : List (Key × V)} {ds : List (Key × D)} : RepK K H L vs ds → Cont K H L (.dK vs) (.dic ds)
  | dit {vs : List (List Key × V)} {ds : List (List Key × D)} : RepT K H L vs ds → Cont K H L (.dT vs) (.dit ds)
end

section
variable {K : PySem.W.Frag} {H H' : Hp} {L L' : Addr → Prop}
/-- what is read stays -/
def Stay (H H' : Hp) (L L' : Addr → Prop) : Prop := ∀ a o, ¬ L a → H a = some o → H' a = some o ∧ ¬ L' a
theorem Stay.rd (h : Stay H H' L L') {a : Addr} {ho : HO} (n : ¬ L a) (r : Rd H a ho) : Rd H' a ho ∧ ¬ L' a := by
  rcases r with r | ⟨o, r⟩
  · exact ⟨.inl (h a _ n r).1, (h a _ n r).2⟩
  · exact ⟨.inr ⟨o, (h a _ n r).1⟩, (h a _ n r).2⟩
mutual
theorem Rep.mono (h : Stay H H' L L') : ∀ {v : V} {d : D}, Rep K H L v d → Rep K H' L' v d
  | _, _, .con v => .con v
  | _, _, .obj n r c => .obj (h.rd n r).2 (h.rd n r).1 (Cont.mono h c)
  | _, _, .kl k r => .kl k (Reps.mono h r)
  | _, _, .kt k r => .kt k (Reps.mono h r)
theorem Reps.mono (h : Stay H H' L L') : ∀ {v : List V} {d : List D}, Reps K H L v d → Reps K H' L' v d
  | _, _, .nil => .nil
  | _, _, .cons a b => .cons (Rep.mono h a) (Reps.mono h b)
theorem RepK.mono (h : Stay H H' L L') : ∀ {v : List (Key × V)} {d : List (Key × D)}, RepK K H L v d → RepK K H' L' v d
  | _, _, .nil => .nil
  | _, _, .cons a b => .cons (Rep.mono h a) (RepK.mono h b)
theorem RepT.mono (h : Stay H H' L L') : ∀ {v : List (List Key × V)} {d : List (List Key × D)}, RepT K H L v d → RepT K H' L' v d
  | _, _, .nil => .nil
  | _, _, .cons a b => .cons (Rep.mono h a) (RepT.mono h b)
theorem Cont.mono (h : Stay H H' L L') : ∀ {v : HO} {d : D}, Cont K H L v d → Cont K H' L' v d
  | _, _, .lst r => .lst (Reps.mono h r)
  | _, _, .tup r => .tup (Reps.mono h r)
  | _, _, .dic r => .dic (RepK.mono h r)
  | _, _, .dit r => .dit (RepT.mono h r)
end
theorem Reps.len : ∀ {v : List V} {d : List D}, Reps K H L v d → v.length = d.length
  | _, _, .nil => rfl
  | _, _, .cons _ b => congrArg (· + 1) b.len
theorem Reps.get : ∀ {v : List V} {d : List D} {i : Nat} {x : D}, Reps K H L v d → d[i]? = some x → ∃ u, v[i]? = some u ∧ Rep K H L u x
  | _, _, _, _, .nil, e => by simp at e
  | _, _, 0, _, .cons a b, e => by simp at e; subst e; exact ⟨_, rfl, a⟩
  | _, _, i + 1, x, .cons a b, e => by
    obtain ⟨u, h1, h2⟩ := Reps.get (i := i) (x := x) b (by simpa using e)
    exact ⟨u, by simpa using h1, h2⟩
theorem Reps.append : ∀ {v w : List V} {d e : List D}, Reps K H L v d → Reps K H L w e → Reps K H L (v ++ w) (d ++ e)
  | _, _, _, _, .nil, r => r
  | _, _, _, _, .cons a b, r => .cons a (b.append r)
theorem Reps.set {u : V} {x : D} (r : Rep K H L u x) : ∀ {v : List V} {d : List D} (i : Nat), Reps K H L v d → Reps K H L (v.set i u) (d.set i x)
  | _, _, _, .nil => .nil
  | _, _, 0, .cons _ b => .cons r b
  | _, _, i + 1, .cons a b => .cons a (Reps.set r i b)
theorem Reps.take : ∀ {v : List V} {d : List D} (n : Nat), Reps K H L v d → Reps K H L (v.take n) (d.take n)
  | _, _, 0, _ => by simpa using .nil
  | _, _, _ + 1, .nil => .nil
  | _, _, n + 1, .cons a b => .cons a (Reps.take n b)
theorem Reps.drop : ∀ {v : List V} {d : List D} (n : Nat), Reps K H L v d → Reps K H L (v.drop n) (d.drop n)
  | _, _, 0, r => r
  | _, _, _ + 1, .nil => .nil
  | _, _, n + 1, .cons a b => Reps.drop n b
/-- scalars -/
theorem Reps.cons_map {α : Type} (f : α → V) : ∀ xs : List α, Reps K H L (xs.map f) (xs.map fun x => .con (f x))
  | [] => .nil
  | x :: r => .cons (.con _) (Reps.cons_map f r)
theorem Rep.con_inv {v c : V} (r : Rep K H L v (.con c)) : v = c := by
  cases r with
  | con => rfl
  | obj _ _ c => cases c
theorem Reps.con_inv {α : Type} {f : α → V} : ∀ {v : List V} {xs : List α}, Reps K H L v (xs.map fun x => .con (f x)) → v = xs.map f
  | _, [], r => by cases r; rfl
  | _, x :: xs, r => by
    cases r with
    | cons a b => rw [a.con_inv, b.con_inv]; rfl
end

/-! ### ownership -/
inductive Ow where
  | sl (i : Nat) | tp (n : Nat) | out
  deriving DecidableEq
abbrev Own := Addr → Option Ow
def lin (O : Own) (a : Addr) : Prop := O a ≠ none
structure Slot where
  d : D
  own : Bool
  pin : Bool
abbrev Rho := List (Option Slot)
inductive Kd where
  | shr | fr | nm (i : Nat)
structure Tmp where
  v : V
  d : D
  k : Kd
/-- what stays the same through a def's body: what stands outside, what is outside's own, the pinned parameters -/
structure Fix where
  K : PySem.W.Frag
  Fr : Hp
  Out : Addr → Prop
  Pin : Nat → Option V
def Owned (K : PySem.W.Frag) (H : Hp) (O : Own) (w : Ow) (v : V) (d : D) : Prop :=
  ∃ a ho, v = .ref a ∧ O a = some w ∧ H a = some ho ∧ Cont K H (lin O) ho d
def SlotOk (K : PySem.W.Frag) (H : Hp) (O : Own) (i : Nat) (v : V) (s : Slot) : Prop :=
  match s.own with
  | true => Owned K H O (.sl i) v s.d
  | false => Rep K H (lin O) v s.d
def TmpOk (K : PySem.W.Frag) (H : Hp) (O : Own) (σ : St) (n : Nat) (t : Tmp) : Prop :=
  match t.k with
  | .shr => Rep K H (lin O) t.v t.d
  | .fr => Owned K H O (.tp n) t.v t.d
  | .nm i => σ[i]? = some (some t.v)
def TmpsOk (K : PySem.W.Frag) (H : Hp) (O : Own) (σ : St) : List Tmp → Prop
  | [] => True
  | t :: T => TmpOk K H O σ T.length t ∧ TmpsOk K H O σ T
structure Rel (G : Fix) (O : Own) (σ : St) (H : Hp) (ρ : Rho) (T : List Tmp) : Prop where
  len : ρ.length = σ.length
  fr : ∀ b o, G.Fr b = some o → H b = some o ∧ (O b = none ∨ O b = some .out)
  ot : ∀ b, O b = some .out ↔ G.Out b
  tr : ∀ a w, O a = some w → ∃ o, H a = some o
  pn : ∀ i v, G.Pin i = some v → σ[i]? = some (some v) ∧ ∃ s, ρ[i]? = some (some s) ∧ s.pin = true
  sl : ∀ i s, ρ[i]? = some (some s) → ∃ v, σ[i]? = some (some v) ∧ SlotOk G.K H O i v s
  tm : TmpsOk G.K H O σ T

/-! ### what may be read of a value -/
def Vw (K : PySem.W.Frag) (H : Hp) (O : Own) (v : V) (d : D) : Prop :=
  Rep K H (lin O) v d ∨ ∃ a ho, v = .ref a ∧ H a = some ho ∧ Cont K H (lin O) ho d
theorem Owned.vw {K : PySem.W.Frag} {H : Hp} {O : Own} {w : Ow} {v : V} {d : D} (h : Owned K H O w v d) : Vw K H O v d := by
  obtain ⟨a, ho, e, _, h1, c⟩ := h
  exact .inr ⟨a, ho, e, h1, c⟩
theorem SlotOk.vw {K : PySem.W.Frag} {H : Hp} {O : Own} {i : Nat} {v : V} {s : Slot} (h : SlotOk K H O i v s) : Vw K H O v s.d := by
  unfold SlotOk at h
  cases e : s.own with
  | true => rw [e] at h; exact Owned.vw h
  | false => rw [e] at h; exact .inl h
section
variable {K : PySem.W.Frag} {H : Hp} {O : Own} {v : V} {d : D}
theorem Vw.con {c : V} (h : Vw K H O v (.con c)) : v = c := by
  rcases h with h | ⟨a, ho, _, _, c⟩
  · exact h.con_inv
  · cases c
theorem Vw.lst {ds : List D} (h : Vw K H O v (.lst ds)) : ∃ a vs, v = .ref a ∧ SqL K H a vs ∧ Reps K H (lin O) vs ds := by
  rcases h with h | ⟨a, ho, e, h1, c⟩
  · cases h with
    | obj n r c =>
      cases c with
      | lst q => exact ⟨_, _, rfl, .inl r, q⟩
    | kl k q => exact ⟨_, _, rfl, .inr k, q⟩
  · cases c with
    | lst q => exact ⟨a, _, e, .inl (.inl h1), q⟩
theorem Vw.tup {ds : List D} (h : Vw K H O v (.tup ds)) : ∃ a vs, v = .ref a ∧ SqT K H a vs ∧ Reps K H (lin O) vs ds := by
  rcases h with h | ⟨a, ho, e, h1, c⟩
  · cases h with
    | obj n r c =>
      cases c with
      | tup q => exact ⟨_, _, rfl, .inl r, q⟩
    | kt k q => exact ⟨_, _, rfl, .inr k, q⟩
  · cases c with
    | tup q => exact ⟨a, _, e, .inl (.inl h1), q⟩
end

def oset (O : Own) (a : Addr) (w : Option Ow) : Own := fun b => if b = a then w else O b
theorem oset_eq {O : Own} {a b : Addr} {w : Option Ow} (h : b = a) : oset O a w b = w := if_pos h
theorem oset_ne {O : Own} {a b : Addr} {w : Option Ow} (h : b ≠ a) : oset O a w b = O b := if_neg h
/-! ### the relation's laws -/
section
variable {K : PySem.W.Frag} {G : Fix} {O O' : Own} {σ : St} {H H' : Hp} {ρ ρ' : Rho} {T : List Tmp} {t : Tmp} {v : V} {d : D}
theorem Owned.mono {w w' : Ow} (hs : Stay H H' (lin O) (lin O')) (h : Owned K H O w v d) (hw : ∀ a o, O a = some w → H a = some o → O' a = some w' ∧ H' a = some o) : Owned K H' O' w' v d := by
  obtain ⟨a, u, e, h1, h2, c⟩ := h
  obtain ⟨p, q⟩ := hw a u h1 h2
  exact ⟨a, u, e, p, q, c.mono hs⟩
theorem TmpsOk.mono {N : Nat} {H H' : Hp} {O O' : Own} (h1 : ∀ t n, TmpOk K H O σ n t → n < N → TmpOk K H' O' σ n t) : ∀ {T : List Tmp}, T.length ≤ N → TmpsOk K H O σ T → TmpsOk K H' O' σ T
  | [], _, _ => trivial
  | t :: T, hl, ⟨a, b⟩ => ⟨h1 t T.length a hl, TmpsOk.mono h1 (Nat.le_of_succ_le hl) b⟩
/-- slots' states: from one place to another -/
theorem slot_mono {i j : Nat} {s : Slot} (hs : Stay H H' (lin O) (lin O')) (hw : ∀ a o, O a = some (.sl i) → H a = some o → O' a = some (.sl j) ∧ H' a = some o) (h : SlotOk K H O i v s) : SlotOk K H' O' j v s := by
  unfold SlotOk at h ⊢
  cases q : s.own with
  | true => rw [q] at h; exact h.mono hs hw
  | false => rw [q] at h; exact h.mono hs
theorem tmps_mono (hs : Stay H H' (lin O) (lin O')) (hw : ∀ a o n, n < T.length → O a = some (.tp n) → H a = some o → O' a = some (.tp n) ∧ H' a = some o) (h : TmpsOk K H O σ T) : TmpsOk K H' O' σ T := by
  refine TmpsOk.mono (N := T.length) (fun t n h hn => ?_) (Nat.le_refl _) h
  unfold TmpOk at h ⊢
  cases q : t.k with
  | shr => rw [q] at h; exact h.mono hs
  | fr => rw [q] at h; exact h.mono hs fun a o e1 e2 => hw a o n hn e1 e2
  | nm i => rw [q] at h; exact h
theorem Rel.pop (R : Rel G O σ H ρ (t :: T)) : Rel G O σ H ρ T := ⟨R.len, R.fr, R.ot, R.tr, R.pn, R.sl, R.tm.2⟩
theorem Rel.push (R : Rel G O σ H ρ T) (h : TmpOk G.K H O σ T.length t) : Rel G O σ H ρ (t :: T) := ⟨R.len, R.fr, R.ot, R.tr, R.pn, R.sl, ⟨h, R.tm⟩⟩
theorem Rel.con (R : Rel G O σ H ρ T) (c : V) : Rel G O σ H ρ (⟨c, .con c, .shr⟩ :: T) := R.push (.con c)
theorem Rel.nil (R : Rel G O σ H ρ T) : Rel G O σ H ρ [] := ⟨R.len, R.fr, R.ot, R.tr, R.pn, R.sl, trivial⟩
theorem Rel.lout (R : Rel G O σ H ρ T) (p : Addr) (hp : H p = none) : O p = none := by
  cases e : O p with
  | none => rfl
  | some w =>
    obtain ⟨o, q⟩ := R.tr p w e
    rw [hp] at q; cases q
/-- the data that a pending value stands for -/
def cur (ρ : Rho) (x : D × Kd) : Option D := match x.2 with
  | .nm i => match ρ[i]? with
    | some (some s) => some s.d
    | _ => none
  | _ => some x.1
theorem Rel.view (R : Rel G O σ H ρ T) {n : Nat} (h : TmpOk G.K H O σ n t) (e : cur ρ (t.d, t.k) = some d) : Vw G.K H O t.v d := by
  unfold TmpOk at h
  unfold cur at e
  cases q : t.k with
  | shr => rw [q] at h e; cases e; exact .inl h
  | fr => rw [q] at h e; cases e; exact Owned.vw h
  | nm i =>
    rw [q] at h e
    dsimp only at e h
    split at e
    · rename_i s hs
      cases e
      obtain ⟨v', h1, h2⟩ := R.sl i s hs
      rw [h1] at h
      cases h
      exact h2.vw
    · cases e
/-- a new object -/
theorem Rel.fresh {p : Addr} {ho : HO} (R : Rel G O σ H ρ T) (hp : H p = none) (c : Cont G.K H (lin O) ho d) :
    ∃ O', Rel G O' σ (upd H p ho) ρ (⟨.ref p, d, .fr⟩ :: T) := by
  have op := R.lout p hp
  have ne : ∀ {a : Addr} {o : HO}, H a = some o → a ≠ p := fun e z => by rw [z, hp] at e; cases e
  have ne' : ∀ {a : Addr} {w : Ow}, O a = some w → a ≠ p := fun e z => by rw [z, op] at e; cases e
  have hs : Stay H (upd H p ho) (lin O) (lin (oset O p (some (.tp T.length)))) := fun a o n e => by
    refine ⟨by rw [upd_ne (ne e)]; exact e, ?_⟩
    unfold lin at n ⊢
    rw [oset_ne (ne e)]; exact n
  refine ⟨oset O p (some (.tp T.length)), R.len, fun b o e => ?_, fun b => ?_, fun a w e => ?_, R.pn, fun i s e => ?_, ⟨?_, ?_⟩⟩
  · obtain ⟨h1, h2⟩ := R.fr b o e
    rw [oset_ne (ne h1), upd_ne (ne h1)]; exact ⟨h1, h2⟩
  · by_cases e : b = p
    · rw [oset_eq e]
      constructor
      · intro z; cases z
      · intro z
        have := (R.ot b).mpr z
        rw [e, op] at this; cases this
    · rw [oset_ne e]; exact R.ot b
  · by_cases z : a = p
    · subst z; exact ⟨_, upd_same⟩
    · rw [oset_ne z] at e
      obtain ⟨o, q⟩ := R.tr a w e
      exact ⟨o, by rw [upd_ne z]; exact q⟩
  · obtain ⟨v, h1, h2⟩ := R.sl i s e
    refine ⟨v, h1, slot_mono hs (fun a o e1 e2 => ?_) h2⟩
    rw [oset_ne (ne e2), upd_ne (ne e2)]; exact ⟨e1, e2⟩
  · exact ⟨p, ho, rfl, oset_eq rfl, upd_same, c.mono hs⟩
  · refine tmps_mono hs (fun a o n _ e1 e2 => ?_) R.tm
    rw [oset_ne (ne e2), upd_ne (ne e2)]; exact ⟨e1, e2⟩
/-- a new object that never changes (a tuple) -/
theorem Rel.freshT {p : Addr} {ho : HO} (R : Rel G O σ H ρ T) (hp : H p = none) (c : Cont G.K H (lin O) ho d) :
    Rel G O σ (upd H p ho) ρ (⟨.ref p, d, .shr⟩ :: T) := by
  have op := R.lout p hp
  have ne : ∀ {a : Addr} {o : HO}, H a = some o → a ≠ p := fun e z => by rw [z, hp] at e; cases e
  have hs : Stay H (upd H p ho) (lin O) (lin O) := fun a o n e => ⟨by rw [upd_ne (ne e)]; exact e, n⟩
  refine ⟨R.len, fun b o e => ?_, R.ot, fun a w e => ?_, R.pn, fun i s e => ?_, ⟨?_, ?_⟩⟩
  · obtain ⟨h1, h2⟩ := R.fr b o e
    rw [upd_ne (ne h1)]; exact ⟨h1, h2⟩
  · obtain ⟨o, q⟩ := R.tr a w e
    exact ⟨o, by rw [upd_ne (ne q)]; exact q⟩
  · obtain ⟨v, h1, h2⟩ := R.sl i s e
    refine ⟨v, h1, slot_mono hs (fun a o e1 e2 => ?_) h2⟩
    rw [upd_ne (ne e2)]; exact ⟨e1, e2⟩
  · exact .obj (fun z => z op) (.inl upd_same) (c.mono hs)
  · refine tmps_mono hs (fun a o n _ e1 e2 => ?_) R.tm
    rw [upd_ne (ne e2)]; exact ⟨e1, e2⟩
/-- the owner of one address goes -/
theorem Rel.drop (R : Rel G O σ H ρ T) (a0 : Addr) (w : Ow) (hw : O a0 = some w) (ho : w ≠ .out) (hsl : ∀ i s, ρ[i]? = some (some s) → s.own = true → w = .sl i → False) (htp : ∀ n, n < T.length → w ≠ .tp n) :
    Rel G (oset O a0 none) σ H ρ T := by
  have hs : Stay H H (lin O) (lin (oset O a0 none)) := fun a o n e => by
    refine ⟨e, ?_⟩
    unfold lin at n ⊢
    by_cases z : a = a0
    · rw [oset_eq z]; exact fun h => h rfl
    · rw [oset_ne z]; exact n
  refine ⟨R.len, fun b o e => ?_, fun b => ?_, fun a w' e => ?_, R.pn, fun i s e => ?_, ?_⟩
  · obtain ⟨h1, h2⟩ := R.fr b o e
    refine ⟨h1, ?_⟩
    by_cases z : b = a0
    · rw [oset_eq z]; exact .inl rfl
    · rw [oset_ne z]; exact h2
  · by_cases z : b = a0
    · rw [oset_eq z]
      constructor
      · intro q; cases q
      · intro q
        have := (R.ot b).mpr q
        rw [z, hw] at this
        cases this
        exact absurd rfl ho
    · rw [oset_ne z]; exact R.ot b
  · by_cases z : a = a0
    · rw [oset_eq z] at e; cases e
    · rw [oset_ne z] at e; exact R.tr a w' e
  · obtain ⟨v, h1, h2⟩ := R.sl i s e
    refine ⟨v, h1, ?_⟩
    unfold SlotOk at h2 ⊢
    cases q : s.own with
    | true =>
      rw [q] at h2
      refine Owned.mono hs h2 fun a o e1 e2 => ?_
      rw [oset_ne (fun z => ?_)]
      · exact ⟨e1, e2⟩
      · rw [z, hw] at e1
        cases e1
        exact hsl i s e q rfl
    | false => rw [q] at h2; exact h2.mono hs
  · refine tmps_mono hs (fun a o n hn e1 e2 => ?_) R.tm
    rw [oset_ne (fun z => ?_)]
    · exact ⟨e1, e2⟩
    · rw [z, hw] at e1
      cases e1
      exact htp n hn rfl
def shareR (ρ : Rho) (i : Nat) : Rho := match ρ[i]? with
  | some (some s) => ρ.set i (some { s with own := false })
  | _ => ρ
/-- a slot's object may be held by others from now on -/
theorem Rel.share (R : Rel G O σ H ρ T) {i : Nat} {s : Slot} (e : ρ[i]? = some (some s)) :
    ∃ O' v, Rel G O' σ H (shareR ρ i) T ∧ σ[i]? = some (some v) ∧ Rep G.K H (lin O') v s.d := by
  obtain ⟨v, h1, h2⟩ := R.sl i s e
  have es : shareR ρ i = ρ.set i (some { s with own := false }) := by unfold shareR; rw [e]
  have hi : i < ρ.length := (List.getElem?_eq_some_iff.mp e).1
  have get : ∀ j u, (ρ.set i (some { s with own := false }))[j]? = some (some u) → (j = i ∧ u = { s with own := false }) ∨ (j ≠ i ∧ ρ[j]? = some (some u)) := fun j u q => by
    by_cases z : j = i
    · subst z
      rw [List.getElem?_set_self hi] at q
      cases q
      exact .inl ⟨rfl, rfl⟩
    · rw [List.getElem?_set_ne (Ne.symm z)] at q
      exact .inr ⟨z, q⟩
  rw [es]
  unfold SlotOk at h2
  cases q : s.own with
  | false =>
    rw [q] at h2
    refine ⟨O, v, ⟨by simpa using R.len, R.fr, R.ot, R.tr, fun j u hj => ?_, fun j u hj => ?_, R.tm⟩, h1, h2⟩
    · obtain ⟨a, s', b, c⟩ := R.pn j u hj
      refine ⟨a, ?_⟩
      by_cases z : j = i
      · subst z
        rw [e] at b; cases b
        exact ⟨_, List.getElem?_set_self hi, c⟩
      · exact ⟨s', by rw [List.getElem?_set_ne (Ne.symm z)]; exact b, c⟩
    · rcases get j u hj with ⟨z, z2⟩ | ⟨_, z⟩
      · subst z z2
        exact ⟨v, h1, h2⟩
      · exact R.sl j u z
  | true =>
    rw [q] at h2
    obtain ⟨a0, ho, ev, ea, hh, c⟩ := h2
    have R1 : Rel G O σ H (ρ.set i (some { s with own := false })) T → True := fun _ => trivial
    have hs : Stay H H (lin O) (lin (oset O a0 none)) := fun a o n e => by
      refine ⟨e, ?_⟩
      unfold lin at n ⊢
      by_cases z : a = a0
      · rw [oset_eq z]; exact fun h => h rfl
      · rw [oset_ne z]; exact n
    have rp : Rep G.K H (lin (oset O a0 none)) v s.d := by
      rw [ev]
      refine .obj ?_ (.inl hh) (c.mono hs)
      unfold lin
      rw [oset_eq rfl]; exact fun h => h rfl
    refine ⟨oset O a0 none, v, ⟨by simpa using R.len, fun b o e => ?_, fun b => ?_, fun a w' e => ?_, fun j u hj => ?_, fun j u hj => ?_, ?_⟩, h1, rp⟩
    · obtain ⟨p1, p2⟩ := R.fr b o e
      refine ⟨p1, ?_⟩
      by_cases z : b = a0
      · rw [oset_eq z]; exact .inl rfl
      · rw [oset_ne z]; exact p2
    · by_cases z : b = a0
      · rw [oset_eq z]
        constructor
        · intro q; cases q
        · intro q
          have := (R.ot b).mpr q
          rw [z, ea] at this
          cases this
      · rw [oset_ne z]; exact R.ot b
    · by_cases z : a = a0
      · rw [oset_eq z] at e; cases e
      · rw [oset_ne z] at e; exact R.tr a w' e
    · obtain ⟨a, s', b, c⟩ := R.pn j u hj
      refine ⟨a, ?_⟩
      by_cases z : j = i
      · subst z
        rw [e] at b; cases b
        exact ⟨_, List.getElem?_set_self hi, c⟩
      · exact ⟨s', by rw [List.getElem?_set_ne (Ne.symm z)]; exact b, c⟩
    · rcases get j u hj with ⟨z, z2⟩ | ⟨nz, z⟩
      · subst z z2
        exact ⟨v, h1, rp⟩
      · obtain ⟨v', p1, p2⟩ := R.sl j u z
        refine ⟨v', p1, slot_mono hs (fun a o e1 e2 => ?_) p2⟩
        rw [oset_ne (fun y => ?_)]
        · exact ⟨e1, e2⟩
        · rw [y, ea] at e1
          cases e1
          exact nz rfl
    · refine tmps_mono hs (fun a o n hn e1 e2 => ?_) R.tm
      rw [oset_ne (fun y => ?_)]
      · exact ⟨e1, e2⟩
      · rw [y, ea] at e1
        cases e1
def settleR (ρ : Rho) : Kd → Rho
  | .nm i => shareR ρ i
  | _ => ρ
/-- a pending value may be held by others from now on -/
theorem Rel.settle (R : Rel G O σ H ρ (t :: T)) (e : cur ρ (t.d, t.k) = some d) : ∃ O', Rel G O' σ H (settleR ρ t.k) (⟨t.v, d, .shr⟩ :: T) := by
  have h := R.tm.1
  unfold TmpOk at h
  unfold cur at e
  cases q : t.k with
  | shr =>
    rw [q] at h e; cases e
    exact ⟨O, R.pop.push h⟩
  | fr =>
    rw [q] at h e; cases e
    obtain ⟨a0, ho, ev, ea, hh, c⟩ := h
    have R2 := R.pop.drop a0 (.tp T.length) ea (by simp) (fun i s _ _ z => by cases z) (fun n hn z => by cases z; exact Nat.lt_irrefl _ hn)
    refine ⟨_, R2.push ?_⟩
    show Rep _ _ _ _ _
    rw [ev]
    have hs : Stay H H (lin O) (lin (oset O a0 none)) := fun a o n e => by
      refine ⟨e, ?_⟩
      unfold lin at n ⊢
      by_cases z : a = a0
      · rw [oset_eq z]; exact fun h => h rfl
      · rw [oset_ne z]; exact n
    refine .obj ?_ (.inl hh) (c.mono hs)
    unfold lin
    rw [oset_eq rfl]; exact fun h => h rfl
  | nm i =>
    rw [q] at h e
    dsimp only at e h
    split at e
    · rename_i s hs
      cases e
      obtain ⟨O', v, R', e1, r⟩ := R.pop.share hs
      rw [h] at e1
      cases e1
      exact ⟨O', R'.push r⟩
    · cases e
/-- an owned object is written -/
theorem Rel.write {i : Nat} {s : Slot} {a : Addr} {ho ho' : HO} (R : Rel G O σ H ρ T) (e : ρ[i]? = some (some s)) (ow : s.own = true) (hv : σ[i]? = some (some (.ref a))) (ha : H a = some ho) (c : Cont G.K H (lin O) ho' d) :
    Rel G O σ (upd H a ho') (ρ.set i (some { s with d := d })) T ∧ O a = some (.sl i) := by
  have hi : i < ρ.length := (List.getElem?_eq_some_iff.mp e).1
  obtain ⟨v, h1, h2⟩ := R.sl i s e
  rw [hv] at h1; cases h1
  unfold SlotOk at h2
  rw [ow] at h2
  obtain ⟨a1, ho1, ev, ea, hh, c1⟩ := h2
  cases ev
  have hs : Stay H (upd H a ho') (lin O) (lin O) := fun b o n eb => by
    refine ⟨?_, n⟩
    rw [upd_ne]
    · exact eb
    · intro z; exact n (by unfold lin; rw [z, ea]; simp)
  refine ⟨⟨by simpa using R.len, fun b o eb => ?_, R.ot, fun b w eb => ?_, fun j u hj => ?_, fun j u hj => ?_, ?_⟩, ea⟩
  · obtain ⟨p1, p2⟩ := R.fr b o eb
    rw [upd_ne]
    · exact ⟨p1, p2⟩
    · intro z
      rw [z, ea] at p2
      rcases p2 with p2 | p2 <;> cases p2
  · by_cases z : b = a
    · subst z; exact ⟨_, upd_same⟩
    · rw [upd_ne z]; exact R.tr b w eb
  · obtain ⟨p, s', b, c⟩ := R.pn j u hj
    refine ⟨p, ?_⟩
    by_cases z : j = i
    · subst z
      rw [e] at b; cases b
      exact ⟨_, List.getElem?_set_self hi, c⟩
    · exact ⟨s', by rw [List.getElem?_set_ne (Ne.symm z)]; exact b, c⟩
  · by_cases z : j = i
    · subst z
      rw [List.getElem?_set_self hi] at hj
      cases hj
      refine ⟨_, hv, ?_⟩
      unfold SlotOk
      dsimp only
      rw [ow]
      exact ⟨a, ho', rfl, ea, upd_same, c.mono hs⟩
    · rw [List.getElem?_set_ne (Ne.symm z)] at hj
      obtain ⟨v', p1, p2⟩ := R.sl j u hj
      refine ⟨v', p1, slot_mono hs (fun b o e1 e2 => ?_) p2⟩
      rw [upd_ne]
      · exact ⟨e1, e2⟩
      · intro y
        rw [y, ea] at e1
        cases e1
        exact z rfl
  · refine tmps_mono hs (fun b o n hn e1 e2 => ?_) R.tm
    rw [upd_ne]
    · exact ⟨e1, e2⟩
    · intro y
      rw [y, ea] at e1
      cases e1
/-- is the slot a pinned one? -/
def pinned (ρ : Rho) (i : Nat) : Bool := match ρ[i]? with
  | some (some s) => s.pin
  | some none => false
  | none => true
/-- a pending value goes to a slot -/
def ownOf : Kd → Bool
  | .fr => true
  | _ => false
/-- none of them is a name's -/
def NoNm (T : List Tmp) : Prop := ∀ t ∈ T, ∀ i, t.k ≠ .nm i
theorem NoNm.nil : NoNm [] := fun _ h => by cases h
theorem NoNm.cons (h : NoNm T) (ht : ∀ i, t.k ≠ .nm i) : NoNm (t :: T) := fun u hu => by
  rcases List.mem_cons.mp hu with e | e
  · rw [e]; exact ht
  · exact h u e
theorem tmps_slots {σ' : St} : ∀ {T : List Tmp}, (∀ t ∈ T, ∀ i, t.k = .nm i → σ'[i]? = σ[i]?) → TmpsOk K H O σ T → TmpsOk K H O σ' T
  | [], _, _ => trivial
  | t :: T, h, ⟨a, b⟩ => ⟨by
      unfold TmpOk at a ⊢
      cases q : t.k with
      | shr => rw [q] at a; exact a
      | fr => rw [q] at a; exact a
      | nm i =>
        rw [q] at a
        dsimp only at a ⊢
        rw [h t List.mem_cons_self i q]; exact a, tmps_slots (fun u hu => h u (List.mem_cons_of_mem _ hu)) b⟩
theorem Rel.assign {i : Nat} (hT : NoNm T) (R : Rel G O σ H ρ (t :: T)) (e : cur ρ (t.d, t.k) = some d) (hp : pinned (settleR ρ t.k) i = false) :
    ∃ O', Rel G O' (σ.set i (some t.v)) H ((settleR ρ t.k).set i (some ⟨d, ownOf t.k, false⟩)) T := by
  -- the store of a value that is shared, or new
  have fin : ∀ {O1 : Own} {ρ1 : Rho} {b : Bool}, Rel G O1 σ H ρ1 T → pinned ρ1 i = false →
      (if b = true then Owned G.K H O1 (.tp T.length) t.v d else Rep G.K H (lin O1) t.v d) → ∃ O', Rel G O' (σ.set i (some t.v)) H (ρ1.set i (some ⟨d, b, false⟩)) T := by
    intro O1 ρ1 b R1 hp1 h
    have hi : i < ρ1.length := by
      unfold pinned at hp1
      cases q : ρ1[i]? with
      | none => rw [q] at hp1; cases hp1
      | some _ => exact (List.getElem?_eq_some_iff.mp q).1
    have hiσ : i < σ.length := by rw [← R1.len]; exact hi
    have pins : ∀ j u, G.Pin j = some u → (σ.set i (some t.v))[j]? = some (some u) ∧ ∃ s, (ρ1.set i (some ⟨d, b, false⟩))[j]? = some (some s) ∧ s.pin = true := fun j u hj => by
      obtain ⟨p, s', q, c⟩ := R1.pn j u hj
      have z : j ≠ i := fun z => by
        subst z
        unfold pinned at hp1
        rw [q] at hp1
        dsimp only at hp1
        rw [c] at hp1; cases hp1
      exact ⟨by rw [List.getElem?_set_ne (Ne.symm z)]; exact p, s', by rw [List.getElem?_set_ne (Ne.symm z)]; exact q, c⟩
    have tms : TmpsOk G.K H O1 (σ.set i (some t.v)) T := tmps_slots (fun u hu j hj => absurd hj (hT u hu j)) R1.tm
    cases b with
    | false =>
      have h : Rep G.K H (lin O1) t.v d := by simpa using h
      refine ⟨O1, by simpa using R1.len, R1.fr, R1.ot, R1.tr, pins, fun j u hj => ?_, tms⟩
      by_cases z : j = i
      · subst z
        rw [List.getElem?_set_self hi] at hj
        cases hj
        exact ⟨t.v, List.getElem?_set_self hiσ, h⟩
      · rw [List.getElem?_set_ne (Ne.symm z)] at hj ⊢
        exact R1.sl j u hj
    | true =>
      have h : Owned G.K H O1 (.tp T.length) t.v d := by simpa using h
      obtain ⟨a0, ho, ev, ea, hh, c⟩ := h
      have hs : Stay H H (lin O1) (lin (oset O1 a0 (some (.sl i)))) := fun a o n e => by
        refine ⟨e, ?_⟩
        unfold lin at n ⊢
        rw [oset_ne (fun z => n (by rw [z, ea]; simp))]; exact n
      refine ⟨oset O1 a0 (some (.sl i)), by simpa using R1.len, fun b o e => ?_, fun b => ?_, fun a w e => ?_, pins, fun j u hj => ?_, ?_⟩
      · obtain ⟨p1, p2⟩ := R1.fr b o e
        rw [oset_ne (fun z => ?_)]
        · exact ⟨p1, p2⟩
        · rw [z, ea] at p2
          rcases p2 with p2 | p2 <;> cases p2
      · by_cases z : b = a0
        · rw [oset_eq z]
          constructor
          · intro q; cases q
          · intro q
            have := (R1.ot b).mpr q
            rw [z, ea] at this; cases this
        · rw [oset_ne z]; exact R1.ot b
      · by_cases z : a = a0
        · rw [z]; exact ⟨_, hh⟩
        · rw [oset_ne z] at e; exact R1.tr a w e
      · by_cases z : j = i
        · subst z
          rw [List.getElem?_set_self hi] at hj
          cases hj
          refine ⟨t.v, List.getElem?_set_self hiσ, ?_⟩
          exact ⟨a0, ho, ev, oset_eq rfl, hh, c.mono hs⟩
        · rw [List.getElem?_set_ne (Ne.symm z)] at hj ⊢
          obtain ⟨v', p1, p2⟩ := R1.sl j u hj
          refine ⟨v', p1, slot_mono hs (fun a o e1 e2 => ?_) p2⟩
          rw [oset_ne (fun y => ?_)]
          · exact ⟨e1, e2⟩
          · rw [y, ea] at e1; cases e1
      · refine tmps_mono hs (fun a o n hn e1 e2 => ?_) tms
        rw [oset_ne (fun y => ?_)]
        · exact ⟨e1, e2⟩
        · rw [y, ea] at e1
          cases e1
          exact absurd hn (Nat.lt_irrefl _)
  cases q : t.k with
  | fr =>
    rw [q] at hp
    have h := R.tm.1
    unfold TmpOk at h
    unfold cur at e
    rw [q] at h e
    cases e
    exact fin (b := true) R.pop hp (by simpa using h)
  | shr =>
    rw [q] at hp
    obtain ⟨O1, R1⟩ := R.settle e
    rw [q] at R1
    exact fin (b := false) R1.pop hp (show Rep _ _ _ _ _ from R1.tm.1)
  | nm j =>
    rw [q] at hp
    obtain ⟨O1, R1⟩ := R.settle e
    rw [q] at R1
    exact fin (b := false) R1.pop hp (show Rep _ _ _ _ _ from R1.tm.1)
/-- a pending new object is written -/
theorem Rel.writeT {a : Addr} {ho ho' : HO} {d0 : D} (R : Rel G O σ H ρ (⟨.ref a, d0, .fr⟩ :: T)) (ha : H a = some ho) (c : Cont G.K H (lin O) ho' d) : Rel G O σ (upd H a ho') ρ (⟨.ref a, d, .fr⟩ :: T) := by
  obtain ⟨a1, ho1, ev, ea, hh, c1⟩ := (show Owned _ _ _ _ _ _ from R.tm.1)
  cases ev
  have hs : Stay H (upd H a ho') (lin O) (lin O) := fun b o n eb => by
    refine ⟨?_, n⟩
    rw [upd_ne]
    · exact eb
    · intro z; exact n (by unfold lin; rw [z, ea]; simp)
  refine ⟨R.len, fun b o eb => ?_, R.ot, fun b w eb => ?_, R.pn, fun j u hj => ?_, ⟨⟨a, ho', rfl, ea, upd_same, c.mono hs⟩, ?_⟩⟩
  · obtain ⟨p1, p2⟩ := R.fr b o eb
    rw [upd_ne]
    · exact ⟨p1, p2⟩
    · intro z
      rw [z, ea] at p2
      rcases p2 with p2 | p2 <;> cases p2
  · by_cases z : b = a
    · subst z; exact ⟨_, upd_same⟩
    · rw [upd_ne z]; exact R.tr b w eb
  · obtain ⟨v', p1, p2⟩ := R.sl j u hj
    refine ⟨v', p1, slot_mono hs (fun b o e1 e2 => ?_) p2⟩
    rw [upd_ne]
    · exact ⟨e1, e2⟩
    · intro y
      rw [y, ea] at e1
      cases e1
  · refine tmps_mono hs (fun b o n hn e1 e2 => ?_) R.tm.2
    rw [upd_ne]
    · exact ⟨e1, e2⟩
    · intro y
      rw [y, ea] at e1
      cases e1
      exact absurd hn (Nat.lt_irrefl _)
/-- one pending value alone -/
theorem Rel.only (R : Rel G O σ H ρ (t :: T)) : ∃ O', Rel G O' σ H ρ [t] := by
  cases q : t.k with
  | shr =>
    refine ⟨O, R.nil.push ?_⟩
    have h := R.tm.1
    unfold TmpOk at h ⊢
    rw [q] at h ⊢; exact h
  | nm i =>
    refine ⟨O, R.nil.push ?_⟩
    have h := R.tm.1
    unfold TmpOk at h ⊢
    rw [q] at h ⊢; exact h
  | fr =>
    have h := R.tm.1
    unfold TmpOk at h
    rw [q] at h
    obtain ⟨a0, ho, ev, ea, hh, c⟩ := h
    have hs : Stay H H (lin O) (lin (oset O a0 (some (.tp 0)))) := fun a o n e => by
      refine ⟨e, ?_⟩
      unfold lin at n ⊢
      rw [oset_ne (fun z => n (by rw [z, ea]; simp))]; exact n
    refine ⟨oset O a0 (some (.tp 0)), R.len, fun b o e => ?_, fun b => ?_, fun a w e => ?_, R.pn, fun j u hj => ?_, ⟨?_, trivial⟩⟩
    · obtain ⟨p1, p2⟩ := R.fr b o e
      rw [oset_ne (fun z => ?_)]
      · exact ⟨p1, p2⟩
      · rw [z, ea] at p2
        rcases p2 with p2 | p2 <;> cases p2
    · by_cases z : b = a0
      · rw [oset_eq z]
        constructor
        · intro q; cases q
        · intro q
          have := (R.ot b).mpr q
          rw [z, ea] at this; cases this
      · rw [oset_ne z]; exact R.ot b
    · by_cases z : a = a0
      · rw [z]; exact ⟨_, hh⟩
      · rw [oset_ne z] at e; exact R.tr a w e
    · obtain ⟨v', p1, p2⟩ := R.sl j u hj
      refine ⟨v', p1, slot_mono hs (fun a o e1 e2 => ?_) p2⟩
      rw [oset_ne (fun y => ?_)]
      · exact ⟨e1, e2⟩
      · rw [y, ea] at e1; cases e1
    · unfold TmpOk
      rw [q]
      exact ⟨a0, ho, ev, oset_eq rfl, hh, c.mono hs⟩
end
end L2.VL
end
section
set_option Elab.async false
set_option linter.all false
set_option maxRecDepth 100000
/-! VLb: the machine of data: results, programs' meanings, the frame, what an expression, a test, a statement means. -/
namespace L2.VL
open PySem PySem.Spec PyProof.Rows

/-- an exception: its class by the name that the module gives it, its fields -/
structure Exn where
  c : Str
  fs : Option (List (Str × D))
inductive Res (α : Type) where
  | stuck | ok (a : α) (ρ : Rho) | ex (x : Exn) (ρ : Rho)
def M (α : Type) : Type := Rho → Res α
def M.bind {α β : Type} (m : M α) (f : α → M β) : M β := fun ρ => match m ρ with
  | .stuck => .stuck
  | .ok a ρ' => f a ρ'
  | .ex x ρ' => .ex x ρ'
def M.ret {α : Type} (a : α) : M α := fun ρ => .ok a ρ
instance : Monad M := { pure := M.ret, bind := M.bind }
def mStuck {α : Type} : M α := fun _ => .stuck
def mOpt {α : Type} (o : Option α) : M α := fun ρ => match o with
  | some a => .ok a ρ
  | none => .stuck
def Res.post {α : Type} (r : Res α) (Q : α → Rho → Prop) (E : Exn → Rho → Prop) : Prop := match r with
  | .stuck => False
  | .ok a ρ => Q a ρ
  | .ex x ρ => E x ρ
section
variable {α β : Type} {Q Q' : α → Rho → Prop} {R : β → Rho → Prop} {E E' : Exn → Rho → Prop} {ρ : Rho}
theorem post_bind (m : M α) (f : α → M β) : ((m >>= f) ρ).post R E ↔ (m ρ).post (fun a ρ' => (f a ρ').post R E) E := by
  show ((M.bind m f) ρ).post R E ↔ _
  unfold M.bind
  cases m ρ <;> exact Iff.rfl
theorem post_pure (a : α) : ((pure a : M α) ρ).post Q E ↔ Q a ρ := Iff.rfl
theorem post_opt (o : Option α) : ((mOpt o) ρ).post Q E ↔ ∃ a, o = some a ∧ Q a ρ := by
  unfold mOpt
  cases o with
  | none => exact ⟨fun h => h.elim, fun ⟨_, e, _⟩ => by cases e⟩
  | some a => exact ⟨fun h => ⟨a, rfl, h⟩, fun ⟨_, e, h⟩ => by cases e; exact h⟩
theorem post_stuck : ((mStuck : M α) ρ).post Q E ↔ False := Iff.rfl
theorem Res.post_mono {r : Res α} (h : r.post Q E) (h1 : ∀ a ρ, Q a ρ → Q' a ρ) (h2 : ∀ x ρ, E x ρ → E' x ρ) : r.post Q' E' := by
  cases r with
  | stuck => exact h
  | ok a ρ => exact h1 a ρ h
  | ex x ρ => exact h2 x ρ h
theorem Res.post_ok {r : Res α} (h : r.post Q E) (h1 : ∀ a ρ, Q a ρ → Q' a ρ) : r.post Q' E := Res.post_mono h h1 fun _ _ z => z
end
def dcur (x : D × Kd) : M D := fun ρ => match cur ρ x with
  | some d => .ok d ρ
  | none => .stuck
theorem post_cur {x : D × Kd} {Q : D → Rho → Prop} {E : Exn → Rho → Prop} {ρ : Rho} : ((dcur x) ρ).post Q E ↔ ∃ d, cur ρ x = some d ∧ Q d ρ := by
  unfold dcur
  cases cur ρ x with
  | none => exact ⟨fun h => h.elim, fun ⟨_, e, _⟩ => by cases e⟩
  | some a => exact ⟨fun h => ⟨a, rfl, h⟩, fun ⟨_, e, h⟩ => by cases e; exact h⟩
def settleM (k : Kd) : M Unit := fun ρ => .ok () (settleR ρ k)
theorem post_settle {k : Kd} {Q : Unit → Rho → Prop} {E : Exn → Rho → Prop} {ρ : Rho} : ((settleM k) ρ).post Q E ↔ Q () (settleR ρ k) := Iff.rfl
/-- an exception's fields -/
def ExnRep (K : PySem.W.Frag) (H : Hp) (O : Own) (x : Exn) (dd : Option Addr) : Prop := match x.fs with
  | none => dd = none
  | some fs => ∃ d vs, dd = some d ∧ H d = some (.xd vs) ∧ vs.map (·.1) = fs.map (·.1) ∧ Reps K H (lin O) (vs.map (·.2)) (fs.map (·.2))
def clsV (K : PySem.W.Frag) (c : Str) : Value := .ref (He.ga K c)
def EX (G : Fix) (σ : St) (W : WX) (x : Exn) (ρ' : Rho) : Prop := ∀ O' H' dd, Rel G O' σ H' ρ' [] → ExnRep G.K H' O' x dd → W (clsV G.K x.c) dd σ H'

abbrev DE := M (D × Kd)
def tE (K : PySem.W.Frag) (W : WX) (r : DE) : TE := fun σ H Q => ∃ G O ρ, G.K = K ∧ Rel G O σ H ρ [] ∧
  (r ρ).post (fun x ρ' => ∀ O' v H', Rel G O' σ H' ρ' [⟨v, x.1, x.2⟩] → Q v H') (EX G σ W)
def SE (X : Cx) (e : Expr) (r : DE) : Prop := ∀ W, Takes X W → PE X e (tE X.K W r)
def tT (K : PySem.W.Frag) (W : WX) (r : M Bool) : TT := fun σ H Q => ∃ G O ρ, G.K = K ∧ Rel G O σ H ρ [] ∧
  (r ρ).post (fun b ρ' => ∀ O' H', Rel G O' σ H' ρ' [] → Q b H') (EX G σ W)
def ST (X : Cx) (e : Expr) (r : M Bool) : Prop := ∀ W, Takes X W → PT X e (tT X.K W r)
theorem PE.imp {X : Cx} {e : Expr} {t t' : TE} (h : PE X e t) (i : ∀ σ H Q, t' σ H Q → t σ H Q) : PE X e t' := ⟨fun pins s σ H Q I q => h.run pins s σ H Q I (i σ H Q q)⟩
theorem PT.imp {X : Cx} {e : Expr} {t t' : TT} (h : PT X e t) (i : ∀ σ H Q, t' σ H Q → t σ H Q) : PT X e t' := ⟨fun pins s σ H Q I q => h.run pins s σ H Q I (i σ H Q q)⟩
theorem PA.imp {X : Cx} {e : List Expr} {t t' : TA} (h : PA X e t) (i : ∀ σ H Q, t' σ H Q → t σ H Q) : PA X e t' := ⟨fun pos pins s σ H Q I q => h.run pos pins s σ H Q I (i σ H Q q)⟩
theorem PS.imp {X : Cx} {e : Stmt} {t t' : TS} (h : PS X e t) (i : ∀ D σ H, t' D σ H → t D σ H) : PS X e t' := ⟨fun pins s σ H D I q => h.run pins s σ H D I (i D σ H q)⟩
theorem PSs.imp {X : Cx} {e : List Stmt} {t t' : TS} (h : PSs X e t) (i : ∀ D σ H, t' D σ H → t D σ H) : PSs X e t' := ⟨fun pins s σ H D I q => h.run pins s σ H D I (i D σ H q)⟩

/-! ### the frame -/
def frG (G : Fix) (O : Own) (H : Hp) : Fix :=
  { K := G.K, Pin := G.Pin, Out := fun b => (∃ n, O b = some (.tp n)) ∨ O b = some .out, Fr := fun b => match O b with
    | some (.sl _) => none
    | _ => H b }
def frO (O : Own) : Own := fun b => match O b with
  | some (.tp _) => some .out
  | w => w
def unO (O O1 : Own) (n : Nat) : Own := fun b => match O b with
  | some (.tp k) => some (.tp k)
  | some .out => some .out
  | _ => match O1 b with
    | some (.tp m) => some (.tp (m + n))
    | w => w
section
variable {G : Fix} {O O1 : Own} {σ : St} {H H' : Hp} {ρ ρ' : Rho} {T T' : List Tmp}
theorem lin_frO {a : Addr} : lin (frO O) a ↔ lin O a := by
  unfold lin frO
  cases O a with
  | none => exact Iff.rfl
  | some w => cases w <;> simp
theorem Rel.frame (R : Rel G O σ H ρ T) : Rel (frG G O H) (frO O) σ H ρ [] := by
  have hs : Stay H H (lin O) (lin (frO O)) := fun a o n e => ⟨e, fun z => n (lin_frO.mp z)⟩
  refine ⟨R.len, fun b o e => ?_, fun b => ?_, fun a w e => ?_, R.pn, fun i s e => ?_, trivial⟩
  · unfold frG at e
    dsimp only at e
    unfold frO
    cases q : O b with
    | none => rw [q] at e; exact ⟨e, .inl rfl⟩
    | some w =>
      rw [q] at e
      cases w with
      | sl i => cases e
      | tp n => exact ⟨e, .inr rfl⟩
      | out => exact ⟨e, .inr rfl⟩
  · unfold frO frG
    dsimp only
    cases q : O b with
    | none => simp
    | some w => cases w <;> simp
  · have : lin O a := lin_frO.mp (by unfold lin; rw [e]; simp)
    unfold lin at this
    cases q : O a with
    | none => exact absurd q this
    | some w' => exact R.tr a w' q
  · obtain ⟨v, h1, h2⟩ := R.sl i s e
    refine ⟨v, h1, slot_mono hs (fun a o e1 e2 => ⟨?_, e2⟩) h2⟩
    unfold frO
    rw [e1]
theorem Rel.unframe {σ' : St} (hσ : ∀ t ∈ T, ∀ i, t.k = .nm i → σ'[i]? = σ[i]?) (R : Rel G O σ H ρ T) (R' : Rel (frG G O H) O1 σ' H' ρ' T') : Rel G (unO O O1 T.length) σ' H' ρ' (T' ++ T) := by
  -- what O says of O1
  have nout : ∀ a, (O a = none ∨ ∃ i, O a = some (.sl i)) → O1 a ≠ some .out := fun a h z => by
    have := (R'.ot a).mp z
    rcases this with ⟨n, q⟩ | q
    · rcases h with h | ⟨i, h⟩ <;> (rw [q] at h; cases h)
    · rcases h with h | ⟨i, h⟩ <;> (rw [q] at h; cases h)
  have isout : ∀ a, ((∃ n, O a = some (.tp n)) ∨ O a = some .out) → O1 a = some .out := fun a h => (R'.ot a).mpr h
  have fr0 : ∀ a o, O a = none → H a = some o → H' a = some o ∧ O1 a = none := fun a o e1 e2 => by
    obtain ⟨p, q⟩ := R'.fr a o (by unfold frG; dsimp only; rw [e1]; exact e2)
    exact ⟨p, q.resolve_right (nout a (.inl e1))⟩
  have frT : ∀ a n o, O a = some (.tp n) → H a = some o → H' a = some o := fun a n o e1 e2 => (R'.fr a o (by unfold frG; dsimp only; rw [e1]; exact e2)).1
  have frX : ∀ a o, O a = some .out → H a = some o → H' a = some o := fun a o e1 e2 => (R'.fr a o (by unfold frG; dsimp only; rw [e1]; exact e2)).1
  have hs : Stay H' H' (lin O1) (lin (unO O O1 T.length)) := fun a o n e => by
    refine ⟨e, fun z => ?_⟩
    unfold lin unO at z
    unfold lin at n
    have n' : O1 a = none := by
      cases q : O1 a with
      | none => rfl
      | some _ => exact absurd (by rw [q]; simp) n
    cases q : O a with
    | none => rw [q] at z; dsimp only at z; rw [n'] at z; exact z rfl
    | some w =>
      cases w with
      | sl i => rw [q] at z; dsimp only at z; rw [n'] at z; exact z rfl
      | tp k => rw [isout a (.inl ⟨k, q⟩)] at n'; cases n'
      | out => rw [isout a (.inr q)] at n'; cases n'
  have hsT : Stay H H' (lin O) (lin (unO O O1 T.length)) := fun a o n e => by
    have n' : O a = none := by
      cases q : O a with
      | none => rfl
      | some _ => exact absurd (show lin O a by unfold lin; rw [q]; simp) n
    obtain ⟨p, q⟩ := fr0 a o n' e
    refine ⟨p, fun z => ?_⟩
    unfold lin unO at z
    rw [n'] at z
    dsimp only at z
    rw [q] at z
    exact z rfl
  refine ⟨R'.len, fun b o e => ?_, fun b => ?_, fun a w e => ?_, R'.pn, fun i s e => ?_, ?_⟩
  · obtain ⟨p, q⟩ := R.fr b o e
    rcases q with q | q
    · obtain ⟨p2, q2⟩ := fr0 b o q p
      exact ⟨p2, .inl (by unfold unO; rw [q]; dsimp only; rw [q2])⟩
    · exact ⟨frX b o q p, .inr (by unfold unO; rw [q])⟩
  · constructor
    · intro z
      unfold unO at z
      cases q : O b with
      | none =>
        rw [q] at z
        dsimp only at z
        cases q2 : O1 b with
        | none => rw [q2] at z; cases z
        | some w =>
          rw [q2] at z
          cases w with
          | sl i => cases z
          | tp n => cases z
          | out => exact absurd q2 (nout b (.inl q))
      | some w =>
        cases w with
        | sl i =>
          rw [q] at z
          dsimp only at z
          cases q2 : O1 b with
          | none => rw [q2] at z; cases z
          | some w =>
            rw [q2] at z
            cases w with
            | sl i => cases z
            | tp n => cases z
            | out => exact absurd q2 (nout b (.inr ⟨i, q⟩))
        | tp k => rw [q] at z; cases z
        | out => exact (R.ot b).mp q
    · intro z
      unfold unO
      rw [(R.ot b).mpr z]
  · cases q : O a with
    | none =>
      unfold unO at e
      rw [q] at e
      dsimp only at e
      cases q2 : O1 a with
      | none => rw [q2] at e; cases e
      | some w => exact R'.tr a w q2
    | some w =>
      cases w with
      | sl i =>
        unfold unO at e
        rw [q] at e
        dsimp only at e
        cases q2 : O1 a with
        | none => rw [q2] at e; cases e
        | some w => exact R'.tr a w q2
      | tp k =>
        obtain ⟨o, ho⟩ := R.tr a _ q
        exact ⟨o, frT a k o q ho⟩
      | out =>
        obtain ⟨o, ho⟩ := R.tr a _ q
        exact ⟨o, frX a o q ho⟩
  · obtain ⟨v, h1, h2⟩ := R'.sl i s e
    refine ⟨v, h1, slot_mono hs (fun a o e1 e2 => ⟨?_, e2⟩) h2⟩
    unfold unO
    cases q : O a with
    | none => dsimp only; rw [e1]
    | some w =>
      cases w with
      | sl i => dsimp only; rw [e1]
      | tp k => rw [isout a (.inl ⟨k, q⟩)] at e1; cases e1
      | out => rw [isout a (.inr q)] at e1; cases e1
  · have tail : TmpsOk G.K H' (unO O O1 T.length) σ' T := tmps_mono hsT (fun a o n _ e1 e2 => ⟨by unfold unO; rw [e1], frT a n o e1 e2⟩) (tmps_slots hσ R.tm)
    have all : ∀ T' : List Tmp, TmpsOk G.K H' O1 σ' T' → TmpsOk G.K H' (unO O O1 T.length) σ' (T' ++ T) := by
      intro T'
      induction T' with
      | nil => intro _; exact tail
      | cons t r ih =>
        rintro ⟨h1, h2⟩
        refine ⟨?_, ih h2⟩
        show TmpOk G.K H' (unO O O1 T.length) σ' (r ++ T).length t
        rw [List.length_append]
        unfold TmpOk at h1 ⊢
        cases q : t.k with
        | shr => rw [q] at h1; exact h1.mono hs
        | fr =>
          rw [q] at h1
          refine Owned.mono hs h1 fun a o e1 e2 => ⟨?_, e2⟩
          unfold unO
          cases q : O a with
          | none => dsimp only; rw [e1]
          | some w =>
            cases w with
            | sl i => dsimp only; rw [e1]
            | tp k => rw [isout a (.inl ⟨k, q⟩)] at e1; cases e1
            | out => rw [isout a (.inr q)] at e1; cases e1
        | nm i => rw [q] at h1; exact h1
    exact all T' R'.tm
theorem ExnRep.unframe {σ' : St} {x : Exn} {dd : Option Addr} {n : Nat} (R' : Rel (frG G O H) O1 σ' H' ρ' []) (er : ExnRep G.K H' O1 x dd) : ExnRep G.K H' (unO O O1 n) x dd := by
  unfold ExnRep at er ⊢
  cases q : x.fs with
  | none => rw [q] at er; exact er
  | some fs =>
    rw [q] at er
    obtain ⟨d, vs, e1, e2, e3, e4⟩ := er
    refine ⟨d, vs, e1, e2, e3, e4.mono fun a o n e => ⟨e, fun z => n ?_⟩⟩
    unfold lin at z ⊢
    intro z2
    unfold unO at z
    cases q : O a with
    | none => rw [q] at z; dsimp only at z; rw [z2] at z; exact z rfl
    | some w =>
      cases w with
      | sl i => rw [q] at z; dsimp only at z; rw [z2] at z; exact z rfl
      | tp k => rw [(R'.ot a).mpr (.inl ⟨k, q⟩)] at z2; cases z2
      | out => rw [(R'.ot a).mpr (.inr q)] at z2; cases z2
theorem EX.unframe {W : WX} {σ' : St} {x : Exn} (R : Rel G O σ H ρ T) (h : EX G σ' W x ρ') : EX (frG G O H) σ' W x ρ' := fun O' H' dd R' er =>
  h _ H' dd (R.nil.unframe (T := []) (T' := []) (fun _ z => by cases z) R') (ExnRep.unframe R' er)
/-- a reading within the frame of what is pending -/
theorem tE.at {K : PySem.W.Frag} {W : WX} {r : DE} {Q : VK} (hK : G.K = K) (R : Rel G O σ H ρ T) (h : (r ρ).post (fun x ρ' => ∀ O' v H', Rel G O' σ H' ρ' (⟨v, x.1, x.2⟩ :: T) → Q v H') (EX G σ W)) : tE K W r σ H Q :=
  ⟨frG G O H, frO O, ρ, hK, R.frame, Res.post_mono h (fun x ρ' q O' v H' R' => q _ v H' (R.unframe (fun _ _ _ _ => rfl) R')) fun x ρ' q => EX.unframe R q⟩
theorem tT.at {K : PySem.W.Frag} {W : WX} {r : M Bool} {Q : Bool → Hp → Prop} (hK : G.K = K) (R : Rel G O σ H ρ T) (h : (r ρ).post (fun b ρ' => ∀ O' H', Rel G O' σ H' ρ' T → Q b H') (EX G σ W)) : tT K W r σ H Q :=
  ⟨frG G O H, frO O, ρ, hK, R.frame, Res.post_mono h (fun x ρ' q O' H' R' => q _ H' (R.unframe (T' := []) (fun _ _ _ _ => rfl) R')) fun x ρ' q => EX.unframe R q⟩
end

/-! ### statements -/
inductive Fl where
  | nx | brk | cnt | ret (d : D) (fr : Bool)
abbrev DS := M Fl
def frK (b : Bool) : Kd := match b with
  | true => .fr
  | false => .shr
def FlOk (G : Fix) (D : Ends) (T : List Tmp) (f : Fl) (ρ' : Rho) : Prop := match f with
  | .nx => ∀ O' σ' H', Rel G O' σ' H' ρ' T → D.nx σ' H'
  | .brk => ∀ O' σ' H', Rel G O' σ' H' ρ' T → D.bk σ' H'
  | .cnt => ∀ O' σ' H', Rel G O' σ' H' ρ' T → D.ct σ' H'
  | .ret d b => ∀ O' σ' v H', Rel G O' σ' H' ρ' (⟨v, d, frK b⟩ :: T) → D.rt v H'
def EXs (G : Fix) (W : WX) (x : Exn) (ρ' : Rho) : Prop := ∀ σ', EX G σ' W x ρ'
def tS (K : PySem.W.Frag) (W : WX) (r : DS) : TS := fun D σ H => ∃ G O ρ, G.K = K ∧ Rel G O σ H ρ [] ∧ (r ρ).post (FlOk G D []) (EXs G W)
/-- what is handed back, seen through p -/
def _root_.L2.Ends.re (p : VK → VK) (D : Ends) : Ends := { D with rt := p D.rt }
def SSf (p : VK → VK) (X : Cx) (st : Stmt) (r : DS) : Prop := ∀ W, Takes X W → PS X st fun D => tS X.K W r (D.re p)
def SSsf (p : VK → VK) (X : Cx) (st : List Stmt) (r : DS) : Prop := ∀ W, Takes X W → PSs X st fun D => tS X.K W r (D.re p)
abbrev SS (X : Cx) (st : Stmt) (r : DS) : Prop := SSf id X st r
abbrev SSs (X : Cx) (st : List Stmt) (r : DS) : Prop := SSsf id X st r
section
variable {G : Fix} {O O1 : Own} {σ : St} {H H' : Hp} {ρ ρ' : Rho} {T T' : List Tmp}
theorem tS.at {K : PySem.W.Frag} {W : WX} {r : DS} {D : Ends} (hT : NoNm T) (hK : G.K = K) (R : Rel G O σ H ρ T) (h : (r ρ).post (FlOk G D T) (EXs G W)) : tS K W r D σ H := by
  have hσ : ∀ σ' : St, ∀ t ∈ T, ∀ i, t.k = .nm i → σ'[i]? = σ[i]? := fun σ' t ht i e => absurd e (hT t ht i)
  refine ⟨frG G O H, frO O, ρ, hK, R.frame, Res.post_mono h (fun f ρ' q => ?_) fun x ρ' q σ' => EX.unframe R (q σ')⟩
  cases f with
  | nx => exact fun O' σ' H' R' => q _ σ' H' (R.unframe (T' := []) (hσ σ') R')
  | brk => exact fun O' σ' H' R' => q _ σ' H' (R.unframe (T' := []) (hσ σ') R')
  | cnt => exact fun O' σ' H' R' => q _ σ' H' (R.unframe (T' := []) (hσ σ') R')
  | ret d b => exact fun O' σ' v H' R' => q _ σ' v H' (R.unframe (T' := [_]) (hσ σ') R')
/-- what is pending does not matter at the end -/
theorem FlOk.drop {D : Ends} {f : Fl} (h : FlOk G D [] f ρ') : FlOk G D T f ρ' := by
  cases f with
  | nx => exact fun O' σ' H' R' => h O' σ' H' R'.nil
  | brk => exact fun O' σ' H' R' => h O' σ' H' R'.nil
  | cnt => exact fun O' σ' H' R' => h O' σ' H' R'.nil
  | ret d b => exact fun O' σ' v H' R' => let ⟨O2, R2⟩ := R'.only; h O2 σ' v H' R2
end
end L2.VL
end
section
set_option Elab.async false
set_option linter.all false
set_option maxRecDepth 100000
/-! VLc: names, constants, operators, tests, displays, subscripts; statements without loops. -/
namespace L2.VL
open PySem PySem.Spec PyProof.Rows
section
variable {X : Cx} {a b c e : Expr} {ra rb rc r : DE} {pos : Pos}

/-! ### names and constants -/
def dVar (i : Nat) : DE := fun ρ => match ρ[i]? with
  | some (some s) => .ok (s.d, .nm i) ρ
  | _ => .stuck
def dCon (v : V) : DE := pure (.con v, .shr)
theorem se_var (i : Nat) {x : Str} (hN : X.N[i]? = some x := by rfl) (hv : Vis X.env.scope x := by first | exact Or.inl rfl | exact Or.inr (Or.inl rfl) | exact Or.inr (Or.inr rfl)) (hd : (x == ("__debug__" : Str)) = false := by decide)
    (hcd : (x == ("__classdict__" : Str)) = false := by decide) : SE X (.Name x pos) (dVar i) := fun W tk => PE.imp (pe_var hN hv hd hcd) fun σ H Q ⟨G, O, ρ, hK, R, h⟩ => by
  unfold dVar at h
  split at h
  · rename_i s hs
    obtain ⟨v, h1, h2⟩ := R.sl i s hs
    exact ⟨v, h1, h O v H (R.push h1)⟩
  · exact h.elim
theorem se_tC {v : V} (h : PE X e (tC v)) : SE X e (dCon v) := fun W tk => PE.imp h fun σ H Q ⟨G, O, ρ, hK, R, h⟩ => h O v H (R.con v)
theorem se_int {i j} : SE X (.Constant (.int i) j pos) (dCon (.int i)) := se_tC pe_int
theorem se_bl {b j} : SE X (.Constant (.bool b) j pos) (dCon (.bl b)) := se_tC pe_bl
theorem se_non {j} : SE X (.Constant .none j pos) (dCon .non) := se_tC pe_non
theorem se_str {x j} : SE X (.Constant (.str x) j pos) (dCon (.str x)) := se_tC pe_str
theorem se_glob {x : Str} {v : V} {u : Value} (hm : X.mg x = some u) (r : RelV v u) (hg : Gl X x := by rfl) (hd : (x == ("__debug__" : Str)) = false := by decide) : SE X (.Name x pos) (dCon v) := se_tC (pe_glob hg hm r hd)

/-! ### two operands -/
def dOp2 (g : D → D → Option (D × Kd)) (ra rb : DE) : DE := do
  let x ← ra
  let y ← rb
  let d ← dcur x
  let e ← dcur y
  mOpt (g d e)
def OpS2 (K : PySem.W.Frag) (r : R2) (g : D → D → Option (D × Kd)) : Prop := ∀ (G : Fix) (O : Own) (σ : St) (H : Hp) (ρ : Rho) (a b : V) (x y : D) (z : D × Kd) (Q : VK), G.K = K → Rel G O σ H ρ [] → Vw K H O a x → Vw K H O b y →
  g x y = some z → (∀ O' v H', Rel G O' σ H' ρ [⟨v, z.1, z.2⟩] → Q v H') → r a b H Q
theorem OpS2.tOp {K : PySem.W.Frag} {W : WX} {rr : R2} {g : D → D → Option (D × Kd)} (hs : OpS2 K rr g) (σ : St) (H : Hp) (Q : VK) (h : tE K W (dOp2 g ra rb) σ H Q) : L2.tOp rr (tE K W ra) (tE K W rb) σ H Q := by
  obtain ⟨G, O, ρ, hK, R, h⟩ := h
  refine tE.at hK R (Res.post_ok ((post_bind _ _).mp h) fun x ρ1 q O1 v H1 R1 => ?_)
  refine tE.at hK R1 (Res.post_ok ((post_bind _ _).mp q) fun y ρ2 q2 O2 w H2 R2 => ?_)
  obtain ⟨d, e1, q3⟩ := post_cur.mp ((post_bind _ _).mp q2)
  obtain ⟨e, e2, q4⟩ := post_cur.mp ((post_bind _ _).mp q3)
  obtain ⟨z, e3, q5⟩ := (post_opt _).mp q4
  have v1 := R2.view R2.tm.2.1 e1
  have v2 := R2.view R2.tm.1 e2
  rw [hK] at v1 v2
  exact hs G O2 σ H2 ρ2 v w d e z Q hK R2.nil v1 v2 e3 q5
theorem se_op {op : Operator} {rr : R2} {g : D → D → Option (D × Kd)} (ho : OpR X (binaryOp op) rr) (hs : OpS2 X.K rr g) (ha : SE X a ra) (hb : SE X b rb) : SE X (.BinOp a op b pos) (dOp2 g ra rb) :=
  fun W tk => PE.imp (pe_op ho (ha W tk) (hb W tk)) (hs.tOp)
theorem se_cmp {op : CmpOp} {rr : R2} {g : D → D → Option (D × Kd)} (ho : OpR X (compareOp op) rr) (hs : OpS2 X.K rr g) (ha : SE X a ra) (hb : SE X b rb) (hm : behindInMarks op b = false) : SE X (.Compare a [op] [b] pos) (dOp2 g ra rb) :=
  fun W tk => PE.imp (pe_cmpR ho (ha W tk) (hb W tk) hm) (hs.tOp)
theorem se_ix {rr : R2} {g : D → D → Option (D × Kd)} (ho : IxR X rr) (hs : OpS2 X.K rr g) (ha : SE X a ra) (hb : SE X b rb) (hp : PlainIx b) : SE X (.Subscript a b pos) (dOp2 g ra rb) :=
  fun W tk => PE.imp (pe_ix ho (ha W tk) (hb W tk) hp) (hs.tOp)
theorem OpS2.or {K : PySem.W.Frag} {r1 r2 : R2} {g1 g2 : D → D → Option (D × Kd)} (h1 : OpS2 K r1 g1) (h2 : OpS2 K r2 g2) : OpS2 K (fun x y H Q => r1 x y H Q ∨ r2 x y H Q) (fun x y => (g1 x y).or (g2 x y)) := by
  intro G O σ H ρ a b x y z Q hK R v1 v2 e q
  replace e : (g1 x y).or (g2 x y) = some z := e
  cases e1 : g1 x y with
  | none =>
    rw [e1] at e
    exact .inr (h2 G O σ H ρ a b x y z Q hK R v1 v2 (by simpa using e) q)
  | some u =>
    rw [e1] at e
    exact .inl (h1 G O σ H ρ a b x y z Q hK R v1 v2 (by rw [e1]; simpa using e) q)
/-- a result that is a scalar -/
theorem OpS2.sc {K : PySem.W.Frag} {rr : R2} {g : D → D → Option V} (h : ∀ a b H x y v (O : Own) Q, Vw K H O a x → Vw K H O b y → g x y = some v → Q v H → rr a b H Q) : OpS2 K rr (fun x y => (g x y).map fun v => (.con v, .shr)) := by
  intro G O σ H ρ a b x y z Q hK R v1 v2 e q
  obtain ⟨v, e1, e2⟩ := Option.map_eq_some_iff.mp e
  subst e2
  exact h a b H x y v O Q v1 v2 e1 (q O v H (R.con v))
def gI (C : Int → Int → Prop) [∀ i j, Decidable (C i j)] (f : Int → Int → V) (x y : D) : Option V := match x, y with
  | .con (.int i), .con (.int j) => if C i j then some (f i j) else none
  | _, _ => none
def gI0 (f : Int → Int → V) (x y : D) : Option V := match x, y with
  | .con (.int i), .con (.int j) => some (f i j)
  | _, _ => none
theorem os_I {K : PySem.W.Frag} {C : Int → Int → Prop} [∀ i j, Decidable (C i j)] {f : Int → Int → V} : OpS2 K (rI C f) (fun x y => (gI C f x y).map fun v => (.con v, .shr)) := OpS2.sc fun a b H x y v O Q v1 v2 e q => by
  unfold gI at e
  split at e
  · rename_i i j
    split at e
    · rename_i hc
      cases e
      exact ⟨i, j, v1.con, v2.con, hc, q⟩
    · cases e
  · cases e
theorem os_I0 {K : PySem.W.Frag} {f : Int → Int → V} : OpS2 K (rI0 f) (fun x y => (gI0 f x y).map fun v => (.con v, .shr)) := OpS2.sc fun a b H x y v O Q v1 v2 e q => by
  unfold gI0 at e
  split at e
  · cases e
    exact ⟨_, _, v1.con, v2.con, q⟩
  · cases e

/-! ### tests -/
def asB (d : D) : Option Bool := match d with
  | .con (.bl b) => some b
  | _ => none
/-- a value that is True or False, as a test -/
def dB (r : DE) : M Bool := do
  let x ← r
  let d ← dcur x
  mOpt (asB d)
theorem dB_post {G : Fix} {O : Own} {σ : St} {H : Hp} {ρ : Rho} {K : PySem.W.Frag} {W : WX} {Q : Bool → Hp → Prop} (hK : G.K = K) (R : Rel G O σ H ρ []) (h : ((dB r) ρ).post (fun b ρ' => ∀ O' H', Rel G O' σ H' ρ' [] → Q b H') (EX G σ W)) :
    tE K W r σ H fun x H' => ∃ k, x = .bl k ∧ Q k H' := by
  refine tE.at hK R (Res.post_ok ((post_bind _ _).mp h) fun x ρ1 q O1 v H1 R1 => ?_)
  obtain ⟨d, e1, q3⟩ := post_cur.mp ((post_bind _ _).mp q)
  obtain ⟨b, e2, q4⟩ := (post_opt _).mp q3
  have v1 := R1.view R1.tm.1 e1
  unfold asB at e2
  split at e2
  · cases e2
    exact ⟨_, v1.con, q4 O1 H1 R1.pop⟩
  · cases e2
theorem st_cmp {op : CmpOp} {rr : R2} {g : D → D → Option (D × Kd)} (ho : OpR X (compareOp op) rr) (hs : OpS2 X.K rr g) (ha : SE X a ra) (hb : SE X b rb) (hm : behindInMarks op b = false) : ST X (.Compare a [op] [b] pos) (dB (dOp2 g ra rb)) :=
  fun W tk => PT.imp (pt_cmpR ho (ha W tk) (hb W tk) hm) fun σ H Q ⟨G, O, ρ, hK, R, h⟩ => hs.tOp (W := W) σ H _ (dB_post hK R h)
def truthD (d : D) : Option Bool := match d with
  | .con .non => some false
  | .con (.bl b) => some b
  | .con (.int i) => some (i != 0)
  | .con (.str s) => if s.length ≤ 16777216 then some ((s.length : Int) != 0) else none
  | .lst xs => some !xs.isEmpty
  | .tup xs => some !xs.isEmpty
  | _ => none
def dTr (r : DE) : M Bool := do
  let x ← r
  let d ← dcur x
  mOpt (truthD d)
theorem Reps.isEmpty {K : PySem.W.Frag} {H : Hp} {L : Addr → Prop} {vs : List V} {ds : List D} (h : Reps K H L vs ds) : vs.isEmpty = ds.isEmpty := by
  cases h <;> rfl
theorem RepK.isEmpty {K : PySem.W.Frag} {H : Hp} {L : Addr → Prop} {vs : List (Key × V)} {ds : List (Key × D)} (h : RepK K H L vs ds) : vs.isEmpty = ds.isEmpty := by
  cases h <;> rfl
theorem tru_of {K : PySem.W.Frag} {H : Hp} {O : Own} {v : V} {d : D} {k : Bool} (h : Vw K H O v d) (e : truthD d = some k) : TruV K v H k := by
  unfold truthD at e
  split at e
  · cases e; rw [h.con]; rfl
  · cases e; rw [h.con]; rfl
  · cases e; rw [h.con]; rfl
  · split at e
    · cases e
      rw [h.con]
      exact ⟨by rw [sizeLine_eq]; assumption, rfl⟩
    · cases e
  · cases e
    obtain ⟨a, vs, rfl, q, r⟩ := h.lst
    exact .inl ⟨vs, q, by rw [r.isEmpty]⟩
  · cases e
    obtain ⟨a, vs, rfl, q, r⟩ := h.tup
    exact .inr (.inl ⟨vs, q, by rw [r.isEmpty]⟩)
  · cases e
theorem st_val (ha : SE X a ra) (he : ∀ whole, isTrue a X.env whole = (do let v ← whole; standAt a.pos; holding [v] (truthy v)) := by intro _; rfl) : ST X a (dTr ra) :=
  fun W tk => PT.imp (pt_truth (ha W tk) he) fun σ H Q ⟨G, O, ρ, hK, R, h⟩ => by
    refine tE.at hK R (Res.post_ok ((post_bind _ _).mp h) fun x ρ1 q O1 v H1 R1 => ?_)
    obtain ⟨d, e1, q3⟩ := post_cur.mp ((post_bind _ _).mp q)
    obtain ⟨b, e2, q4⟩ := (post_opt _).mp q3
    have v1 := R1.view R1.tm.1 e1
    rw [hK] at v1
    exact ⟨b, tru_of v1 e2, q4 O1 H1 R1.pop⟩

end
def dNot (r : M Bool) : M Bool := do
  let b ← r
  pure !b
theorem tT.imp {K : PySem.W.Frag} {W : WX} {r : M Bool} {σ : St} {H : Hp} {Q Q' : Bool → Hp → Prop} (h : tT K W r σ H Q) (i : ∀ b H, Q b H → Q' b H) : tT K W r σ H Q' := by
  obtain ⟨G, O, ρ, hK, R, h⟩ := h
  exact ⟨G, O, ρ, hK, R, Res.post_ok h fun b ρ1 q O1 H1 R1 => i _ _ (q O1 H1 R1)⟩
section
variable {X : Cx} {a b c e : Expr} {rest es : List Expr} {ra rb rc r : DE} {qa qb qc : M Bool} {pos : Pos}
theorem st_not (ha : ST X a qa) : ST X (.UnaryOp .Not a pos) (dNot qa) := fun W tk => PT.imp (pt_not (ha W tk)) fun σ H Q ⟨G, O, ρ, hK, R, h⟩ =>
  ⟨G, O, ρ, hK, R, Res.post_ok ((post_bind _ _).mp h) fun b ρ1 q O1 H1 R1 => q O1 H1 R1⟩
def SW (X : Cx) (e : Expr) (r : M Bool) : Prop := ∀ W, Takes X W → PW X e (tT X.K W r)
theorem SW.st (h : SW X e qa) : ST X e qa := fun W tk => (h W tk).pt
theorem PW.imp {X : Cx} {e : Expr} {t t' : TT} (h : PW X e t) (i : ∀ σ H Q, t' σ H Q → t σ H Q) : PW X e t' := ⟨fun wh pins s σ H Q I q => h.run wh pins s σ H Q I (i σ H Q q)⟩
def dAnd (qa qb : M Bool) : M Bool := do
  let b ← qa
  if b then qb else pure false
def dOr (qa qb : M Bool) : M Bool := do
  let b ← qa
  if b then pure true else qb
theorem sw_and1 (ha : ST X a qa) : SW X (.BoolOp .And [a] pos) qa := fun W tk => pw_and1 (ha W tk)
theorem sw_or1 (ha : ST X a qa) : SW X (.BoolOp .Or [a] pos) qa := fun W tk => pw_or1 (ha W tk)
theorem sw_and (ha : ST X a qa) (hb : SW X (.BoolOp .And (b :: rest) pos) qb) : SW X (.BoolOp .And (a :: b :: rest) pos) (dAnd qa qb) := fun W tk => PW.imp (pw_and (ha W tk) (hb W tk)) fun σ H Q ⟨G, O, ρ, hK, R, h⟩ =>
  ⟨G, O, ρ, hK, R, Res.post_ok ((post_bind _ _).mp h) fun b ρ1 q O1 H1 R1 => by
    cases b with
    | true => rw [if_pos rfl] at q ⊢; exact ⟨G, O1, ρ1, hK, R1, q⟩
    | false => rw [if_neg Bool.false_ne_true] at q ⊢; exact q O1 H1 R1⟩
theorem sw_or (ha : ST X a qa) (hb : SW X (.BoolOp .Or (b :: rest) pos) qb) : SW X (.BoolOp .Or (a :: b :: rest) pos) (dOr qa qb) := fun W tk => PW.imp (pw_or (ha W tk) (hb W tk)) fun σ H Q ⟨G, O, ρ, hK, R, h⟩ =>
  ⟨G, O, ρ, hK, R, Res.post_ok ((post_bind _ _).mp h) fun b ρ1 q O1 H1 R1 => by
    cases b with
    | true => rw [if_pos rfl] at q ⊢; exact q O1 H1 R1
    | false => rw [if_neg Bool.false_ne_true] at q ⊢; exact ⟨G, O1, ρ1, hK, R1, q⟩⟩
/-- and, or, not as values -/
def dAndV (ra rb : DE) : DE := do
  let b ← dB ra
  if b then rb else pure (.bl false, .shr)
def dOrV (ra rb : DE) : DE := do
  let b ← dB ra
  if b then pure (.bl true, .shr) else rb
def dNotV (ra : DE) : DE := do
  let b ← dB ra
  pure (.bl !b, .shr)
theorem dB_bind {G : Fix} {O : Own} {σ : St} {H : Hp} {ρ : Rho} {K : PySem.W.Frag} {W : WX} {f : Bool → DE} {Q : Bool → Hp → Prop} {Q2 : VK} (hK : G.K = K) (R : Rel G O σ H ρ [])
    (h : ((dB ra >>= f) ρ).post (fun x ρ' => ∀ O' v H', Rel G O' σ H' ρ' [⟨v, x.1, x.2⟩] → Q2 v H') (EX G σ W))
    (i : ∀ b ρ1 O1 H1, Rel G O1 σ H1 ρ1 [] → ((f b) ρ1).post (fun x ρ' => ∀ O' v H', Rel G O' σ H' ρ' [⟨v, x.1, x.2⟩] → Q2 v H') (EX G σ W) → Q b H1) : tE K W ra σ H fun x H' => ∃ k, x = .bl k ∧ Q k H' :=
  dB_post hK R (Res.post_ok ((post_bind _ _).mp h) fun b ρ1 q O1 H1 R1 => i b ρ1 O1 H1 R1 q)
theorem se_and (ha : SE X a ra) (hb : SE X (.BoolOp .And (b :: rest) pos) rb) : SE X (.BoolOp .And (a :: b :: rest) pos) (dAndV ra rb) := fun W tk => PE.imp (pe_and (ha W tk) (hb W tk)) fun σ H Q ⟨G, O, ρ, hK, R, h⟩ =>
  dB_bind hK R h fun b ρ1 O1 H1 R1 q => by
    cases b with
    | true => rw [if_pos rfl] at q ⊢; exact ⟨G, O1, ρ1, hK, R1, q⟩
    | false => rw [if_neg Bool.false_ne_true] at q ⊢; exact q O1 _ H1 (R1.con _)
theorem se_or (ha : SE X a ra) (hb : SE X (.BoolOp .Or (b :: rest) pos) rb) : SE X (.BoolOp .Or (a :: b :: rest) pos) (dOrV ra rb) := fun W tk => PE.imp (pe_or (ha W tk) (hb W tk)) fun σ H Q ⟨G, O, ρ, hK, R, h⟩ =>
  dB_bind hK R h fun b ρ1 O1 H1 R1 q => by
    cases b with
    | true => rw [if_pos rfl] at q ⊢; exact q O1 _ H1 (R1.con _)
    | false => rw [if_neg Bool.false_ne_true] at q ⊢; exact ⟨G, O1, ρ1, hK, R1, q⟩
theorem se_one {op} (ha : SE X a ra) : SE X (.BoolOp op [a] pos) ra := fun W tk => pe_one (ha W tk)
theorem se_not (ha : SE X a ra) : SE X (.UnaryOp .Not a pos) (dNotV ra) := fun W tk => PE.imp (pe_not (ha W tk)) fun σ H Q ⟨G, O, ρ, hK, R, h⟩ =>
  dB_bind hK R h fun b ρ1 O1 H1 R1 q => q O1 _ H1 (R1.con _)
def dIfx (q : M Bool) (ra rb : DE) : DE := do
  let b ← q
  if b then ra else rb
theorem se_ifx {t : Expr} (ht : ST X t qa) (ha : SE X a ra) (hb : SE X b rb) : SE X (.IfExp t a b pos) (dIfx qa ra rb) := fun W tk => PE.imp (pe_ifExp (ht W tk) (ha W tk) (hb W tk)) fun σ H Q ⟨G, O, ρ, hK, R, h⟩ =>
  ⟨G, O, ρ, hK, R, Res.post_ok ((post_bind _ _).mp h) fun b ρ1 q O1 H1 R1 => by
    cases b with
    | true => rw [if_pos rfl] at q ⊢; exact ⟨G, O1, ρ1, hK, R1, q⟩
    | false => rw [if_neg Bool.false_ne_true] at q ⊢; exact ⟨G, O1, ρ1, hK, R1, q⟩⟩
/-- a comparison: the heap stays -/
def CmpS (K : PySem.W.Frag) (rr : R2) (g : D → D → Option Bool) : Prop := ∀ (a b : V) (H : Hp) (x y : D) (k : Bool) (O : Own) (Q : VK), Vw K H O a x → Vw K H O b y → g x y = some k → Q (.bl k) H → rr a b H Q
def dCmp (g : D → D → Option Bool) (ra rb : DE) : DE := dOp2 (fun x y => (g x y).map fun k => (.bl k, .shr)) ra rb
theorem CmpS.os {K : PySem.W.Frag} {rr : R2} {g : D → D → Option Bool} (h : CmpS K rr g) : OpS2 K rr (fun x y => (g x y).map fun k => (.bl k, .shr)) := by
  intro G O σ H ρ a b x y z Q hK R v1 v2 e q
  obtain ⟨v, e1, e2⟩ := Option.map_eq_some_iff.mp e
  subst e2
  exact h a b H x y v O Q v1 v2 e1 (q O _ H (R.con _))
def gC (f : Int → Int → Bool) (x y : D) : Option Bool := match x, y with
  | .con (.int i), .con (.int j) => some (f i j)
  | _, _ => none
theorem cs_int {K : PySem.W.Frag} {f : Int → Int → Bool} : CmpS K (rI0 fun i j => .bl (f i j)) (gC f) := fun a b H x y k O Q v1 v2 e q => by
  unfold gC at e
  split at e
  · cases e
    exact ⟨_, _, v1.con, v2.con, q⟩
  · cases e
/-- a op1 b op2 c -/
def dChain (g g' : D → D → Option Bool) (ra rb rc : DE) : DE := do
  let x ← ra
  let y ← rb
  let d ← dcur x
  let e ← dcur y
  let k ← mOpt (g d e)
  if k then do
    let u ← rc
    let e' ← dcur y
    let f ← dcur u
    let k' ← mOpt (g' e' f)
    pure (.bl k', .shr)
  else pure (.bl false, .shr)
theorem chain_of {K : PySem.W.Frag} {W : WX} {rr rr' : R2} {g g' : D → D → Option Bool} (hs : CmpS K rr g) (hs' : CmpS K rr' g') (σ : St) (H : Hp) (Q : VK)
    (h : tE K W (dChain g g' ra rb rc) σ H Q) : tChain rr rr' (tE K W ra) (tE K W rb) (tE K W rc) σ H Q := by
  obtain ⟨G, O, ρ, hK, R, h⟩ := h
  refine tE.at hK R (Res.post_ok ((post_bind _ _).mp h) fun x ρ1 q O1 v H1 R1 => ?_)
  refine tE.at hK R1 (Res.post_ok ((post_bind _ _).mp q) fun y ρ2 q2 O2 w H2 R2 => ?_)
  obtain ⟨d, e1, q3⟩ := post_cur.mp ((post_bind _ _).mp q2)
  obtain ⟨e, e2, q4⟩ := post_cur.mp ((post_bind _ _).mp q3)
  obtain ⟨k, e3, q5⟩ := (post_opt _).mp ((post_bind _ _).mp q4)
  have v1 := R2.view R2.tm.2.1 e1
  have v2 := R2.view R2.tm.1 e2
  rw [hK] at v1 v2
  refine hs v w H2 d e k O2 _ v1 v2 e3 ⟨k, rfl, ?_⟩
  cases k with
  | false => rw [if_neg Bool.false_ne_true] at q5 ⊢; exact q5 O2 _ H2 (R2.nil.con _)
  | true =>
    rw [if_pos rfl] at q5 ⊢
    refine tE.at hK R2 (Res.post_ok ((post_bind _ _).mp q5) fun u ρ3 q6 O3 w3 H3 R3 => ?_)
    obtain ⟨e', e4, q7⟩ := post_cur.mp ((post_bind _ _).mp q6)
    obtain ⟨f, e5, q8⟩ := post_cur.mp ((post_bind _ _).mp q7)
    obtain ⟨k', e6, q9⟩ := (post_opt _).mp ((post_bind _ _).mp q8)
    have v3 := R3.view R3.tm.2.1 e4
    have v4 := R3.view R3.tm.1 e5
    rw [hK] at v3 v4
    exact hs' w w3 H3 e' f k' O3 Q v3 v4 e6 (q9 O3 _ H3 (R3.nil.con _))
theorem se_chain {op op' : CmpOp} {rr rr' : R2} {g g' : D → D → Option Bool} (ho : OpR X (compareOp op) rr) (ho' : OpR X (compareOp op') rr') (hs : CmpS X.K rr g) (hs' : CmpS X.K rr' g') (ha : SE X a ra) (hb : SE X b rb) (hc : SE X c rc)
    (hm : lastMarks [op, op'] [b, c] = false := by with_unfolding_all rfl) : SE X (.Compare a [op, op'] [b, c] pos) (dChain g g' ra rb rc) := fun W tk => PE.imp (pe_chain ho ho' (ha W tk) (hb W tk) (hc W tk) hm) (chain_of hs hs')
theorem st_chain {op op' : CmpOp} {rr rr' : R2} {g g' : D → D → Option Bool} (ho : OpR X (compareOp op) rr) (ho' : OpR X (compareOp op') rr') (hs : CmpS X.K rr g) (hs' : CmpS X.K rr' g') (ha : SE X a ra) (hb : SE X b rb) (hc : SE X c rc)
    (hm : lastMarks [op, op'] [b, c] = false := by with_unfolding_all rfl) : ST X (.Compare a [op, op'] [b, c] pos) (dB (dChain g g' ra rb rc)) := fun W tk => PT.imp (pt_chain ho ho' (ha W tk) (hb W tk) (hc W tk) hm) fun σ H Q ⟨G, O, ρ, hK, R, h⟩ => chain_of (W := W) hs hs' σ H _ (dB_post hK R h)

/-! ### arguments -/
def pushC : List V → List (D × Kd) → List Tmp → List Tmp
  | v :: vs, x :: xs, T => pushC vs xs (⟨v, x.1, x.2⟩ :: T)
  | _, _, T => T
def keep (b : Bool) (x : D × Kd) : M (D × Kd) := match b with
  | true => pure x
  | false => do
    let d ← dcur x
    settleM x.2
    pure (d, .shr)
def dA : List (Bool × DE) → M (List (D × Kd))
  | [] => pure []
  | (b, e) :: es => do
    let x ← e
    let y ← keep b x
    let ys ← dA es
    pure (y :: ys)
def tA (K : PySem.W.Frag) (W : WX) (r : M (List (D × Kd))) : TA := fun σ H Q => ∃ G O ρ T, G.K = K ∧ Rel G O σ H ρ T ∧
  (r ρ).post (fun xs ρ' => ∀ O' vs H', vs.length = xs.length → Rel G O' σ H' ρ' (pushC vs xs T) → Q vs H') (EX G σ W)
def SA (X : Cx) (es : List Expr) (l : List (Bool × DE)) : Prop := ∀ W, Takes X W → PA X es (tA X.K W (dA l))
theorem sa_nil : SA X [] [] := fun W tk => PA.imp pa_nil fun σ H Q ⟨G, O, ρ, T, hK, R, h⟩ => h O [] H rfl R
theorem keep_post {G : Fix} {O : Own} {σ : St} {H : Hp} {ρ : Rho} {b : Bool} {x : D × Kd} {v : V} {T : List Tmp} {Q : D × Kd → Rho → Prop} {E : Exn → Rho → Prop} (R : Rel G O σ H ρ (⟨v, x.1, x.2⟩ :: T)) (h : ((keep b x) ρ).post Q E) :
    ∃ O' y ρ', Rel G O' σ H ρ' (⟨v, y.1, y.2⟩ :: T) ∧ Q y ρ' := by
  cases b with
  | true => exact ⟨O, x, ρ, R, h⟩
  | false =>
    obtain ⟨d, e1, q⟩ := post_cur.mp ((post_bind _ _).mp h)
    obtain ⟨O', R'⟩ := R.settle (d := d) e1
    exact ⟨O', (d, .shr), _, R', q⟩
theorem sa_cons {b : Bool} {l : List (Bool × DE)} (ha : SE X e r) (hs : SA X es l) (hst : starEach (e :: es) X.env = (false, eval e X.env) :: starEach es X.env := by rfl) : SA X (e :: es) ((b, r) :: l) := fun W tk =>
  PA.imp (pa_cons (ha W tk) (hs W tk) hst) fun σ H Q ⟨G, O, ρ, T, hK, R, h⟩ => by
    refine tE.at hK R (Res.post_ok ((post_bind _ _).mp h) fun x ρ1 q O1 v H1 R1 => ?_)
    obtain ⟨O2, y, ρ2, R2, q2⟩ := keep_post R1 ((post_bind _ _).mp q)
    exact ⟨G, O2, ρ2, _, hK, R2, Res.post_ok ((post_bind _ _).mp q2) fun ys ρ3 q3 O3 vs H3 hl R3 => q3 O3 (v :: vs) H3 (congrArg (· + 1) hl) R3⟩
theorem pushC_pop {G : Fix} {O : Own} {σ : St} {H : Hp} {ρ : Rho} : ∀ {vs : List V} {xs : List (D × Kd)} {T : List Tmp}, Rel G O σ H ρ (pushC vs xs T) → Rel G O σ H ρ T
  | v :: vs, x :: xs, T, R => (pushC_pop (vs := vs) (xs := xs) R).pop
  | [], _, T, R => by unfold pushC at R; exact R
  | _ :: _, [], T, R => by unfold pushC at R; exact R
/-- all values that are shared -/
def shrs : List (D × Kd) → Option (List D)
  | [] => some []
  | (d, .shr) :: r => (shrs r).map (d :: ·)
  | _ => none
theorem pushC_reps {G : Fix} {O : Own} {σ : St} {H : Hp} {ρ : Rho} : ∀ {vs : List V} {xs : List (D × Kd)} {T : List Tmp} {ds : List D}, vs.length = xs.length → Rel G O σ H ρ (pushC vs xs T) → shrs xs = some ds → Reps G.K H (lin O) vs ds
  | [], [], T, ds, _, R, e => by cases e; exact .nil
  | v :: vs, (d, k) :: xs, T, ds, hl, R, e => by
    cases k with
    | shr =>
      obtain ⟨r, e1, e2⟩ := Option.map_eq_some_iff.mp (show (shrs xs).map (d :: ·) = some ds from e)
      subst e2
      exact .cons (pushC_pop (vs := vs) (xs := xs) (T := ⟨v, d, .shr⟩ :: T) R).tm.1 (pushC_reps (T := ⟨v, d, .shr⟩ :: T) (Nat.succ.inj hl) R e1)
    | fr => cases e
    | nm i => cases e
  | [], _ :: _, _, _, hl, _, _ => by cases hl
  | _ :: _, [], _, _, hl, _, _ => by cases hl
def curs (ρ : Rho) : List (D × Kd) → Option (List D)
  | [] => some []
  | x :: xs => match cur ρ x with
    | some d => (curs ρ xs).map (d :: ·)
    | none => none
inductive Vws (K : PySem.W.Frag) (H : Hp) (O : Own) : List V → List D → Prop
  | nil : Vws K H O [] []
  | cons {v : V} {vs : List V} {d : D} {ds : List D} : Vw K H O v d → Vws K H O vs ds → Vws K H O (v :: vs) (d :: ds)
theorem pushC_vws {G : Fix} {O : Own} {σ : St} {H : Hp} {ρ : Rho} : ∀ {vs : List V} {xs : List (D × Kd)} {T : List Tmp} {ds : List D}, vs.length = xs.length → Rel G O σ H ρ (pushC vs xs T) → curs ρ xs = some ds → Vws G.K H O vs ds
  | [], [], T, ds, _, R, e => by cases e; exact .nil
  | v :: vs, x :: xs, T, ds, hl, R, e => by
    unfold curs at e
    split at e
    · rename_i d hd
      obtain ⟨r, e1, e2⟩ := Option.map_eq_some_iff.mp e
      subst e2
      have R1 := pushC_pop (vs := vs) (xs := xs) (T := ⟨v, x.1, x.2⟩ :: T) R
      exact .cons (R1.view R1.tm.1 hd) (pushC_vws (T := ⟨v, x.1, x.2⟩ :: T) (Nat.succ.inj hl) R e1)
    · cases e
  | [], _ :: _, _, _, hl, _, _ => by cases hl
  | _ :: _, [], _, _, hl, _, _ => by cases hl
def dcurs (xs : List (D × Kd)) : M (List D) := fun ρ => match curs ρ xs with
  | some ds => .ok ds ρ
  | none => .stuck
theorem post_curs {xs : List (D × Kd)} {Q : List D → Rho → Prop} {E : Exn → Rho → Prop} {ρ : Rho} : ((dcurs xs) ρ).post Q E ↔ ∃ d, curs ρ xs = some d ∧ Q d ρ := by
  unfold dcurs
  cases curs ρ xs with
  | none => exact ⟨fun h => h.elim, fun ⟨_, e, _⟩ => by cases e⟩
  | some a => exact ⟨fun h => ⟨a, rfl, h⟩, fun ⟨_, e, h⟩ => by cases e; exact h⟩

/-! ### displays -/
def cap : Nat := 16777216
def gD (f : List D → D) (k : Kd) (xs : List (D × Kd)) : Option (D × Kd) := match shrs xs with
  | some ds => if ds.length ≤ cap then some (f ds, k) else none
  | none => none
def dLst (l : List (Bool × DE)) : DE := do
  let xs ← dA l
  mOpt (gD .lst .fr xs)
def dTup (l : List (Bool × DE)) : DE := do
  let xs ← dA l
  mOpt (gD .tup .shr xs)
theorem cap_eq : cap = sizeLine := sizeLine_eq.symm
theorem gD_of {f : List D → D} {k : Kd} {xs : List (D × Kd)} {z : D × Kd} (h : gD f k xs = some z) : ∃ ds, shrs xs = some ds ∧ ds.length ≤ sizeLine ∧ z = (f ds, k) := by
  unfold gD at h
  split at h
  · rename_i ds e
    split at h
    · rename_i hl
      cases h
      exact ⟨ds, e, by rw [← cap_eq]; exact hl, rfl⟩
    · cases h
  · cases h
theorem se_lst {l : List (Bool × DE)} (hs : SA X es l) : SE X (.List es pos) (dLst l) := fun W tk => PE.imp (pe_lst (hs W tk)) fun σ H Q ⟨G, O, ρ, hK, R, h⟩ => by
  refine ⟨G, O, ρ, [], hK, R, Res.post_ok ((post_bind _ _).mp h) fun xs ρ1 q O1 vs H1 hl R1 => ?_⟩
  obtain ⟨z, e, q2⟩ := (post_opt _).mp q
  obtain ⟨ds, e1, e2, e3⟩ := gD_of e
  subst e3
  have rp := pushC_reps hl R1 e1
  refine ⟨by rw [rp.len]; exact e2, fun p hp => ?_⟩
  obtain ⟨O2, R2⟩ := (pushC_pop R1).fresh (d := .lst ds) hp (.lst rp)
  exact q2 O2 _ _ R2
theorem se_tup {k} {l : List (Bool × DE)} (hs : SA X es l) : SE X (.Tuple es k pos) (dTup l) := fun W tk => PE.imp (pe_tup (hs W tk)) fun σ H Q ⟨G, O, ρ, hK, R, h⟩ => by
  refine ⟨G, O, ρ, [], hK, R, Res.post_ok ((post_bind _ _).mp h) fun xs ρ1 q O1 vs H1 hl R1 => ?_⟩
  obtain ⟨z, e, q2⟩ := (post_opt _).mp q
  obtain ⟨ds, e1, e2, e3⟩ := gD_of e
  subst e3
  have rp := pushC_reps hl R1 e1
  refine ⟨by rw [rp.len]; exact e2, fun p hp => ?_⟩
  exact q2 O1 _ _ ((pushC_pop R1).freshT (d := .tup ds) hp (.tup rp))

/-! ### calls of built-ins by value -/
def OpS (K : PySem.W.Frag) (r : List V → Hp → VK → Prop) (g : List D → Option (D × Kd)) : Prop := ∀ (G : Fix) (O : Own) (σ : St) (H : Hp) (ρ : Rho) (vs : List V) (ds : List D) (z : D × Kd) (Q : VK), G.K = K → Rel G O σ H ρ [] → Vws K H O vs ds →
  g ds = some z → (∀ O' v H', Rel G O' σ H' ρ [⟨v, z.1, z.2⟩] → Q v H') → r vs H Q
def dBi (g : List D → Option (D × Kd)) (l : List (Bool × DE)) : DE := do
  let xs ← dA l
  let ds ← dcurs xs
  mOpt (g ds)
theorem OpS.tCB {K : PySem.W.Frag} {W : WX} {rr : List V → Hp → VK → Prop} {g : List D → Option (D × Kd)} {l : List (Bool × DE)} (hs : OpS K rr g) (σ : St) (H : Hp) (Q : VK) (h : tE K W (dBi g l) σ H Q) : L2.tCB rr (tA K W (dA l)) σ H Q := by
  obtain ⟨G, O, ρ, hK, R, h⟩ := h
  refine ⟨G, O, ρ, [], hK, R, Res.post_ok ((post_bind _ _).mp h) fun xs ρ1 q O1 vs H1 hl R1 => ?_⟩
  obtain ⟨ds, e1, q2⟩ := post_curs.mp ((post_bind _ _).mp q)
  obtain ⟨z, e2, q3⟩ := (post_opt _).mp q2
  have v1 := pushC_vws hl R1 e1
  rw [hK] at v1
  exact hs G O1 σ H1 ρ1 vs ds z Q hK (pushC_pop R1) v1 e2 q3
theorem se_callB {x : Str} {p : Pos} {id : String} {rr : List V → Hp → VK → Prop} {g : List D → Option (D × Kd)} {l : List (Bool × DE)} (hc : CallR X (.builtin id) rr) (hs : OpS X.K rr g) (hm : X.mg x = none) (ha : SA X (e :: es) l)
    (hv : bootBuiltins x = some (.builtin id) := by decide +kernel) (hg : Gl X x := by rfl) (hn : x ≠ "__name__" := by decide) (hdb : (x == ("__debug__" : Str)) = false := by decide)
    (he : starEach (e :: es) X.env = (false, eval e X.env) :: starEach es X.env := by rfl) (hpl : (backTo pos (starEach es X.env)).any (·.1) = false := by rfl) : SE X (.Call (.Name x p) (e :: es) [] pos) (dBi g l) :=
  fun W tk => PE.imp (pe_callB hc hg hm hv (ha W tk) hn hdb he hpl) (hs.tCB)
theorem se_callTy {x : Str} {p : Pos} {T : String} {rr : List V → Hp → VK → Prop} {g : List D → Option (D × Kd)} {l : List (Bool × DE)} (hc : CallR X (.type T) rr) (hs : OpS X.K rr g) (hm : X.mg x = none) (ha : SA X (e :: es) l)
    (hv : bootBuiltins x = some (.type T) := by decide +kernel) (hg : Gl X x := by rfl) (hn : x ≠ "__name__" := by decide) (hdb : (x == ("__debug__" : Str)) = false := by decide)
    (he : starEach (e :: es) X.env = (false, eval e X.env) :: starEach es X.env := by rfl) (hpl : (backTo pos (starEach es X.env)).any (·.1) = false := by rfl) : SE X (.Call (.Name x p) (e :: es) [] pos) (dBi g l) :=
  fun W tk => PE.imp (pe_callTy hc hg hm hv (ha W tk) hn hdb he hpl) (hs.tCB)
end
end L2.VL
end
section
set_option Elab.async false
set_option linter.all false
set_option maxRecDepth 100000
/-! VLd: statements: stores, returns, ifs, loops. -/
namespace L2.VL
open PySem PySem.Spec PyProof.Rows
/-- the context's plain facts -/
structure CxG (X : Cx) : Prop where
  calm : X.calm = true
  nd : X.N.Nodup
  pass : PassesOwn (model X.prog X.w) X.A X.env X.xe
section
variable {X : Cx} {a b c e : Expr} {es : List Expr} {st : Stmt} {sts : List Stmt} {ra rb rc r : DE} {qa : M Bool} {sa sb : DS} {pos : Pos}
def dNext : DS := pure .nx
def dSeq (sa sb : DS) : DS := do
  let f ← sa
  match f with
  | .nx => sb
  | f => pure f
theorem ss_nil {pj : VK → VK} : SSsf pj X [] dNext := fun W tk => PSs.imp pss_nil fun D σ H ⟨G, O, ρ, hK, R, h⟩ => h O σ H R
theorem ss_cons {pj : VK → VK} (h1 : SSf pj X st sa) (h2 : SSsf pj X sts sb) : SSsf pj X (st :: sts) (dSeq sa sb) := fun W tk => PSs.imp (pss_cons (h1 W tk) (h2 W tk)) fun D σ H ⟨G, O, ρ, hK, R, h⟩ =>
  ⟨G, O, ρ, hK, R, Res.post_ok ((post_bind _ _).mp h) fun f ρ1 q => by
    cases f with
    | nx => exact fun O' σ' H' R' => ⟨G, O', ρ1, hK, R', q⟩
    | brk => exact q
    | cnt => exact q
    | ret d b => exact q⟩
theorem ss_one {pj : VK → VK} (h1 : SSf pj X st sa) : SSsf pj X [st] sa := fun W tk => pss_one (h1 W tk)
def dPass : DS := pure .nx
def dBrk : DS := pure .brk
def dCnt : DS := pure .cnt
theorem ss_pass {pj : VK → VK} : SSf pj X (.Pass pos) dPass := fun W tk => PS.imp ps_pass fun D σ H ⟨G, O, ρ, hK, R, h⟩ => h O σ H R
theorem ss_break {pj : VK → VK} : SSf pj X (.Break pos) dBrk := fun W tk => PS.imp ps_break fun D σ H ⟨G, O, ρ, hK, R, h⟩ => h O σ H R
theorem ss_continue {pj : VK → VK} : SSf pj X (.Continue pos) dCnt := fun W tk => PS.imp ps_continue fun D σ H ⟨G, O, ρ, hK, R, h⟩ => h O σ H R
theorem ss_doc {pj : VK → VK} {x j pos'} : SSf pj X (.Expr (.Constant (.str x) j pos) pos') dPass := fun W tk => PS.imp ps_doc fun D σ H ⟨G, O, ρ, hK, R, h⟩ => h O σ H R
def dExpr (r : DE) : DS := do
  let _ ← r
  pure .nx
theorem ss_expr {pj : VK → VK} (he : SE X e r) (hs : swapsWith e none pos.line X.env = pure false := by rfl) : SSf pj X (.Expr e pos) (dExpr r) := fun W tk => PS.imp (ps_expr (he W tk) hs) fun D σ H ⟨G, O, ρ, hK, R, h⟩ =>
  ⟨G, O, ρ, hK, R, Res.post_mono ((post_bind _ _).mp h) (fun x ρ1 q O' v H' R' => q O' σ H' R'.pop) fun x ρ' q => q σ⟩
/-- what is handed back: a def's own new object goes along with its name -/
def takeNm (d : D) (i : Nat) : M (D × Bool) := fun ρ => match ρ[i]? with
  | some (some s) => if s.own && !s.pin then .ok (d, true) (ρ.set i none) else .ok (d, false) (shareR ρ i)
  | _ => .stuck
def dTake (x : D × Kd) : M (D × Bool) := do
  let d ← dcur x
  match x.2 with
  | .fr => pure (d, true)
  | .shr => pure (d, false)
  | .nm i => takeNm d i
def dRet (r : DE) : DS := do
  let x ← r
  let y ← dTake x
  pure (.ret y.1 y.2)
theorem Rel.take {G : Fix} {O : Own} {σ : St} {H : Hp} {ρ : Rho} {i : Nat} {s : Slot} {v : V} {T : List Tmp} (R : Rel G O σ H ρ T) (e : ρ[i]? = some (some s)) (ho : s.own = true) (hp : s.pin = false) (hv : σ[i]? = some (some v)) :
    ∃ O', Rel G O' σ H (ρ.set i none) (⟨v, s.d, .fr⟩ :: T) := by
  have hi : i < ρ.length := (List.getElem?_eq_some_iff.mp e).1
  obtain ⟨v', h1, h2⟩ := R.sl i s e
  rw [hv] at h1; cases h1
  unfold SlotOk at h2
  rw [ho] at h2
  obtain ⟨a0, u, ev, ea, hh, c⟩ := h2
  have hs : Stay H H (lin O) (lin (oset O a0 (some (.tp T.length)))) := fun a o n e => by
    refine ⟨e, ?_⟩
    unfold lin at n ⊢
    rw [oset_ne (fun z => n (by rw [z, ea]; simp))]; exact n
  refine ⟨oset O a0 (some (.tp T.length)), by simpa using R.len, fun b o e => ?_, fun b => ?_, fun a w e => ?_, fun j u hj => ?_, fun j u hj => ?_, ⟨⟨a0, u, ev, oset_eq rfl, hh, c.mono hs⟩, ?_⟩⟩
  · obtain ⟨p1, p2⟩ := R.fr b o e
    rw [oset_ne (fun z => ?_)]
    · exact ⟨p1, p2⟩
    · rw [z, ea] at p2
      rcases p2 with p2 | p2 <;> cases p2
  · by_cases z : b = a0
    · rw [oset_eq z]
      constructor
      · intro q; cases q
      · intro q
        have := (R.ot b).mpr q
        rw [z, ea] at this; cases this
    · rw [oset_ne z]; exact R.ot b
  · by_cases z : a = a0
    · rw [z]; exact ⟨_, hh⟩
    · rw [oset_ne z] at e; exact R.tr a w e
  · obtain ⟨p, s', q, c⟩ := R.pn j u hj
    refine ⟨p, s', ?_, c⟩
    rw [List.getElem?_set_ne (fun z => ?_)]
    · exact q
    · rw [← z, e] at q
      cases q
      rw [hp] at c; cases c
  · have z : j ≠ i := fun z => by
      rw [z, List.getElem?_set_self hi] at hj
      cases hj
    rw [List.getElem?_set_ne (Ne.symm z)] at hj
    obtain ⟨v', p1, p2⟩ := R.sl j u hj
    refine ⟨v', p1, slot_mono hs (fun a o e1 e2 => ?_) p2⟩
    rw [oset_ne (fun y => ?_)]
    · exact ⟨e1, e2⟩
    · rw [y, ea] at e1
      cases e1
      exact z rfl
  · refine tmps_mono hs (fun a o n hn e1 e2 => ?_) R.tm
    rw [oset_ne (fun y => ?_)]
    · exact ⟨e1, e2⟩
    · rw [y, ea] at e1
      cases e1
theorem take_post {G : Fix} {O : Own} {σ : St} {H : Hp} {ρ : Rho} {x : D × Kd} {v : V} {Q : D × Bool → Rho → Prop} {E : Exn → Rho → Prop} (R : Rel G O σ H ρ [⟨v, x.1, x.2⟩]) (h : ((dTake x) ρ).post Q E) :
    ∃ O' y ρ', Rel G O' σ H ρ' [⟨v, y.1, frK y.2⟩] ∧ Q y ρ' := by
  obtain ⟨d, e1, q⟩ := post_cur.mp ((post_bind _ _).mp h)
  obtain ⟨d0, k⟩ := x
  cases k with
  | fr => cases e1; exact ⟨O, (d0, true), ρ, R, q⟩
  | shr => cases e1; exact ⟨O, (d0, false), ρ, R, q⟩
  | nm i =>
    dsimp only at q
    unfold takeNm at q
    unfold cur at e1
    dsimp only at e1
    split at e1
    · rename_i s hs
      cases e1
      rw [hs] at q
      dsimp only at q
      by_cases z : (s.own && !s.pin) = true
      · rw [if_pos z] at q
        simp only [Bool.and_eq_true, Bool.not_eq_true'] at z
        obtain ⟨O', R'⟩ := R.pop.take hs z.1 z.2 R.tm.1
        exact ⟨O', (s.d, true), _, R', q⟩
      · rw [if_neg z] at q
        obtain ⟨O', R'⟩ := R.settle (d := s.d) (by unfold cur; dsimp only; rw [hs])
        exact ⟨O', (s.d, false), _, R', q⟩
    · cases e1
theorem ss_ret (he : SE X e r) : SS X (.Return (some e) pos) (dRet r) := fun W tk => PS.imp (ps_ret (he W tk)) fun D σ H ⟨G, O, ρ, hK, R, h⟩ =>
  ⟨G, O, ρ, hK, R, Res.post_mono ((post_bind _ _).mp h) (fun x ρ1 q O' v H' R' => by
    obtain ⟨O2, y, ρ2, R2, q2⟩ := take_post R' ((post_bind _ _).mp q)
    exact q2 O2 σ v H' R2) fun x ρ' q => q σ⟩
def dRetN : DS := pure (.ret .non false)
theorem ss_retN : SS X (.Return none pos) dRetN := fun W tk => PS.imp ps_retN fun D σ H ⟨G, O, ρ, hK, R, h⟩ => h O σ .non H (R.con _)
def dIf (q : M Bool) (sa sb : DS) : DS := do
  let b ← q
  if b then sa else sb
theorem ss_if {pj : VK → VK} {t : Expr} {A B : List Stmt} (ht : ST X t qa) (ha : SSsf pj X A sa) (hb : SSsf pj X B sb) : SSf pj X (.If t A B pos) (dIf qa sa sb) := fun W tk => PS.imp (ps_if (ht W tk) (ha W tk) (hb W tk)) fun D σ H ⟨G, O, ρ, hK, R, h⟩ =>
  ⟨G, O, ρ, hK, R, Res.post_mono ((post_bind _ _).mp h) (fun b ρ1 q O1 H1 R1 => by
    cases b with
    | true => rw [if_pos rfl] at q ⊢; exact ⟨G, O1, ρ1, hK, R1, q⟩
    | false => rw [if_neg Bool.false_ne_true] at q ⊢; exact ⟨G, O1, ρ1, hK, R1, q⟩) fun x ρ' q => q σ⟩
/-- name = e -/
def putEnd (i : Nat) (k : Kd) (d : D) : M Unit := fun ρ => if pinned (settleR ρ k) i then .stuck else .ok () ((settleR ρ k).set i (some ⟨d, ownOf k, false⟩))
def dPut (i : Nat) (x : D × Kd) : M Unit := do
  let d ← dcur x
  putEnd i x.2 d
theorem put_post {G : Fix} {O : Own} {σ : St} {H : Hp} {ρ : Rho} {i : Nat} {x : D × Kd} {v : V} {T : List Tmp} {Q : Unit → Rho → Prop} {E : Exn → Rho → Prop} (hT : NoNm T) (R : Rel G O σ H ρ (⟨v, x.1, x.2⟩ :: T)) (h : ((dPut i x) ρ).post Q E) :
    ∃ O' ρ', Rel G O' (σ.set i (some v)) H ρ' T ∧ Q () ρ' := by
  obtain ⟨d, e1, q⟩ := post_cur.mp ((post_bind _ _).mp h)
  unfold putEnd at q
  cases hp : pinned (settleR ρ x.2) i with
  | true => rw [hp] at q; exact q.elim
  | false =>
    rw [hp] at q
    obtain ⟨O', R'⟩ := R.assign (i := i) hT e1 hp
    exact ⟨O', _, R', q⟩
def dSet (i : Nat) (r : DE) : DS := do
  let x ← r
  dPut i x
  pure .nx
theorem ss_set {pj : VK → VK} (i : Nat) {x : Str} {pos' : Pos} (hx : CxG X) (he : SE X e r) (hi : X.N[i]? = some x := by rfl) (hl : Loc X.env.scope x := by first | exact Or.inl rfl | exact Or.inr rfl) (hs : swapsWith e (some (.Name x pos')) pos.line X.env = pure false := by rfl)
    (hf : X.fn x = true ∨ X.env.scope.names.lookup x = some .local := by first | exact .inl rfl | exact .inr rfl) : SSf pj X (.Assign [.Name x pos'] e pos) (dSet i r) := fun W tk => PS.imp (ps_set hx.nd hi hl (he W tk) hs hf) fun D σ H ⟨G, O, ρ, hK, R, h⟩ =>
  ⟨G, O, ρ, hK, R, Res.post_mono ((post_bind _ _).mp h) (fun y ρ1 q O' v H' R' => by
    obtain ⟨O2, ρ2, R2, q2⟩ := put_post .nil R' ((post_bind _ _).mp q)
    exact q2 O2 _ H' R2) fun x ρ' q => q σ⟩

/-! ### targets -/
/-- a target's names: one, or a tuple of them -/
inductive Tg where
  | one (i : Nat) | many (is : List Nat)
def Tg.slots : Tg → List Nat
  | .one i => [i]
  | .many is => is
def putAll : List Nat → List D → M Unit
  | [], [] => pure ()
  | i :: is, d :: ds => do
    dPut i (d, .shr)
    putAll is ds
  | _, _ => mStuck
def items (d : D) : Option (List D) := match d with
  | .tup ds => some ds
  | _ => none
def Tg.put (t : Tg) (d : D) : M Unit := match t with
  | .one i => dPut i (d, .shr)
  | .many is => do
    let ds ← mOpt (items d)
    putAll is ds
/-- the slots outside are as they were -/
def AgOut (is : List Nat) (σ σ' : St) : Prop := σ'.length = σ.length ∧ ∀ j, j ∉ is → σ'[j]? = σ[j]?
theorem AgOut.refl {is : List Nat} {σ : St} : AgOut is σ σ := ⟨rfl, fun _ _ => rfl⟩
def tG (K : PySem.W.Frag) (is : List Nat) (f : D → M Unit) : TG := fun v σ H Q => ∃ G O ρ T x, G.K = K ∧ NoNm T ∧ Rel G O σ H ρ (⟨v, x, .shr⟩ :: T) ∧ ((f x) ρ).post (fun _ ρ' => ∀ O' σ' H', AgOut is σ σ' → Rel G O' σ' H' ρ' T → Q σ' H') (fun _ _ => False)
def SG (X : Cx) (tg : Expr) (t : Tg) : Prop := PG X tg (tG X.K t.slots t.put)
theorem PG.imp {X : Cx} {e : Expr} {t t' : TG} (h : PG X e t) (i : ∀ v σ H Q, t' v σ H Q → t v σ H Q) : PG X e t' := ⟨fun pins s σ H v u Q I r q => h.run pins s σ H v u Q I r (i v σ H Q q)⟩
theorem PGs.imp {X : Cx} {e : List Expr} {t t' : TGs} (h : PGs X e t) (i : ∀ v σ H Q, t' v σ H Q → t v σ H Q) : PGs X e t' := ⟨fun pins s σ H v u Q I r q => h.run pins s σ H v u Q I r (i v σ H Q q)⟩
theorem AgOut.set {is : List Nat} {σ : St} {i : Nat} {v : Option V} (h : i ∈ is) : AgOut is σ (σ.set i v) := ⟨by simp, fun j hj => by rw [List.getElem?_set_ne]; exact fun z => hj (z ▸ h)⟩
theorem sg_name (i : Nat) {x : Str} (hx : CxG X) (hi : X.N[i]? = some x := by rfl) (hl : Loc X.env.scope x := by first | exact Or.inl rfl | exact Or.inr rfl)
    (hf : X.fn x = true ∨ X.env.scope.names.lookup x = some .local := by first | exact .inl rfl | exact .inr rfl) : SG X (.Name x pos) (.one i) :=
  PG.imp (pg_name hx.nd hi hl hf) fun v σ H Q ⟨G, O, ρ, T, x, hK, hT, R, h⟩ => by
    obtain ⟨O', ρ', R', q⟩ := put_post hT R h
    exact q O' _ H (AgOut.set (by simp [Tg.slots])) R'
/-- several values, the first on top -/
def pushR : List V → List D → List Tmp → List Tmp
  | v :: vs, d :: ds, T => ⟨v, d, .shr⟩ :: pushR vs ds T
  | _, _, T => T
theorem NoNm.pushR {T : List Tmp} (h : NoNm T) : ∀ {vs : List V} {ds : List D}, NoNm (pushR vs ds T)
  | v :: vs, d :: ds => (NoNm.pushR h (vs := vs) (ds := ds)).cons (fun i z => by cases z)
  | [], _ => h
  | _ :: _, [] => h
theorem Rel.pushR {G : Fix} {O : Own} {σ : St} {H : Hp} {ρ : Rho} {T : List Tmp} (R : Rel G O σ H ρ T) : ∀ {vs : List V} {ds : List D}, Reps G.K H (lin O) vs ds → Rel G O σ H ρ (VL.pushR vs ds T)
  | _, _, .nil => R
  | _, _, .cons a b => (R.pushR b).push a
def SGs (X : Cx) (es : List Expr) (is : List Nat) : Prop := PGs X es fun vs σ H Q => ∃ (G : Fix) (O : Own) (ρ : Rho) (T : List Tmp) (ds : List D), G.K = X.K ∧ NoNm T ∧ vs.length = ds.length ∧ Rel G O σ H ρ (pushR vs ds T) ∧
  ((putAll is ds) ρ).post (fun _ ρ' => ∀ O' σ' H', AgOut is σ σ' → Rel G O' σ' H' ρ' T → Q σ' H') (fun _ _ => False)
theorem sgs_nil : SGs X [] [] := PGs.imp pgs_nil fun vs σ H Q ⟨G, O, ρ, T, ds, hK, hT, hl, R, h⟩ => by
  cases ds with
  | nil =>
    cases vs with
    | nil => exact ⟨rfl, h O σ H AgOut.refl R⟩
    | cons v vs => cases hl
  | cons d ds => exact h.elim
theorem sgs_cons (i : Nat) {is : List Nat} {x : Str} (hx : CxG X) (h2 : SGs X es is) (hi : X.N[i]? = some x := by rfl) (hl : Loc X.env.scope x := by first | exact Or.inl rfl | exact Or.inr rfl)
    (hf : X.fn x = true ∨ X.env.scope.names.lookup x = some .local := by first | exact .inl rfl | exact .inr rfl)
    (hs : (assignEach (.Name x pos :: es) X.env).map (·.2) = assign (.Name x pos) X.env :: (assignEach es X.env).map (·.2) := by rfl) : SGs X (.Name x pos :: es) (i :: is) :=
  PGs.imp (pgs_cons (pg_name hx.nd hi hl hf) h2 hs) fun vs σ H Q ⟨G, O, ρ, T, ds, hK, hT, hl, R, h⟩ => by
    cases ds with
    | nil => exact h.elim
    | cons d ds =>
      cases vs with
      | nil => cases hl
      | cons v vs =>
        obtain ⟨O', ρ', R', q⟩ := put_post (NoNm.pushR hT) (R : Rel G O σ H ρ (⟨v, d, .shr⟩ :: pushR vs ds T)) ((post_bind _ _).mp h)
        refine ⟨v, vs, rfl, G, O', ρ', T, ds, hK, hT, Nat.succ.inj hl, R', Res.post_ok q fun _ ρ2 q2 O2 σ2 H2 ag R2 => q2 O2 σ2 H2 ⟨by rw [ag.1]; simp, fun j hj => ?_⟩ R2⟩
        rw [ag.2 j (fun z => hj (List.mem_cons_of_mem _ z)), List.getElem?_set_ne (fun z => hj (by rw [z]; exact List.mem_cons_self))]
theorem putAll_len : ∀ {is : List Nat} {ds : List D} {ρ : Rho} {Q : Unit → Rho → Prop} {E : Exn → Rho → Prop}, (∀ x ρ, ¬ E x ρ) → ((putAll is ds) ρ).post Q E → ds.length = is.length
  | [], [], _, _, _, _, _ => rfl
  | i :: is, d :: ds, ρ, Q, E, hE, h => by
    have h1 := (post_bind _ _).mp h
    cases q : (dPut i (d, .shr)) ρ with
    | stuck => rw [q] at h1; exact h1.elim
    | ex x ρ' => rw [q] at h1; exact (hE _ _ h1).elim
    | ok a ρ' =>
      rw [q] at h1
      exact congrArg (· + 1) (putAll_len hE h1)
  | [], _ :: _, _, _, _, _, h => h.elim
  | _ :: _, [], _, _, _, _, h => h.elim
theorem sg_tup {is : List Nat} {k : Nat} (hx : CxG X) (h : SGs X es is) (hn : (assignEach es X.env).length = is.length := by rfl) (hst : (assignEach es X.env).findIdx? (·.1) = none := by rfl) : SG X (.Tuple es k pos) (.many is) :=
  PG.imp (pg_tup hx.calm h hn hst) fun v σ H Q ⟨G, O, ρ, T, x, hK, hT, R, h⟩ => by
    obtain ⟨ds, e1, q⟩ := (post_opt _).mp ((post_bind _ _).mp h)
    unfold items at e1
    split at e1
    · rename_i xs
      cases e1
      have vw : Vw G.K H O v (.tup ds) := .inl R.tm.1
      obtain ⟨a, vs, rfl, sq, rp⟩ := vw.tup
      rw [hK] at sq
      have hl := putAll_len (fun _ _ z => z) q
      exact ⟨a, vs, rfl, sq, by rw [rp.len, hl], G, O, ρ, T, ds, hK, hT, rp.len, R.pop.pushR rp, q⟩
    · cases e1
/-- a, b = e -/
def dUnp (t : Tg) (r : DE) : DS := do
  let x ← r
  let y ← keep false x
  t.put y.1
  pure .nx
theorem keep_false {x : D × Kd} {ρ : Rho} {Q : D × Kd → Rho → Prop} {E : Exn → Rho → Prop} (h : ((keep false x) ρ).post Q E) : ∃ d, cur ρ x = some d ∧ Q (d, .shr) (settleR ρ x.2) := by
  obtain ⟨d, e1, q⟩ := post_cur.mp ((post_bind _ _).mp h)
  exact ⟨d, e1, q⟩
theorem noex {m : M Unit} {ρ : Rho} {Q Q' : Unit → Rho → Prop} {E : Exn → Rho → Prop} (hm : ∀ ρ x ρ', m ρ ≠ .ex x ρ') (h : (m ρ).post Q E) (i : ∀ ρ', Q () ρ' → Q' () ρ') : (m ρ).post Q' (fun _ _ => False) := by
  cases q : m ρ with
  | stuck => rw [q] at h; exact h
  | ok a ρ' => rw [q] at h; exact i _ h
  | ex x ρ' => exact absurd q (hm ρ x ρ')
theorem dPut_noex {i : Nat} {x : D × Kd} (ρ : Rho) (y : Exn) (ρ' : Rho) : (dPut i x) ρ ≠ .ex y ρ' := by
  show M.bind (dcur x) _ ρ ≠ _
  unfold M.bind dcur
  cases cur ρ x with
  | none => exact fun z => by cases z
  | some d =>
    dsimp only
    unfold putEnd
    split <;> (intro z; cases z)
theorem putAll_noex : ∀ {is : List Nat} {ds : List D} (ρ : Rho) (y : Exn) (ρ' : Rho), (putAll is ds) ρ ≠ .ex y ρ'
  | [], [], ρ, y, ρ' => fun z => by cases z
  | i :: is, d :: ds, ρ, y, ρ' => by
    show M.bind (dPut i (d, .shr)) _ ρ ≠ _
    unfold M.bind
    cases q : (dPut i (d, .shr)) ρ with
    | stuck => exact fun z => by cases z
    | ex x ρ2 => exact absurd q (dPut_noex ρ x ρ2)
    | ok a ρ2 => exact putAll_noex ρ2 y ρ'
  | [], _ :: _, ρ, y, ρ' => fun z => by cases z
  | _ :: _, [], ρ, y, ρ' => fun z => by cases z
theorem tg_noex {t : Tg} {d : D} (ρ : Rho) (y : Exn) (ρ' : Rho) : (t.put d) ρ ≠ .ex y ρ' := by
  cases t with
  | one i => exact dPut_noex ρ y ρ'
  | many is =>
    show M.bind (mOpt (items d)) _ ρ ≠ _
    unfold M.bind mOpt
    cases items d with
    | none => exact fun z => by cases z
    | some ds => exact putAll_noex ρ y ρ'
theorem ss_unp {pj : VK → VK} {tg : Expr} {t : Tg} (he : SE X e r) (hg : SG X tg t) (hs : swapsWithSole [tg] e pos.line X.env = pure false := by rfl) (hw : swappedStores [tg] e X.env = pure none := by rfl)
    (h1 : (assignEach [tg] X.env).map (·.2) = [assign tg X.env] := by rfl) : SSf pj X (.Assign [tg] e pos) (dUnp t r) := fun W tk => PS.imp (ps_asg (he W tk) hg hs hw h1) fun D σ H ⟨G, O, ρ, hK, R, h⟩ =>
  ⟨G, O, ρ, hK, R, Res.post_mono ((post_bind _ _).mp h) (fun x ρ1 q O' v H' R' => by
    obtain ⟨d, e1, q2⟩ := keep_false ((post_bind _ _).mp q)
    obtain ⟨O2, R2⟩ := R'.settle (d := d) e1
    exact ⟨G, O2, _, [], d, hK, .nil, R2, noex (fun ρ x ρ' => tg_noex ρ x ρ') ((post_bind _ _).mp q2) fun ρ' q3 O3 σ3 H3 _ R3 => q3 O3 σ3 H3 R3⟩) fun x ρ' q => q σ⟩
end
end L2.VL
end
section
set_option Elab.async false
set_option linter.all false
set_option maxRecDepth 100000
/-! VLe: what is walked; for, while; list comprehensions. -/
namespace L2.VL
open PySem PySem.Spec PyProof.Rows

/-! ### what is walked -/
def WalkOk (K : PySem.W.Frag) (T : List Tmp) (J : It) (xs : List D) : Prop := ∀ (G : Fix) (O : Own) (σ : St) (H : Hp) (ρ : Rho) (i : Nat) (T' : List Tmp), G.K = K → Rel G O σ H ρ (T' ++ T) →
  (i < xs.length → J.go i H) ∧ (xs.length ≤ i → J.stop i H) ∧ ∀ x, xs[i]? = some x → ∀ v H', J.yld i H v H' → ∃ O', Rel G O' σ H' ρ (⟨v, x, .shr⟩ :: (T' ++ T))
def tI (K : PySem.W.Frag) (W : WX) (it : M (List D)) : TI := fun σ H R => ∃ G O ρ, G.K = K ∧ Rel G O σ H ρ [] ∧
  (it ρ).post (fun xs ρ' => ∀ O' H' J T, NoNm T → Rel G O' σ H' ρ' T → WalkOk K T J xs → R J H') (EX G σ W)
def SI (X : Cx) (tg iter : Expr) (it : M (List D)) : Prop := ∀ W, Takes X W → PI X tg iter (tI X.K W it)
theorem PI.imp {X : Cx} {tg iter : Expr} {t t' : TI} (h : PI X tg iter t) (i : ∀ σ H Q, t' σ H Q → t σ H Q) : PI X tg iter t' := ⟨fun pins s σ H Q I q => h.run pins s σ H Q I (i σ H Q q)⟩
theorem tmp_in {K : PySem.W.Frag} {H : Hp} {O : Own} {σ : St} {t : Tmp} : ∀ {T T2 : List Tmp}, TmpsOk K H O σ (T2 ++ (t :: T)) → TmpOk K H O σ T.length t
  | T, [], h => h.1
  | T, u :: T2, h => tmp_in (T2 := T2) h.2
section
variable {X : Cx} {tg e : Expr} {es : List Expr} {r : DE} {pos p : Pos}
def lstOf (d : D) : Option (List D) := match d with
  | .lst xs => some xs
  | _ => none
def tupOf (d : D) : Option (List D) := match d with
  | .tup xs => some xs
  | _ => none
def iLst (r : DE) : M (List D) := do
  let x ← r
  let y ← keep false x
  mOpt (lstOf y.1)
def iTuple (r : DE) : M (List D) := do
  let x ← r
  let y ← keep false x
  mOpt (tupOf y.1)
theorem walk_lst {K : PySem.W.Frag} {a : Addr} {xs : List D} : WalkOk K [⟨.ref a, .lst xs, .shr⟩] (Itl K a) xs := fun G O σ H ρ i T' hK R => by
  have rp : Rep G.K H (lin O) (.ref a) (.lst xs) := tmp_in (T2 := T') (T := []) R.tm
  obtain ⟨b, vs, e, sq, rs⟩ := (show Vw G.K H O (.ref a) (.lst xs) from .inl rp).lst
  cases e
  rw [hK] at sq
  refine ⟨fun hi => ?_, fun hi => ⟨vs, sq, by rw [rs.len]; exact hi⟩, fun x hx v H' y => ?_⟩
  · obtain ⟨u, h1, _⟩ := rs.get (List.getElem?_eq_getElem hi)
    exact ⟨vs, u, sq, h1⟩
  · obtain ⟨rfl, f⟩ := y
    obtain ⟨u, h1, h2⟩ := rs.get hx
    have e := (f vs sq).symm.trans h1
    have ev : v = u := by
      have z := f vs sq
      rw [h1] at z
      exact (Option.some.inj z).symm
    rw [ev]
    exact ⟨O, R.push h2⟩
theorem walk_tup {K : PySem.W.Frag} {a : Addr} {xs : List D} : WalkOk K [⟨.ref a, .tup xs, .shr⟩] (Itt K a) xs := fun G O σ H ρ i T' hK R => by
  have rp : Rep G.K H (lin O) (.ref a) (.tup xs) := tmp_in (T2 := T') (T := []) R.tm
  obtain ⟨b, vs, e, sq, rs⟩ := (show Vw G.K H O (.ref a) (.tup xs) from .inl rp).tup
  cases e
  rw [hK] at sq
  refine ⟨fun hi => ?_, fun hi => ⟨vs, sq, by rw [rs.len]; exact hi⟩, fun x hx v H' y => ?_⟩
  · obtain ⟨u, h1, _⟩ := rs.get (List.getElem?_eq_getElem hi)
    exact ⟨vs, u, sq, h1⟩
  · obtain ⟨rfl, f⟩ := y
    obtain ⟨u, h1, h2⟩ := rs.get hx
    have ev : v = u := by
      have z := f vs sq
      rw [h1] at z
      exact (Option.some.inj z).symm
    rw [ev]
    exact ⟨O, R.push h2⟩
theorem si_lst (he : SE X e r) : SI X tg e (iLst r) := fun W tk => PI.imp (pi_list (he W tk)) fun σ H Q ⟨G, O, ρ, hK, R, h⟩ =>
  ⟨G, O, ρ, hK, R, Res.post_ok ((post_bind _ _).mp h) fun x ρ1 q O1 v H1 R1 => by
    obtain ⟨d, e1, q2⟩ := keep_false ((post_bind _ _).mp q)
    obtain ⟨xs, e2, q3⟩ := (post_opt _).mp q2
    obtain ⟨O2, R2⟩ := R1.settle (d := d) e1
    have ed : d = .lst xs := by
      unfold lstOf at e2
      dsimp only at e2
      split at e2
      · cases e2; rfl
      · cases e2
    subst ed
    obtain ⟨a, vs, rfl, sq, rs⟩ := (show Vw G.K H1 O2 v (.lst xs) from .inl R2.tm.1).lst
    rw [hK] at sq
    exact ⟨a, rfl, ⟨vs, sq⟩, q3 O2 H1 _ _ (NoNm.nil.cons fun i z => by cases z) R2 walk_lst⟩⟩
theorem si_tup (he : SE X e r) : SI X tg e (iTuple r) := fun W tk => PI.imp (pi_tup (he W tk)) fun σ H Q ⟨G, O, ρ, hK, R, h⟩ =>
  ⟨G, O, ρ, hK, R, Res.post_ok ((post_bind _ _).mp h) fun x ρ1 q O1 v H1 R1 => by
    obtain ⟨d, e1, q2⟩ := keep_false ((post_bind _ _).mp q)
    obtain ⟨xs, e2, q3⟩ := (post_opt _).mp q2
    obtain ⟨O2, R2⟩ := R1.settle (d := d) e1
    have ed : d = .tup xs := by
      unfold tupOf at e2
      dsimp only at e2
      split at e2
      · cases e2; rfl
      · cases e2
    subst ed
    obtain ⟨a, vs, rfl, sq, rs⟩ := (show Vw G.K H1 O2 v (.tup xs) from .inl R2.tm.1).tup
    rw [hK] at sq
    exact ⟨a, rfl, ⟨vs, sq⟩, q3 O2 H1 _ _ (NoNm.nil.cons fun i z => by cases z) R2 walk_tup⟩⟩
def rngD (lo : Int) (n : Nat) : List D := (List.range n).map fun (k : Nat) => D.int (lo + k)
def small62 (i : Int) : Bool := decide (-4611686018427387904 ≤ i) && decide (i < 4611686018427387904)
theorem small62_of {i : Int} (h : small62 i = true) : -(2 ^ 62) ≤ i ∧ i < 2 ^ 62 := by
  unfold small62 at h
  simp only [Bool.and_eq_true, decide_eq_true_eq] at h
  omega
def rng1 (ds : List D) : Option (List D) := match ds with
  | [.con (.int j)] => if small62 j then some (rngD 0 j.toNat) else none
  | _ => none
def rng2 (ds : List D) : Option (List D) := match ds with
  | [.con (.int i), .con (.int j)] => if small62 i && small62 j then some (rngD i (j - i).toNat) else none
  | _ => none
def iRng (g : List D → Option (List D)) (l : List (Bool × DE)) : M (List D) := do
  let xs ← dA l
  let ds ← dcurs xs
  mOpt (g ds)
theorem walk_rng {K : PySem.W.Frag} {lo : Int} {n : Nat} {T : List Tmp} : WalkOk K T (Itr lo n) (rngD lo n) := fun G O σ H ρ i T' hK R => by
  have hl : (rngD lo n).length = n := by unfold rngD; simp
  refine ⟨fun hi => (by rw [hl] at hi; exact hi), fun hi => (by rw [hl] at hi; exact hi), fun x hx v H' y => ?_⟩
  obtain ⟨rfl, rfl⟩ := y
  unfold rngD at hx
  rw [List.getElem?_map] at hx
  cases q : (List.range n)[i]? with
  | none => rw [q] at hx; cases hx
  | some k =>
    rw [q] at hx
    cases hx
    have := List.getElem?_eq_some_iff.mp q
    obtain ⟨h1, h2⟩ := this
    simp at h2
    subst h2
    exact ⟨O, R.con _⟩
theorem Vws.one {K : PySem.W.Frag} {H : Hp} {O : Own} {vs : List V} {d : D} (h : Vws K H O vs [d]) : ∃ v, vs = [v] ∧ Vw K H O v d := by
  cases h with
  | cons a b => cases b; exact ⟨_, rfl, a⟩
theorem Vws.two {K : PySem.W.Frag} {H : Hp} {O : Own} {vs : List V} {d e : D} (h : Vws K H O vs [d, e]) : ∃ v u, vs = [v, u] ∧ Vw K H O v d ∧ Vw K H O u e := by
  cases h with
  | cons a b =>
    obtain ⟨u, rfl, c⟩ := b.one
    exact ⟨_, _, rfl, a, c⟩
theorem Vws.three {K : PySem.W.Frag} {H : Hp} {O : Own} {vs : List V} {d e f : D} (h : Vws K H O vs [d, e, f]) : ∃ v u w, vs = [v, u, w] ∧ Vw K H O v d ∧ Vw K H O u e ∧ Vw K H O w f := by
  cases h with
  | cons a b =>
    obtain ⟨u, w, rfl, c, d⟩ := b.two
    exact ⟨_, _, _, rfl, a, c, d⟩
theorem si_rng1 {l : List (Bool × DE)} (hm : X.mg "range" = none) (ha : SA X [e] l) (hg : Gl X "range" := by rfl) (hs : starEach [e] X.env = [(false, eval e X.env)] := by rfl) : SI X tg (.Call (.Name "range" p) [e] [] pos) (iRng rng1 l) := fun W tk =>
  PI.imp (pi_range1 hg hm (ha W tk) hs) fun σ H Q ⟨G, O, ρ, hK, R, h⟩ => ⟨G, O, ρ, [], hK, R, Res.post_ok ((post_bind _ _).mp h) fun xs ρ1 q O1 vs H1 hl R1 => by
    obtain ⟨ds, e1, q2⟩ := post_curs.mp ((post_bind _ _).mp q)
    obtain ⟨z, e2, q3⟩ := (post_opt _).mp q2
    have v1 := pushC_vws hl R1 e1
    unfold rng1 at e2
    split at e2
    · rename_i j
      obtain ⟨v, rfl, w⟩ := v1.one
      split at e2
      · rename_i hj
        cases e2
        have b := small62_of hj
        exact ⟨j, by rw [w.con], b.1, b.2, q3 O1 H1 _ [] .nil (pushC_pop R1) walk_rng⟩
      · cases e2
    · cases e2⟩
theorem si_rng2 {e2 : Expr} {l : List (Bool × DE)} (hm : X.mg "range" = none) (ha : SA X [e, e2] l) (hg : Gl X "range" := by rfl) (hs : starEach [e, e2] X.env = [(false, eval e X.env), (false, eval e2 X.env)] := by rfl)
    (hs2 : starEach [e2] X.env = [(false, eval e2 X.env)] := by rfl) : SI X tg (.Call (.Name "range" p) [e, e2] [] pos) (iRng rng2 l) := fun W tk =>
  PI.imp (pi_range2 hg hm (ha W tk) hs hs2) fun σ H Q ⟨G, O, ρ, hK, R, h⟩ => ⟨G, O, ρ, [], hK, R, Res.post_ok ((post_bind _ _).mp h) fun xs ρ1 q O1 vs H1 hl R1 => by
    obtain ⟨ds, e1, q2⟩ := post_curs.mp ((post_bind _ _).mp q)
    obtain ⟨z, e2, q3⟩ := (post_opt _).mp q2
    have v1 := pushC_vws hl R1 e1
    unfold rng2 at e2
    split at e2
    · rename_i i j
      obtain ⟨v, u, rfl, w, w2⟩ := v1.two
      split at e2
      · rename_i hj
        cases e2
        rw [Bool.and_eq_true] at hj
        have b := small62_of hj.1
        have c := small62_of hj.2
        exact ⟨i, j, by rw [w.con, w2.con], ⟨b.1, b.2, c.1, c.2⟩, q3 O1 H1 _ [] .nil (pushC_pop R1) walk_rng⟩
      · cases e2
    · cases e2⟩
/-- zip of two lists -/
def iZip2 (l : List (Bool × DE)) : M (List D) := do
  let xs ← dA l
  let ds ← mOpt (shrs xs)
  mOpt (match ds with
    | [.lst a, .lst b] => some ((a.zip b).map fun p => .tup [p.1, p.2])
    | _ => none)
theorem walk_zip {K : PySem.W.Frag} {a b : Addr} {xs ys : List D} : WalkOk K [⟨.ref b, .lst ys, .shr⟩, ⟨.ref a, .lst xs, .shr⟩] (Itz K a b) ((xs.zip ys).map fun p => .tup [p.1, p.2]) := fun G O σ H ρ i T' hK R => by
  have rb : Rep G.K H (lin O) (.ref b) (.lst ys) := tmp_in (T2 := T') (T := [_]) R.tm
  have ra : Rep G.K H (lin O) (.ref a) (.lst xs) := tmp_in (t := ⟨.ref a, .lst xs, .shr⟩) (T2 := T' ++ [⟨.ref b, .lst ys, .shr⟩]) (T := []) (by simpa using R.tm)
  obtain ⟨_, vs, e, sq, rs⟩ := (show Vw G.K H O (.ref a) (.lst xs) from .inl ra).lst
  cases e
  obtain ⟨_, us, e, sq2, rs2⟩ := (show Vw G.K H O (.ref b) (.lst ys) from .inl rb).lst
  cases e
  rw [hK] at sq sq2
  have hl : ((xs.zip ys).map fun p => D.tup [p.1, p.2]).length = min xs.length ys.length := by simp
  refine ⟨fun hi => ?_, fun hi => ⟨vs, us, sq, sq2, ?_⟩, fun x hx v H' y => ?_⟩
  · rw [hl] at hi
    obtain ⟨u, h1, _⟩ := rs.get (List.getElem?_eq_getElem (show i < xs.length by omega))
    obtain ⟨u2, h2, _⟩ := rs2.get (List.getElem?_eq_getElem (show i < ys.length by omega))
    exact ⟨vs, us, u, u2, sq, sq2, h1, h2⟩
  · rw [hl] at hi
    rw [rs.len, rs2.len]
    omega
  · obtain ⟨P, x1, x2, rfl, nP, rfl, f1, f2⟩ := y
    rw [List.getElem?_map] at hx
    cases q : (xs.zip ys)[i]? with
    | none => rw [q] at hx; cases hx
    | some pr =>
      rw [q] at hx
      cases hx
      obtain ⟨z1, z2⟩ := List.getElem?_zip_eq_some.mp q
      obtain ⟨u, h1, k1⟩ := rs.get z1
      obtain ⟨u2, h2, k2⟩ := rs2.get z2
      have e1 : x1 = u := by
        have z := f1 vs sq
        rw [h1] at z
        exact (Option.some.inj z).symm
      have e2 : x2 = u2 := by
        have z := f2 us sq2
        rw [h2] at z
        exact (Option.some.inj z).symm
      rw [e1, e2]
      exact ⟨O, R.freshT nP (.tup (.cons k1 (.cons k2 .nil)))⟩
theorem si_zip {e2 : Expr} {elts : List Expr} {kk : Nat} {tpos : Pos} {l : List (Bool × DE)} (hm : X.mg "zip" = none) (ha : SA X [e, e2] l) (hg : Gl X "zip" := by rfl)
    (hs : starEach [e, e2] X.env = (false, eval e X.env) :: starEach [e2] X.env := by rfl) (hpl : (backTo pos (starEach [e2] X.env)).any (·.1) = false := by rfl) : SI X (.Tuple elts kk tpos) (.Call (.Name "zip" p) [e, e2] [] pos) (iZip2 l) := fun W tk =>
  PI.imp (pi_zip hg hm (ha W tk) hs hpl) fun σ H Q ⟨G, O, ρ, hK, R, h⟩ => ⟨G, O, ρ, [], hK, R, Res.post_ok ((post_bind _ _).mp h) fun xs ρ1 q O1 vs H1 hl R1 => by
    obtain ⟨ds, e1, q2⟩ := (post_opt _).mp ((post_bind _ _).mp q)
    obtain ⟨z, e2, q3⟩ := (post_opt _).mp q2
    have rp := pushC_reps hl R1 e1
    split at e2
    · rename_i a b
      cases e2
      cases rp with
      | cons r1 rr =>
        cases rr with
        | cons r2 rr =>
          cases rr
          obtain ⟨a1, v1, rfl, s1, _⟩ := (show Vw G.K H1 O1 _ _ from .inl r1).lst
          obtain ⟨a2, v2, rfl, s2, _⟩ := (show Vw G.K H1 O1 _ _ from .inl r2).lst
          rw [hK] at s1 s2
          refine ⟨a1, a2, v1, v2, rfl, s1, s2, q3 O1 H1 _ _ ?_ (((pushC_pop R1).push (t := ⟨.ref a1, .lst a, .shr⟩) r1).push (t := ⟨.ref a2, .lst b, .shr⟩) r2) walk_zip⟩
          exact (NoNm.nil.cons fun i z => by cases z).cons fun i z => by cases z
    · cases e2⟩
/-- enumerate of a list -/
def iEnum1 (l : List (Bool × DE)) : M (List D) := do
  let xs ← dA l
  let ds ← mOpt (shrs xs)
  mOpt (match ds with
    | [.lst a] => some (a.zipIdx.map fun p => .tup [.int p.2, p.1])
    | _ => none)
theorem walk_enum {K : PySem.W.Frag} {a : Addr} {xs : List D} : WalkOk K [⟨.ref a, .lst xs, .shr⟩] (Ite K a) (xs.zipIdx.map fun p => .tup [.int p.2, p.1]) := fun G O σ H ρ i T' hK R => by
  have ra : Rep G.K H (lin O) (.ref a) (.lst xs) := tmp_in (T2 := T') (T := []) R.tm
  obtain ⟨_, vs, e, sq, rs⟩ := (show Vw G.K H O (.ref a) (.lst xs) from .inl ra).lst
  cases e
  rw [hK] at sq
  have hl : (xs.zipIdx.map fun p => D.tup [.int p.2, p.1]).length = xs.length := by simp
  refine ⟨fun hi => ?_, fun hi => ⟨vs, sq, ?_⟩, fun x hx v H' y => ?_⟩
  · rw [hl] at hi
    obtain ⟨u, h1, _⟩ := rs.get (List.getElem?_eq_getElem hi)
    exact ⟨vs, u, sq, h1⟩
  · rw [hl] at hi
    rw [rs.len]; exact hi
  · obtain ⟨P, x1, rfl, nP, rfl, f1⟩ := y
    rw [List.getElem?_map, List.getElem?_zipIdx] at hx
    cases q : xs[i]? with
    | none => rw [q] at hx; cases hx
    | some pr =>
      rw [q] at hx
      cases hx
      obtain ⟨u, h1, k1⟩ := rs.get q
      have e1 : x1 = u := by
        have z := f1 vs sq
        rw [h1] at z
        exact (Option.some.inj z).symm
      rw [e1]
      refine ⟨O, ?_⟩
      have R2 := R.freshT (d := .tup [.int (i : Nat), pr]) nP (.tup (.cons (.con (.int (i : Nat))) (.cons k1 .nil)))
      simpa using R2
theorem si_enum {elts : List Expr} {kk : Nat} {tpos : Pos} {l : List (Bool × DE)} (hm : X.mg "enumerate" = none) (ha : SA X [e] l) (hg : Gl X "enumerate" := by rfl)
    (hs : starEach [e] X.env = [(false, eval e X.env)] := by rfl) : SI X (.Tuple elts kk tpos) (.Call (.Name "enumerate" p) [e] [] pos) (iEnum1 l) := fun W tk =>
  PI.imp (pi_enum hg hm (ha W tk) hs) fun σ H Q ⟨G, O, ρ, hK, R, h⟩ => ⟨G, O, ρ, [], hK, R, Res.post_ok ((post_bind _ _).mp h) fun xs ρ1 q O1 vs H1 hl R1 => by
    obtain ⟨ds, e1, q2⟩ := (post_opt _).mp ((post_bind _ _).mp q)
    obtain ⟨z, e2, q3⟩ := (post_opt _).mp q2
    have rp := pushC_reps hl R1 e1
    split at e2
    · rename_i a
      cases e2
      cases rp with
      | cons r1 rr =>
        cases rr
        obtain ⟨a1, v1, rfl, s1, _⟩ := (show Vw G.K H1 O1 _ _ from .inl r1).lst
        rw [hK] at s1
        exact ⟨a1, v1, rfl, s1, q3 O1 H1 _ _ (NoNm.nil.cons fun i z => by cases z) ((pushC_pop R1).push (t := ⟨.ref a1, .lst a, .shr⟩) r1) walk_enum⟩
    · cases e2⟩
end

/-! ### for -/
def forD (t : Tg) (body : DS) : List D → DS
  | [] => pure .nx
  | x :: xs => do
    t.put x
    let f ← body
    match f with
    | .nx => forD t body xs
    | .cnt => forD t body xs
    | .brk => pure .nx
    | f => pure f
def dFor (it : M (List D)) (t : Tg) (body : DS) : DS := do
  let xs ← it
  forD t body xs
theorem ss_for {pj : VK → VK} {X : Cx} {tg iter : Expr} {body : List Stmt} {it : M (List D)} {t : Tg} {sb : DS} {pos : Pos} (hx : CxG X) (hi : SI X tg iter it) (hg : SG X tg t) (hb : SSsf pj X body sb)
    (hs : ∀ x, foldedSetIterable iter X.env x = pure x := by intro _; rfl) : SSf pj X (.For tg iter body [] pos) (dFor it t sb) := fun W tk => PS.imp (ps_for hx.pass hx.calm (hi W tk) hg (hb W tk) hs) fun D σ H ⟨G, O, ρ, hK, R, h⟩ => by
  refine ⟨G, O, ρ, hK, R, Res.post_mono ((post_bind _ _).mp h) (fun xs ρ1 q O1 H1 J T hT R1 wk => ?_) fun x ρ' q => q σ⟩
  refine ⟨fun i m σ H => m = xs.length - i ∧ i ≤ xs.length ∧ ∃ O ρ, Rel G O σ H ρ T ∧ ((forD t sb (xs.drop i)) ρ).post (FlOk G (D.re pj) []) (EXs G W), ⟨xs.length, by simp, Nat.zero_le _, O1, ρ1, R1, q⟩, ?_⟩
  rintro i m σ2 H2 ⟨rfl, hi2, O2, ρ2, R2, q2⟩
  obtain ⟨w1, w2, w3⟩ := wk G O2 σ2 H2 ρ2 i [] hK R2
  by_cases hlt : i < xs.length
  · refine .inr ⟨w1 hlt, fun σ' H' => ∃ O ρ, Rel G O σ' H' ρ T ∧ ((forD t sb (xs.drop (i + 1))) ρ).post (FlOk G (D.re pj) []) (EXs G W), fun σ' H' p => ⟨xs.length - (i + 1), by omega, rfl, hlt, p⟩, fun v H' y => ?_⟩
    obtain ⟨O3, R3⟩ := w3 xs[i] (List.getElem?_eq_getElem hlt) v H' y
    rw [List.drop_eq_getElem_cons hlt] at q2
    refine ⟨G, O3, ρ2, T, xs[i], hK, hT, R3, noex (fun ρ x ρ' => tg_noex ρ x ρ') ((post_bind _ _).mp q2) fun ρ3 q3 O4 σ4 H4 _ R4 => ?_⟩
    refine tS.at hT hK R4 (Res.post_ok ((post_bind _ _).mp q3) fun f ρ4 q4 => ?_)
    cases f with
    | nx => exact fun O5 σ5 H5 R5 => ⟨O5, ρ4, R5, q4⟩
    | cnt => exact fun O5 σ5 H5 R5 => ⟨O5, ρ4, R5, q4⟩
    | brk => exact fun O5 σ5 H5 R5 => q4 O5 σ5 H5 R5.nil
    | ret d b => exact fun O5 σ5 v5 H5 R5 => let ⟨O6, R6⟩ := R5.only; q4 O6 σ5 v5 H5 R6
  · have e : i = xs.length := by omega
    subst e
    rw [List.drop_length] at q2
    exact .inl ⟨w2 (Nat.le_refl _), q2 O2 σ2 H2 R2.nil⟩

/-! ### while -/
def whileN (c : M Bool) (body : DS) : Nat → DS
  | 0 => mStuck
  | n + 1 => do
    let k ← c
    if k then do
      let f ← body
      match f with
      | .nx => whileN c body n
      | .cnt => whileN c body n
      | .brk => pure .nx
      | f => pure f
    else pure .nx
open Classical in
noncomputable def dWhile (c : M Bool) (body : DS) : DS := fun ρ => if h : ∃ n, whileN c body n ρ ≠ .stuck then whileN c body h.choose ρ else .stuck
theorem post_ne {α : Type} {r : Res α} {Q : α → Rho → Prop} {E : Exn → Rho → Prop} (h : r.post Q E) : r ≠ .stuck := fun z => by rw [z] at h; exact h
theorem bind_ns {α β : Type} {m : M α} {f g : α → M β} {ρ : Rho} (h : (m >>= f) ρ ≠ .stuck) (i : ∀ a ρ', f a ρ' ≠ .stuck → g a ρ' = f a ρ') : (m >>= g) ρ = (m >>= f) ρ := by
  show M.bind m g ρ = M.bind m f ρ
  replace h : M.bind m f ρ ≠ .stuck := h
  unfold M.bind at h ⊢
  cases q : m ρ with
  | stuck => rfl
  | ok a ρ' => rw [q] at h; exact i a ρ' h
  | ex x ρ' => rfl
theorem whileN_more (c : M Bool) (body : DS) : ∀ (n k : Nat) (ρ : Rho), whileN c body n ρ ≠ .stuck → whileN c body (n + k) ρ = whileN c body n ρ
  | 0, k, ρ, h => absurd rfl h
  | n + 1, k, ρ, h => by
    rw [show n + 1 + k = (n + k) + 1 by omega]
    refine bind_ns h fun b ρ1 h1 => ?_
    cases b with
    | false => rfl
    | true =>
      rw [if_pos rfl] at h1 ⊢
      rw [if_pos rfl]
      refine bind_ns h1 fun f ρ2 h2 => ?_
      cases f with
      | nx => exact whileN_more c body n k ρ2 h2
      | cnt => exact whileN_more c body n k ρ2 h2
      | brk => rfl
      | ret d b => rfl
theorem dWhile_of {c : M Bool} {body : DS} {n : Nat} {ρ : Rho} (h : whileN c body n ρ ≠ .stuck) : dWhile c body ρ = whileN c body n ρ := by
  have ex : ∃ n, whileN c body n ρ ≠ .stuck := ⟨n, h⟩
  unfold dWhile
  rw [dif_pos ex]
  have hc := ex.choose_spec
  rcases Nat.le_total n ex.choose with z | z
  · obtain ⟨k, e⟩ := Nat.exists_eq_add_of_le z
    rw [e]
    exact whileN_more c body n k ρ h
  · obtain ⟨k, e⟩ := Nat.exists_eq_add_of_le z
    rw [e]
    exact (whileN_more c body _ k ρ hc).symm
theorem dWhile_ex {c : M Bool} {body : DS} {ρ : Rho} (h : dWhile c body ρ ≠ .stuck) : ∃ n, dWhile c body ρ = whileN c body n ρ := by
  unfold dWhile at h ⊢
  by_cases ex : ∃ n, whileN c body n ρ ≠ .stuck
  · rw [dif_pos ex]; exact ⟨_, rfl⟩
  · rw [dif_neg ex] at h; exact absurd rfl h
theorem ss_while {pj : VK → VK} {X : Cx} {c : Expr} {body : List Stmt} {qc : M Bool} {sb : DS} {pos : Pos} (hx : CxG X) (hc : ST X c qc) (hb : SSsf pj X body sb) : SSf pj X (.While c body [] pos) (dWhile qc sb) := fun W tk => PS.imp (ps_while hx.pass (hc W tk) (hb W tk)) fun D σ H ⟨G, O, ρ, hK, R, h⟩ => by
  obtain ⟨n, e⟩ := dWhile_ex (post_ne h)
  rw [e] at h
  refine ⟨fun n σ H => ∃ O ρ, Rel G O σ H ρ [] ∧ ((whileN qc sb n) ρ).post (FlOk G (D.re pj) []) (EXs G W), ⟨n, O, ρ, R, h⟩, ?_⟩
  rintro n σ1 H1 ⟨O1, ρ1, R1, q⟩
  cases n with
  | zero => exact q.elim
  | succ n =>
    refine ⟨G, O1, ρ1, hK, R1, Res.post_mono ((post_bind _ _).mp q) (fun b ρ2 q2 O2 H2 R2 => ?_) fun x ρ' q => q σ1⟩
    cases b with
    | false => rw [if_neg Bool.false_ne_true] at q2 ⊢; exact q2 O2 σ1 H2 R2
    | true =>
      rw [if_pos rfl] at q2 ⊢
      refine ⟨fun σ H => ∃ O ρ, Rel G O σ H ρ [] ∧ ((whileN qc sb n) ρ).post (FlOk G (D.re pj) []) (EXs G W), fun σ' H' p => ⟨n, Nat.lt_succ_self _, p⟩, ?_⟩
      refine ⟨G, O2, ρ2, hK, R2, Res.post_ok ((post_bind _ _).mp q2) fun f ρ3 q3 => ?_⟩
      cases f with
      | nx => exact fun O5 σ5 H5 R5 => ⟨O5, ρ3, R5, q3⟩
      | cnt => exact fun O5 σ5 H5 R5 => ⟨O5, ρ3, R5, q3⟩
      | brk => exact q3
      | ret d b => exact q3
end L2.VL
end
section
set_option Elab.async false
set_option linter.all false
set_option maxRecDepth 100000
/-! VLf: list comprehensions. -/
namespace L2.VL
open PySem PySem.Spec PyProof.Rows

def wipeR (ρ : Rho) : List Nat → Rho
  | [] => ρ
  | v :: vs => (wipeR ρ vs).set v none
def wipeM (own : List Nat) : M Unit := fun ρ => .ok () (wipeR ρ own)
def noX {α : Type} (m : M α) : M α := fun ρ => match m ρ with
  | .ex _ _ => .stuck
  | r => r
theorem post_noX {α : Type} {m : M α} {ρ : Rho} {Q : α → Rho → Prop} {E : Exn → Rho → Prop} (h : ((noX m) ρ).post Q E) (E' : Exn → Rho → Prop) : (m ρ).post Q E' := by
  unfold noX at h
  cases q : m ρ with
  | stuck => rw [q] at h; exact h
  | ok a ρ' => rw [q] at h; exact h
  | ex x ρ' => rw [q] at h; exact h.elim
def lcD (own : List Nat) (t : Tg) (q : M Bool) (r : DE) : List D → M (List D)
  | [] => pure []
  | x :: xs => do
    wipeM own
    t.put x
    let b ← noX q
    if b then do
      let y ← noX r
      let z ← keep false y
      let rest ← lcD own t q r xs
      pure (z.1 :: rest)
    else lcD own t q r xs
def okOwn (own : List Nat) : M Unit := fun ρ => if own.all (fun i => !pinned ρ i) then .ok () ρ else .stuck
def lcEnd (ds : List D) : Option (D × Kd) := if ds.length ≤ cap then some (.lst ds, .fr) else none
def dLc (own : List Nat) (it : M (List D)) (t : Tg) (q : M Bool) (r : DE) : DE := do
  let xs ← it
  okOwn own
  let ds ← lcD own t q r xs
  wipeM own
  mOpt (lcEnd ds)
theorem wipe_at (σ : St) : ∀ (own : List Nat) (i : Nat), (wipe σ own)[i]? = if i ∈ own then σ[i]?.map (fun _ => none) else σ[i]?
  | [], i => by simp [wipe]
  | v :: vs, i => by
    unfold wipe
    have ih := wipe_at σ vs i
    by_cases h : v = i
    · subst h
      rw [if_pos List.mem_cons_self]
      by_cases hl : v < σ.length
      · rw [List.getElem?_set_self (by rw [wipe_length]; exact hl), List.getElem?_eq_getElem hl]; rfl
      · rw [List.getElem?_eq_none (by rw [List.length_set, wipe_length]; omega), List.getElem?_eq_none (by omega)]; rfl
    · rw [List.getElem?_set_ne h, ih]
      by_cases h2 : i ∈ vs
      · rw [if_pos h2, if_pos (List.mem_cons_of_mem _ h2)]
      · rw [if_neg h2, if_neg (fun z => (List.mem_cons.mp z).elim (fun e => h e.symm) h2)]
theorem wipeR_at (ρ : Rho) : ∀ (own : List Nat) (i : Nat), (wipeR ρ own)[i]? = if i ∈ own then ρ[i]?.map (fun _ => none) else ρ[i]?
  | [], i => by simp [wipeR]
  | v :: vs, i => by
    unfold wipeR
    have ih := wipeR_at ρ vs i
    have wl : ∀ vs : List Nat, (wipeR ρ vs).length = ρ.length := fun vs => by
      induction vs with
      | nil => rfl
      | cons v vs ih => unfold wipeR; rw [List.length_set, ih]
    by_cases h : v = i
    · subst h
      rw [if_pos List.mem_cons_self]
      by_cases hl : v < ρ.length
      · rw [List.getElem?_set_self (by rw [wl]; exact hl), List.getElem?_eq_getElem hl]; rfl
      · rw [List.getElem?_eq_none (by rw [List.length_set, wl]; omega), List.getElem?_eq_none (by omega)]; rfl
    · rw [List.getElem?_set_ne h, ih]
      by_cases h2 : i ∈ vs
      · rw [if_pos h2, if_pos (List.mem_cons_of_mem _ h2)]
      · rw [if_neg h2, if_neg (fun z => (List.mem_cons.mp z).elim (fun e => h e.symm) h2)]
theorem wipeR_length (ρ : Rho) : ∀ vs : List Nat, (wipeR ρ vs).length = ρ.length
  | [] => rfl
  | v :: vs => by unfold wipeR; rw [List.length_set, wipeR_length ρ vs]
theorem wipe_ag {own is : List Nat} {σ σ' : St} (h : AgOut is σ σ') (hs : ∀ i ∈ is, i ∈ own) : wipe σ' own = wipe σ own := by
  apply List.ext_getElem?
  intro i
  rw [wipe_at, wipe_at]
  by_cases hi : i ∈ own
  · rw [if_pos hi, if_pos hi]
    by_cases hl : i < σ.length
    · rw [List.getElem?_eq_getElem hl, List.getElem?_eq_getElem (by rw [h.1]; exact hl)]; rfl
    · rw [List.getElem?_eq_none (l := σ') (by rw [h.1]; omega), List.getElem?_eq_none (l := σ) (by omega)]
  · rw [if_neg hi, if_neg hi]
    exact h.2 i fun z => hi (hs i z)
theorem wipe_wipe {own : List Nat} {σ : St} : wipe (wipe σ own) own = wipe σ own := by
  apply List.ext_getElem?
  intro i
  rw [wipe_at, wipe_at]
  by_cases hi : i ∈ own
  · rw [if_pos hi, if_pos hi]
    cases σ[i]? <;> rfl
  · rw [if_neg hi, if_neg hi]
section
variable {G : Fix} {O : Own} {σ σ' : St} {H : Hp} {ρ : Rho} {T : List Tmp} {own : List Nat}
/-- the slots at own are forgotten; the frame's other slots are as they are -/
theorem Rel.wipe (R : Rel G O σ H ρ T) (hT : NoNm T) (hp : ∀ i ∈ own, G.Pin i = none) (hσ : σ'.length = σ.length) (ha : ∀ i, i ∉ own → σ'[i]? = σ[i]?) : Rel G O σ' H (wipeR ρ own) T := by
  have get : ∀ i s, (wipeR ρ own)[i]? = some (some s) → i ∉ own ∧ ρ[i]? = some (some s) := fun i s e => by
    rw [wipeR_at] at e
    by_cases hi : i ∈ own
    · rw [if_pos hi] at e
      cases q : ρ[i]? with
      | none => rw [q] at e; cases e
      | some _ => rw [q] at e; cases e
    · rw [if_neg hi] at e
      exact ⟨hi, e⟩
  refine ⟨by rw [wipeR_length, R.len, hσ], R.fr, R.ot, R.tr, fun i v e => ?_, fun i s e => ?_, tmps_slots (fun u hu j hj => absurd hj (hT u hu j)) R.tm⟩
  · have hi : i ∉ own := fun z => by rw [hp i z] at e; cases e
    obtain ⟨h1, s, h2, h3⟩ := R.pn i v e
    exact ⟨by rw [ha i hi]; exact h1, s, by rw [wipeR_at, if_neg hi]; exact h2, h3⟩
  · obtain ⟨hi, e⟩ := get i s e
    obtain ⟨v, h1, h2⟩ := R.sl i s e
    exact ⟨v, by rw [ha i hi]; exact h1, h2⟩
end
def STs (X : Cx) (ifs : List Expr) (q : M Bool) : Prop := ∀ W, Takes X W → PTs X ifs (tT X.K W q)
theorem PTs.imp {X : Cx} {e : List Expr} {t t' : TT} (h : PTs X e t) (i : ∀ σ H Q, t' σ H Q → t σ H Q) : PTs X e t' := ⟨fun pins s σ H Q I q => h.run pins s σ H Q I (i σ H Q q)⟩
section
variable {X : Cx} {tg iter elt : Expr} {ifs : List Expr} {scope : Scope} {own : List (Str × Nat)} {it : M (List D)} {t : Tg} {q : M Bool} {r : DE} {pos : Pos}
theorem sts_nil : STs X [] (pure true) := fun W tk => PTs.imp pts_nil fun σ H Q ⟨G, O, ρ, hK, R, h⟩ => h O H R
theorem sts_one {c : Expr} (h : ST X c q) : STs X [c] q := fun W tk => pts_one (h W tk)
abbrev WF : WX := fun _ _ _ _ => False
theorem takesF {X : Cx} : Takes X WF := fun u s' ⟨a, B, sI, pins, σ, H, cls, d, e, I, nb, up, sky, na, os, ag, w⟩ => w.elim
theorem lc_imp {K : PySem.W.Frag} {W : WX} {vs : List Nat} (hsub : ∀ i ∈ t.slots, i ∈ vs) (σ : St) (H : Hp) (Q : VK) (h : tE K W (dLc vs it t q r) σ H Q) : tLc (tI K W it) (tG K t.slots t.put) (tT K WF q) (tE K WF r) vs σ H Q := by
  obtain ⟨G, O, ρ, hK, R, h⟩ := h
  refine ⟨G, O, ρ, hK, R, Res.post_ok ((post_bind _ _).mp h) fun xs ρ1 q1 O1 H1 J T hT R1 wk => ?_⟩
  intro Dl hD
  replace q1 := (post_bind _ _).mp q1
  unfold okOwn at q1
  by_cases hok : vs.all (fun i => !pinned ρ1 i) = true
  · rw [if_pos hok] at q1
    have hp : ∀ i ∈ vs, G.Pin i = none := fun i hi => by
      cases e : G.Pin i with
      | none => rfl
      | some v =>
        obtain ⟨_, s, h2, h3⟩ := R1.pn i v e
        have := List.all_eq_true.mp hok i hi
        unfold pinned at this
        rw [h2] at this
        dsimp only at this
        rw [h3] at this
        cases this
    replace q1 : ((lcD vs t q r xs) ρ1).post (fun ds ρ' => ((do wipeM vs; mOpt (lcEnd ds) : DE) ρ').post (fun x ρ' => ∀ O' v H', Rel G O' σ H' ρ' [⟨v, x.1, x.2⟩] → Q v H') (EX G σ W)) (EX G σ W) := (post_bind _ _).mp q1
    obtain ⟨O2, R2⟩ := R1.fresh (d := .lst []) hD (.lst .nil)
    let Fin : List D → Rho → Prop := fun ds ρ' => ((do wipeM vs; mOpt (lcEnd ds) : DE) ρ').post (fun x ρ' => ∀ O' v H', Rel G O' σ H' ρ' [⟨v, x.1, x.2⟩] → Q v H') (EX G σ W)
    refine ⟨fun i m H => m = xs.length - i ∧ i ≤ xs.length ∧ ∃ (O : Own) (ρ : Rho) (acc : List D) (σ2 : St), L2.wipe σ2 vs = L2.wipe σ vs ∧ Rel G O σ2 H ρ (⟨.ref Dl, .lst acc, .fr⟩ :: T) ∧
      ((lcD vs t q r (xs.drop i)) ρ).post (fun ds ρ' => Fin (acc ++ ds) ρ') (EX G σ W), ⟨xs.length, by simp, Nat.zero_le _, O2, ρ1, [], σ, rfl, R2, q1⟩, ?_⟩
    rintro i m H3 ⟨rfl, hi, O3, ρ3, acc, σ2, hw, R3, q3⟩
    have hT2 : NoNm (⟨.ref Dl, .lst acc, .fr⟩ :: T) := hT.cons fun i z => by cases z
    have hlen : σ2.length = σ.length := by
      have := congrArg List.length hw
      rw [wipe_length, wipe_length] at this; exact this
    obtain ⟨w1, w2, w3⟩ := wk G O3 σ2 H3 ρ3 i [_] hK R3
    have off : ∀ j, j ∉ vs → σ2[j]? = σ[j]? := fun j hj => by
      have z1 := wipe_at σ2 vs j
      have z2 := wipe_at σ vs j
      rw [if_neg hj] at z1 z2
      rw [← z1, ← z2, hw]
    by_cases hlt : i < xs.length
    · refine .inr ⟨w1 hlt, fun H' => ∃ (O : Own) (ρ : Rho) (acc : List D) (σ2 : St), L2.wipe σ2 vs = L2.wipe σ vs ∧ Rel G O σ2 H' ρ (⟨.ref Dl, .lst acc, .fr⟩ :: T) ∧
        ((lcD vs t q r (xs.drop (i + 1))) ρ).post (fun ds ρ' => Fin (acc ++ ds) ρ') (EX G σ W), fun H' p => ⟨xs.length - (i + 1), by omega, rfl, hlt, p⟩, fun v H' y => ?_⟩
      obtain ⟨O4, R4⟩ := w3 xs[i] (List.getElem?_eq_getElem hlt) v H' y
      rw [List.drop_eq_getElem_cons hlt] at q3
      have q3a := (post_bind (wipeM vs) _).mp q3
      replace q3 := (post_bind (t.put xs[i]) _).mp (show Res.post ((t.put xs[i] >>= fun _ => _) (wipeR ρ3 vs)) _ _ from q3a)
      have R5 : Rel G O4 (L2.wipe σ vs) H' (wipeR ρ3 vs) (⟨v, xs[i], .shr⟩ :: ⟨.ref Dl, .lst acc, .fr⟩ :: T) := R4.wipe (hT2.cons fun i z => by cases z) hp (by rw [wipe_length, hlen]) fun j hj => by
        rw [wipe_at, if_neg hj]; exact (off j hj).symm
      refine ⟨G, O4, _, _, xs[i], hK, hT2, R5, noex (fun ρ x ρ' => tg_noex ρ x ρ') q3 fun ρ4 q4 O6 σ6 H6 ag R6 => ?_⟩
      have hw6 : L2.wipe σ6 vs = L2.wipe σ vs := (wipe_ag ag hsub).trans wipe_wipe
      refine ⟨hw6, tT.at hK R6 (Res.post_ok (post_noX ((post_bind _ _).mp q4) _) fun b ρ5 q5 O7 H7 R7 => ?_)⟩
      cases b with
      | false =>
        rw [if_neg Bool.false_ne_true] at q5 ⊢
        exact ⟨O7, ρ5, acc, σ6, hw6, R7, q5⟩
      | true =>
        rw [if_pos rfl] at q5 ⊢
        refine tE.at hK R7 (Res.post_ok (post_noX ((post_bind _ _).mp q5) _) fun y ρ6 q6 O8 u H8 R8 => ?_)
        obtain ⟨d, e1, q7⟩ := keep_false ((post_bind _ _).mp q6)
        obtain ⟨O9, R9⟩ := R8.settle (d := d) e1
        obtain ⟨a1, ho1, ev, ea, hh, c1⟩ := (show Owned _ _ _ _ _ _ from R9.tm.2.1)
        cases ev
        cases c1 with
        | lst rs =>
          have q8 := (post_bind _ _).mp q7
          -- the size
          have hz : acc.length < sizeLine := by
            cases qq : (lcD vs t q r (xs.drop (i + 1))) (settleR ρ6 y.2) with
            | stuck => rw [qq] at q8; exact q8.elim
            | ok ds ρ7 =>
              rw [qq] at q8
              replace q8 : Fin (acc ++ (d :: ds)) ρ7 := q8
              replace q8 : ((mOpt (lcEnd (acc ++ (d :: ds))) : DE) (wipeR ρ7 vs)).post (fun x ρ' => ∀ O' v H', Rel G O' σ H' ρ' [⟨v, x.1, x.2⟩] → Q v H') (EX G σ W) := q8
              obtain ⟨z, e3, _⟩ := (post_opt _).mp q8
              unfold lcEnd at e3
              split at e3
              · rename_i hl
                rw [List.length_append, List.length_cons, cap_eq] at hl
                omega
              · cases e3
            | ex x ρ7 =>
              -- no exception leaves the block
              exfalso
              have noexc : ∀ (l : List D) (ρ : Rho) (x : Exn) (ρ' : Rho), (lcD vs t q r l) ρ ≠ .ex x ρ' := by
                intro l
                induction l with
                | nil => intro ρ x ρ' z; cases z
                | cons a l ih =>
                  intro ρ x ρ' z
                  replace z : (M.bind (wipeM vs) fun _ => M.bind (t.put a) fun _ => M.bind (noX q) fun b => if b then M.bind (noX r) fun y => M.bind (keep false y) fun z => M.bind (lcD vs t q r l) fun rest => M.ret (z.1 :: rest) else lcD vs t q r l) ρ = .ex x ρ' := z
                  unfold M.bind at z
                  dsimp only [wipeM] at z
                  cases h1 : (t.put a) (wipeR ρ vs) with
                  | stuck => rw [h1] at z; cases z
                  | ex y ρ2 => exact tg_noex _ _ _ h1
                  | ok u ρ2 =>
                    rw [h1] at z
                    dsimp only at z
                    cases h2 : (noX q) ρ2 with
                    | stuck => rw [h2] at z; cases z
                    | ex y ρ3 =>
                      unfold noX at h2
                      split at h2
                      · cases h2
                      · rename_i hn; exact hn _ _ h2
                    | ok b ρ3 =>
                      rw [h2] at z
                      dsimp only at z
                      cases b with
                      | false => exact ih _ _ _ z
                      | true =>
                        simp only [↓reduceIte] at z
                        cases h3 : (noX r) ρ3 with
                        | stuck => rw [h3] at z; cases z
                        | ex y ρ4 =>
                          unfold noX at h3
                          split at h3
                          · cases h3
                          · rename_i hn; exact hn _ _ h3
                        | ok y ρ4 =>
                          rw [h3] at z
                          dsimp only at z
                          cases h4 : (keep false y) ρ4 with
                          | stuck => rw [h4] at z; cases z
                          | ex w ρ5 =>
                            replace h4 : M.bind (dcur y) (fun d => M.bind (settleM y.2) fun _ => M.ret (d, Kd.shr)) ρ4 = .ex w ρ5 := h4
                            unfold M.bind dcur at h4
                            cases h5 : cur ρ4 y with
                            | none => rw [h5] at h4; cases h4
                            | some d => rw [h5] at h4; cases h4
                          | ok w ρ5 =>
                            rw [h4] at z
                            dsimp only at z
                            cases h5 : (lcD vs t q r l) ρ5 with
                            | stuck => rw [h5] at z; cases z
                            | ex w2 ρ6 => exact ih _ _ _ h5
                            | ok w2 ρ6 => rw [h5] at z; cases z
              exact noexc _ _ _ _ qq
          refine ⟨_, hh, by rw [rs.len]; exact hz, O9, settleR ρ6 y.2, acc ++ [d], σ6, hw6, ?_, ?_⟩
          · exact R9.pop.writeT (d := .lst (acc ++ [d])) hh (.lst (rs.append (.cons (show Rep _ _ _ _ _ from R9.tm.1) .nil)))
          · refine Res.post_ok q8 fun ds ρ7 q9 => ?_
            show Fin (acc ++ [d] ++ ds) ρ7
            rw [List.append_assoc]
            exact q9
    · have e : i = xs.length := by omega
      subst e
      rw [List.drop_length] at q3
      replace q3 : Fin (acc ++ []) ρ3 := q3
      rw [List.append_nil] at q3
      replace q3 : ((mOpt (lcEnd acc) : DE) (wipeR ρ3 vs)).post (fun x ρ' => ∀ O' v H', Rel G O' σ H' ρ' [⟨v, x.1, x.2⟩] → Q v H') (EX G σ W) := q3
      obtain ⟨z, e3, q4⟩ := (post_opt _).mp q3
      unfold lcEnd at e3
      split at e3
      · cases e3
        obtain ⟨O6, R6⟩ := (R3.wipe (σ' := σ) hT2 hp hlen.symm fun j hj => (off j hj).symm).only
        exact .inl ⟨w2 (Nat.le_refl _), q4 O6 _ _ R6⟩
      · cases e3
  · rw [if_neg hok] at q1; exact q1.elim
theorem cxg_blk (hx : CxG X) (s : Shared) (H : Hp) (scope : Scope) (cenv : Env) (fp : List Addr) : CxG (X.blk s H scope cenv fp) := ⟨hx.calm, hx.nd, PassesOwn.never⟩
theorem se_lc (own : List (Str × Nat)) (hx : CxG X) (hi : SI X tg iter it) (ok : blkC X.N X.env.scope scope own = true)
    (hg : ∀ (s : Shared) (H : Hp) (C : Addr) (cl : List (Str × Addr)) (fp : List Addr), SG (X.blk s H scope (compEnvC scope cl C X.env) fp) tg t) (ht : ∀ (s : Shared) (H : Hp) (C : Addr) (cl : List (Str × Addr)) (fp : List Addr), STs (X.blk s H scope (compEnvC scope cl C X.env) fp) ifs q)
    (he : ∀ (s : Shared) (H : Hp) (C : Addr) (cl : List (Str × Addr)) (fp : List Addr), SE (X.blk s H scope (compEnvC scope cl C X.env) fp) elt r) (hsub : ∀ i ∈ t.slots, i ∈ own.map (·.2) := by decide) (hs : ∀ x, foldedSetIterable iter X.env x = pure x := by intro _; rfl) :
    SE X (.ListComp elt [⟨tg, iter, ifs, 0⟩] scope pos) (dLc (own.map (·.2)) it t q r) := fun W tk =>
  PE.imp (pe_lc (g := tG X.K t.slots t.put) (tt := tT X.K WF q) (te := tE X.K WF r) hx.calm hx.nd (hi W tk) (blkOk_by ok) (fun s H C cl fp => hg s H C cl fp) (fun s H C cl fp => ht s H C cl fp WF takesF) (fun s H C cl fp => he s H C cl fp WF takesF) hs) (lc_imp hsub)
theorem ss_setLc {pj : VK → VK} (own : List (Str × Nat)) (i : Nat) {y : Str} {py spos : Pos} (hx : CxG X) (hi : SI X tg iter it) (ok : blkC X.N X.env.scope scope own = true)
    (hg : ∀ (s : Shared) (H : Hp) (C : Addr) (cl : List (Str × Addr)) (fp : List Addr), SG (X.blk s H scope (compEnvC scope cl C X.env) fp) tg t) (ht : ∀ (s : Shared) (H : Hp) (C : Addr) (cl : List (Str × Addr)) (fp : List Addr), STs (X.blk s H scope (compEnvC scope cl C X.env) fp) ifs q)
    (he : ∀ (s : Shared) (H : Hp) (C : Addr) (cl : List (Str × Addr)) (fp : List Addr), SE (X.blk s H scope (compEnvC scope cl C X.env) fp) elt r) (hsw : swapsWith (.ListComp elt [⟨tg, iter, ifs, 0⟩] scope pos) (some (.Name y py)) spos.line X.env = pure true)
    (hy : X.N[i]? = some y := by rfl) (hyl : X.env.scope.names.lookup y = some .local := by rfl) (hsub : ∀ i ∈ t.slots, i ∈ own.map (·.2) := by decide) (hs : ∀ x, foldedSetIterable iter X.env x = pure x := by intro _; rfl) :
    SSf pj X (.Assign [.Name y py] (.ListComp elt [⟨tg, iter, ifs, 0⟩] scope pos) spos) (dSet i (dLc (own.map (·.2)) it t q r)) := fun W tk =>
  PS.imp (ps_setLc (g := tG X.K t.slots t.put) (tt := tT X.K WF q) (te := tE X.K WF r) hx.calm hx.nd hy hyl hsw (hi W tk) (blkOk_by ok) (fun s H C cl fp => hg s H C cl fp) (fun s H C cl fp => ht s H C cl fp WF takesF) (fun s H C cl fp => he s H C cl fp WF takesF) hs) fun D σ H ⟨G, O, ρ, hK, R, h⟩ =>
    lc_imp (W := W) hsub σ H _ ⟨G, O, ρ, hK, R, Res.post_mono ((post_bind _ _).mp h) (fun y ρ1 q O' v H' R' => by
      obtain ⟨O2, ρ2, R2, q2⟩ := put_post .nil R' ((post_bind _ _).mp q)
      exact q2 O2 _ H' R2) fun x ρ' q => q σ⟩
end
end L2.VL
end
section
set_option Elab.async false
set_option linter.all false
set_option maxRecDepth 100000
/-! VLg: defs: what they promise by data; their calls. -/
namespace L2.VL
open PySem PySem.Spec PyProof.Rows

structure Arg where
  d : D
  own : Bool
inductive FRes where
  | ret (d : D) (fr : Bool) (outs : Rho)
  | exc (x : Exn) (outs : Rho)
abbrev Fn := List Arg → Option FRes
def shA (d : D) : Arg := ⟨d, false⟩
def slotOf (a : Arg) : Option Slot := some ⟨a.d, a.own, a.own⟩
def runFn (n : Nat) (body : DS) : Fn := fun args => match body (args.map slotOf ++ List.replicate (n - args.length) none) with
  | .stuck => none
  | .ex x ρ' => some (.exc x (ρ'.take args.length))
  | .ok .nx ρ' => some (.ret .non false (ρ'.take args.length))
  | .ok (.ret d b) ρ' => some (.ret d b (ρ'.take args.length))
  | .ok _ _ => none
/-- what a def promises -/
def FRes.post (r : Option FRes) (Q : D → Bool → Rho → Prop) (E : Exn → Rho → Prop) : Prop := match r with
  | none => False
  | some (.ret d b outs) => Q d b outs
  | some (.exc x outs) => E x outs
def spF (K : PySem.W.Frag) (F : Fn) (np : Nat) : Sp := fun vs H Q E => vs.length = np ∧ ∃ (G : Fix) (O : Own) (args : List Arg), G.K = K ∧ args.length = np ∧ Rel G O (vs.map some) H (args.map slotOf) [] ∧
  FRes.post (F args) (fun d b outs => ∀ O' σ' v H', Rel G O' σ' H' outs [⟨v, d, frK b⟩] → Q v H') (fun x outs => ∀ O' σ' H' dd, Rel G O' σ' H' outs [] → ExnRep K H' O' x dd → E (clsV K x.c) dd H')
section
variable {G : Fix} {O O1 : Own} {σ : St} {H H' : Hp} {ρ ρ' : Rho} {T T' : List Tmp}
theorem Rel.more (R : Rel G O σ H ρ []) (n : Nat) : Rel G O (σ ++ List.replicate n none) H (ρ ++ List.replicate n none) [] := by
  have get : ∀ i s, (ρ ++ List.replicate n none)[i]? = some (some s) → ρ[i]? = some (some s) := fun i s e => by
    by_cases h : i < ρ.length
    · rwa [List.getElem?_append_left h] at e
    · rw [List.getElem?_append_right (by omega), List.getElem?_replicate] at e
      split at e <;> cases e
  refine ⟨by simp [R.len], R.fr, R.ot, R.tr, fun i v e => ?_, fun i s e => ?_, trivial⟩
  · obtain ⟨h1, s, h2, h3⟩ := R.pn i v e
    have l1 : i < σ.length := (List.getElem?_eq_some_iff.mp h1).1
    have l2 : i < ρ.length := (List.getElem?_eq_some_iff.mp h2).1
    exact ⟨by rw [List.getElem?_append_left l1]; exact h1, s, by rw [List.getElem?_append_left l2]; exact h2, h3⟩
  · obtain ⟨v, h1, h2⟩ := R.sl i s (get i s e)
    have l1 : i < σ.length := (List.getElem?_eq_some_iff.mp h1).1
    exact ⟨v, by rw [List.getElem?_append_left l1]; exact h1, h2⟩
theorem Rel.few {n : Nat} (R : Rel G O σ H ρ T) (hT : NoNm T) (hp : ∀ i v, G.Pin i = some v → i < n) : Rel G O (σ.take n) H (ρ.take n) T := by
  refine ⟨by simp [R.len], R.fr, R.ot, R.tr, fun i v e => ?_, fun i s e => ?_, tmps_slots (fun u hu j hj => absurd hj (hT u hu j)) R.tm⟩
  · obtain ⟨h1, s, h2, h3⟩ := R.pn i v e
    have := hp i v e
    exact ⟨by rw [List.getElem?_take_of_lt this]; exact h1, s, by rw [List.getElem?_take_of_lt this]; exact h2, h3⟩
  · by_cases h : i < n
    · rw [List.getElem?_take_of_lt h] at e ⊢
      exact R.sl i s e
    · rw [List.getElem?_eq_none (by rw [List.length_take]; omega)] at e
      cases e
end
/-- a body's meaning gives the def's promise -/
theorem body_of {K : PySem.W.Frag} {N ps : List Str} {r : DS} {vs : List V} {H : Hp} {Q : VK} {E : XK} (h : spF K (runFn N.length r) ps.length vs H Q E) (hl : ps.length ≤ N.length) :
    tS K (fun cls d _ H => E cls d H) r { nx := fun _ H' => Q .non H', rt := Q } (start N vs) H := by
  obtain ⟨hv, G, O, args, hK, ha, R, h⟩ := h
  have R1 := R.more (N.length - vs.length)
  have pins : ∀ i v, G.Pin i = some v → i < args.length := fun i v e => by
    obtain ⟨_, s, h2, _⟩ := R.pn i v e
    have := (List.getElem?_eq_some_iff.mp h2).1
    simpa using this
  refine ⟨G, O, _, hK, R1, ?_⟩
  have el : args.length = vs.length := by rw [ha, hv]
  unfold runFn at h
  rw [el] at h
  cases q : r (args.map slotOf ++ List.replicate (N.length - vs.length) none) with
  | stuck => rw [q] at h; exact h
  | ex x ρ' =>
    rw [q] at h
    rw [← el] at h
    exact fun σ' O' H' dd R' er => by rw [hK] at er ⊢; exact h O' _ H' dd (R'.few .nil pins) er
  | ok f ρ' =>
    rw [q] at h
    cases f with
    | nx =>
      dsimp only at h
      rw [← el] at h
      exact fun O' σ' H' R' => h O' _ .non H' ((R'.con .non).few (NoNm.nil.cons fun i z => by cases z) pins)
    | ret d b =>
      dsimp only at h
      rw [← el] at h
      exact fun O' σ' v H' R' => h O' _ v H' (R'.few (NoNm.nil.cons fun i z => by cases b <;> cases z) pins)
    | brk => exact h.elim
    | cnt => exact h.elim
/-- the context of a def's body -/
structure FnCx (X : Cx) (k : Nat) : Prop where
  g : CxG X
  room : Room k X.A
section
variable {P : Program} {w : World} {K : PySem.W.Frag} {mg : Str → Option Value} {base : Heap} {x qual : Str} {params : Arguments} {body : List Stmt} {scope : Scope} {dvs : List V} {kws : List (Str × V)} {f : Addr} {fd : FuncData}
/-- THE RULE for a def: its body's meaning -/
theorem fn_ok {N ps : List Str} {k : Nat} {r : DS} (F : FunD K x qual params body scope dvs kws f fd) (S : FnScope N ps scope)
    (h : ∀ (cdv : Value) (A : Around) (outer : List Env) (s : Shared) (H : Hp) (E : XK), FnCx (cxOf (L2.CX P w) P w K mg base N qual scope f cdv A outer s H E) k → SSs (cxOf (L2.CX P w) P w K mg base N qual scope f cdv A outer s H E) body r) :
    FnOk P w K mg base (L2.CX P w) (k + 1) f fd ps (spF K (runFn N.length r) ps.length) :=
  F.ok S (fun vs H Q E h => h.1) fun cdv A outer s H vs Q E hr hsp => by
    have hl : ps.length ≤ N.length := by have := congrArg List.length S.pre; rw [List.length_take] at this; omega
    have tk : Takes (cxOf (L2.CX P w) P w K mg base N qual scope f cdv A outer s H E) (fun cls d _ H => E cls d H) := takes_of rfl rfl rfl rfl
    exact ⟨_, h cdv A outer s H E ⟨⟨rfl, S.nd, passes_of rfl⟩, hr⟩ _ tk, body_of hsp hl⟩
end

/-! ### a call -/
def argOf (ρ : Rho) (x : D × Kd) : Option Arg := match x.2 with
  | .fr => some ⟨x.1, true⟩
  | .shr => some ⟨x.1, false⟩
  | .nm i => match ρ[i]? with
    | some (some s) => some ⟨s.d, s.own⟩
    | _ => none
def argsOf (ρ : Rho) : List (D × Kd) → Option (List Arg)
  | [] => some []
  | x :: xs => match argOf ρ x with
    | some a => (argsOf ρ xs).map (a :: ·)
    | none => none
/-- who owns what is passed on -/
def wOf (ρ : Rho) (k : Nat) (x : D × Kd) : Option Ow := match x.2 with
  | .fr => some (.tp k)
  | .shr => none
  | .nm i => match ρ[i]? with
    | some (some s) => if s.own then some (.sl i) else none
    | _ => none
def wsOf (ρ : Rho) : Nat → List (D × Kd) → List (Option Ow)
  | _, [] => []
  | k, x :: xs => wOf ρ k x :: wsOf ρ (k + 1) xs
def uniqW : List (Option Ow) → Bool
  | [] => true
  | w :: ws => (match w with
    | some _ => ws.all (fun u => decide (u ≠ w))
    | none => true) && uniqW ws
def idxW : List (Option Ow) → Ow → Option Nat
  | [], _ => none
  | u :: ws, w => if u = some w then some 0 else (idxW ws w).map (· + 1)
theorem idxW_at : ∀ {ws : List (Option Ow)} {w : Ow} {j : Nat}, idxW ws w = some j → ws[j]? = some (some w)
  | [], _, _, h => by cases h
  | u :: ws, w, j, h => by
    unfold idxW at h
    split at h
    · rename_i e; cases h; simp [e]
    · obtain ⟨k, e, rfl⟩ := Option.map_eq_some_iff.mp h
      simpa using idxW_at e
theorem idxW_of : ∀ {ws : List (Option Ow)} {w : Ow} {j : Nat}, uniqW ws = true → ws[j]? = some (some w) → idxW ws w = some j
  | [], _, _, _, h => by simp at h
  | u :: ws, w, 0, hu, h => by
    simp at h
    unfold idxW
    rw [if_pos h]
  | u :: ws, w, j + 1, hu, h => by
    have h' : ws[j]? = some (some w) := by simpa using h
    unfold uniqW at hu
    rw [Bool.and_eq_true] at hu
    unfold idxW
    rw [if_neg (fun e => ?_), idxW_of hu.2 h']
    · rfl
    · have h1 := hu.1
      rw [e] at h1
      dsimp only at h1
      have := List.all_eq_true.mp h1 _ (List.mem_of_getElem? h')
      simp at this
/-- the place of the slot i among what is passed -/
def lookNm : List (D × Kd) → Nat → Option Nat
  | [], _ => none
  | (_, .nm k) :: xs, i => if k = i then some 0 else (lookNm xs i).map (· + 1)
  | _ :: xs, i => (lookNm xs i).map (· + 1)
def back1 (xs : List (D × Kd)) (outs : Rho) (i : Nat) (o : Option Slot) : Option Slot := match o with
  | none => none
  | some s => match s.own with
    | false => some s
    | true => match lookNm xs i with
      | none => some s
      | some j => match outs[j]? with
        | some (some s') => some ⟨s'.d, s'.own, s.pin⟩
        | _ => none
def backs (xs : List (D × Kd)) (outs : Rho) : Nat → Rho → Rho
  | _, [] => []
  | i, o :: ρ => back1 xs outs i o :: backs xs outs (i + 1) ρ
theorem backs_at (xs : List (D × Kd)) (outs : Rho) : ∀ (ρ : Rho) (k i : Nat), (backs xs outs k ρ)[i]? = ρ[i]?.map (back1 xs outs (k + i))
  | [], _, _ => by simp [backs]
  | o :: ρ, k, 0 => by simp [backs]
  | o :: ρ, k, i + 1 => by
    have := backs_at xs outs ρ (k + 1) i
    simp only [backs, List.getElem?_cons_succ]
    rw [this, show k + 1 + i = k + (i + 1) by omega]
theorem backs_len (xs : List (D × Kd)) (outs : Rho) : ∀ (ρ : Rho) (k : Nat), (backs xs outs k ρ).length = ρ.length
  | [], _ => rfl
  | o :: ρ, k => congrArg (· + 1) (backs_len xs outs ρ (k + 1))
def callEnd (F : Fn) (np : Nat) (dfl : List D) (xs : List (D × Kd)) : DE := fun ρ => if uniqW (wsOf ρ 0 xs) && decide (xs.length + dfl.length = np) then match argsOf ρ xs with
    | none => .stuck
    | some args => match F (args ++ dfl.map shA) with
      | none => .stuck
      | some (.ret d b outs) => .ok (d, frK b) (backs xs outs 0 ρ)
      | some (.exc x outs) => .ex x (backs xs outs 0 ρ)
  else .stuck
def dCall (F : Fn) (np : Nat) (dfl : List D) (l : List (Bool × DE)) : DE := do
  let xs ← dA l
  callEnd F np dfl xs
theorem lookNm_at : ∀ {xs : List (D × Kd)} {i j : Nat}, lookNm xs i = some j → ∃ d, xs[j]? = some (d, .nm i)
  | [], _, _, h => by cases h
  | (d, .nm k) :: xs, i, j, h => by
    unfold lookNm at h
    split at h
    · rename_i e; cases h; exact ⟨d, by simp [e]⟩
    · obtain ⟨m, e, rfl⟩ := Option.map_eq_some_iff.mp h
      simpa using lookNm_at e
  | (d, .fr) :: xs, i, j, h => by
    obtain ⟨m, e, rfl⟩ := Option.map_eq_some_iff.mp (show (lookNm xs i).map (· + 1) = some j from h)
    simpa using lookNm_at e
  | (d, .shr) :: xs, i, j, h => by
    obtain ⟨m, e, rfl⟩ := Option.map_eq_some_iff.mp (show (lookNm xs i).map (· + 1) = some j from h)
    simpa using lookNm_at e
theorem lookNm_none : ∀ {xs : List (D × Kd)} {i j : Nat} {d : D}, lookNm xs i = none → xs[j]? ≠ some (d, .nm i)
  | [], _, _, _, _, h => by simp at h
  | (d, .nm k) :: xs, i, j, d', h, e => by
    unfold lookNm at h
    split at h
    · cases h
    · rename_i ne
      cases j with
      | zero => simp at e; exact ne e.2
      | succ j => exact lookNm_none (Option.map_eq_none_iff.mp h) (by simpa using e)
  | (d, .fr) :: xs, i, j, d', h, e => by
    cases j with
    | zero => simp at e
    | succ j => exact lookNm_none (Option.map_eq_none_iff.mp (show (lookNm xs i).map (· + 1) = none from h)) (by simpa using e)
  | (d, .shr) :: xs, i, j, d', h, e => by
    cases j with
    | zero => simp at e
    | succ j => exact lookNm_none (Option.map_eq_none_iff.mp (show (lookNm xs i).map (· + 1) = none from h)) (by simpa using e)
theorem wsOf_at (ρ : Rho) : ∀ (xs : List (D × Kd)) (k j : Nat), (wsOf ρ k xs)[j]? = xs[j]?.map (wOf ρ (k + j))
  | [], _, _ => by simp [wsOf]
  | x :: xs, k, 0 => by simp [wsOf]
  | x :: xs, k, j + 1 => by
    have := wsOf_at ρ xs (k + 1) j
    simp only [wsOf, List.getElem?_cons_succ]
    rw [this, show k + 1 + j = k + (j + 1) by omega]
theorem argsOf_len {ρ : Rho} : ∀ {xs : List (D × Kd)} {args : List Arg}, argsOf ρ xs = some args → args.length = xs.length
  | [], _, h => by cases h; rfl
  | x :: xs, args, h => by
    unfold argsOf at h
    split at h
    · obtain ⟨r, e, rfl⟩ := Option.map_eq_some_iff.mp h
      exact congrArg (· + 1) (argsOf_len e)
    · cases h
theorem argsOf_at {ρ : Rho} : ∀ {xs : List (D × Kd)} {args : List Arg} {j : Nat} {x : D × Kd}, argsOf ρ xs = some args → xs[j]? = some x → ∃ a, argOf ρ x = some a ∧ args[j]? = some a
  | [], _, _, _, h, e => by simp at e
  | y :: xs, args, j, x, h, e => by
    unfold argsOf at h
    split at h
    · rename_i a ha
      obtain ⟨r, e1, rfl⟩ := Option.map_eq_some_iff.mp h
      cases j with
      | zero => simp at e; subst e; exact ⟨a, ha, rfl⟩
      | succ j =>
        obtain ⟨b, h1, h2⟩ := argsOf_at e1 (show xs[j]? = some x by simpa using e)
        exact ⟨b, h1, by simpa using h2⟩
    · cases h
/-- what is pending, by its place -/
theorem pushC_at {K : PySem.W.Frag} {H : Hp} {O : Own} {σ : St} : ∀ {vs : List V} {xs : List (D × Kd)} {T : List Tmp} {j : Nat} {x : D × Kd}, vs.length = xs.length → TmpsOk K H O σ (pushC vs xs T) → xs[j]? = some x →
    ∃ v, vs[j]? = some v ∧ TmpOk K H O σ (T.length + j) ⟨v, x.1, x.2⟩
  | [], [], _, _, _, _, _, e => by simp at e
  | v :: vs, y :: xs, T, 0, x, hl, h, e => by
    simp at e
    subst e
    have deep : ∀ {vs : List V} {xs : List (D × Kd)} {T : List Tmp}, TmpsOk K H O σ (pushC vs xs T) → TmpsOk K H O σ T := by
      intro vs
      induction vs with
      | nil => intro xs T h; unfold pushC at h; exact h
      | cons v vs ih =>
        intro xs T h
        cases xs with
        | nil => unfold pushC at h; exact h
        | cons x xs => exact (ih (xs := xs) (T := ⟨v, x.1, x.2⟩ :: T) h).2
    exact ⟨v, rfl, (deep (vs := vs) (xs := xs) (T := ⟨v, y.1, y.2⟩ :: T) h).1⟩
  | v :: vs, y :: xs, T, j + 1, x, hl, h, e => by
    obtain ⟨u, h1, h2⟩ := pushC_at (T := ⟨v, y.1, y.2⟩ :: T) (j := j) (Nat.succ.inj hl) h (by simpa using e)
    refine ⟨u, by simpa using h1, ?_⟩
    rw [show T.length + (j + 1) = (⟨v, y.1, y.2⟩ :: T : List Tmp).length + j by simp; omega]
    exact h2
  | [], _ :: _, _, _, _, hl, _, _ => by cases hl
  | _ :: _, [], _, _, _, hl, _, _ => by cases hl
end L2.VL
end
section
set_option Elab.async false
set_option linter.all false
set_option maxRecDepth 100000
/-! VLh: a call of a def. -/
namespace L2.VL
open PySem PySem.Spec PyProof.Rows
def cO (ws : List (Option Ow)) (O : Own) : Own := fun b => match O b with
  | none => none
  | some w => match idxW ws w with
    | some j => some (.sl j)
    | none => some .out
def cFr (ws : List (Option Ow)) (O : Own) (H : Hp) : Hp := fun b => match O b with
  | none => H b
  | some w => match idxW ws w with
    | some _ => none
    | none => H b
def cPin (ws : List (Option Ow)) (vs : List V) (j : Nat) : Option V := match ws[j]? with
  | some (some _) => vs[j]?
  | _ => none
def cG (G : Fix) (ws : List (Option Ow)) (O : Own) (H : Hp) (vs : List V) : Fix := { K := G.K, Fr := cFr ws O H, Out := fun b => ∃ w, O b = some w ∧ idxW ws w = none, Pin := cPin ws vs }
/-- the owners behind the call -/
def cB (ws : List (Option Ow)) (O O' : Own) : Own := fun b => match O b with
  | none => (match O' b with
    | some (.tp m) => some (.tp m)
    | _ => none)
  | some w => match idxW ws w with
    | none => some w
    | some j => match O' b with
      | some (.sl i) => if i = j then some w else none
      | some (.tp m) => some (.tp m)
      | _ => none
section
variable {G : Fix} {O O' : Own} {σ σ' : St} {H H' : Hp} {ρ outs : Rho} {T2 : List Tmp} {vs dvs : List V} {xs : List (D × Kd)} {args : List Arg} {dfl : List D} {ws : List (Option Ow)}
theorem lin_cO {a : Addr} : lin (cO ws O) a ↔ lin O a := by
  unfold lin cO
  cases O a with
  | none => exact Iff.rfl
  | some w => dsimp only; cases idxW ws w <;> simp
theorem call_in (R : Rel G O σ H ρ (pushC vs xs [])) (hl : vs.length = xs.length) (hu : uniqW (wsOf ρ 0 xs) = true) (ha : argsOf ρ xs = some args) (hd : ∀ L, Reps G.K H L dvs dfl) :
    Rel (cG G (wsOf ρ 0 xs) O H vs) (cO (wsOf ρ 0 xs) O) ((vs ++ dvs).map some) H ((args ++ dfl.map shA).map slotOf) [] := by
  have hal := argsOf_len ha
  have hdl : dvs.length = dfl.length := (hd fun _ => True).len
  have hs : Stay H H (lin O) (lin (cO (wsOf ρ 0 xs) O)) := fun a o n e => ⟨e, fun z => n (lin_cO.mp z)⟩
  refine ⟨by simp; omega, fun b o e => ?_, fun b => ?_, fun a w e => ?_, fun i v e => ?_, fun j s e => ?_, trivial⟩
  · replace e : cFr (wsOf ρ 0 xs) O H b = some o := e
    unfold cFr at e
    unfold cO
    cases q : O b with
    | none => rw [q] at e; exact ⟨e, .inl rfl⟩
    | some w =>
      rw [q] at e
      dsimp only at e ⊢
      cases q2 : idxW (wsOf ρ 0 xs) w with
      | some j => rw [q2] at e; cases e
      | none => rw [q2] at e; exact ⟨e, .inr rfl⟩
  · show _ ↔ ∃ w, O b = some w ∧ idxW (wsOf ρ 0 xs) w = none
    unfold cO
    cases q : O b with
    | none => simp
    | some w =>
      dsimp only
      cases q2 : idxW (wsOf ρ 0 xs) w with
      | some j => simp [q2]
      | none => simp [q2]
  · have : lin O a := lin_cO.mp (by unfold lin; rw [e]; simp)
    unfold lin at this
    cases q : O a with
    | none => exact absurd q this
    | some w' => exact R.tr a w' q
  · replace e : cPin (wsOf ρ 0 xs) vs i = some v := e
    unfold cPin at e
    split at e
    · rename_i w hw
      have hi : i < vs.length := (List.getElem?_eq_some_iff.mp e).1
      refine ⟨by rw [List.getElem?_map, List.getElem?_append_left hi, e]; rfl, ?_⟩
      rw [wsOf_at] at hw
      cases q : xs[i]? with
      | none => rw [q] at hw; cases hw
      | some x =>
        rw [q] at hw
        replace hw : wOf ρ (0 + i) x = some w := Option.some.inj hw
        obtain ⟨a, h1, h2⟩ := argsOf_at ha q
        refine ⟨⟨a.d, a.own, a.own⟩, by rw [List.getElem?_map, List.getElem?_append_left (by omega), h2]; rfl, ?_⟩
        unfold wOf at hw
        unfold argOf at h1
        obtain ⟨d, k⟩ := x
        cases k with
        | shr => cases hw
        | fr => cases h1; rfl
        | nm m =>
          dsimp only at hw h1
          split at hw
          · rename_i s hs'
            rw [hs'] at h1
            cases h1
            split at hw
            · assumption
            · cases hw
          · cases hw
    · cases e
  · rw [List.getElem?_map] at e
    by_cases hj : j < xs.length
    · rw [List.getElem?_append_left (by omega)] at e
      obtain ⟨a, h1, h2⟩ := argsOf_at ha (List.getElem?_eq_getElem hj)
      rw [h2] at e
      cases e
      obtain ⟨v, h3, h4⟩ := pushC_at (T := []) hl R.tm (List.getElem?_eq_getElem hj)
      refine ⟨v, by rw [List.getElem?_map, List.getElem?_append_left (by omega), h3]; rfl, ?_⟩
      have hw := wsOf_at ρ xs 0 j
      rw [List.getElem?_eq_getElem hj] at hw
      replace hw : (wsOf ρ 0 xs)[j]? = some (wOf ρ (0 + j) xs[j]) := hw
      generalize xs[j] = x at h1 h4 hw
      obtain ⟨d, k⟩ := x
      unfold argOf at h1
      unfold wOf at hw
      unfold TmpOk at h4
      cases k with
      | shr =>
        cases h1
        exact h4.mono hs
      | fr =>
        cases h1
        refine Owned.mono hs h4 fun b o e1 e2 => ⟨?_, e2⟩
        unfold cO
        rw [e1]
        dsimp only
        rw [idxW_of hu (j := j) (by simpa using hw)]
      | nm m =>
        dsimp only at h1 h4 hw
        split at h1
        · rename_i s hs'
          cases h1
          obtain ⟨v', p1, p2⟩ := R.sl m s hs'
          rw [h4] at p1
          cases p1
          rw [hs'] at hw
          unfold SlotOk at p2 ⊢
          dsimp only at hw ⊢
          cases qo : s.own with
          | false => rw [qo] at p2; exact p2.mono hs
          | true =>
            rw [qo] at p2 hw
            refine Owned.mono hs p2 fun b o e1 e2 => ⟨?_, e2⟩
            unfold cO
            rw [e1]
            dsimp only
            rw [idxW_of hu (j := j) (by simpa using hw)]
        · cases h1
    · rw [List.getElem?_append_right (by omega), List.getElem?_map] at e
      cases q : dfl[j - args.length]? with
      | none => rw [q] at e; cases e
      | some d =>
        rw [q] at e
        cases e
        obtain ⟨u, h1, h2⟩ := (hd (lin (cO (wsOf ρ 0 xs) O))).get q
        refine ⟨u, by rw [List.getElem?_map, List.getElem?_append_right (by omega), show j - vs.length = j - args.length by omega, h1]; rfl, h2⟩
theorem call_out (R : Rel G O σ H ρ (pushC vs xs [])) (hl : vs.length = xs.length) (hu : uniqW (wsOf ρ 0 xs) = true) (hT : NoNm T2) (R' : Rel (cG G (wsOf ρ 0 xs) O H vs) O' σ' H' outs T2) :
    Rel G (cB (wsOf ρ 0 xs) O O') σ H' (backs xs outs 0 ρ) T2 ∧ ∀ a, O' a = none → cB (wsOf ρ 0 xs) O O' a = none := by
  have wsNo : ∀ j : Nat, (wsOf ρ 0 xs)[j]? ≠ some (some Ow.out) := fun j e => by
    rw [wsOf_at] at e
    cases q : xs[j]? with
    | none => rw [q] at e; cases e
    | some x =>
      rw [q] at e
      replace e : wOf ρ (0 + j) x = some Ow.out := Option.some.inj e
      unfold wOf at e
      split at e
      · cases e
      · cases e
      · split at e
        · split at e <;> cases e
        · cases e
  have outIdx : idxW (wsOf ρ 0 xs) Ow.out = none := by
    cases q : idxW (wsOf ρ 0 xs) Ow.out with
    | none => rfl
    | some j => exact absurd (idxW_at q) (wsNo j)
  have isout : ∀ {a w}, O a = some w → idxW (wsOf ρ 0 xs) w = none → O' a = some .out := fun {a w} e1 e2 => (R'.ot a).mpr ⟨w, e1, e2⟩
  have keepU : ∀ {a w o}, O a = some w → idxW (wsOf ρ 0 xs) w = none → H a = some o → H' a = some o := fun {a w o} e1 e2 e3 => (R'.fr a o (by show cFr _ O H a = _; unfold cFr; rw [e1]; dsimp only; rw [e2]; exact e3)).1
  have keepN : ∀ {a o}, O a = none → H a = some o → H' a = some o ∧ O' a = none := fun {a o} e1 e3 => by
    obtain ⟨p, q⟩ := R'.fr a o (by show cFr _ O H a = _; unfold cFr; rw [e1]; exact e3)
    refine ⟨p, q.resolve_right fun z => ?_⟩
    obtain ⟨w, e, _⟩ := (R'.ot a).mp z
    rw [e1] at e; cases e
  have none' : ∀ a, O' a = none → cB (wsOf ρ 0 xs) O O' a = none := fun a e => by
    unfold cB
    cases q : O a with
    | none => dsimp only; rw [e]
    | some w =>
      dsimp only
      cases q2 : idxW (wsOf ρ 0 xs) w with
      | none => rw [isout q q2] at e; cases e
      | some j => dsimp only; rw [e]
  have hs1 : Stay H' H' (lin O') (lin (cB (wsOf ρ 0 xs) O O')) := fun a o n e => ⟨e, fun z => z (none' a (by
    cases q : O' a with
    | none => rfl
    | some _ => exact absurd (show lin O' a by unfold lin; rw [q]; simp) n))⟩
  have hs2 : Stay H H' (lin O) (lin (cB (wsOf ρ 0 xs) O O')) := fun a o n e => by
    have n' : O a = none := by
      cases q : O a with
      | none => rfl
      | some _ => exact absurd (show lin O a by unfold lin; rw [q]; simp) n
    obtain ⟨p, q⟩ := keepN n' e
    exact ⟨p, fun z => z (none' a q)⟩
  refine ⟨⟨by rw [backs_len, R.len], fun b o e => ?_, fun b => ?_, fun a w e => ?_, fun i v e => ?_, fun i s'' e => ?_, ?_⟩, none'⟩
  · obtain ⟨h1, h2⟩ := R.fr b o e
    rcases h2 with h2 | h2
    · obtain ⟨p, q⟩ := keepN h2 h1
      exact ⟨p, .inl (none' b q)⟩
    · refine ⟨keepU h2 outIdx h1, .inr ?_⟩
      unfold cB
      rw [h2]
      dsimp only
      rw [outIdx]
  · constructor
    · intro z
      refine (R.ot b).mp ?_
      unfold cB at z
      cases q : O b with
      | none =>
        rw [q] at z
        dsimp only at z
        split at z <;> cases z
      | some w =>
        rw [q] at z
        dsimp only at z
        cases q2 : idxW (wsOf ρ 0 xs) w with
        | none => rw [q2] at z; exact z
        | some j =>
          rw [q2] at z
          dsimp only at z
          split at z
          · split at z
            · cases z
              exact absurd (idxW_at q2) (wsNo j)
            · cases z
          · cases z
          · cases z
    · intro z
      unfold cB
      rw [(R.ot b).mpr z]
      dsimp only
      rw [outIdx]
  · cases q : O a with
    | none =>
      unfold cB at e
      rw [q] at e
      dsimp only at e
      split at e
      · rename_i m q2; exact R'.tr a _ q2
      · cases e
    | some w' =>
      cases q2 : idxW (wsOf ρ 0 xs) w' with
      | none =>
        obtain ⟨o, ho⟩ := R.tr a _ q
        exact ⟨o, keepU q q2 ho⟩
      | some j =>
        unfold cB at e
        rw [q] at e
        dsimp only at e
        rw [q2] at e
        dsimp only at e
        split at e
        · rename_i m q3; exact R'.tr a _ q3
        · rename_i m q3; exact R'.tr a _ q3
        · cases e
  · obtain ⟨h1, s, h2, h3⟩ := R.pn i v e
    refine ⟨h1, ?_⟩
    rw [backs_at, h2]
    show ∃ s', some (back1 xs outs (0 + i) (some s)) = some (some s') ∧ s'.pin = true
    unfold back1
    dsimp only
    cases qo : s.own with
    | false => exact ⟨s, rfl, h3⟩
    | true =>
      dsimp only
      rw [Nat.zero_add]
      cases ql : lookNm xs i with
      | none => exact ⟨s, rfl, h3⟩
      | some j =>
        dsimp only
        obtain ⟨d, hx⟩ := lookNm_at ql
        obtain ⟨vj, hv, ht⟩ := pushC_at (T := []) hl R.tm hx
        have hw : (wsOf ρ 0 xs)[j]? = some (some (.sl i)) := by
          rw [wsOf_at, hx]
          show some (wOf ρ (0 + j) (d, .nm i)) = _
          unfold wOf
          dsimp only
          rw [h2]
          dsimp only
          rw [qo]; rfl
        obtain ⟨_, s', e1, e2⟩ := R'.pn j vj (by show cPin _ vs j = _; unfold cPin; rw [hw]; exact hv)
        rw [e1]
        exact ⟨_, rfl, h3⟩
  · rw [backs_at] at e
    cases q : ρ[i]? with
    | none => rw [q] at e; cases e
    | some o =>
      rw [q] at e
      replace e : back1 xs outs (0 + i) o = some s'' := Option.some.inj e
      rw [Nat.zero_add] at e
      cases o with
      | none => cases e
      | some s =>
        obtain ⟨v, h1, h2⟩ := R.sl i s q
        refine ⟨v, h1, ?_⟩
        unfold back1 at e
        dsimp only at e
        unfold SlotOk at h2
        cases qo : s.own with
        | false =>
          rw [qo] at e h2
          cases e
          unfold SlotOk
          rw [qo]
          exact h2.mono hs2
        | true =>
          rw [qo] at e h2
          dsimp only at e
          cases ql : lookNm xs i with
          | none =>
            rw [ql] at e
            cases e
            have hidx : idxW (wsOf ρ 0 xs) (.sl i) = none := by
              cases qi : idxW (wsOf ρ 0 xs) (.sl i) with
              | none => rfl
              | some j =>
                have hw := idxW_at qi
                rw [wsOf_at] at hw
                cases qx : xs[j]? with
                | none => rw [qx] at hw; cases hw
                | some x =>
                  rw [qx] at hw
                  replace hw : wOf ρ (0 + j) x = some (.sl i) := Option.some.inj hw
                  obtain ⟨d, k⟩ := x
                  unfold wOf at hw
                  cases k with
                  | fr => cases hw
                  | shr => cases hw
                  | nm m =>
                    dsimp only at hw
                    split at hw
                    · split at hw
                      · cases hw
                        exact absurd qx (lookNm_none ql)
                      · cases hw
                    · cases hw
            unfold SlotOk
            rw [qo]
            refine Owned.mono hs2 h2 fun a o e1 e2 => ⟨?_, keepU e1 hidx e2⟩
            unfold cB
            rw [e1]
            dsimp only
            rw [hidx]
          | some j =>
            rw [ql] at e
            dsimp only at e
            split at e
            · rename_i s' hs'
              cases e
              obtain ⟨d, hx⟩ := lookNm_at ql
              obtain ⟨vj, hv, ht⟩ := pushC_at (T := []) hl R.tm hx
              have hw : (wsOf ρ 0 xs)[j]? = some (some (.sl i)) := by
                rw [wsOf_at, hx]
                show some (wOf ρ (0 + j) (d, .nm i)) = _
                unfold wOf
                dsimp only
                rw [q]
                dsimp only
                rw [qo]; rfl
              obtain ⟨e1, s2, e2, e3⟩ := R'.pn j vj (by show cPin _ vs j = _; unfold cPin; rw [hw]; exact hv)
              have evj : v = vj := by
                have ht' : σ[i]? = some (some vj) := ht
                rw [h1] at ht'
                cases ht'; rfl
              obtain ⟨v', f1, f2⟩ := R'.sl j s' hs'
              rw [e1] at f1
              cases f1
              subst evj
              unfold SlotOk at f2 ⊢
              dsimp only
              cases qo' : s'.own with
              | false => rw [qo'] at f2; exact f2.mono hs1
              | true =>
                rw [qo'] at f2
                obtain ⟨a0, ho, ev, ea, hh, c⟩ := h2
                cases ev
                obtain ⟨a2, ho2, ev2, ea2, hh2, c2⟩ := f2
                cases ev2
                refine ⟨a0, ho2, rfl, ?_, hh2, c2.mono hs1⟩
                unfold cB
                rw [ea]
                dsimp only
                rw [idxW_of hu hw]
                dsimp only
                rw [ea2]
                dsimp only
                rw [if_pos rfl]
            · cases e
  · refine tmps_mono hs1 (fun a o n hn e1 e2 => ⟨?_, e2⟩) (tmps_slots (fun u hu j hj => absurd hj (hT u hu j)) R'.tm)
    unfold cB
    rw [e1]
    cases q : O a with
    | none => rfl
    | some w =>
      dsimp only
      cases q2 : idxW (wsOf ρ 0 xs) w with
      | none => rw [isout q q2] at e1; cases e1
      | some j => rfl
end
section
variable {X : Cx} {k : Nat} {f : Addr} {fd : FuncData} {ps : List Str} {F : Fn} {dvs : List V} {ds : List Value} {dfl : List D} {x : Str} {p pos : Pos} {e : Expr} {es : List Expr} {l : List (Bool × DE)}
/-- a def as it stands: its promise, its name, how it is called with the last parameters left to their defaults dvs -/
structure Def (P : Program) (w : World) (K : PySem.W.Frag) (mg : Str → Option Value) (base : Heap) (x : Str) (k : Nat) (F : Fn) (np : Nat) (dvs : List V) : Prop where
  ex : ∃ (f : Addr) (fd : FuncData) (ps : List Str) (ds : List Value), mg x = some (.ref f) ∧ PySem.W.keepIn K (.ref f) = true ∧ ps.length = np ∧ FnOk P w K mg base (L2.CX P w) k f fd ps (spF K F np) ∧ Binds K fd ps ds ∧ Vals dvs ds
theorem callee_of {W : WX} (hd : ∀ H L, Reps X.K H L dvs dfl) (hps : ps.length = np) (σ : St) (H : Hp) (Q : VK) (h : tE X.K W (dCall F np dfl l) σ H Q) : tCallSD (spF X.K F np) dvs (fun σ cls d H => W cls d σ H) (tA X.K W (dA l)) σ H Q := by
  obtain ⟨G, O, ρ, hK, R, h⟩ := h
  refine ⟨G, O, ρ, [], hK, R, Res.post_ok ((post_bind _ _).mp h) fun xs ρ1 q O1 vs H1 hl R1 => ?_⟩
  unfold callEnd at q
  by_cases hu : (uniqW (wsOf ρ1 0 xs) && decide (xs.length + dfl.length = np)) = true
  · rw [if_pos hu] at q
    rw [Bool.and_eq_true, decide_eq_true_eq] at hu
    cases ha : argsOf ρ1 xs with
    | none => rw [ha] at q; exact q.elim
    | some args =>
      rw [ha] at q
      dsimp only at q
      have hd1 : ∀ L, Reps G.K H1 L dvs dfl := fun L => by rw [hK]; exact hd H1 L
      have hdl : dvs.length = dfl.length := (hd1 fun _ => True).len
      have hal := argsOf_len ha
      refine ⟨by rw [List.length_append, hl, hdl]; exact hu.2, cG G (wsOf ρ1 0 xs) O1 H1 vs, cO (wsOf ρ1 0 xs) O1, args ++ dfl.map shA, hK, by rw [List.length_append, List.length_map, hal]; exact hu.2, call_in R1 hl hu.1 ha hd1, ?_⟩
      cases hF : F (args ++ dfl.map shA) with
      | none => rw [hF] at q; exact q.elim
      | some fr =>
        rw [hF] at q
        cases fr with
        | ret d b outs =>
          exact fun O' σ' v H' R' => q _ v H' (call_out R1 hl hu.1 (NoNm.nil.cons fun i z => by cases b <;> cases z) R').1
        | exc x outs =>
          intro O' σ' H' dd R' er
          rw [← hK]
          refine q _ H' dd (call_out R1 hl hu.1 .nil R').1 ?_
          have nn := (call_out R1 hl hu.1 .nil R').2
          unfold ExnRep at er ⊢
          cases qf : x.fs with
          | none => rw [qf] at er; exact er
          | some fs =>
            rw [qf] at er
            obtain ⟨d, us, e1, e2, e3, e4⟩ := er
            refine ⟨d, us, e1, e2, e3, ?_⟩
            rw [hK]
            refine e4.mono fun a o n e => ⟨e, fun z => n ?_⟩
            unfold lin at z ⊢
            exact fun z2 => z (nn a z2)
  · rw [if_neg hu] at q; exact q.elim
theorem se_call {np : Nat} (D : Def X.prog X.w X.K X.mg X.base x k F np dvs) (hr : Room k X.A) (ha : SA X (e :: es) l) (hg : Gl X x := by rfl) (hdb : (x == ("__debug__" : Str)) = false := by decide)
    (he : starEach (e :: es) X.env = (false, eval e X.env) :: starEach es X.env := by rfl) (hpl : (backTo pos (starEach es X.env)).any (·.1) = false := by rfl) : SE X (.Call (.Name x p) (e :: es) [] pos) (dCall F np (dvs.map .con) l) := fun W tk => by
  obtain ⟨f, fd, ps, ds, hm, hk, hps, Fk, hb, hv⟩ := D.ex
  refine PE.imp (pe_callSD (E := fun σ cls d H => W cls d σ H) Fk hr hg hm hk hb hv (fun σ => passAt tk σ) (ha W tk) hdb he hpl) (callee_of (ps := ps) (fun H L => ?_) hps)
  have := Reps.cons_map (K := X.K) (H := H) (L := L) (fun v : V => v) dvs
  simpa using this
end
/-- a def of the module -/
structure FnAt (K : PySem.W.Frag) (mg : Str → Option Value) (x : Str) (st : Stmt) (dvs : List V) (kws : List (Str × V)) : Prop where
  ex : ∃ (f : Addr) (fd : FuncData), mg x = some (.ref f) ∧ FunD K x x (defArgs st) (defBody st) (defScope st) dvs kws f fd
section
variable {P : Program} {w : World} {K : PySem.W.Frag} {mg : Str → Option Value} {base : Heap} {x : Str} {st : Stmt}
/-- from the def's text to its promise -/
theorem def_ok {N ps : List Str} {k np : Nat} {r : DS} (F : FnAt K mg x st [] []) (S : FnScope N ps (defScope st)) (hn : ps.length = np)
    (hb : ∀ (kV doc pm : Value) (an : Option Addr) (cdv ct : Value) (us : List Value), us.length = ps.length → bindArgs (PySem.W.fnOf x x (defArgs st) (defBody st) (defScope st) .none kV doc pm an cdv ct) ⟨us, []⟩ = pure (ps.zip us))
    (h : ∀ (f : Addr) (cdv : Value) (A : Around) (outer : List Env) (s : Shared) (H : Hp) (E : XK), FnCx (cxOf (L2.CX P w) P w K mg base N x (defScope st) f cdv A outer s H E) k → SSs (cxOf (L2.CX P w) P w K mg base N x (defScope st) f cdv A outer s H E) (defBody st) r) :
    Def P w K mg base x (k + 1) (runFn N.length r) np [] := by
  obtain ⟨f, fd, hm, F⟩ := F.ex
  subst hn
  refine ⟨f, fd, ps, [], hm, F.kp, rfl, fn_ok F S (fun cdv A outer s H E c => h f cdv A outer s H E c), ?_, .nil⟩
  exact F.bindsN hb
/-- .. of a def with defaults: the first n are given -/
theorem def_okD {N ps : List Str} {k np : Nat} {r : DS} {dvs : List V} (n j : Nat) (F : FnAt K mg x st dvs []) (S : FnScope N ps (defScope st)) (hn : ps.length = np) (hd : dvs ≠ []) (hnj : n + (dvs.length - j) = ps.length)
    (hb : ∀ (T : Addr) (kV doc pm : Value) (an : Option Addr) (cdv ct : Value) (us its : List Value), us.length = n → its.length = dvs.length →
      ∃ k, bindArgs (PySem.W.fnOf x x (defArgs st) (defBody st) (defScope st) (.ref T) kV doc pm an cdv ct) ⟨us, []⟩ = seqItems? (.ref T) >>= k ∧ k (some its.toArray) = pure (ps.zip (us ++ its.drop j)))
    (h : ∀ (f : Addr) (cdv : Value) (A : Around) (outer : List Env) (s : Shared) (H : Hp) (E : XK), FnCx (cxOf (L2.CX P w) P w K mg base N x (defScope st) f cdv A outer s H E) k → SSs (cxOf (L2.CX P w) P w K mg base N x (defScope st) f cdv A outer s H E) (defBody st) r) :
    Def P w K mg base x (k + 1) (runFn N.length r) np (dvs.drop j) := by
  obtain ⟨f, fd, hm, F⟩ := F.ex
  subst hn
  obtain ⟨ds, hv, hbd⟩ := F.binds1 n j hd hnj hb
  exact ⟨f, fd, ps, ds, hm, F.kp, rfl, fn_ok F S (fun cdv A outer s H E c => h f cdv A outer s H E c), hbd, hv⟩
end
end L2.VL
end
section
set_option Elab.async false
set_option linter.all false
set_option maxRecDepth 100000
/-! VLi: the operations on data. -/
namespace L2.VL
open PySem PySem.Spec PyProof.Rows
/-! ### + on ints, texts, lists, tuples -/
def addD (x y : D) : Option (D × Kd) := match x, y with
  | .con (.int i), .con (.int j) => some (.int (i + j), .shr)
  | .con (.str a), .con (.str b) => if a.length + b.length ≤ cap then some (.str (a ++ b), .shr) else none
  | .lst a, .lst b => if a.length + b.length ≤ cap then some (.lst (a ++ b), .fr) else none
  | .tup a, .tup b => if a.length + b.length ≤ cap ∧ a.isEmpty = false ∧ b.isEmpty = false then some (.tup (a ++ b), .shr) else none
  | _, _ => none
def rCatL (K : PySem.W.Frag) : R2 := fun x y H Q => ∃ l b xs zs, x = .ref l ∧ y = .ref b ∧ SqL K H l xs ∧ SqL K H b zs ∧ xs.length + zs.length ≤ sizeLine ∧ ∀ p, H p = none → Q (.ref p) (upd H p (.lst (xs ++ zs)))
section
variable {X : Cx} {pos : Pos}
theorem op_catL : OpR X (binaryOp .Add) (rCatL X.K) := by
  intro pins s σ H x y v u Q I rx ry h
  obtain ⟨l, b, xs, zs, rfl, rfl, hH, hB, hz, q⟩ := h
  cases rx
  cases ry
  obtain ⟨its, r, ⟨o1, n1, e1, c1, d1, k1⟩, _⟩ := I.list hH
  obtain ⟨its2, r2, ⟨o2, n2, e2, c2, d2, k2⟩, _⟩ := I.list hB
  obtain ⟨cls1, dd1, dt1, sl1⟩ := o1
  obtain ⟨cls2, dd2, dt2, sl2⟩ := o2
  dsimp only at c1 d1 k1 c2 d2 k2
  subst c1 d1 k1 c2 d2 k2
  have hl := r.length
  have hl2 := r2.length
  refine concat_meets ⟨_, e1, rfl⟩ ⟨_, e2, rfl⟩ noFill_list_add seq_list_add PySem.F.slot_list_add PySem.F.entry_list_add (PySem.F.args_list_add_2 _ _) (list_addW l b its.toArray its2.toArray n1 n2 none none sl1 sl2 (by simp; omega)) ⟨e1, e2, ?_⟩
  have ea : its.toArray ++ its2.toArray = (its ++ its2).toArray := by simp
  rw [ea]
  exact ⟨.ref _, _, I.lnew (t' := s.toks) (r.append r2) (by rw [List.length_append]; omega), rfl, q _ I.fresh⟩
def rAddStr : R2 := fun x y H Q => ∃ i j, x = .str i ∧ y = .str j ∧ i.length + j.length ≤ sizeLine ∧ Q (.str (i ++ j)) H
def rAddI : R2 := fun x y H Q => ∃ i j, x = .int i ∧ y = .int j ∧ Q (.int (i + j)) H
abbrev rAdd (K : PySem.W.Frag) : R2 := fun x y H Q => rAddI x y H Q ∨ (rAddStr x y H Q ∨ (rCatL K x y H Q ∨ rCatT K x y H Q))
theorem op_addA : OpR X (binaryOp .Add) (rAdd X.K) := OpR.or (r := rAddI) op_add (OpR.or (r := rAddStr) op_add_str (OpR.or (r := rCatL X.K) op_catL op_catT))
theorem os_add {K : PySem.W.Frag} : OpS2 K (rAdd K) addD := by
  intro G O σ H ρ a b x y z Q hK R v1 v2 e q
  unfold addD at e
  split at e
  · cases e
    exact .inl ⟨_, _, v1.con, v2.con, q O _ H (R.con _)⟩
  · split at e
    · rename_i hl
      cases e
      exact .inr (.inl ⟨_, _, v1.con, v2.con, by rw [← cap_eq]; exact hl, q O _ H (R.con _)⟩)
    · cases e
  · split at e
    · rename_i hl
      cases e
      obtain ⟨a1, vs, rfl, s1, r1⟩ := v1.lst
      obtain ⟨a2, us, rfl, s2, r2⟩ := v2.lst
      refine .inr (.inr (.inl ⟨a1, a2, vs, us, rfl, rfl, s1, s2, by rw [r1.len, r2.len, ← cap_eq]; exact hl, fun p hp => ?_⟩))
      rw [← hK] at r1 r2
      obtain ⟨O', R'⟩ := R.fresh (d := .lst (_ ++ _)) hp (.lst (r1.append r2))
      exact q O' _ _ R'
    · cases e
  · split at e
    · rename_i xs ys hl
      cases e
      obtain ⟨a1, vs, rfl, s1, r1⟩ := v1.tup
      obtain ⟨a2, us, rfl, s2, r2⟩ := v2.tup
      have ne : vs ≠ [] := fun z => by
        subst z
        cases r1
        cases hl.2.1
      refine .inr (.inr (.inr ⟨a1, a2, vs, us, rfl, rfl, s1, s2, ne, by rw [r1.len, r2.len, ← cap_eq]; exact hl.1, fun z => ?_, fun z p hp => ?_⟩))
      · subst z
        cases r2
        cases hl.2.2
      · rw [← hK] at r1 r2
        exact q O _ _ (R.freshT (d := .tup (_ ++ _)) hp (.tup (r1.append r2)))
    · cases e
  · cases e

/-! ### ints -/
def CMulB (i j : Int) : Bool := (decide (-18446744073709551616 < i) && decide (i < 18446744073709551616)) || (decide (-18446744073709551616 < j) && decide (j < 18446744073709551616))
theorem CMulB_of {i j : Int} (h : CMulB i j = true) : CMul i j := by
  unfold CMulB at h
  rw [Bool.or_eq_true, Bool.and_eq_true, Bool.and_eq_true, decide_eq_true_eq, decide_eq_true_eq, decide_eq_true_eq, decide_eq_true_eq] at h
  rcases h with h | h
  · exact .inl ⟨by omega, by omega⟩
  · exact .inr ⟨by omega, by omega⟩
/-- a guarded operation on ints -/
def gIb (C : Int → Int → Bool) (f : Int → Int → V) (x y : D) : Option (D × Kd) := match x, y with
  | .con (.int i), .con (.int j) => if C i j then some (.con (f i j), .shr) else none
  | _, _ => none
theorem os_Ib {K : PySem.W.Frag} {P : Int → Int → Prop} {C : Int → Int → Bool} {f : Int → Int → V} (h : ∀ i j, C i j = true → P i j) : OpS2 K (rI P f) (gIb C f) := by
  intro G O σ H ρ a b x y z Q hK R v1 v2 e q
  unfold gIb at e
  split at e
  · split at e
    · rename_i hc
      cases e
      exact ⟨_, _, v1.con, v2.con, h _ _ hc, q O _ H (R.con _)⟩
    · cases e
  · cases e
def gIp (f : Int → Int → V) (x y : D) : Option (D × Kd) := match x, y with
  | .con (.int i), .con (.int j) => some (.con (f i j), .shr)
  | _, _ => none
theorem os_Ip {K : PySem.W.Frag} {f : Int → Int → V} : OpS2 K (rI0 f) (gIp f) := by
  intro G O σ H ρ a b x y z Q hK R v1 v2 e q
  unfold gIp at e
  split at e
  · cases e
    exact ⟨_, _, v1.con, v2.con, q O _ H (R.con _)⟩
  · cases e
def subD := gIp fun i j => .int (i - j)
def mulD := gIb CMulB fun i j => .int (i * j)
def CDivB (_ j : Int) : Bool := decide (0 < j) && decide (j < 2 ^ 200)
def divD := gIb CDivB fun i j => .int (i / j)
def modD := gIb (fun _ j => decide (0 < j)) fun i j => .int (i % j)
def CPowB (i j : Int) : Bool := decide (0 ≤ j) && (decide (j ≤ 1000) && decide (i.natAbs < 18446744073709551616))
def powD := gIb CPowB fun i j => .int (i ^ j.toNat)
def shlD := gIb CPowB fun i j => .int (i * 2 ^ j.toNat)
def shrD := gIb (fun _ j => decide (0 ≤ j)) fun i j => .int (i / 2 ^ j.toNat)
def andD := gIp fun i j => .int (Builtin.bitAnd i j)
def orD := gIp fun i j => .int (Builtin.bitOr i j)
def xorD := gIp fun i j => .int (Builtin.bitXor i j)
theorem CPowB_of {i j : Int} (h : CPowB i j = true) : CPow i j := by
  unfold CPowB at h
  simp only [Bool.and_eq_true, decide_eq_true_eq] at h
  exact ⟨h.1, by omega, by omega⟩
theorem CDivB_of {i j : Int} (h : CDivB i j = true) : CDivW i j := by
  unfold CDivB at h
  simp only [Bool.and_eq_true, decide_eq_true_eq] at h
  refine wide_div h.1 (b := 200) ?_ (by decide) (by decide)
  have : (2 : Int) ^ 200 = ((2 ^ 200 : Nat) : Int) := by norm_cast
  omega
theorem os_sub {K : PySem.W.Frag} : OpS2 K (rI0 fun i j => .int (i - j)) subD := os_Ip
theorem os_mul {K : PySem.W.Frag} : OpS2 K (rI CMul fun i j => .int (i * j)) mulD := os_Ib fun _ _ => CMulB_of
theorem os_div {K : PySem.W.Frag} : OpS2 K (rI CDivW fun i j => .int (i / j)) divD := os_Ib fun _ _ => CDivB_of
theorem os_mod {K : PySem.W.Frag} : OpS2 K (rI (fun _ j => 0 < j) fun i j => .int (i % j)) modD := os_Ib fun _ _ h => of_decide_eq_true h
theorem os_pow {K : PySem.W.Frag} : OpS2 K (rI CPow fun i j => .int (i ^ j.toNat)) powD := os_Ib fun _ _ => CPowB_of
theorem os_shl {K : PySem.W.Frag} : OpS2 K (rI CPow fun i j => .int (i * 2 ^ j.toNat)) shlD := os_Ib fun _ _ => CPowB_of
theorem os_shr {K : PySem.W.Frag} : OpS2 K (rI (fun _ j => 0 ≤ j) fun i j => .int (i / 2 ^ j.toNat)) shrD := os_Ib fun _ _ h => of_decide_eq_true h
theorem os_and {K : PySem.W.Frag} : OpS2 K (rI0 fun i j => .int (Builtin.bitAnd i j)) andD := os_Ip
theorem os_or {K : PySem.W.Frag} : OpS2 K (rI0 fun i j => .int (Builtin.bitOr i j)) orD := os_Ip
theorem os_xor {K : PySem.W.Frag} : OpS2 K (rI0 fun i j => .int (Builtin.bitXor i j)) xorD := os_Ip
/-- one operand -/
def dOp1 (g : D → Option V) (ra : DE) : DE := do
  let x ← ra
  let d ← dcur x
  let v ← mOpt (g d)
  pure (.con v, .shr)
def negV (d : D) : Option V := match d with
  | .con (.int i) => some (.int (-i))
  | _ => none
theorem se_neg {a : Expr} {ra : DE} (ha : SE X a ra) : SE X (.UnaryOp .USub a pos) (dOp1 negV ra) := fun W tk => PE.imp (pe_un un_neg (ha W tk)) fun σ H Q ⟨G, O, ρ, hK, R, h⟩ => by
  refine tE.at hK R (Res.post_ok ((post_bind _ _).mp h) fun x ρ1 q O1 v H1 R1 => ?_)
  obtain ⟨d, e1, q2⟩ := post_cur.mp ((post_bind _ _).mp q)
  obtain ⟨w, e2, q3⟩ := (post_opt _).mp ((post_bind _ _).mp q2)
  have v1 := R1.view R1.tm.1 e1
  unfold negV at e2
  split at e2
  · cases e2
    exact ⟨_, v1.con, q3 O1 _ H1 (R1.pop.con _)⟩
  · cases e2

/-! ### comparisons -/
def ltC := gC fun i j => decide (i < j)
def leC := gC fun i j => decide (i ≤ j)
def gtC := gC fun i j => decide (j < i)
def geC := gC fun i j => decide (j ≤ i)
/-- data that == reads -/
def okD : Nat → D → Bool
  | _, .con .non => true
  | _, .con (.bl _) => true
  | _, .con (.int _) => true
  | _, .con (.str s) => PyData.strOk s
  | n + 1, .lst xs => xs.all (okD n)
  | n + 1, .tup xs => xs.all (okD n)
  | _, _ => false
def sameV (a b : V) : Bool := match a, b with
  | .int i, .int j => decide (i = j)
  | .bl i, .bl j => i == j
  | .bl i, .int j => (if i then 1 else 0) == j
  | .int i, .bl j => i == (if j then 1 else 0)
  | .str i, .str j => decide (i = j)
  | .non, .non => true
  | _, _ => false
mutual
def same : D → D → Bool
  | .con a, .con b => sameV a b
  | .lst xs, .lst ys => sameL xs ys
  | .tup xs, .tup ys => sameL xs ys
  | _, _ => false
def sameL : List D → List D → Bool
  | [], [] => true
  | x :: xs, y :: ys => same x y && sameL xs ys
  | _, _ => false
end
def eqD (x y : D) : Option Bool := match x, y with
  | .con a, .con b => if scal a b then some (decide (a = b)) else if okD 60 x && okD 60 y then some (same x y) else none
  | _, _ => if okD 60 x && okD 60 y then some (same x y) else none
mutual
def toPy : D → PyData
  | .con (.bl b) => .bool b
  | .con (.int i) => .int i
  | .con (.str s) => .str s
  | .con _ => .none
  | .lst xs => .list (toPys xs)
  | .tup xs => .tuple (toPys xs)
  | _ => .none
def toPys : List D → List PyData
  | [] => []
  | x :: xs => toPy x :: toPys xs
end
theorem toPy_depth : ∀ (n : Nat) (d : D), okD n d = true → (toPy d).depth ≤ n ∧ (toPy d).canLay0 = true
  | n, .con v, h => by
    cases v with
    | non => simp [toPy, PyData.depth, PyData.canLay0]
    | bl b => simp [toPy, PyData.depth, PyData.canLay0]
    | int i => simp [toPy, PyData.depth, PyData.canLay0]
    | str s => unfold okD at h; simp [toPy, PyData.depth, PyData.canLay0, h]
    | _ => simp [okD] at h
  | n + 1, .lst xs, h => by
    have ih : ∀ xs : List D, xs.all (okD n) = true → PyData.depthAll (toPys xs) ≤ n ∧ PyData.canLayAll0 (toPys xs) = true := by
      intro xs
      induction xs with
      | nil => intro _; simp [toPys, PyData.depthAll, PyData.canLayAll0]
      | cons x xs ih2 =>
        intro h
        rw [List.all_cons, Bool.and_eq_true] at h
        obtain ⟨a, b⟩ := toPy_depth n x h.1
        obtain ⟨c, d⟩ := ih2 h.2
        simp only [toPys, PyData.depthAll, PyData.canLayAll0, b, d]
        exact ⟨by omega, rfl⟩
    obtain ⟨a, b⟩ := ih xs (by unfold okD at h; exact h)
    simp only [toPy, PyData.depth, PyData.canLay0]
    exact ⟨by omega, b⟩
  | n + 1, .tup xs, h => by
    have ih : ∀ xs : List D, xs.all (okD n) = true → PyData.depthAll (toPys xs) ≤ n ∧ PyData.canLayAll0 (toPys xs) = true := by
      intro xs
      induction xs with
      | nil => intro _; simp [toPys, PyData.depthAll, PyData.canLayAll0]
      | cons x xs ih2 =>
        intro h
        rw [List.all_cons, Bool.and_eq_true] at h
        obtain ⟨a, b⟩ := toPy_depth n x h.1
        obtain ⟨c, d⟩ := ih2 h.2
        simp only [toPys, PyData.depthAll, PyData.canLayAll0, b, d]
        exact ⟨by omega, rfl⟩
    obtain ⟨a, b⟩ := ih xs (by unfold okD at h; exact h)
    simp only [toPy, PyData.depth, PyData.canLay0]
    exact ⟨by omega, b⟩
  | 0, .lst xs, h => by simp [okD] at h
  | 0, .tup xs, h => by simp [okD] at h
  | 0, .dic xs, h => by simp [okD] at h
  | 0, .dit xs, h => by simp [okD] at h
  | _ + 1, .dic xs, h => by simp [okD] at h
  | _ + 1, .dit xs, h => by simp [okD] at h
theorem ok_shaped {d : D} (h : okD 60 d = true) : SeqAt.shaped (toPy d) = true := by
  obtain ⟨a, b⟩ := toPy_depth 60 d h
  unfold SeqAt.shaped
  rw [b, decide_eq_true (by omega)]; rfl
mutual
theorem Rep.dp {K : PySem.W.Frag} {H : Hp} {O : Own} : ∀ (n : Nat) {v : V} {d : D}, okD n d = true → Vw K H O v d → Dp K H v (toPy d)
  | n, v, .con c, h, r => by
    rw [r.con]
    cases c with
    | non => exact .non
    | bl b => exact .bl b
    | int i => exact .int i
    | str s => exact .str s
    | _ => simp [okD] at h
  | n + 1, v, .lst xs, h, r => by
    obtain ⟨a, vs, rfl, s, q⟩ := r.lst
    exact .lst s (Reps.dp n (by unfold okD at h; exact h) q)
  | n + 1, v, .tup xs, h, r => by
    obtain ⟨a, vs, rfl, s, q⟩ := r.tup
    exact .tup s (Reps.dp n (by unfold okD at h; exact h) q)
  | 0, v, .lst xs, h, r => by simp [okD] at h
  | 0, v, .tup xs, h, r => by simp [okD] at h
  | 0, v, .dic xs, h, r => by simp [okD] at h
  | 0, v, .dit xs, h, r => by simp [okD] at h
  | _ + 1, v, .dic xs, h, r => by simp [okD] at h
  | _ + 1, v, .dit xs, h, r => by simp [okD] at h
theorem Reps.dp {K : PySem.W.Frag} {H : Hp} {O : Own} : ∀ (n : Nat) {vs : List V} {ds : List D}, ds.all (okD n) = true → Reps K H (lin O) vs ds → DpAll K H vs (toPys ds)
  | n, _, [], h, r => by cases r; exact .nil
  | n, _, d :: ds, h, r => by
    rw [List.all_cons, Bool.and_eq_true] at h
    cases r with
    | cons a b => exact .cons (Rep.dp n h.1 (.inl a)) (Reps.dp n h.2 b)
end
theorem same_con {n : Nat} {a b : V} (h1 : okD n (.con a) = true) (h2 : okD n (.con b) = true) : PyData.eqv (toPy (.con a)) (toPy (.con b)) = sameV a b := by
  cases a <;> first
    | (simp [okD] at h1; done)
    | (cases b <;> first
        | (simp [okD] at h2; done)
        | (simp [toPy, PyData.eqv, sameV]; done)
        | (simp only [toPy, PyData.eqv, sameV]; rfl)
        | (simp only [toPy, PyData.eqv, sameV, Bool.beq_eq_decide_eq]))
mutual
theorem same_eqv : ∀ (n m : Nat) (x y : D), okD n x = true → okD m y = true → PyData.eqv (toPy x) (toPy y) = same x y
  | n, m, .con a, .con b, h1, h2 => by
    have e1 : okD 0 (.con a) = true := by cases a <;> first | (simp only [okD] at h1 ⊢; done) | (simp only [okD] at h1 ⊢; exact h1) | (simp [okD] at h1)
    have e2 : okD 0 (.con b) = true := by cases b <;> first | (simp only [okD] at h2 ⊢; done) | (simp only [okD] at h2 ⊢; exact h2) | (simp [okD] at h2)
    rw [same_con e1 e2]
    simp only [same]
  | n + 1, m + 1, .lst xs, .lst ys, h1, h2 => by
    simp only [toPy, PyData.eqv, same]
    exact same_eqvs n m xs ys (by unfold okD at h1; exact h1) (by unfold okD at h2; exact h2)
  | n + 1, m + 1, .tup xs, .tup ys, h1, h2 => by
    simp only [toPy, PyData.eqv, same]
    exact same_eqvs n m xs ys (by unfold okD at h1; exact h1) (by unfold okD at h2; exact h2)
  | n, m, .con a, .lst ys, h1, h2 => by cases a <;> simp [toPy, PyData.eqv, same]
  | n, m, .con a, .tup ys, h1, h2 => by cases a <;> simp [toPy, PyData.eqv, same]
  | n, m, .lst xs, .con b, h1, h2 => by cases b <;> simp [toPy, PyData.eqv, same]
  | n, m, .tup xs, .con b, h1, h2 => by cases b <;> simp [toPy, PyData.eqv, same]
  | n, m, .lst xs, .tup ys, h1, h2 => by simp [toPy, PyData.eqv, same]
  | n, m, .tup xs, .lst ys, h1, h2 => by simp [toPy, PyData.eqv, same]
  | 0, m, .lst xs, .lst ys, h1, h2 => by simp [okD] at h1
  | 0, m, .tup xs, .tup ys, h1, h2 => by simp [okD] at h1
  | n, 0, .lst xs, .lst ys, h1, h2 => by simp [okD] at h2
  | n, 0, .tup xs, .tup ys, h1, h2 => by simp [okD] at h2
  | n, m, .dic xs, y, h1, h2 => by cases n <;> simp [okD] at h1
  | n, m, .dit xs, y, h1, h2 => by cases n <;> simp [okD] at h1
  | n, m, .con a, .dic ys, h1, h2 => by cases m <;> simp [okD] at h2
  | n, m, .con a, .dit ys, h1, h2 => by cases m <;> simp [okD] at h2
  | n, m, .lst xs, .dic ys, h1, h2 => by cases m <;> simp [okD] at h2
  | n, m, .lst xs, .dit ys, h1, h2 => by cases m <;> simp [okD] at h2
  | n, m, .tup xs, .dic ys, h1, h2 => by cases m <;> simp [okD] at h2
  | n, m, .tup xs, .dit ys, h1, h2 => by cases m <;> simp [okD] at h2
theorem same_eqvs : ∀ (n m : Nat) (xs ys : List D), xs.all (okD n) = true → ys.all (okD m) = true → PyData.eqvAll (toPys xs) (toPys ys) = sameL xs ys
  | n, m, [], [], h1, h2 => by simp [toPys, PyData.eqvAll, sameL]
  | n, m, [], _ :: _, h1, h2 => by simp [toPys, PyData.eqvAll, sameL]
  | n, m, _ :: _, [], h1, h2 => by simp [toPys, PyData.eqvAll, sameL]
  | n, m, x :: xs, y :: ys, h1, h2 => by
    rw [List.all_cons, Bool.and_eq_true] at h1 h2
    simp only [toPys, PyData.eqvAll, sameL]
    rw [same_eqv n m x y h1.1 h2.1, same_eqvs n m xs ys h1.2 h2.2]
end
abbrev rEqA (K : PySem.W.Frag) : R2 := fun x y H Q => rEq x y H Q ∨ rEqD K x y H Q
abbrev rNeA (K : PySem.W.Frag) : R2 := fun x y H Q => rNe x y H Q ∨ rNeD K x y H Q
theorem op_eqA {k : Nat} (hr : Room k X.A) : OpR X (compareOp .Eq) (rEqA X.K) := OpR.or op_eq (op_eqD hr.units)
theorem op_neA {k : Nat} (hr : Room k X.A) : OpR X (compareOp .NotEq) (rNeA X.K) := OpR.or op_ne (op_neD hr.units)
theorem eqD_of {K : PySem.W.Frag} {a b : V} {H : Hp} {x y : D} {k : Bool} {O : Own} (v1 : Vw K H O a x) (v2 : Vw K H O b y) (e : eqD x y = some k) : (scal a b = true ∧ decide (a = b) = k) ∨ ∃ d e, Dp K H a d ∧ Dp K H b e ∧ SeqAt.shaped d = true ∧ SeqAt.shaped e = true ∧ PyData.eqv d e = k := by
  have py : ∀ k, (if (okD 60 x && okD 60 y) = true then some (same x y) else none) = some k → ∃ d e, Dp K H a d ∧ Dp K H b e ∧ SeqAt.shaped d = true ∧ SeqAt.shaped e = true ∧ PyData.eqv d e = k := fun k e => by
    split at e
    · rename_i h
      rw [Bool.and_eq_true] at h
      cases e
      exact ⟨toPy x, toPy y, Rep.dp 60 h.1 v1, Rep.dp 60 h.2 v2, ok_shaped h.1, ok_shaped h.2, same_eqv 60 60 x y h.1 h.2⟩
    · cases e
  unfold eqD at e
  split at e
  · rename_i a' b'
    split at e
    · rename_i hs
      cases e
      rw [v1.con, v2.con]
      exact .inl ⟨hs, rfl⟩
    · exact .inr (py k e)
  · exact .inr (py k e)
theorem cs_eq {K : PySem.W.Frag} : CmpS K (rEqA K) eqD := fun a b H x y k O Q v1 v2 e q => by
  rcases eqD_of v1 v2 e with ⟨h1, h2⟩ | ⟨d, e', h1, h2, h3, h4, h5⟩
  · exact .inl ⟨h1, by rw [h2]; exact q⟩
  · exact .inr ⟨d, e', h1, h2, h3, h4, by rw [h5]; exact q⟩
def neD (x y : D) : Option Bool := (eqD x y).map not
theorem cs_ne {K : PySem.W.Frag} : CmpS K (rNeA K) neD := fun a b H x y k O Q v1 v2 e q => by
  obtain ⟨k', e1, e2⟩ := Option.map_eq_some_iff.mp e
  rcases eqD_of v1 v2 e1 with ⟨h1, h2⟩ | ⟨d, e', h1, h2, h3, h4, h5⟩
  · exact .inl ⟨h1, by rw [h2, e2]; exact q⟩
  · exact .inr ⟨d, e', h1, h2, h3, h4, by rw [h5, e2]; exact q⟩
end
end L2.VL
end
section
set_option Elab.async false
set_option linter.all false
set_option maxRecDepth 100000
/-! VLj: more operations: is, in, isinstance, built-ins, slices, stores, list methods, texts. -/
namespace L2.VL
open PySem PySem.Spec PyProof.Rows
section
variable {X : Cx} {a b c e o : Expr} {es : List Expr} {ra rb rc r : DE} {l : List (Bool × DE)} {pos p : Pos}
/-! ### is None, is True, is False -/
def isNonD (d : D) : Option Bool := match d with
  | .con .non => some true
  | .con _ => some false
  | .lst _ => some false
  | .tup _ => some false
  | .dic _ => some false
  | .dit _ => some false
theorem isNon_of {K : PySem.W.Frag} {H : Hp} {O : Own} {v : V} {d : D} {k : Bool} (h : Vw K H O v d) (e : isNonD d = some k) : decide (v = .non) = k := by
  have ref : ∀ {ho : HO} {d : D}, Cont K H (lin O) ho d → True := fun _ => trivial
  unfold isNonD at e
  split at e
  · cases e; rw [h.con]; rfl
  · rename_i c hc
    cases e
    rw [h.con]
    exact decide_eq_false hc
  · cases e
    obtain ⟨a, vs, rfl, _⟩ := h.lst
    rfl
  · cases e
    obtain ⟨a, vs, rfl, _⟩ := h.tup
    rfl
  · cases e
    rcases h with h | ⟨a, ho, rfl, _⟩
    · cases h; rfl
    · rfl
  · cases e
    rcases h with h | ⟨a, ho, rfl, _⟩
    · cases h; rfl
    · rfl
def isNC (x y : D) : Option Bool := match y with
  | .con .non => isNonD x
  | _ => none
def notNC (x y : D) : Option Bool := (isNC x y).map not
theorem cs_isN {K : PySem.W.Frag} : CmpS K (fun x y H Q => y = .non ∧ Q (.bl (decide (x = .non))) H) isNC := fun a b H x y k O Q v1 v2 e q => by
  unfold isNC at e
  split at e
  · exact ⟨v2.con, by rw [isNon_of v1 e]; exact q⟩
  · cases e
theorem cs_notN {K : PySem.W.Frag} : CmpS K (fun x y H Q => y = .non ∧ Q (.bl (!decide (x = .non))) H) notNC := fun a b H x y k O Q v1 v2 e q => by
  obtain ⟨k', e1, e2⟩ := Option.map_eq_some_iff.mp e
  unfold isNC at e1
  split at e1
  · exact ⟨v2.con, by rw [isNon_of v1 e1, e2]; exact q⟩
  · cases e1

/-! ### in -/
def flatD (d : D) : Option V := match d with
  | .con v => if flatV v then some v else none
  | _ => none
def flatDs : List D → Option (List V)
  | [] => some []
  | d :: ds => match flatD d with
    | some v => (flatDs ds).map (v :: ·)
    | none => none
theorem flatD_of {d : D} {v : V} (e : flatD d = some v) : d = .con v ∧ flatV v = true := by
  unfold flatD at e
  split at e
  · split at e
    · rename_i h; cases e; exact ⟨rfl, h⟩
    · cases e
  · cases e
theorem flatDs_of {K : PySem.W.Frag} {H : Hp} {L : Addr → Prop} : ∀ {ds : List D} {vs us : List V}, flatDs ds = some vs → Reps K H L us ds → us = vs ∧ vs.all flatV = true
  | [], _, _, e, r => by cases e; cases r; exact ⟨rfl, rfl⟩
  | d :: ds, vs, us, e, r => by
    unfold flatDs at e
    split at e
    · rename_i v hv
      obtain ⟨ws, e1, rfl⟩ := Option.map_eq_some_iff.mp e
      obtain ⟨rfl, hf⟩ := flatD_of hv
      cases r with
      | cons a b =>
        obtain ⟨h1, h2⟩ := flatDs_of e1 b
        rw [a.con_inv, h1]
        exact ⟨rfl, by rw [List.all_cons, hf, h2]; rfl⟩
    · cases e
def inD (x y : D) : Option Bool := match y with
  | .lst ds => match flatD x, flatDs ds with
    | some v, some vs => some (inV v vs)
    | _, _ => none
  | .tup ds => match flatD x, flatDs ds with
    | some v, some vs => some (inV v vs)
    | _, _ => none
  | _ => none
theorem inD_of {K : PySem.W.Frag} {H : Hp} {O : Own} {u w : V} {x y : D} {k : Bool} (v1 : Vw K H O u x) (v2 : Vw K H O w y) (e : inD x y = some k) :
    ∃ p xs, w = .ref p ∧ (SqL K H p xs ∨ SqT K H p xs) ∧ flatV u = true ∧ xs.all flatV = true ∧ inV u xs = k := by
  unfold inD at e
  split at e
  · split at e
    · rename_i v vs h1 h2
      cases e
      obtain ⟨rfl, hf⟩ := flatD_of h1
      obtain ⟨a, us, rfl, s, r⟩ := v2.lst
      obtain ⟨rfl, hf2⟩ := flatDs_of h2 r
      rw [v1.con]
      exact ⟨a, _, rfl, .inl s, hf, hf2, rfl⟩
    · cases e
  · split at e
    · rename_i v vs h1 h2
      cases e
      obtain ⟨rfl, hf⟩ := flatD_of h1
      obtain ⟨a, us, rfl, s, r⟩ := v2.tup
      obtain ⟨rfl, hf2⟩ := flatDs_of h2 r
      rw [v1.con]
      exact ⟨a, _, rfl, .inr s, hf, hf2, rfl⟩
    · cases e
  · cases e
theorem cs_in {K : PySem.W.Frag} : CmpS K (rIn K false) inD := fun a b H x y k O Q v1 v2 e q => by
  obtain ⟨p, xs, rfl, s, h1, h2, h3⟩ := inD_of v1 v2 e
  exact ⟨p, xs, rfl, s, h1, h2, by simpa [h3] using q⟩
def notInD (x y : D) : Option Bool := (inD x y).map not
theorem cs_notin {K : PySem.W.Frag} : CmpS K (rIn K true) notInD := fun a b H x y k O Q v1 v2 e q => by
  obtain ⟨k', e1, e2⟩ := Option.map_eq_some_iff.mp e
  obtain ⟨p, xs, rfl, s, h1, h2, h3⟩ := inD_of v1 v2 e1
  exact ⟨p, xs, rfl, s, h1, h2, by simpa [h3, e2] using q⟩

/-! ### subscripts, slices -/
def ixD (x y : D) : Option (D × Kd) := match x, y with
  | .lst ds, .con (.int i) => (atI ds i).map fun d => (d, .shr)
  | .tup ds, .con (.int i) => (atI ds i).map fun d => (d, .shr)
  | .con (.str z), .con (.int i) => if z.length ≤ cap then (atI z.cps.toList i).map fun c => (.str ⟨#[c]⟩, .shr) else none
  | _, _ => none
theorem atI_reps {K : PySem.W.Frag} {H : Hp} {L : Addr → Prop} {vs : List V} {ds : List D} {i : Int} {d : D} (r : Reps K H L vs ds) (e : atI ds i = some d) : ∃ v, atI vs i = some v ∧ Rep K H L v d := by
  unfold atI at e ⊢
  obtain ⟨j, e1, e2⟩ := Option.bind_eq_some_iff.mp e
  obtain ⟨v, h1, h2⟩ := r.get e2
  rw [r.len, e1]
  exact ⟨v, h1, h2⟩
theorem os_ix {K : PySem.W.Frag} : OpS2 K (rIx K) ixD := by
  intro G O σ H ρ a b x y z Q hK R v1 v2 e q
  unfold ixD at e
  split at e
  · obtain ⟨d, e1, rfl⟩ := Option.map_eq_some_iff.mp e
    obtain ⟨a1, vs, rfl, s1, r1⟩ := v1.lst
    obtain ⟨v, h1, h2⟩ := atI_reps r1 e1
    rw [← hK] at h2
    exact .inl ⟨a1, vs, _, v, rfl, v2.con, s1, h1, q O v H (R.push h2)⟩
  · obtain ⟨d, e1, rfl⟩ := Option.map_eq_some_iff.mp e
    obtain ⟨a1, vs, rfl, s1, r1⟩ := v1.tup
    obtain ⟨v, h1, h2⟩ := atI_reps r1 e1
    rw [← hK] at h2
    exact .inr (.inl ⟨a1, vs, _, v, rfl, v2.con, s1, h1, q O v H (R.push h2)⟩)
  · split at e
    · rename_i hz
      obtain ⟨d, e1, rfl⟩ := Option.map_eq_some_iff.mp e
      exact .inr (.inr ⟨_, _, d, v1.con, v2.con, by rw [← cap_eq]; exact hz, e1, q O _ H (R.con _)⟩)
    · cases e
  · cases e
/-- a part of a slice -/
def dPart (o : Option DE) : M (Option Int) := match o with
  | none => pure none
  | some r => do
    let x ← r
    let d ← dcur x
    mOpt (match d with
      | .con (.int i) => some (some i)
      | _ => none)
def tP (K : PySem.W.Frag) (W : WX) (r : M (Option Int)) : TO := fun σ H Q => ∃ G O ρ T, G.K = K ∧ Rel G O σ H ρ T ∧ (r ρ).post (fun i ρ' => ∀ O' H', Rel G O' σ H' ρ' T → Q i H') (EX G σ W)
theorem PO.imp {X : Cx} {e : Option Expr} {t t' : TO} (h : PO X e t) (i : ∀ σ H Q, t' σ H Q → t σ H Q) : PO X e t' := ⟨fun pins s σ H Q I q => h.run pins s σ H Q I (i σ H Q q)⟩
def SP_ (X : Cx) (e : Option Expr) (r : M (Option Int)) : Prop := ∀ W, Takes X W → PO X e (tP X.K W r)
theorem sp_none : SP_ X none (dPart none) := fun W tk => PO.imp po_none fun σ H Q ⟨G, O, ρ, T, hK, R, h⟩ => h O H R
theorem sp_some (ha : SE X a ra) : SP_ X (some a) (dPart (some ra)) := fun W tk => PO.imp (po_some (ha W tk)) fun σ H Q ⟨G, O, ρ, T, hK, R, h⟩ => by
  refine tE.at hK R (Res.post_ok ((post_bind _ _).mp h) fun x ρ1 q O1 v H1 R1 => ?_)
  obtain ⟨d, e1, q2⟩ := post_cur.mp ((post_bind _ _).mp q)
  obtain ⟨i, e2, q3⟩ := (post_opt _).mp q2
  have v1 := R1.view R1.tm.1 e1
  split at e2
  · cases e2
    exact ⟨_, v1.con, q3 O1 H1 R1.pop⟩
  · cases e2
def cutD (ds : List D) (lo hi : Option Int) : List D := (ds.drop (HT.sIx ds.length 0 lo)).take (HT.sIx ds.length ds.length hi - HT.sIx ds.length 0 lo)
theorem Reps.cut {K : PySem.W.Frag} {H : Hp} {L : Addr → Prop} {vs : List V} {ds : List D} (r : Reps K H L vs ds) (lo hi : Option Int) : Reps K H L (cutV vs lo hi) (cutD ds lo hi) := by
  unfold cutV cutD
  rw [r.len]
  exact (r.drop _).take _
/-- a slice of a list -/
def dSlL (ra : DE) (lo hi : Option DE) : DE := do
  let x ← ra
  let i ← dPart lo
  let j ← dPart hi
  let d ← dcur x
  mOpt (match d with
    | .lst ds => some (.lst (cutD ds i j), .fr)
    | _ => none)
theorem se_slL {lo hi : Option Expr} {rl rh : Option DE} {p2 : Pos} (ha : SE X a ra) (hl : SP_ X lo (dPart rl)) (hh : SP_ X hi (dPart rh)) : SE X (.Subscript a (.Slice lo hi none p2) pos) (dSlL ra rl rh) := fun W tk =>
  PE.imp (pe_slice sl_list (ha W tk) (hl W tk) (hh W tk)) fun σ H Q ⟨G, O, ρ, hK, R, h⟩ => by
    refine tE.at hK R (Res.post_ok ((post_bind _ _).mp h) fun x ρ1 q O1 v H1 R1 => ?_)
    refine ⟨G, O1, ρ1, _, hK, R1, Res.post_ok ((post_bind _ _).mp q) fun i ρ2 q2 O2 H2 R2 => ?_⟩
    refine ⟨G, O2, ρ2, _, hK, R2, Res.post_ok ((post_bind _ _).mp q2) fun j ρ3 q3 O3 H3 R3 => ?_⟩
    obtain ⟨d, e1, q4⟩ := post_cur.mp ((post_bind _ _).mp q3)
    obtain ⟨z, e2, q5⟩ := (post_opt _).mp q4
    have v1 := R3.view R3.tm.1 e1
    split at e2
    · rename_i ds
      cases e2
      obtain ⟨a1, vs, rfl, s1, r1⟩ := v1.lst
      rw [hK] at s1
      refine ⟨a1, vs, rfl, s1, fun p hp => ?_⟩
      obtain ⟨O4, R4⟩ := R3.pop.fresh (d := .lst (cutD ds i j)) hp (.lst (r1.cut i j))
      exact q5 O4 _ _ R4
    · cases e2

/-! ### built-ins -/
def lenD (ds : List D) : Option (D × Kd) := match ds with
  | [.lst xs] => some (.int xs.length, .shr)
  | [.tup xs] => some (.int xs.length, .shr)
  | [.con (.str z)] => if z.length ≤ cap then some (.int z.length, .shr) else none
  | _ => none
theorem os_len {K : PySem.W.Frag} : OpS K (fun xs H Q => ∃ x n, xs = [x] ∧ LenV K x H n ∧ Q (.int n) H) lenD := by
  intro G O σ H ρ vs ds z Q hK R w e q
  unfold lenD at e
  split at e
  · cases e
    obtain ⟨v, rfl, v1⟩ := w.one
    obtain ⟨a1, us, rfl, s1, r1⟩ := v1.lst
    exact ⟨_, _, rfl, .inl ⟨us, s1, r1.len.symm⟩, q O _ H (R.con _)⟩
  · cases e
    obtain ⟨v, rfl, v1⟩ := w.one
    obtain ⟨a1, us, rfl, s1, r1⟩ := v1.tup
    exact ⟨_, _, rfl, .inr ⟨us, s1, r1.len.symm⟩, q O _ H (R.con _)⟩
  · split at e
    · rename_i hz
      cases e
      obtain ⟨v, rfl, v1⟩ := w.one
      rw [v1.con]
      exact ⟨_, _, rfl, ⟨by rw [← cap_eq]; exact hz, rfl⟩, q O _ H (R.con _)⟩
    · cases e
  · cases e
/-- a built-in of scalars -/
theorem OpS.sc {K : PySem.W.Frag} {rr : List V → Hp → VK → Prop} {g : List D → Option V} (h : ∀ (H : Hp) (vs : List V) (ds : List D) (v : V) (O : Own) (Q : VK), Vws K H O vs ds → g ds = some v → Q v H → rr vs H Q) : OpS K rr (fun ds => (g ds).map fun v => (.con v, .shr)) := by
  intro G O σ H ρ vs ds z Q hK R w e q
  obtain ⟨v, e1, rfl⟩ := Option.map_eq_some_iff.mp e
  exact h H vs ds v O Q w e1 (q O v H (R.con v))
def scB (g : List D → Option V) (ds : List D) : Option (D × Kd) := (g ds).map fun v => (.con v, .shr)
def absV (ds : List D) : Option V := match ds with
  | [.con (.int i)] => some (.int (if i < 0 then -i else i))
  | _ => none
theorem os_abs {K : PySem.W.Frag} : OpS K (fun xs H Q => ∃ i, xs = [.int i] ∧ Q (.int (if i < 0 then -i else i)) H) (scB absV) := OpS.sc fun H vs ds v O Q w e q => by
  unfold absV at e
  split at e
  · cases e
    obtain ⟨v, rfl, v1⟩ := w.one
    exact ⟨_, by rw [v1.con], q⟩
  · cases e
def maxV (ds : List D) : Option V := match ds with
  | [.con (.int i), .con (.int j)] => some (.int (if j > i then j else i))
  | _ => none
theorem os_max {K : PySem.W.Frag} : OpS K (fun xs H Q => ∃ i j, xs = [.int i, .int j] ∧ Q (.int (if j > i then j else i)) H) (scB maxV) := OpS.sc fun H vs ds v O Q w e q => by
  unfold maxV at e
  split at e
  · cases e
    obtain ⟨v, u, rfl, v1, v2⟩ := w.two
    exact ⟨_, _, by rw [v1.con, v2.con], q⟩
  · cases e
def minV (ds : List D) : Option V := match ds with
  | [.con (.int i), .con (.int j)] => some (.int (if j < i then j else i))
  | _ => none
theorem os_min {K : PySem.W.Frag} : OpS K (fun xs H Q => ∃ i j, xs = [.int i, .int j] ∧ Q (.int (if j < i then j else i)) H) (scB minV) := OpS.sc fun H vs ds v O Q w e q => by
  unfold minV at e
  split at e
  · cases e
    obtain ⟨v, u, rfl, v1, v2⟩ := w.two
    exact ⟨_, _, by rw [v1.con, v2.con], q⟩
  · cases e
def intV (ds : List D) : Option V := match ds with
  | [.con (.int i)] => some (.int i)
  | [.con (.bl k)] => some (.int (if k then 1 else 0))
  | _ => none
theorem os_int {K : PySem.W.Frag} : OpS K (fun xs H Q => (∃ i, xs = [.int i] ∧ Q (.int i) H) ∨ ∃ k, xs = [.bl k] ∧ Q (.int (if k then 1 else 0)) H) (scB intV) := OpS.sc fun H vs ds v O Q w e q => by
  unfold intV at e
  split at e
  · cases e
    obtain ⟨v, rfl, v1⟩ := w.one
    exact .inl ⟨_, by rw [v1.con], q⟩
  · cases e
    obtain ⟨v, rfl, v1⟩ := w.one
    exact .inr ⟨_, by rw [v1.con], q⟩
  · cases e
def blsD : List D → Option (List Bool)
  | [] => some []
  | .con (.bl b) :: ds => (blsD ds).map (b :: ·)
  | _ => none
theorem blsD_of : ∀ {ds : List D} {bs : List Bool}, blsD ds = some bs → ds = bs.map fun b => .con (.bl b)
  | [], _, e => by cases e; rfl
  | .con (.bl b) :: ds, bs, e => by
    obtain ⟨r, e1, rfl⟩ := Option.map_eq_some_iff.mp (show (blsD ds).map (b :: ·) = some bs from e)
    rw [blsD_of e1]; rfl
def intsD : List D → Option (List Int)
  | [] => some []
  | .con (.int b) :: ds => (intsD ds).map (b :: ·)
  | _ => none
theorem intsD_of : ∀ {ds : List D} {bs : List Int}, intsD ds = some bs → ds = bs.map fun b => .con (.int b)
  | [], _, e => by cases e; rfl
  | .con (.int b) :: ds, bs, e => by
    obtain ⟨r, e1, rfl⟩ := Option.map_eq_some_iff.mp (show (intsD ds).map (b :: ·) = some bs from e)
    rw [intsD_of e1]; rfl
def strsD : List D → Option (List Str)
  | [] => some []
  | .con (.str b) :: ds => (strsD ds).map (b :: ·)
  | _ => none
theorem strsD_of : ∀ {ds : List D} {bs : List Str}, strsD ds = some bs → ds = bs.map fun b => .con (.str b)
  | [], _, e => by cases e; rfl
  | .con (.str b) :: ds, bs, e => by
    obtain ⟨r, e1, rfl⟩ := Option.map_eq_some_iff.mp (show (strsD ds).map (b :: ·) = some bs from e)
    rw [strsD_of e1]; rfl
@[simp] theorem blsD_map {α : Type} (f : α → Bool) : ∀ xs : List α, blsD (xs.map fun x => .con (.bl (f x))) = some (xs.map f)
  | [] => rfl
  | x :: xs => by simp [blsD, blsD_map f xs]
@[simp] theorem intsD_map {α : Type} (f : α → Int) : ∀ xs : List α, intsD (xs.map fun x => .con (.int (f x))) = some (xs.map f)
  | [] => rfl
  | x :: xs => by simp [intsD, intsD_map f xs]
@[simp] theorem strsD_map {α : Type} (f : α → Str) : ∀ xs : List α, strsD (xs.map fun x => .con (.str (f x))) = some (xs.map f)
  | [] => rfl
  | x :: xs => by simp [strsD, strsD_map f xs]
def allV (ds : List D) : Option V := match ds with
  | [.lst xs] => (blsD xs).map fun bs => .bl (bs.all id)
  | _ => none
def anyV (ds : List D) : Option V := match ds with
  | [.lst xs] => (blsD xs).map fun bs => .bl (bs.any id)
  | _ => none
def sumV (ds : List D) : Option V := match ds with
  | [.lst xs] => (intsD xs).map fun ns => .int ns.sum
  | _ => none
theorem os_all {K : PySem.W.Frag} : OpS K (rAll K) (scB allV) := OpS.sc fun H vs ds v O Q w e q => by
  unfold allV at e
  split at e
  · obtain ⟨bs, e1, rfl⟩ := Option.map_eq_some_iff.mp e
    obtain ⟨v, rfl, v1⟩ := w.one
    obtain ⟨a1, us, rfl, s1, r1⟩ := v1.lst
    rw [blsD_of e1] at r1
    rw [r1.con_inv] at s1
    exact ⟨a1, bs, rfl, s1, q⟩
  · cases e
theorem os_any {K : PySem.W.Frag} : OpS K (rAny K) (scB anyV) := OpS.sc fun H vs ds v O Q w e q => by
  unfold anyV at e
  split at e
  · obtain ⟨bs, e1, rfl⟩ := Option.map_eq_some_iff.mp e
    obtain ⟨v, rfl, v1⟩ := w.one
    obtain ⟨a1, us, rfl, s1, r1⟩ := v1.lst
    rw [blsD_of e1] at r1
    rw [r1.con_inv] at s1
    exact ⟨a1, bs, rfl, s1, q⟩
  · cases e
theorem os_sum {K : PySem.W.Frag} : OpS K (rSum K) (scB sumV) := OpS.sc fun H vs ds v O Q w e q => by
  unfold sumV at e
  split at e
  · obtain ⟨bs, e1, rfl⟩ := Option.map_eq_some_iff.mp e
    obtain ⟨v, rfl, v1⟩ := w.one
    obtain ⟨a1, us, rfl, s1, r1⟩ := v1.lst
    rw [intsD_of e1] at r1
    rw [r1.con_inv] at s1
    exact ⟨a1, bs, rfl, s1, q⟩
  · cases e
def listD (ds : List D) : Option (D × Kd) := match ds with
  | [.lst xs] => some (.lst xs, .fr)
  | [.tup xs] => some (.lst xs, .fr)
  | _ => none
theorem os_list {K : PySem.W.Frag} : OpS K (fun xs H Q => ∃ p ys, xs = [.ref p] ∧ (SqL K H p ys ∨ SqT K H p ys) ∧ ∀ l, H l = none → Q (.ref l) (upd H l (.lst ys))) listD := by
  intro G O σ H ρ vs ds z Q hK R w e q
  unfold listD at e
  split at e
  · rename_i xs
    cases e
    obtain ⟨v, rfl, v1⟩ := w.one
    obtain ⟨a1, us, rfl, s1, r1⟩ := v1.lst
    rw [← hK] at r1
    refine ⟨a1, us, rfl, .inl s1, fun l hl => ?_⟩
    obtain ⟨O4, R4⟩ := R.fresh (d := .lst xs) hl (.lst r1)
    exact q O4 _ _ R4
  · rename_i xs
    cases e
    obtain ⟨v, rfl, v1⟩ := w.one
    obtain ⟨a1, us, rfl, s1, r1⟩ := v1.tup
    rw [← hK] at r1
    refine ⟨a1, us, rfl, .inr s1, fun l hl => ?_⟩
    obtain ⟨O4, R4⟩ := R.fresh (d := .lst xs) hl (.lst r1)
    exact q O4 _ _ R4
  · cases e
/-- sorted of ints -/
def sortI (ns : List Int) : List Int := ns.mergeSort fun a b => decide (a ≤ b)
theorem sortI_unique {ns ms : List Int} (h : ms.Perm ns) (s : ms.Pairwise (· ≤ ·)) : ms = sortI ns := by
  have p := List.mergeSort_perm ns fun a b => decide (a ≤ b)
  have s2 := List.pairwise_mergeSort (le := fun a b : Int => decide (a ≤ b)) (fun a b c h1 h2 => by simp at *; omega) (fun a b => by simp; omega) ns
  refine List.Perm.eq_of_pairwise (fun a b _ _ h1 h2 => ?_) s (s2.imp fun h => by simpa using h) (h.trans p.symm)
  omega
def sortedD (ds : List D) : Option (D × Kd) := match ds with
  | [.lst xs] => (intsD xs).map fun ns => (.lst ((sortI ns).map fun n => .con (.int n)), .fr)
  | _ => none
theorem os_sorted {K : PySem.W.Frag} : OpS K (rSortedI K) sortedD := by
  intro G O σ H ρ vs ds z Q hK R w e q
  unfold sortedD at e
  split at e
  · obtain ⟨bs, e1, rfl⟩ := Option.map_eq_some_iff.mp e
    obtain ⟨v, rfl, v1⟩ := w.one
    obtain ⟨a1, us, rfl, s1, r1⟩ := v1.lst
    rw [intsD_of e1] at r1
    rw [r1.con_inv] at s1
    refine ⟨a1, bs, rfl, s1, fun ns' l pe so hl => ?_⟩
    rw [sortI_unique pe so]
    obtain ⟨O4, R4⟩ := R.fresh (d := .lst ((sortI bs).map fun n => .con (.int n))) hl (.lst (Reps.cons_map V.int _))
    exact q O4 _ _ R4
  · cases e
/-- isinstance of a built-in class -/
inductive Ty where
  | none | bool | int | str | list | tuple | dict
  deriving DecidableEq
def Ty.name : Ty → String
  | .none => "NoneType" | .bool => "bool" | .int => "int" | .str => "str" | .list => "list" | .tuple => "tuple" | .dict => "dict"
def tyOf (d : D) : Option Ty := match d with
  | .con .non => some .none
  | .con (.bl _) => some .bool
  | .con (.int _) => some .int
  | .con (.str _) => some .str
  | .lst _ => some .list
  | .tup _ => some .tuple
  | _ => Option.none
def isiT : Ty → Ty → Bool
  | .none, .none => true
  | .bool, .bool => true
  | .bool, .int => true
  | .int, .int => true
  | .str, .str => true
  | .list, .list => true
  | .tuple, .tuple => true
  | .dict, .dict => true
  | _, _ => false
theorem isi_kit : ∀ t u : Ty, u ≠ .none → kitB t.name u.name = some (isiT t u) := by
  intro t u hu
  cases u <;> first
    | exact absurd rfl hu
    | (cases t <;> decide +kernel)
theorem tyx_of {K : PySem.W.Frag} {H : Hp} {O : Own} {v : V} {d : D} {t : Ty} (h : Vw K H O v d) (e : tyOf d = some t) : TyX K H v (.type t.name) := by
  unfold tyOf at e
  split at e
  · cases e; rw [h.con]; exact .base .non
  · cases e; rw [h.con]; exact .base (.bl _)
  · cases e; rw [h.con]; exact .base (.int _)
  · cases e; rw [h.con]; exact .base (.str _)
  · cases e
    obtain ⟨a1, us, rfl, s1, r1⟩ := h.lst
    rcases s1 with (s1 | ⟨ob, s1⟩) | ⟨ob, its, n, h1, h2, _⟩
    · exact .base (.lst s1)
    · exact .base (.frz s1)
    · exact .kList h1 h2
  · cases e
    obtain ⟨a1, us, rfl, s1, r1⟩ := h.tup
    rcases s1 with (s1 | ⟨ob, s1⟩) | ⟨ob, its, n, h1, h2, _⟩
    · exact .base (.tup s1)
    · exact .fTuple s1
    · exact .kTuple h1 h2
  · cases e
def isiV (u : Ty) (ds : List D) : Option V := match ds with
  | [d, _] => (tyOf d).map fun t => .bl (isiT t u)
  | _ => none
/-- isinstance(e, T), T a built-in class -/
def dIsi (u : Ty) (r : DE) : DE := do
  let x ← r
  let d ← dcur x
  let t ← mOpt (tyOf d)
  pure (.bl (isiT t u), .shr)
theorem se_isi (u : Ty) {p1 p2 : Pos} {x : Str} (ha : SE X a ra) (h1 : X.mg "isinstance" = none) (h2 : X.mg x = none) (hu : u ≠ .none := by decide) (hx : bootBuiltins x = some (.type u.name) := by decide +kernel) (hg1 : Gl X "isinstance" := by rfl) (hg2 : Gl X x := by rfl)
    (hn : x ≠ "__name__" := by decide) (hdb : (x == ("__debug__" : Str)) = false := by decide)
    (he : starEach [a, .Name x p2] X.env = (false, eval a X.env) :: starEach [.Name x p2] X.env := by rfl) (he2 : starEach [.Name x p2] X.env = (false, eval (.Name x p2) X.env) :: starEach [] X.env := by rfl) (hpl : (backTo pos (starEach [.Name x p2] X.env)).any (·.1) = false := by rfl) :
    SE X (.Call (.Name "isinstance" p1) [a, .Name x p2] [] pos) (dIsi u ra) := fun W tk =>
  PE.imp (pe_callB call_isi hg1 h1 (by decide +kernel) (pa_cons (ha W tk) (pa_cons (pe_bltn (v := .ty u.name) hg2 h2 hx rfl hn hdb) pa_nil he2) he) (by decide) (by decide) he hpl) fun σ H Q ⟨G, O, ρ, hK, R, h⟩ => by
    refine tE.at hK R (Res.post_ok ((post_bind _ _).mp h) fun y ρ1 q O1 v H1 R1 => ?_)
    obtain ⟨d, e1, q2⟩ := post_cur.mp ((post_bind _ _).mp q)
    obtain ⟨t, e2, q3⟩ := (post_opt _).mp ((post_bind _ _).mp q2)
    have v1 := R1.view R1.tm.1 e1
    rw [hK] at v1
    exact ⟨v, .ty u.name, _, _, _, rfl, .ty _, tyx_of v1 e2, kit_ty (isi_kit t u hu), q3 O1 _ H1 (R1.pop.con _)⟩

/-! ### methods of lists and texts -/
/-- a method that changes nothing -/
def OpM (K : PySem.W.Frag) (T : String) (rr : V → List V → Hp → VK → Prop) (ty : D → Bool) (g : D → List D → Option (D × Kd)) : Prop :=
  (∀ H O v d, Vw K H O v d → ty d = true → tyV K T v H) ∧ ∀ (G : Fix) (O : Own) (σ : St) (H : Hp) (ρ : Rho) (v : V) (vs : List V) (d : D) (ds : List D) (z : D × Kd) (Q : VK), G.K = K → Rel G O σ H ρ [] → Vw K H O v d → Vws K H O vs ds →
    g d ds = some z → (∀ O' v H', Rel G O' σ H' ρ [⟨v, z.1, z.2⟩] → Q v H') → rr v vs H Q
def dMt (ty : D → Bool) (g : D → List D → Option (D × Kd)) (ro : DE) (l : List (Bool × DE)) : DE := do
  let x ← ro
  let d0 ← dcur x
  mOpt (if ty d0 then some () else none)
  let xs ← dA l
  let d ← dcur x
  let ds ← dcurs xs
  mOpt (g d ds)
theorem se_mt {T id : String} {name : Str} {rr : V → List V → Hp → VK → Prop} {ty : D → Bool} {g : D → List D → Option (D × Kd)} {ro : DE} {apos : Pos} (pa : PlainAttrs T) (slot : PySem.Slot T name id) (hty : typeOf (.builtin id) = pure (.type "method_descriptor")) (hm : MtR X id rr)
    (hs : OpM X.K T rr ty g) (ho : SE X o ro) (ha : SA X (e :: es) l)
    (hbase : attributeBase o name X.env (eval o X.env) = eval o X.env := by rfl)
    (hfew : ((backTo pos (starEach (e :: es) X.env)).all (fun x => !x.1) && (backToKw pos (keywordEach [] X.env)).all (fun x => x.1.isSome)
      && decide ((e :: es).length + ([] : List Keyword).length + (if ([] : List Keyword).isEmpty then 0 else 1) < 30)) = true := by rfl)
    (hline : (apos.endLine == pos.line) = true := by rfl) (hst : starEach (e :: es) X.env = (false, eval e X.env) :: starEach es X.env := by rfl) (hplain : (backTo pos (starEach es X.env)).any (·.1) = false := by rfl) :
    SE X (.Call (.Attribute o name apos) (e :: es) [] pos) (dMt ty g ro l) := fun W tk =>
  PE.imp (pe_bm pa slot hty hm (ho W tk) (ha W tk) hbase hfew hline hst hplain) fun σ H Q ⟨G, O, ρ, hK, R, h⟩ => by
    refine tE.at hK R (Res.post_ok ((post_bind _ _).mp h) fun y ρ1 q O1 v H1 R1 => ?_)
    obtain ⟨d0, e1, q2⟩ := post_cur.mp ((post_bind _ _).mp q)
    obtain ⟨_, e2, q3⟩ := (post_opt _).mp ((post_bind _ _).mp q2)
    have v1 := R1.view R1.tm.1 e1
    rw [hK] at v1
    have ht : ty d0 = true := by
      split at e2
      · assumption
      · cases e2
    refine ⟨hs.1 _ _ _ _ v1 ht, G, O1, ρ1, _, hK, R1, Res.post_ok ((post_bind _ _).mp q3) fun xs ρ2 q4 O2 vs H2 hl R2 => ?_⟩
    obtain ⟨d, e3, q5⟩ := post_cur.mp ((post_bind _ _).mp q4)
    obtain ⟨ds, e4, q6⟩ := post_curs.mp ((post_bind _ _).mp q5)
    obtain ⟨z, e5, q7⟩ := (post_opt _).mp q6
    have R3 := pushC_pop R2
    have v2 := R3.view R3.tm.1 e3
    have w2 := pushC_vws hl R2 e4
    rw [hK] at v2 w2
    exact hs.2 G O2 σ H2 ρ2 v vs d ds z Q hK R3.nil v2 w2 e5 q7
def isStr (d : D) : Bool := match d with
  | .con (.str _) => true
  | _ => false
def isLst (d : D) : Bool := match d with
  | .lst _ => true
  | _ => false
theorem ty_str {K : PySem.W.Frag} (H : Hp) (O : Own) (v : V) (d : D) (h : Vw K H O v d) (e : isStr d = true) : tyV K "str" v H := by
  unfold isStr at e
  split at e
  · rw [h.con]; rfl
  · cases e
theorem ty_lst {K : PySem.W.Frag} (H : Hp) (O : Own) (v : V) (d : D) (h : Vw K H O v d) (e : isLst d = true) : tyV K "list" v H := by
  unfold isLst at e
  split at e
  · obtain ⟨a1, us, rfl, s1, r1⟩ := h.lst
    exact .inl ⟨rfl, us, s1⟩
  · cases e
def joinD (d : D) (ds : List D) : Option (D × Kd) := match d, ds with
  | .con (.str a), [.lst xs] => match strsD xs with
    | some ys => if (ys.map (·.length)).sum + ys.length * a.length ≤ 16777216 then some (.str (Txt.join a ys), .shr) else none
    | none => none
  | _, _ => none
theorem om_join {K : PySem.W.Frag} : OpM K "str" (fun x xs H Q => ∃ a p, ∃ ys : List Str, x = .str a ∧ xs = [.ref p] ∧ (SqL K H p (ys.map V.str) ∨ SqT K H p (ys.map V.str)) ∧ (ys.map (·.length)).sum + ys.length * a.length ≤ 16777216 ∧ Q (.str (Txt.join a ys)) H) isStr joinD := ⟨ty_str, by
  intro G O σ H ρ v vs d ds z Q hK R v1 w e q
  unfold joinD at e
  split at e
  · split at e
    · rename_i ys hys
      split at e
      · rename_i hz
        cases e
        obtain ⟨u, rfl, v2⟩ := w.one
        obtain ⟨a1, us, rfl, s1, r1⟩ := v2.lst
        rw [strsD_of hys] at r1
        rw [r1.con_inv] at s1
        exact ⟨_, a1, ys, v1.con, rfl, .inl s1, hz, q O _ H (R.con _)⟩
      · cases e
    · cases e
  · cases e⟩

/-! ### a list that is changed -/
def MutS (K : PySem.W.Frag) (rr : V → List V → Hp → VK → Prop) (g : List D → List D → Option (List D × D)) : Prop := ∀ (H : Hp) (L : Addr → Prop) (a : Addr) (vs as : List V) (ys ds : List D) (ys' : List D) (rt : D) (Q : VK),
  H a = some (.lst vs) → Reps K H L vs ys → Reps K H L as ds → g ys ds = some (ys', rt) → ∃ vs' rv, Reps K H L vs' ys' ∧ Rep K H L rv rt ∧ (Q rv (upd H a (.lst vs')) → rr (.ref a) as H Q)
def getOwn (ρ : Rho) (i : Nat) : Option (List D × Bool) := match ρ[i]? with
  | some (some ⟨.lst ys, true, p⟩) => some (ys, p)
  | _ => none
def chkOwn (i : Nat) : M Unit := fun ρ => match getOwn ρ i with
  | some _ => .ok () ρ
  | none => .stuck
theorem post_chk {i : Nat} {ρ : Rho} {Q : Unit → Rho → Prop} {E : Exn → Rho → Prop} : ((chkOwn i) ρ).post Q E ↔ ∃ z, getOwn ρ i = some z ∧ Q () ρ := by
  unfold chkOwn
  cases getOwn ρ i with
  | none => exact ⟨fun h => h.elim, fun ⟨_, e, _⟩ => by cases e⟩
  | some z => exact ⟨fun h => ⟨z, rfl, h⟩, fun ⟨_, _, h⟩ => h⟩
def mutEnd (i : Nat) (g : List D → Option (List D × D)) : DE := fun ρ => match getOwn ρ i with
  | none => .stuck
  | some z => match g z.1 with
    | some w => .ok (w.2, .shr) (ρ.set i (some ⟨.lst w.1, true, z.2⟩))
    | none => .stuck
theorem post_mutEnd {i : Nat} {g : List D → Option (List D × D)} {ρ : Rho} {Q : D × Kd → Rho → Prop} {E : Exn → Rho → Prop} : ((mutEnd i g) ρ).post Q E ↔ ∃ z w, getOwn ρ i = some z ∧ g z.1 = some w ∧ Q (w.2, .shr) (ρ.set i (some ⟨.lst w.1, true, z.2⟩)) := by
  unfold mutEnd
  cases getOwn ρ i with
  | none => exact ⟨fun h => h.elim, fun ⟨_, _, e, _⟩ => by cases e⟩
  | some z =>
    dsimp only
    cases q : g z.1 with
    | none => exact ⟨fun h => h.elim, fun ⟨_, _, e, e2, _⟩ => by cases e; rw [q] at e2; cases e2⟩
    | some w => exact ⟨fun h => ⟨z, w, rfl, q, h⟩, fun ⟨_, _, e, e2, h⟩ => by cases e; rw [q] at e2; cases e2; exact h⟩
def dMut (i : Nat) (g : List D → List D → Option (List D × D)) (l : List (Bool × DE)) : DE := do
  chkOwn i
  let xs ← dA l
  let ds ← mOpt (shrs xs)
  mutEnd i fun ys => g ys ds
theorem getOwn_of {ρ : Rho} {i : Nat} {z : List D × Bool} (e : getOwn ρ i = some z) : ρ[i]? = some (some ⟨.lst z.1, true, z.2⟩) := by
  unfold getOwn at e
  split at e
  · rename_i h; cases e; exact h
  · cases e
theorem own_at {G : Fix} {O : Own} {σ : St} {H : Hp} {ρ : Rho} {T : List Tmp} {i : Nat} {ys : List D} {p : Bool} (R : Rel G O σ H ρ T) (e : ρ[i]? = some (some ⟨.lst ys, true, p⟩)) : ∃ a vs, σ[i]? = some (some (.ref a)) ∧ H a = some (.lst vs) ∧ Reps G.K H (lin O) vs ys := by
  obtain ⟨v, h1, h2⟩ := R.sl i _ e
  obtain ⟨a, ho, rfl, h3, h4, c⟩ := (show Owned _ _ _ _ _ _ from h2)
  cases c with
  | lst r => exact ⟨a, _, h1, h4, r⟩
theorem dMut_of {W : WX} {rr : V → List V → Hp → VK → Prop} {i : Nat} {g : List D → List D → Option (List D × D)} (hs : MutS X.K rr g) (σ : St) (H : Hp) (Q : VK) (h : tE X.K W (dMut i g l) σ H Q) : tBM X.K "list" rr (tVar i) (tA X.K W (dA l)) σ H Q := by
  obtain ⟨G, O, ρ, hK, R, h⟩ := h
  obtain ⟨z0, q0, h⟩ := post_chk.mp ((post_bind _ _).mp h)
  obtain ⟨a, vs0, h1, h2, _⟩ := own_at R (getOwn_of q0)
  refine ⟨.ref a, h1, .inl ⟨rfl, vs0, .inl (.inl h2)⟩, G, O, ρ, [], hK, R, Res.post_ok ((post_bind _ _).mp h) fun xs ρ1 q O1 as H1 hl R1 => ?_⟩
  obtain ⟨ds, e1, q2⟩ := (post_opt _).mp ((post_bind _ _).mp q)
  obtain ⟨z, w, q1, qg, q3⟩ := post_mutEnd.mp q2
  have R2 := pushC_pop R1
  have eo := getOwn_of q1
  obtain ⟨a2, vs1, h3, h4, r4⟩ := own_at R2 eo
  rw [h1] at h3
  cases h3
  have ra := pushC_reps hl R1 e1
  rw [hK] at ra r4
  obtain ⟨vs', rv, k1, k2, k3⟩ := hs H1 (lin O1) a vs1 as z.1 ds w.1 w.2 Q h4 r4 ra qg
  rw [← hK] at k1 k2
  obtain ⟨R3, oa⟩ := R2.write (d := .lst w.1) eo rfl h1 h4 (.lst k1)
  refine k3 (q3 O1 rv _ (R3.push ?_))
  refine Rep.mono (fun b ob n eb => ⟨?_, n⟩) k2
  rw [upd_ne]
  · exact eb
  · exact fun z => n (by rw [z]; unfold lin; rw [oa]; simp)
theorem se_mut (i : Nat) {id : String} {name x : Str} {rr : V → List V → Hp → VK → Prop} {g : List D → List D → Option (List D × D)} {apos xpos : Pos} (slot : PySem.Slot "list" name id) (hty : typeOf (.builtin id) = pure (.type "method_descriptor")) (hm : MtR X id rr)
    (hs : MutS X.K rr g) (ha : SA X (e :: es) l) (hN : X.N[i]? = some x := by rfl) (hv : Vis X.env.scope x := by first | exact Or.inl rfl | exact Or.inr (Or.inl rfl) | exact Or.inr (Or.inr rfl)) (hd : (x == ("__debug__" : Str)) = false := by decide)
    (hcd : (x == ("__classdict__" : Str)) = false := by decide)
    (hbase : attributeBase (.Name x xpos) name X.env (eval (.Name x xpos) X.env) = eval (.Name x xpos) X.env := by rfl)
    (hfew : ((backTo pos (starEach (e :: es) X.env)).all (fun x => !x.1) && (backToKw pos (keywordEach [] X.env)).all (fun x => x.1.isSome)
      && decide ((e :: es).length + ([] : List Keyword).length + (if ([] : List Keyword).isEmpty then 0 else 1) < 30)) = true := by rfl)
    (hline : (apos.endLine == pos.line) = true := by rfl) (hst : starEach (e :: es) X.env = (false, eval e X.env) :: starEach es X.env := by rfl) (hplain : (backTo pos (starEach es X.env)).any (·.1) = false := by rfl) :
    SE X (.Call (.Attribute (.Name x xpos) name apos) (e :: es) [] pos) (dMut i g l) := fun W tk =>
  PE.imp (pe_bm PySem.F.plainAttrs_list slot hty hm (pe_var hN hv hd hcd) (ha W tk) hbase hfew hline hst hplain) (dMut_of hs)
def appG (ys ds : List D) : Option (List D × D) := match ds with
  | [d] => if ys.length < cap then some (ys ++ [d], .non) else none
  | _ => none
theorem ms_append {K : PySem.W.Frag} : MutS K rAppend appG := fun H L a vs as ys ds ys' rt Q h1 r1 r2 e => by
  unfold appG at e
  split at e
  · split at e
    · rename_i hz
      cases e
      cases r2 with
      | cons c1 c2 =>
        cases c2
        exact ⟨_, .non, r1.append (.cons c1 .nil), .con _, fun q => ⟨a, vs, _, rfl, rfl, h1, by rw [r1.len, ← cap_eq]; exact hz, q⟩⟩
    · cases e
  · cases e
/-- x[k] = e -/
def setG (kd : D) (d : D) (ys : List D) : Option (List D × D) := match kd with
  | .con (.int n) => (ixN ys.length n).map fun j => (ys.set j d, .non)
  | _ => none
def dSetIx (i : Nat) (rk rv : DE) : DS := do
  let x ← rv
  let y ← keep false x
  chkOwn i
  let k ← rk
  let kd ← dcur k
  let _ ← mutEnd i (setG kd y.1)
  pure .nx
theorem ss_setIx {pj : VK → VK} (i : Nat) {x : Str} {xpos tpos : Pos} {ke ve : Expr} {rk rv : DE} (hv : SE X ve rv) (hk : SE X ke rk) (hN : X.N[i]? = some x := by rfl) (hvis : Vis X.env.scope x := by first | exact Or.inl rfl | exact Or.inr (Or.inl rfl) | exact Or.inr (Or.inr rfl)) (hd : (x == ("__debug__" : Str)) = false := by decide)
    (hcd : (x == ("__classdict__" : Str)) = false := by decide)
    (ha : ∀ v, assign (.Subscript (.Name x xpos) ke tpos) X.env v = (do
      let ov ← holding [v] (eval (.Name x xpos) X.env)
      let iv ← holding [v, ov] (eval ke X.env)
      standAt tpos
      holding [v, ov, iv] (setItem ov iv v)
      release [v, ov, iv] []) := by intro _; rfl)
    (hs : swapsWithSole [.Subscript (.Name x xpos) ke tpos] ve pos.line X.env = pure false := by rfl) (hw : swappedStores [.Subscript (.Name x xpos) ke tpos] ve X.env = pure none := by rfl)
    (h1 : (assignEach [.Subscript (.Name x xpos) ke tpos] X.env).map (·.2) = [assign (.Subscript (.Name x xpos) ke tpos) X.env] := by rfl) : SSf pj X (.Assign [.Subscript (.Name x xpos) ke tpos] ve pos) (dSetIx i rk rv) := fun W tk =>
  PS.imp (ps_asg (hv W tk) (pg_sub (pe_var hN hvis hd hcd) (hk W tk) set_list ha) hs hw h1) fun D σ H ⟨G, O, ρ, hK, R, h⟩ => by
    refine tE.at hK R (Res.post_mono ((post_bind _ _).mp h) (fun y ρ1 q O1 v H1 R1 => ?_) fun x ρ' q => q σ)
    obtain ⟨d, e1, q2⟩ := keep_false ((post_bind _ _).mp q)
    obtain ⟨O2, R2⟩ := R1.settle (d := d) e1
    obtain ⟨z0, q0, q3⟩ := post_chk.mp ((post_bind _ _).mp q2)
    obtain ⟨a, vs0, h1, h2, _⟩ := own_at R2 (getOwn_of q0)
    refine ⟨.ref a, h1, tE.at hK R2 (Res.post_mono ((post_bind _ _).mp q3) (fun k ρ2 q4 O3 u H3 R3 => ?_) fun x ρ' q => q σ)⟩
    obtain ⟨kd, e2, q5⟩ := post_cur.mp ((post_bind _ _).mp q4)
    obtain ⟨z, w, q6, qg, q7⟩ := post_mutEnd.mp ((post_bind _ _).mp q5)
    have vk := R3.view R3.tm.1 e2
    have R4 := R3.pop
    have eo := getOwn_of q6
    obtain ⟨a2, vs1, h3, h4, r4⟩ := own_at R4 eo
    rw [h1] at h3
    cases h3
    unfold setG at qg
    split at qg
    · rename_i n
      obtain ⟨j, e3, rfl⟩ := Option.map_eq_some_iff.mp qg
      have rd : Rep G.K H3 (lin O3) v d := R4.tm.1
      refine ⟨a, vs1, n, j, rfl, vk.con, h4, by rw [r4.len]; exact e3, ?_⟩
      exact q7 O3 σ _ (R4.nil.write (d := .lst (z.1.set j d)) eo rfl h1 h4 (.lst (Reps.set rd j r4))).1
    · cases qg
end
end L2.VL
end
section
set_option Elab.async false
set_option linter.all false
set_option maxRecDepth 100000
/-! VLk: what a printed text leans on. -/
namespace L2.VL
open PySem PySem.Spec PyProof.Rows
section
variable {X : Cx} {a b c e o : Expr} {es : List Expr} {st : Stmt} {sts : List Stmt} {ra rb rc r : DE} {sa sb : DS} {l : List (Bool × DE)} {pos p : Pos}
theorem se_gint {x : Str} {i : Int} (h : ∃ t, X.mg x = some (.int i t)) (hg : Gl X x := by rfl) (hd : (x == ("__debug__" : Str)) = false := by decide) : SE X (.Name x pos) (dCon (.int i)) := by
  obtain ⟨t, h⟩ := h
  exact se_glob h ⟨t, rfl⟩ hg hd
theorem se_gstr {x : Str} {i : Str} (h : ∃ t, X.mg x = some (.str i t)) (hg : Gl X x := by rfl) (hd : (x == ("__debug__" : Str)) = false := by decide) : SE X (.Name x pos) (dCon (.str i)) := by
  obtain ⟨t, h⟩ := h
  exact se_glob h ⟨t, rfl⟩ hg hd
/-- a statement that is not served: it may not be reached -/
theorem ss_never {pj : VK → VK} : SSf pj X st mStuck := fun W tk => PS.imp ps_never fun D σ H ⟨G, O, ρ, hK, R, h⟩ => h
/-- dead slots are forgotten -/
def forgetR (ρ : Rho) : List Nat → Rho
  | [] => ρ
  | i :: is => if pinned (forgetR ρ is) i then forgetR ρ is else (forgetR ρ is).set i none
theorem Rel.unset {G : Fix} {O : Own} {σ : St} {H : Hp} {ρ : Rho} {T : List Tmp} {i : Nat} (R : Rel G O σ H ρ T) (hp : pinned ρ i = false) : Rel G O σ H (ρ.set i none) T := by
  refine ⟨by simpa using R.len, R.fr, R.ot, R.tr, fun j v e => ?_, fun j s e => ?_, R.tm⟩
  · obtain ⟨h1, s, h2, h3⟩ := R.pn j v e
    refine ⟨h1, s, ?_, h3⟩
    rw [List.getElem?_set_ne (fun z => ?_)]
    · exact h2
    · subst z
      unfold pinned at hp
      rw [h2] at hp
      dsimp only at hp
      rw [h3] at hp
      cases hp
  · by_cases z : j = i
    · subst z
      by_cases hl : j < ρ.length
      · rw [List.getElem?_set_self hl] at e; cases e
      · rw [List.getElem?_eq_none (by simpa using hl)] at e; cases e
    · rw [List.getElem?_set_ne (Ne.symm z)] at e
      exact R.sl j s e
theorem Rel.forget {G : Fix} {O : Own} {σ : St} {H : Hp} {ρ : Rho} {T : List Tmp} (R : Rel G O σ H ρ T) : ∀ is : List Nat, Rel G O σ H (forgetR ρ is) T
  | [] => R
  | i :: is => by
    have ih := R.forget is
    unfold forgetR
    split
    · exact ih
    · rename_i h; exact ih.unset (by simpa using h)
def forgetM (is : List Nat) : M Unit := fun ρ => .ok () (forgetR ρ is)
def dFgE (is : List Nat) (sa : DS) : DS := do
  let f ← sa
  forgetM is
  pure f
def dFgB (is : List Nat) (sa : DS) : DS := do
  forgetM is
  sa
theorem sss_fgE {pj : VK → VK} (is : List Nat) (h : SSsf pj X sts sa) : SSsf pj X sts (dFgE is sa) := fun W tk => PSs.imp (h W tk) fun D σ H ⟨G, O, ρ, hK, R, h⟩ => ⟨G, O, ρ, hK, R, Res.post_ok ((post_bind _ _).mp h) fun f ρ1 q => by
  replace q : FlOk G (D.re pj) [] f (forgetR ρ1 is) := q
  cases f with
  | nx => exact fun O' σ' H' R' => q O' σ' H' (R'.forget is)
  | brk => exact fun O' σ' H' R' => q O' σ' H' (R'.forget is)
  | cnt => exact fun O' σ' H' R' => q O' σ' H' (R'.forget is)
  | ret d b => exact fun O' σ' v H' R' => q O' σ' v H' (R'.forget is)⟩
theorem ss_fgB {pj : VK → VK} (is : List Nat) (h : SSf pj X st sa) : SSf pj X st (dFgB is sa) := fun W tk => PS.imp (h W tk) fun D σ H ⟨G, O, ρ, hK, R, h⟩ => ⟨G, O, forgetR ρ is, hK, R.forget is, h⟩
/-- a, b = e1, e2 -/
def nonm (x : D × Kd) : Option Unit := match x.2 with
  | .nm _ => none
  | _ => some ()
def dPar (i j : Nat) (bi bj : Bool) (ra rb : DE) : DS := do
  let xs ← dA [(bi, ra), (bj, rb)]
  match xs with
  | [x, y] => do
    let _ ← mOpt (nonm x)
    dPut j y
    dPut i x
    pure .nx
  | _ => mStuck
theorem ss_par {pj : VK → VK} (i j : Nat) (bi bj : Bool) {x y : Str} {px py pt : Pos} {kt k2 : Nat} {pt2 : Pos} (hx : CxG X) (ha : SE X a ra) (hb : SE X b rb) (hi : X.N[i]? = some x := by rfl) (hj : X.N[j]? = some y := by rfl) (hij : i ≠ j := by decide)
    (hlx : X.env.scope.names.lookup x = some .local := by rfl) (hly : X.env.scope.names.lookup y = some .local := by rfl)
    (he1 : starEach [a, b] X.env = (false, eval a X.env) :: starEach [b] X.env := by rfl) (he2 : starEach [b] X.env = (false, eval b X.env) :: starEach [] X.env := by rfl)
    (hw : swappedStores [.Tuple [.Name x px, .Name y py] kt pt] (.Tuple [a, b] k2 pt2) X.env = pure (some [x, y]) := by rfl)
    (hs : swapsWithSole [.Tuple [.Name x px, .Name y py] kt pt] (.Tuple [a, b] k2 pt2) pos.line X.env = pure false := by rfl) :
    SSf pj X (.Assign [.Tuple [.Name x px, .Name y py] kt pt] (.Tuple [a, b] k2 pt2) pos) (dPar i j bi bj ra rb) := fun W tk =>
  PS.imp (ps_par hx.calm hx.nd hi hj hij hlx hly (sa_cons (b := bi) ha (sa_cons (b := bj) hb sa_nil he2) he1 W tk) hw hs) fun D σ H ⟨G, O, ρ, hK, R, h⟩ => by
    refine ⟨G, O, ρ, [], hK, R, Res.post_mono ((post_bind _ _).mp h) (fun xs ρ1 q O1 vs H1 hl R1 => ?_) fun x ρ' q => q σ⟩
    split at q
    · rename_i z w
      match vs, hl with
      | [v, u], _ =>
        refine ⟨_, _, rfl, ?_⟩
        obtain ⟨_, e1, q2⟩ := (post_opt _).mp ((post_bind _ _).mp q)
        have R2 : Rel G O1 σ H1 ρ1 [⟨u, w.1, w.2⟩, ⟨v, z.1, z.2⟩] := R1
        have hn : NoNm [⟨v, z.1, z.2⟩] := NoNm.nil.cons fun i e => by
          unfold nonm at e1
          have e' : z.2 = .nm i := e
          rw [e'] at e1
          cases e1
        obtain ⟨O3, ρ3, R3, q3⟩ := put_post hn R2 ((post_bind _ _).mp q2)
        obtain ⟨O4, ρ4, R4, q4⟩ := put_post .nil R3 ((post_bind _ _).mp q3)
        refine q4 O4 _ _ ?_
        rw [List.set_comm _ _ hij]
        exact R4
    · exact q.elim
end

/-! ### the law's end -/
theorem fnok_0 {P : Program} {w : World} {K : PySem.W.Frag} {mg : Str → Option Value} {base : Heap} {k : Nat} {f : Addr} {fd : FuncData} {ps : List Str} {sp : Sp} (F : FnOk P w K mg base (L2.CX P w) k f fd ps sp) :
    FnOk P w K mg base CX0 k f fd ps (fun vs H Q _ => sp vs H Q E0) := ⟨fun vs H Q E h => F.len vs H Q E0 h, fun A outer s H args us vs Q E hr he hb hv hs =>
  codeAny_mono (F.run A outer s H args us vs Q E0 hr he hb hv hs) fun r s' q => by
    cases r with
    | ok fl => cases fl <;> exact q
    | error e =>
      obtain ⟨_, _, _, _, _, _, _, _, _, _, _, _, z⟩ := q
      exact z.elim⟩
theorem law_sp {K : PySem.W.Frag} {F : Fn} {H : Hp} {a : Addr} {ns : List Int} (hS : SqL K H a (ns.map V.int)) (h : FRes.post (F [shA (.lst (ns.map fun n => .con (.int n)))]) (fun d _ _ => d = .bl true) fun _ _ => False) :
    spF K F 1 [.ref a] H (fun v _ => v = .bl true) E0 := by
  refine ⟨rfl, ⟨K, H, fun _ => False, fun _ => none⟩, fun _ => none, [shA (.lst (ns.map fun n => .con (.int n)))], rfl, rfl, ⟨rfl, fun b o e => ⟨e, .inl rfl⟩, fun b => ⟨fun z => (by cases z), fun z => False.elim z⟩, fun a w e => (by cases e), fun i v e => (by cases e), fun i s e => ?_, trivial⟩, ?_⟩
  · cases i with
    | zero =>
      cases e
      refine ⟨_, rfl, ?_⟩
      show Rep K H (lin fun _ => none) (.ref a) (.lst _)
      rcases hS with hS | hS
      · exact .obj (fun z => z rfl) hS (.lst (Reps.cons_map V.int ns))
      · exact .kl hS (Reps.cons_map V.int ns)
    | succ i => simp at e
  · unfold FRes.post at h ⊢
    cases hF : F [shA (.lst (ns.map fun n => .con (.int n)))] with
    | none => rw [hF] at h; exact h
    | some r =>
      rw [hF] at h
      cases r with
      | exc x outs => exact h.elim
      | ret d b outs =>
        dsimp only at h ⊢
        subst h
        intro O' σ' v H' R'
        have : Vw K H' O' v (.bl true) := R'.view R'.tm.1 (by unfold cur; cases b <;> rfl)
        exact this.con
end L2.VL
end
section
set_option Elab.async false
set_option linter.all false
set_option maxRecDepth 100000
/-! VLs: how meanings are reckoned: posts step by step, loops by what holds between turns. -/
namespace L2.VL
open PySem PySem.Spec PyProof.Rows
section
variable {α β : Type} {Q Q' : α → Rho → Prop} {E E' : Exn → Rho → Prop} {ρ : Rho}
theorem post_ok (a : α) : (Res.ok a ρ).post Q E ↔ Q a ρ := Iff.rfl
theorem post_stk : (Res.stuck : Res α).post Q E ↔ False := Iff.rfl
theorem post_ite {c : Prop} [Decidable c] {m n : M α} : ((if c then m else n) ρ).post Q E ↔ if c then (m ρ).post Q E else (n ρ).post Q E := by
  by_cases h : c
  · rw [if_pos h, if_pos h]
  · rw [if_neg h, if_neg h]
theorem post_iteR {c : Prop} [Decidable c] {m n : Res α} : (if c then m else n).post Q E ↔ if c then m.post Q E else n.post Q E := by
  by_cases h : c
  · rw [if_pos h, if_pos h]
  · rw [if_neg h, if_neg h]
theorem post_some (a : α) : ((mOpt (some a)) ρ).post Q E ↔ Q a ρ := Iff.rfl
theorem post_none : ((mOpt (none : Option α)) ρ).post Q E ↔ False := Iff.rfl
end
section
variable {ρ : Rho} {E : Exn → Rho → Prop}
theorem post_dVar {i : Nat} {Q : D × Kd → Rho → Prop} : ((dVar i) ρ).post Q E ↔ ∃ s, ρ[i]? = some (some s) ∧ Q (s.d, .nm i) ρ := by
  unfold dVar
  split
  · rename_i s h; exact ⟨fun q => ⟨s, h, q⟩, fun ⟨_, e, q⟩ => by rw [h] at e; cases e; exact q⟩
  · rename_i h; exact ⟨fun q => q.elim, fun ⟨s, e, q⟩ => (h s e).elim⟩
theorem post_dCon {v : V} {Q : D × Kd → Rho → Prop} : ((dCon v) ρ).post Q E ↔ Q (.con v, .shr) ρ := Iff.rfl
theorem post_curE {x : D × Kd} {Q : D → Rho → Prop} : ((dcur x) ρ).post Q E ↔ ∃ d, cur ρ x = some d ∧ Q d ρ := post_cur
theorem post_dPut {i : Nat} {x : D × Kd} {Q : Unit → Rho → Prop} : ((dPut i x) ρ).post Q E ↔ ∃ d, cur ρ x = some d ∧ pinned (settleR ρ x.2) i = false ∧ Q () ((settleR ρ x.2).set i (some ⟨d, ownOf x.2, false⟩)) := by
  unfold dPut
  rw [post_bind, post_cur]
  unfold putEnd
  constructor
  · rintro ⟨d, e, q⟩
    refine ⟨d, e, ?_⟩
    cases hp : pinned (settleR ρ x.2) i with
    | true => rw [hp] at q; exact q.elim
    | false => rw [hp] at q; exact ⟨rfl, q⟩
  · rintro ⟨d, e, hp, q⟩
    refine ⟨d, e, ?_⟩
    rw [hp]; exact q
theorem post_keepT {x : D × Kd} {Q : D × Kd → Rho → Prop} : ((keep true x) ρ).post Q E ↔ Q x ρ := Iff.rfl
theorem post_keepF {x : D × Kd} {Q : D × Kd → Rho → Prop} : ((keep false x) ρ).post Q E ↔ ∃ d, cur ρ x = some d ∧ Q (d, .shr) (settleR ρ x.2) := by
  unfold keep
  simp only [post_bind, post_cur, post_pure, post_settle]
theorem post_dCall {F : Fn} {np : Nat} {dfl : List D} {l : List (Bool × DE)} {Q : D × Kd → Rho → Prop} : ((dCall F np dfl l) ρ).post Q E ↔
    ((dA l) ρ).post (fun xs ρ' => uniqW (wsOf ρ' 0 xs) = true ∧ xs.length + dfl.length = np ∧ ∃ args, argsOf ρ' xs = some args ∧ FRes.post (F (args ++ dfl.map shA)) (fun d b outs => Q (d, frK b) (backs xs outs 0 ρ')) (fun x outs => E x (backs xs outs 0 ρ'))) E := by
  have : ∀ (xs : List (D × Kd)) (ρ' : Rho), ((callEnd F np dfl xs) ρ').post Q E ↔ uniqW (wsOf ρ' 0 xs) = true ∧ xs.length + dfl.length = np ∧ ∃ args, argsOf ρ' xs = some args ∧ FRes.post (F (args ++ dfl.map shA)) (fun d b outs => Q (d, frK b) (backs xs outs 0 ρ')) (fun x outs => E x (backs xs outs 0 ρ')) := by
    intro xs ρ'
    by_cases hu : (uniqW (wsOf ρ' 0 xs) && decide (xs.length + dfl.length = np)) = true
    · have hu2 := hu
      rw [Bool.and_eq_true, decide_eq_true_eq] at hu2
      unfold callEnd
      rw [if_pos hu]
      cases ha : argsOf ρ' xs with
      | none => exact ⟨fun q => q.elim, fun ⟨_, _, _, e, _⟩ => by cases e⟩
      | some args =>
        dsimp only
        constructor
        · intro q
          refine ⟨hu2.1, hu2.2, args, rfl, ?_⟩
          cases hF : F (args ++ dfl.map shA) with
          | none => rw [hF] at q; exact q
          | some r => rw [hF] at q; cases r <;> exact q
        · rintro ⟨_, _, _, e, q⟩
          cases e
          cases hF : F (args ++ dfl.map shA) with
          | none => rw [hF] at q; exact q
          | some r => rw [hF] at q; cases r <;> exact q
    · unfold callEnd
      rw [if_neg hu]
      rw [Bool.and_eq_true, decide_eq_true_eq] at hu
      exact ⟨fun q => q.elim, fun ⟨h1, h2, _⟩ => (hu ⟨h1, h2⟩).elim⟩
  unfold dCall
  rw [post_bind]
  constructor
  · exact fun h => Res.post_ok h fun xs ρ' q => (this xs ρ').mp q
  · exact fun h => Res.post_ok h fun xs ρ' q => (this xs ρ').mpr q
end
theorem FRes.mono {r : Option FRes} {Q Q' : D → Bool → Rho → Prop} {E E' : Exn → Rho → Prop} (h : FRes.post r Q E) (h1 : ∀ d b o, Q d b o → Q' d b o) (h2 : ∀ x o, E x o → E' x o) : FRes.post r Q' E' := by
  unfold FRes.post at h ⊢
  cases r with
  | none => exact h
  | some r => cases r with
    | ret d b o => exact h1 d b o h
    | exc x o => exact h2 x o h
/-- .. where nothing is raised -/
theorem FRes.go {r : Option FRes} {Q Q' : D → Bool → Rho → Prop} {E' : Exn → Rho → Prop} (h : FRes.post r Q fun _ _ => False) (h1 : ∀ d b o, Q d b o → Q' d b o) : FRes.post r Q' E' := FRes.mono h h1 fun _ _ z => z.elim
theorem post_runFn {n : Nat} {r : DS} {args : List Arg} {Q : D → Bool → Rho → Prop} {E : Exn → Rho → Prop} : FRes.post (runFn n r args) Q E ↔ (r (args.map slotOf ++ List.replicate (n - args.length) none)).post (fun f ρ' => match f with
    | .nx => Q .non false (ρ'.take args.length)
    | .ret d b => Q d b (ρ'.take args.length)
    | .brk => False
    | .cnt => False) (fun x ρ' => E x (ρ'.take args.length)) := by
  unfold runFn FRes.post
  cases r (args.map slotOf ++ List.replicate (n - args.length) none) with
  | stuck => exact Iff.rfl
  | ex x ρ' => exact Iff.rfl
  | ok f ρ' => cases f <;> exact Iff.rfl
theorem post_dSeq {a b : DS} {ρ : Rho} {Q : Fl → Rho → Prop} {E : Exn → Rho → Prop} : ((dSeq a b) ρ).post Q E ↔ (a ρ).post (fun f ρ' => match f with
    | .nx => (b ρ').post Q E
    | .brk => Q .brk ρ'
    | .cnt => Q .cnt ρ'
    | .ret d k => Q (.ret d k) ρ') E := by
  unfold dSeq
  rw [post_bind]
  constructor
  · exact fun h => Res.post_ok h fun f ρ' q => by cases f <;> exact q
  · exact fun h => Res.post_ok h fun f ρ' q => by cases f <;> exact q
/-! ### loops -/
/-- a for: what holds between its turns -/
theorem for_inv {t : Tg} {body : DS} {xs : List D} {ρ : Rho} {Q : Fl → Rho → Prop} {E : Exn → Rho → Prop} (I : Nat → Rho → Prop) (h0 : I 0 ρ)
    (hs : ∀ i x ρ, xs[i]? = some x → I i ρ → ((t.put x) ρ).post (fun _ ρ1 => (body ρ1).post (fun f ρ' => match f with
      | .nx => I (i + 1) ρ'
      | .cnt => I (i + 1) ρ'
      | .brk => Q .nx ρ'
      | .ret d b => Q (.ret d b) ρ') E) E) (he : ∀ ρ, I xs.length ρ → Q .nx ρ) : ((forD t body xs) ρ).post Q E := by
  have go : ∀ (n i : Nat) (ρ : Rho), xs.length - i = n → i ≤ xs.length → I i ρ → ((forD t body (xs.drop i)) ρ).post Q E := by
    intro n
    induction n with
    | zero =>
      intro i ρ hn hi h
      have e : i = xs.length := by omega
      subst e
      rw [List.drop_length]
      exact he ρ h
    | succ n ih =>
      intro i ρ hn hi h
      have hlt : i < xs.length := by omega
      rw [List.drop_eq_getElem_cons hlt]
      refine (post_bind _ _).mpr (Res.post_ok (hs i xs[i] ρ (List.getElem?_eq_getElem hlt) h) fun _ ρ1 q => (post_bind _ _).mpr (Res.post_ok q fun f ρ2 q2 => ?_))
      cases f with
      | nx => exact ih (i + 1) ρ2 (by omega) hlt q2
      | cnt => exact ih (i + 1) ρ2 (by omega) hlt q2
      | brk => exact q2
      | ret d b => exact q2
  exact go xs.length 0 ρ (by simp) (Nat.zero_le _) h0
/-- .. over a list of things of a type: by what was walked -/
theorem for_pre {α : Type} (as : List α) (f : α → D) {t : Tg} {body : DS} {ρ : Rho} {Q : Fl → Rho → Prop} {E : Exn → Rho → Prop} (I : List α → Rho → Prop) (h0 : I [] ρ)
    (hs : ∀ pre a post ρ, as = pre ++ a :: post → I pre ρ → ((t.put (f a)) ρ).post (fun _ ρ1 => (body ρ1).post (fun fl ρ' => match fl with
      | .nx => I (pre ++ [a]) ρ'
      | .cnt => I (pre ++ [a]) ρ'
      | .brk => Q .nx ρ'
      | .ret d b => Q (.ret d b) ρ') E) E) (he : ∀ ρ, I as ρ → Q .nx ρ) : ((forD t body (as.map f)) ρ).post Q E := by
  refine for_inv (fun i ρ => I (as.take i) ρ) (by simpa using h0) (fun i x ρ hx h => ?_) fun ρ h => he ρ (by simpa using h)
  rw [List.getElem?_map] at hx
  obtain ⟨a, ha, rfl⟩ := Option.map_eq_some_iff.mp hx
  have hi : i < as.length := (List.getElem?_eq_some_iff.mp ha).1
  have e2 : as[i] = a := (List.getElem?_eq_some_iff.mp ha).2
  have e : as = as.take i ++ a :: as.drop (i + 1) := by
    rw [← e2, ← List.drop_eq_getElem_cons hi, List.take_append_drop]
  have e3 : as.take (i + 1) = as.take i ++ [a] := by rw [List.take_add_one, ha]; rfl
  have := hs (as.take i) a (as.drop (i + 1)) ρ e h
  rw [e3]
  exact this
/-- what one turn of a comprehension gives -/
def lcT (t : Tg) (q : M Bool) (r : DE) (x : D) : M (Option D) := do
  t.put x
  let b ← noX q
  if b then do
    let y ← noX r
    let z ← keep false y
    pure (some z.1)
  else pure none
theorem lc_inv {own : List Nat} {t : Tg} {q : M Bool} {r : DE} {xs : List D} {ρ : Rho} {Q : List D → Rho → Prop} {E : Exn → Rho → Prop} (I : Nat → List D → Rho → Prop) (h0 : I 0 [] (wipeR ρ own))
    (hs : ∀ i x acc ρ, xs[i]? = some x → I i acc ρ → ((lcT t q r x) ρ).post (fun o ρ' => I (i + 1) (acc ++ o.toList) (wipeR ρ' own)) E) (he : ∀ acc ρ, I xs.length acc (wipeR ρ own) → Q acc ρ) : ((lcD own t q r xs) ρ).post Q E := by
  have go : ∀ (n i : Nat) (acc : List D) (ρ : Rho), xs.length - i = n → i ≤ xs.length → I i acc (wipeR ρ own) → ((lcD own t q r (xs.drop i)) ρ).post (fun ds ρ' => Q (acc ++ ds) ρ') E := by
    intro n
    induction n with
    | zero =>
      intro i acc ρ hn hi h
      have e : i = xs.length := by omega
      subst e
      rw [List.drop_length]
      show Q (acc ++ []) ρ
      rw [List.append_nil]
      exact he acc ρ h
    | succ n ih =>
      intro i acc ρ hn hi h
      have hlt : i < xs.length := by omega
      rw [List.drop_eq_getElem_cons hlt]
      have q1 := hs i xs[i] acc (wipeR ρ own) (List.getElem?_eq_getElem hlt) h
      show Res.post ((lcD own t q r (xs[i] :: xs.drop (i + 1))) ρ) _ _
      unfold lcD
      rw [post_bind]
      show Res.post ((t.put xs[i] >>= fun _ => _) (wipeR ρ own)) _ _
      rw [post_bind]
      unfold lcT at q1
      rw [post_bind] at q1
      refine Res.post_ok q1 fun _ ρ1 q2 => ?_
      rw [post_bind] at q2 ⊢
      refine Res.post_ok q2 fun b ρ2 q3 => ?_
      cases b with
      | false =>
        rw [if_neg Bool.false_ne_true] at q3 ⊢
        have q4 : I (i + 1) (acc ++ []) (wipeR ρ2 own) := q3
        rw [List.append_nil] at q4
        exact ih (i + 1) acc ρ2 (by omega) hlt q4
      | true =>
        rw [if_pos rfl] at q3 ⊢
        rw [post_bind] at q3 ⊢
        refine Res.post_ok q3 fun y ρ3 q4 => ?_
        rw [post_bind] at q4 ⊢
        refine Res.post_ok q4 fun z ρ4 q5 => ?_
        rw [post_bind]
        have q6 : I (i + 1) (acc ++ [z.1]) (wipeR ρ4 own) := q5
        refine Res.post_ok (ih (i + 1) (acc ++ [z.1]) ρ4 (by omega) hlt q6) fun ds ρ5 q7 => ?_
        show Q (acc ++ (z.1 :: ds)) ρ5
        rw [List.append_assoc] at q7
        exact q7
  have := go xs.length 0 [] ρ (by simp) (Nat.zero_le _) h0
  exact Res.post_ok this fun ds ρ' q => by simpa using q
theorem post_lc {own : List Nat} {it : M (List D)} {t : Tg} {q : M Bool} {r : DE} {ρ : Rho} {Q : D × Kd → Rho → Prop} {E : Exn → Rho → Prop} : ((dLc own it t q r) ρ).post Q E ↔
    (it ρ).post (fun xs ρ1 => own.all (fun i => !pinned ρ1 i) = true ∧ ((lcD own t q r xs) ρ1).post (fun ds ρ2 => ds.length ≤ cap ∧ Q (.lst ds, .fr) (wipeR ρ2 own)) E) E := by
  unfold dLc
  rw [post_bind]
  have e : ∀ (xs : List D) (ρ1 : Rho), Res.post ((okOwn own >>= fun _ => (do
      let ds ← lcD own t q r xs
      wipeM own
      mOpt (lcEnd ds) : DE)) ρ1) Q E ↔ own.all (fun i => !pinned ρ1 i) = true ∧ ((lcD own t q r xs) ρ1).post (fun ds ρ2 => ds.length ≤ cap ∧ Q (.lst ds, .fr) (wipeR ρ2 own)) E := by
    intro xs ρ1
    rw [post_bind]
    unfold okOwn
    have inner : ∀ (ds : List D) (ρ2 : Rho), Res.post ((wipeM own >>= fun _ => mOpt (lcEnd ds) : DE) ρ2) Q E ↔ ds.length ≤ cap ∧ Q (.lst ds, .fr) (wipeR ρ2 own) := by
      intro ds ρ2
      rw [post_bind]
      show Res.post ((mOpt (lcEnd ds) : DE) (wipeR ρ2 own)) Q E ↔ _
      rw [post_opt]
      unfold lcEnd
      constructor
      · rintro ⟨a, h1, h2⟩
        split at h1
        · cases h1; exact ⟨by assumption, h2⟩
        · cases h1
      · rintro ⟨h1, h2⟩
        exact ⟨_, if_pos h1, h2⟩
    by_cases h : own.all (fun i => !pinned ρ1 i) = true
    · rw [if_pos h]
      show Res.post ((lcD own t q r xs >>= fun ds => _) ρ1) Q E ↔ _
      rw [post_bind]
      constructor
      · exact fun q => ⟨h, Res.post_ok q fun ds ρ2 q2 => (inner ds ρ2).mp q2⟩
      · exact fun ⟨_, q⟩ => Res.post_ok q fun ds ρ2 q2 => (inner ds ρ2).mpr q2
    · rw [if_neg h]
      exact ⟨fun q => q.elim, fun ⟨h1, _⟩ => (h h1).elim⟩
  constructor
  · exact fun h => Res.post_ok h fun xs ρ1 q => (e xs ρ1).mp q
  · exact fun h => Res.post_ok h fun xs ρ1 q => (e xs ρ1).mpr q
end L2.VL
end
section
set_option Elab.async false
set_option linter.all false
set_option maxRecDepth 100000
/-! VLt: the rules of reckoning, read from the goal. -/
namespace L2.VL
open PySem PySem.Spec PyProof.Rows
def Br (b : Bool) (A B : Prop) : Prop := if b = true then A else B
theorem br_t {A B : Prop} (h : A) : Br true A B := h
theorem br_f {A B : Prop} (h : B) : Br false A B := h
theorem br_n {b : Bool} {A B : Prop} (h : Br b B A) : Br (!b) A B := by cases b <;> exact h
theorem br_d {p : Prop} [Decidable p] {A B : Prop} (h : p → A) (h' : ¬ p → B) : Br (decide p) A B := by
  unfold Br
  by_cases q : p
  · rw [if_pos (decide_eq_true q)]; exact h q
  · rw [if_neg (fun z => q (of_decide_eq_true z))]; exact h' q
theorem br_b {b : Bool} {A B : Prop} (h : b = true → A) (h' : b = false → B) : Br b A B := by cases b with
  | true => exact h rfl
  | false => exact h' rfl
def SeqK (b : DS) (Q : Fl → Rho → Prop) (E : Exn → Rho → Prop) (f : Fl) (ρ : Rho) : Prop := match f with
  | .nx => (b ρ).post Q E
  | .brk => Q .brk ρ
  | .cnt => Q .cnt ρ
  | .ret d k => Q (.ret d k) ρ
def RunK (n : Nat) (Q : D → Bool → Rho → Prop) (f : Fl) (ρ : Rho) : Prop := match f with
  | .nx => Q .non false (ρ.take n)
  | .ret d b => Q d b (ρ.take n)
  | .brk => False
  | .cnt => False
/-- a loop's turn ends: I holds again, or the loop is left -/
def TurnK (I : Rho → Prop) (Q : Fl → Rho → Prop) (f : Fl) (ρ : Rho) : Prop := match f with
  | .nx => I ρ
  | .cnt => I ρ
  | .brk => Q .nx ρ
  | .ret d b => Q (.ret d b) ρ
def RetK (Q : Fl → Rho → Prop) (x : D × Kd) (ρ : Rho) : Prop := (dTake x ρ).post (fun y ρ' => Q (.ret y.1 y.2) ρ') fun _ _ => False
section
variable {α β : Type} {ρ : Rho} {E : Exn → Rho → Prop} {Q : Fl → Rho → Prop} {a b : DS} {q qa qb : M Bool} {r ra rb rc : DE} {V1 : D × Kd → Rho → Prop} {T1 : Bool → Rho → Prop} {d e : D} {o p : Bool} {i j : Nat}
theorem p_run {n : Nat} {r : DS} {args : List Arg} {Q : D → Bool → Rho → Prop} (h : (r (args.map slotOf ++ List.replicate (n - args.length) none)).post (RunK args.length Q) (fun x ρ' => E x (ρ'.take args.length))) : FRes.post (runFn n r args) Q E :=
  post_runFn.mpr (Res.post_ok h fun f ρ' q => by cases f <;> exact q)
theorem p_seq (h : (a ρ).post (SeqK b Q E) E) : ((dSeq a b) ρ).post Q E := post_dSeq.mpr (Res.post_ok h fun f ρ' q => by cases f <;> exact q)
theorem k_nx (h : (b ρ).post Q E) : SeqK b Q E .nx ρ := h
theorem k_ret {k : Bool} (h : Q (.ret d k) ρ) : SeqK b Q E (.ret d k) ρ := h
theorem k_brk (h : Q .brk ρ) : SeqK b Q E .brk ρ := h
theorem k_cnt (h : Q .cnt ρ) : SeqK b Q E .cnt ρ := h
theorem u_nx {n : Nat} {Q : D → Bool → Rho → Prop} (h : Q .non false (ρ.take n)) : RunK n Q .nx ρ := h
theorem u_ret {n : Nat} {k : Bool} {Q : D → Bool → Rho → Prop} (h : Q d k (ρ.take n)) : RunK n Q (.ret d k) ρ := h
theorem t_nx {I : Rho → Prop} (h : I ρ) : TurnK I Q .nx ρ := h
theorem t_cnt {I : Rho → Prop} (h : I ρ) : TurnK I Q .cnt ρ := h
theorem t_brk {I : Rho → Prop} (h : Q .nx ρ) : TurnK I Q .brk ρ := h
theorem t_ret {I : Rho → Prop} {k : Bool} (h : Q (.ret d k) ρ) : TurnK I Q (.ret d k) ρ := h
theorem p_next (h : Q .nx ρ) : (dNext ρ).post Q E := h
theorem p_pass (h : Q .nx ρ) : (dPass ρ).post Q E := h
theorem p_brk (h : Q .brk ρ) : (dBrk ρ).post Q E := h
theorem p_cnt (h : Q .cnt ρ) : (dCnt ρ).post Q E := h
theorem p_retN (h : Q (.ret .non false) ρ) : (dRetN ρ).post Q E := h
theorem p_expr (h : (r ρ).post (fun _ ρ' => Q .nx ρ') E) : ((dExpr r) ρ).post Q E := (post_bind _ _).mpr h
theorem p_if (h : (q ρ).post (fun k ρ' => Br k ((a ρ').post Q E) ((b ρ').post Q E)) E) : ((dIf q a b) ρ).post Q E := (post_bind _ _).mpr (Res.post_ok h fun k ρ' z => by cases k <;> exact z)
theorem p_ret (h : (r ρ).post (RetK Q) E) : ((dRet r) ρ).post Q E := (post_bind _ _).mpr (Res.post_ok h fun x ρ' z => (post_bind _ _).mpr (Res.post_mono z (fun _ _ y => y) fun _ _ z => z.elim))
theorem r_shr (h : Q (.ret d false) ρ) : RetK Q (d, .shr) ρ := h
theorem r_fr (h : Q (.ret d true) ρ) : RetK Q (d, .fr) ρ := h
theorem r_nm (hi : ρ[i]? = some (some ⟨d, true, false⟩)) (h : Q (.ret d true) (ρ.set i none)) : RetK Q (e, .nm i) ρ := by
  unfold RetK dTake
  refine (post_bind _ _).mpr (post_cur.mpr ⟨d, by unfold cur; dsimp only; rw [hi], ?_⟩)
  show ((takeNm d i) ρ).post _ _
  unfold takeNm
  rw [hi]
  exact h
theorem r_nmF (hi : ρ[i]? = some (some ⟨d, false, p⟩)) (h : Q (.ret d false) (ρ.set i (some ⟨d, false, p⟩))) : RetK Q (e, .nm i) ρ := by
  unfold RetK dTake
  refine (post_bind _ _).mpr (post_cur.mpr ⟨d, by unfold cur; dsimp only; rw [hi], ?_⟩)
  show ((takeNm d i) ρ).post _ _
  unfold takeNm
  rw [hi]
  show Q (.ret d false) (shareR ρ i)
  unfold shareR
  rw [hi]
  exact h
theorem r_nmP (hi : ρ[i]? = some (some ⟨d, true, true⟩)) (h : Q (.ret d false) (ρ.set i (some ⟨d, false, true⟩))) : RetK Q (e, .nm i) ρ := by
  unfold RetK dTake
  refine (post_bind _ _).mpr (post_cur.mpr ⟨d, by unfold cur; dsimp only; rw [hi], ?_⟩)
  show ((takeNm d i) ρ).post _ _
  unfold takeNm
  rw [hi]
  show Q (.ret d false) (shareR ρ i)
  unfold shareR
  rw [hi]
  exact h
theorem p_put {x : D × Kd} {U : Unit → Rho → Prop} (h : ∃ d, cur ρ x = some d ∧ pinned (settleR ρ x.2) i = false ∧ U () ((settleR ρ x.2).set i (some ⟨d, ownOf x.2, false⟩))) : ((dPut i x) ρ).post U E := post_dPut.mpr h
theorem p_set (h : (r ρ).post (fun x ρ' => ((dPut i x) ρ').post (fun _ ρ2 => Q .nx ρ2) E) E) : ((dSet i r) ρ).post Q E := (post_bind _ _).mpr (Res.post_ok h fun x ρ' z => (post_bind _ _).mpr z)
theorem q_shr {U : Unit → Rho → Prop} (hp : pinned ρ i = false) (h : U () (ρ.set i (some ⟨d, false, false⟩))) : ((dPut i (d, .shr)) ρ).post U E := post_dPut.mpr ⟨d, rfl, hp, h⟩
theorem q_fr {U : Unit → Rho → Prop} (hp : pinned ρ i = false) (h : U () (ρ.set i (some ⟨d, true, false⟩))) : ((dPut i (d, .fr)) ρ).post U E := post_dPut.mpr ⟨d, rfl, hp, h⟩
theorem q_nm {U : Unit → Rho → Prop} (hj : ρ[j]? = some (some ⟨d, o, p⟩)) (hp : pinned (ρ.set j (some ⟨d, false, p⟩)) i = false) (h : U () ((ρ.set j (some ⟨d, false, p⟩)).set i (some ⟨d, false, false⟩))) : ((dPut i (e, .nm j)) ρ).post U E := by
  have : settleR ρ (.nm j) = ρ.set j (some ⟨d, false, p⟩) := by unfold settleR shareR; dsimp only; rw [hj]
  refine post_dPut.mpr ⟨d, by unfold cur; dsimp only; rw [hj], ?_, ?_⟩
  · rw [this]; exact hp
  · rw [this]; exact h
theorem p_par {bi bj : Bool} (h : ((dA [(bi, ra), (bj, rb)]) ρ).post (fun xs ρ' => ∃ x y, xs = [x, y] ∧ nonm x = some () ∧ ((dPut j y) ρ').post (fun _ ρ1 => ((dPut i x) ρ1).post (fun _ ρ2 => Q .nx ρ2) E) E) E) : ((dPar i j bi bj ra rb) ρ).post Q E :=
  (post_bind _ _).mpr (Res.post_ok h fun xs ρ' ⟨x, y, e, e2, z⟩ => by
    subst e
    show Res.post ((mOpt (nonm x) >>= fun _ => dPut j y >>= fun _ => dPut i x >>= fun _ => pure Fl.nx) ρ') Q E
    rw [post_bind, e2]
    refine (post_bind _ _).mpr (Res.post_ok z fun _ ρ1 z => (post_bind _ _).mpr (Res.post_ok z fun _ ρ2 z => z)))
theorem p_fgB {is : List Nat} (h : (a (forgetR ρ is)).post Q E) : ((dFgB is a) ρ).post Q E := h
theorem p_fgE {is : List Nat} (h : (a ρ).post (fun f ρ' => Q f (forgetR ρ' is)) E) : ((dFgE is a) ρ).post Q E := (post_bind _ _).mpr (Res.post_ok h fun f ρ' z => z)
theorem p_for {it : M (List D)} {t : Tg} (h : (it ρ).post (fun xs ρ' => ((forD t a xs) ρ').post Q E) E) : ((dFor it t a) ρ).post Q E := (post_bind _ _).mpr h
theorem p_tg1 {U : Unit → Rho → Prop} (h : ((dPut i (d, .shr)) ρ).post U E) : (((Tg.one i).put d) ρ).post U E := h
theorem p_tgm {U : Unit → Rho → Prop} {is : List Nat} {ds : List D} (h : ((VL.putAll is ds) ρ).post U E) : (((Tg.many is).put (.tup ds)) ρ).post U E := h
theorem p_pa0 {U : Unit → Rho → Prop} (h : U () ρ) : ((VL.putAll [] []) ρ).post U E := h
theorem p_pa1 {U : Unit → Rho → Prop} {is : List Nat} {ds : List D} (h : ((dPut i (d, .shr)) ρ).post (fun _ ρ' => ((VL.putAll is ds) ρ').post U E) E) : ((VL.putAll (i :: is) (d :: ds)) ρ).post U E := (post_bind _ _).mpr h
theorem p_unp {t : Tg} (h : (r ρ).post (fun x ρ' => ((keep false x) ρ').post (fun y ρ1 => ((t.put y.1) ρ1).post (fun _ ρ2 => Q .nx ρ2) E) E) E) : ((dUnp t r) ρ).post Q E :=
  (post_bind _ _).mpr (Res.post_ok h fun x ρ' z => (post_bind _ _).mpr (Res.post_ok z fun y ρ1 z => (post_bind _ _).mpr z))
theorem p_chk {U : Unit → Rho → Prop} {xs : List D} (hi : ρ[i]? = some (some ⟨.lst xs, true, p⟩)) (h : U () ρ) : ((chkOwn i) ρ).post U E := by
  unfold chkOwn getOwn
  rw [hi]
  exact h
theorem p_mutEnd {g : List D → Option (List D × D)} {xs : List D} (hi : ρ[i]? = some (some ⟨.lst xs, true, p⟩)) (h : ∃ w, g xs = some w ∧ V1 (w.2, .shr) (ρ.set i (some ⟨.lst w.1, true, p⟩))) : ((mutEnd i g) ρ).post V1 E := by
  unfold mutEnd getOwn
  rw [hi]
  obtain ⟨w, e, h⟩ := h
  dsimp only
  rw [e]
  exact h
theorem p_app {xs : List D} (hi : ρ[i]? = some (some ⟨.lst xs, true, p⟩)) (h : ((dA [(false, r)]) ρ).post (fun ys ρ' => ∃ d xs' p', ys = [(d, .shr)] ∧ ρ'[i]? = some (some ⟨.lst xs', true, p'⟩) ∧ xs'.length < cap ∧ V1 (.non, .shr) (ρ'.set i (some ⟨.lst (xs' ++ [d]), true, p'⟩))) E) : ((dMut i appG [(false, r)]) ρ).post V1 E := by
  unfold dMut
  refine (post_bind _ _).mpr (p_chk hi ((post_bind _ _).mpr (Res.post_ok h ?_)))
  rintro ys ρ' ⟨d, xs', p', rfl, h1, h2, h3⟩
  refine (post_bind _ _).mpr ?_
  show ((mutEnd i fun ys => appG ys [d]) ρ').post V1 E
  exact p_mutEnd h1 ⟨(xs' ++ [d], .non), by exact if_pos h2, h3⟩
theorem p_setIx {rk rv : DE} (h : (rv ρ).post (fun x ρ1 => ((keep false x) ρ1).post (fun y ρ2 => ∃ xs p, ρ2[i]? = some (some ⟨.lst xs, true, p⟩) ∧ (rk ρ2).post (fun k ρ3 => ∃ kd, cur ρ3 k = some kd ∧ ∃ xs p, ρ3[i]? = some (some ⟨.lst xs, true, p⟩) ∧ ∃ w, setG kd y.1 xs = some w ∧ Q .nx (ρ3.set i (some ⟨.lst w.1, true, p⟩))) E) E) E) : ((dSetIx i rk rv) ρ).post Q E := by
  unfold dSetIx
  refine (post_bind _ _).mpr (Res.post_ok h fun x ρ1 z => (post_bind _ _).mpr (Res.post_ok z ?_))
  rintro y ρ2 ⟨xs, p, h1, z⟩
  refine (post_bind _ _).mpr (p_chk h1 ((post_bind _ _).mpr (Res.post_ok z ?_)))
  rintro k ρ3 ⟨kd, e, xs', p', h2, w, h3, h4⟩
  refine (post_bind _ _).mpr (post_cur.mpr ⟨kd, e, (post_bind _ _).mpr (p_mutEnd h2 ⟨w, h3, h4⟩)⟩)
/-! #### expressions -/
theorem p_var (hi : ρ[i]? = some (some ⟨d, o, p⟩)) (h : V1 (d, .nm i) ρ) : ((dVar i) ρ).post V1 E := post_dVar.mpr ⟨_, hi, h⟩
theorem p_con {v : V} (h : V1 (.con v, .shr) ρ) : ((dCon v) ρ).post V1 E := h
theorem c_shr {P : D → Prop} (h : P d) : ∃ x, cur ρ (d, .shr) = some x ∧ P x := ⟨d, rfl, h⟩
theorem c_fr {P : D → Prop} (h : P d) : ∃ x, cur ρ (d, .fr) = some x ∧ P x := ⟨d, rfl, h⟩
theorem c_nm {P : D → Prop} (hi : ρ[i]? = some (some ⟨d, o, p⟩)) (h : P d) : ∃ x, cur ρ (e, .nm i) = some x ∧ P x := ⟨d, by unfold cur; dsimp only; rw [hi], h⟩
theorem c_none {P : List D → Prop} (h : P []) : ∃ xs, curs ρ [] = some xs ∧ P xs := ⟨_, rfl, h⟩
theorem c_cons {P : List D → Prop} {x : D × Kd} {xs : List (D × Kd)} (h : ∃ d, cur ρ x = some d ∧ ∃ ds, curs ρ xs = some ds ∧ P (d :: ds)) : ∃ ds, curs ρ (x :: xs) = some ds ∧ P ds := by
  obtain ⟨d, e1, ds, e2, h⟩ := h
  refine ⟨_, ?_, h⟩
  unfold curs
  rw [e1, e2]
  rfl
theorem h_none {P : List D → Prop} (h : P []) : ∃ xs, shrs [] = some xs ∧ P xs := ⟨_, rfl, h⟩
theorem h_cons {P : List D → Prop} {xs : List (D × Kd)} (h : ∃ ds, shrs xs = some ds ∧ P (d :: ds)) : ∃ ds, shrs ((d, .shr) :: xs) = some ds ∧ P ds := by
  obtain ⟨ds, e2, h⟩ := h
  refine ⟨_, ?_, h⟩
  show (shrs xs).map _ = _
  rw [e2]
  rfl
theorem p_op2 {g : D → D → Option (D × Kd)} (h : (ra ρ).post (fun x ρ1 => (rb ρ1).post (fun y ρ2 => ∃ d, cur ρ2 x = some d ∧ ∃ e, cur ρ2 y = some e ∧ ∃ z, g d e = some z ∧ V1 z ρ2) E) E) : ((dOp2 g ra rb) ρ).post V1 E :=
  (post_bind _ _).mpr (Res.post_ok h fun x ρ1 z => (post_bind _ _).mpr (Res.post_ok z fun y ρ2 ⟨d, e1, e, e2, w, e3, z⟩ =>
    (post_bind _ _).mpr (post_cur.mpr ⟨d, e1, (post_bind _ _).mpr (post_cur.mpr ⟨e, e2, (post_opt _).mpr ⟨w, e3, z⟩⟩)⟩)))
theorem p_cmp {g : D → D → Option Bool} (h : (ra ρ).post (fun x ρ1 => (rb ρ1).post (fun y ρ2 => ∃ d, cur ρ2 x = some d ∧ ∃ e, cur ρ2 y = some e ∧ ∃ k, g d e = some k ∧ V1 (.con (.bl k), .shr) ρ2) E) E) : ((dCmp g ra rb) ρ).post V1 E :=
  p_op2 (Res.post_ok h fun x ρ1 z => Res.post_ok z fun y ρ2 ⟨d, e1, e, e2, k, e3, z⟩ => ⟨d, e1, e, e2, (.con (.bl k), .shr), by rw [e3]; rfl, z⟩)
theorem p_chain {g g' : D → D → Option Bool} (h : (ra ρ).post (fun x ρ1 => (rb ρ1).post (fun y ρ2 => ∃ d, cur ρ2 x = some d ∧ ∃ e, cur ρ2 y = some e ∧ ∃ k, g d e = some k ∧ Br k ((rc ρ2).post (fun u ρ3 => ∃ e', cur ρ3 y = some e' ∧ ∃ f, cur ρ3 u = some f ∧ ∃ k, g' e' f = some k ∧ V1 (.con (.bl k), .shr) ρ3) E) (V1 (.con (.bl false), .shr) ρ2)) E) E) : ((dChain g g' ra rb rc) ρ).post V1 E := by
  unfold dChain
  refine (post_bind _ _).mpr (Res.post_ok h fun x ρ1 z => (post_bind _ _).mpr (Res.post_ok z ?_))
  rintro y ρ2 ⟨d, e1, e, e2, k, e3, z⟩
  refine (post_bind _ _).mpr (post_cur.mpr ⟨d, e1, (post_bind _ _).mpr (post_cur.mpr ⟨e, e2, (post_bind _ _).mpr ((post_opt _).mpr ⟨k, e3, ?_⟩)⟩)⟩)
  cases k with
  | false => exact z
  | true =>
    rw [if_pos rfl]
    refine (post_bind _ _).mpr (Res.post_ok z ?_)
    rintro u ρ3 ⟨e', e4, f, e5, k, e6, z⟩
    exact (post_bind _ _).mpr (post_cur.mpr ⟨e', e4, (post_bind _ _).mpr (post_cur.mpr ⟨f, e5, (post_bind _ _).mpr ((post_opt _).mpr ⟨k, e6, z⟩)⟩)⟩)
theorem p_op1 {g : D → Option V} (h : (ra ρ).post (fun x ρ1 => ∃ d, cur ρ1 x = some d ∧ ∃ v, g d = some v ∧ V1 (.con v, .shr) ρ1) E) : ((dOp1 g ra) ρ).post V1 E :=
  (post_bind _ _).mpr (Res.post_ok h fun x ρ1 ⟨d, e1, v, e2, z⟩ => (post_bind _ _).mpr (post_cur.mpr ⟨d, e1, (post_bind _ _).mpr ((post_opt _).mpr ⟨v, e2, z⟩)⟩))
theorem p_dB (h : (r ρ).post (fun x ρ1 => ∃ d, cur ρ1 x = some d ∧ ∃ k, asB d = some k ∧ T1 k ρ1) E) : ((dB r) ρ).post T1 E :=
  (post_bind _ _).mpr (Res.post_ok h fun x ρ1 ⟨d, e1, v, e2, z⟩ => (post_bind _ _).mpr (post_cur.mpr ⟨d, e1, (post_opt _).mpr ⟨v, e2, z⟩⟩))
theorem p_dTr (h : (r ρ).post (fun x ρ1 => ∃ d, cur ρ1 x = some d ∧ ∃ k, truthD d = some k ∧ T1 k ρ1) E) : ((dTr r) ρ).post T1 E :=
  (post_bind _ _).mpr (Res.post_ok h fun x ρ1 ⟨d, e1, v, e2, z⟩ => (post_bind _ _).mpr (post_cur.mpr ⟨d, e1, (post_opt _).mpr ⟨v, e2, z⟩⟩))
theorem p_not (h : (q ρ).post (fun k ρ1 => T1 (!k) ρ1) E) : ((dNot q) ρ).post T1 E := (post_bind _ _).mpr h
theorem p_and (h : (qa ρ).post (fun k ρ1 => Br k ((qb ρ1).post T1 E) (T1 false ρ1)) E) : ((dAnd qa qb) ρ).post T1 E := (post_bind _ _).mpr (Res.post_ok h fun k ρ1 z => by cases k <;> exact z)
theorem p_or (h : (qa ρ).post (fun k ρ1 => Br k (T1 true ρ1) ((qb ρ1).post T1 E)) E) : ((dOr qa qb) ρ).post T1 E := (post_bind _ _).mpr (Res.post_ok h fun k ρ1 z => by cases k <;> exact z)
theorem p_andV (h : ((dB ra) ρ).post (fun k ρ1 => Br k ((rb ρ1).post V1 E) (V1 (.con (.bl false), .shr) ρ1)) E) : ((dAndV ra rb) ρ).post V1 E := (post_bind _ _).mpr (Res.post_ok h fun k ρ1 z => by cases k <;> exact z)
theorem p_orV (h : ((dB ra) ρ).post (fun k ρ1 => Br k (V1 (.con (.bl true), .shr) ρ1) ((rb ρ1).post V1 E)) E) : ((dOrV ra rb) ρ).post V1 E := (post_bind _ _).mpr (Res.post_ok h fun k ρ1 z => by cases k <;> exact z)
theorem p_notV (h : ((dB ra) ρ).post (fun k ρ1 => V1 (.con (.bl !k), .shr) ρ1) E) : ((dNotV ra) ρ).post V1 E := (post_bind _ _).mpr h
theorem p_ifx (h : (q ρ).post (fun k ρ1 => Br k ((ra ρ1).post V1 E) ((rb ρ1).post V1 E)) E) : ((dIfx q ra rb) ρ).post V1 E := (post_bind _ _).mpr (Res.post_ok h fun k ρ1 z => by cases k <;> exact z)
theorem p_true (h : T1 true ρ) : ((pure true : M Bool) ρ).post T1 E := h
section
variable {L1 : List (D × Kd) → Rho → Prop} {l : List (Bool × DE)}
theorem p_a0 (h : L1 [] ρ) : ((dA []) ρ).post L1 E := h
theorem p_aT (h : (r ρ).post (fun x ρ1 => ((dA l) ρ1).post (fun ys ρ2 => L1 (x :: ys) ρ2) E) E) : ((dA ((true, r) :: l)) ρ).post L1 E :=
  (post_bind _ _).mpr (Res.post_ok h fun x ρ1 z => (post_bind _ _).mpr (post_keepT.mpr ((post_bind _ _).mpr (Res.post_ok z fun ys ρ2 z => z))))
theorem p_aF (h : (r ρ).post (fun x ρ1 => ((keep false x) ρ1).post (fun y ρ2 => ((dA l) ρ2).post (fun ys ρ3 => L1 (y :: ys) ρ3) E) E) E) : ((dA ((false, r) :: l)) ρ).post L1 E :=
  (post_bind _ _).mpr (Res.post_ok h fun x ρ1 z => (post_bind _ _).mpr (Res.post_ok z fun y ρ2 z => (post_bind _ _).mpr (Res.post_ok z fun ys ρ3 z => z)))
theorem k_shr (h : V1 (d, .shr) ρ) : ((keep false (d, .shr)) ρ).post V1 E := post_keepF.mpr ⟨d, rfl, h⟩
theorem k_fr (h : V1 (d, .shr) ρ) : ((keep false (d, .fr)) ρ).post V1 E := post_keepF.mpr ⟨d, rfl, h⟩
theorem k_nm (hi : ρ[i]? = some (some ⟨d, o, p⟩)) (h : V1 (d, .shr) (ρ.set i (some ⟨d, false, p⟩))) : ((keep false (e, .nm i)) ρ).post V1 E := post_keepF.mpr ⟨d, by unfold cur; dsimp only; rw [hi], by unfold settleR shareR; dsimp only; rw [hi]; exact h⟩
theorem p_lst (h : ((dA l) ρ).post (fun xs ρ1 => ∃ ds, shrs xs = some ds ∧ ds.length ≤ cap ∧ V1 (.lst ds, .fr) ρ1) E) : ((dLst l) ρ).post V1 E :=
  (post_bind _ _).mpr (Res.post_ok h fun xs ρ1 ⟨ds, e1, e2, z⟩ => (post_opt _).mpr ⟨_, by unfold gD; rw [e1]; exact if_pos e2, z⟩)
theorem p_tup (h : ((dA l) ρ).post (fun xs ρ1 => ∃ ds, shrs xs = some ds ∧ ds.length ≤ cap ∧ V1 (.tup ds, .shr) ρ1) E) : ((dTup l) ρ).post V1 E :=
  (post_bind _ _).mpr (Res.post_ok h fun xs ρ1 ⟨ds, e1, e2, z⟩ => (post_opt _).mpr ⟨_, by unfold gD; rw [e1]; exact if_pos e2, z⟩)
theorem p_bi {g : List D → Option (D × Kd)} (h : ((dA l) ρ).post (fun xs ρ1 => ∃ ds, curs ρ1 xs = some ds ∧ ∃ z, g ds = some z ∧ V1 z ρ1) E) : ((dBi g l) ρ).post V1 E :=
  (post_bind _ _).mpr (Res.post_ok h fun xs ρ1 ⟨ds, e1, z⟩ => (post_bind _ _).mpr (post_curs.mpr ⟨ds, e1, (post_opt _).mpr z⟩))
theorem p_mt {ty : D → Bool} {g : D → List D → Option (D × Kd)} (h : (r ρ).post (fun x ρ1 => ∃ d, cur ρ1 x = some d ∧ ty d = true ∧ ((dA l) ρ1).post (fun xs ρ2 => ∃ d, cur ρ2 x = some d ∧ ∃ ds, curs ρ2 xs = some ds ∧ ∃ z, g d ds = some z ∧ V1 z ρ2) E) E) : ((dMt ty g r l) ρ).post V1 E :=
  (post_bind _ _).mpr (Res.post_ok h fun x ρ1 ⟨d, e1, e2, z⟩ => (post_bind _ _).mpr (post_cur.mpr ⟨d, e1, (post_bind _ _).mpr ((post_opt _).mpr ⟨(), if_pos e2, (post_bind _ _).mpr (Res.post_ok z fun xs ρ2 ⟨d, e3, ds, e4, z⟩ => (post_bind _ _).mpr (post_cur.mpr ⟨d, e3, (post_bind _ _).mpr (post_curs.mpr ⟨ds, e4, (post_opt _).mpr z⟩)⟩))⟩)⟩))
theorem p_isi {u : Ty} (h : (r ρ).post (fun x ρ1 => ∃ d, cur ρ1 x = some d ∧ ∃ t, tyOf d = some t ∧ V1 (.con (.bl (isiT t u)), .shr) ρ1) E) : ((dIsi u r) ρ).post V1 E :=
  (post_bind _ _).mpr (Res.post_ok h fun x ρ1 ⟨d, e1, t, e2, z⟩ => (post_bind _ _).mpr (post_cur.mpr ⟨d, e1, (post_bind _ _).mpr ((post_opt _).mpr ⟨t, e2, z⟩)⟩))
theorem p_call {F : Fn} {np : Nat} {dfl : List D} (h : ((dA l) ρ).post (fun xs ρ' => uniqW (wsOf ρ' 0 xs) = true ∧ xs.length + dfl.length = np ∧ ∃ args, argsOf ρ' xs = some args ∧ FRes.post (F (args ++ dfl.map shA)) (fun d b outs => V1 (d, frK b) (backs xs outs 0 ρ')) (fun x outs => E x (backs xs outs 0 ρ'))) E) : ((dCall F np dfl l) ρ).post V1 E := post_dCall.mpr h
theorem p_iLst {S1 : List D → Rho → Prop} (h : (r ρ).post (fun x ρ1 => ((keep false x) ρ1).post (fun y ρ2 => ∃ xs, lstOf y.1 = some xs ∧ S1 xs ρ2) E) E) : ((iLst r) ρ).post S1 E :=
  (post_bind _ _).mpr (Res.post_ok h fun x ρ1 z => (post_bind _ _).mpr (Res.post_ok z fun y ρ2 z => (post_opt _).mpr z))
theorem p_iRng {g : List D → Option (List D)} {S1 : List D → Rho → Prop} (h : ((dA l) ρ).post (fun xs ρ1 => ∃ ds, curs ρ1 xs = some ds ∧ ∃ z, g ds = some z ∧ S1 z ρ1) E) : ((iRng g l) ρ).post S1 E :=
  (post_bind _ _).mpr (Res.post_ok h fun xs ρ1 ⟨ds, e1, z⟩ => (post_bind _ _).mpr (post_curs.mpr ⟨ds, e1, (post_opt _).mpr z⟩))
theorem p_iZip {S1 : List D → Rho → Prop} (h : ((dA l) ρ).post (fun xs ρ1 => ∃ ds, shrs xs = some ds ∧ ∃ a b, ds = [.lst a, .lst b] ∧ S1 ((a.zip b).map fun p => .tup [p.1, p.2]) ρ1) E) : ((iZip2 l) ρ).post S1 E :=
  (post_bind _ _).mpr (Res.post_ok h fun xs ρ1 ⟨ds, e1, a, b, e2, z⟩ => (post_bind _ _).mpr ((post_opt _).mpr ⟨ds, e1, (post_opt _).mpr ⟨_, by subst e2; rfl, z⟩⟩))
theorem p_slL0 {hi : DE} (h : (r ρ).post (fun x ρ1 => (hi ρ1).post (fun y ρ2 => ∃ j : Int, cur ρ2 y = some (.int j) ∧ ∃ ds, cur ρ2 x = some (.lst ds) ∧ V1 (.lst (cutD ds none (some j)), .fr) ρ2) E) E) : ((dSlL r none (some hi)) ρ).post V1 E := by
  unfold dSlL
  refine (post_bind _ _).mpr (Res.post_ok h fun x ρ1 z => (post_bind _ _).mpr ?_)
  show ((dPart (some hi) >>= fun j => _) ρ1).post V1 E
  refine (post_bind _ _).mpr ((post_bind _ _).mpr (Res.post_ok z ?_))
  rintro y ρ2 ⟨j, e1, ds, e2, z⟩
  refine (post_bind _ _).mpr (post_cur.mpr ⟨_, e1, (post_opt _).mpr ⟨some j, rfl, (post_bind _ _).mpr (post_cur.mpr ⟨_, e2, (post_opt _).mpr ⟨_, rfl, z⟩⟩)⟩⟩)
end
theorem p_noX {m : M α} {Q : α → Rho → Prop} (h : (m ρ).post Q fun _ _ => False) : ((noX m) ρ).post Q E := by
  unfold noX
  cases e : m ρ with
  | stuck => rw [e] at h; exact h
  | ok a ρ' => rw [e] at h; exact h
  | ex x ρ' => rw [e] at h; exact h.elim
theorem p_lcT {t : Tg} {x : D} {U : Option D → Rho → Prop} (h : ((t.put x) ρ).post (fun _ ρ1 => (q ρ1).post (fun k ρ2 => Br k ((r ρ2).post (fun y ρ3 => ((keep false y) ρ3).post (fun z ρ4 => U (some z.1) ρ4) E) fun _ _ => False) (U none ρ2)) fun _ _ => False) E) : ((lcT t q r x) ρ).post U E := by
  unfold lcT
  refine (post_bind _ _).mpr (Res.post_ok h fun _ ρ1 z => (post_bind _ _).mpr (p_noX (Res.post_ok z fun k ρ2 z => ?_)))
  cases k with
  | false => exact z
  | true => exact (post_bind _ _).mpr (p_noX (Res.post_ok z fun y ρ3 z => (post_bind _ _).mpr (Res.post_ok z fun w ρ4 z => z)))
theorem p_lc {own : List Nat} {it : M (List D)} {t : Tg} (h : (it ρ).post (fun xs ρ1 => own.all (fun i => !pinned ρ1 i) = true ∧ ((lcD own t q r xs) ρ1).post (fun ds ρ2 => ds.length ≤ cap ∧ V1 (.lst ds, .fr) (wipeR ρ2 own)) E) E) : ((dLc own it t q r) ρ).post V1 E := post_lc.mpr h
end
theorem ex_rfl {α : Type} {o : Option α} {a : α} {P : α → Prop} (e : o = some a) (h : P a) : ∃ x, o = some x ∧ P x := ⟨a, e, h⟩
/-! #### operations -/
section
variable {P : D × Kd → Prop} {B : Bool → Prop} {W : V → Prop} {i j : Int} {xs ys : List D} {s t : Str}
theorem x_add (h : P (.con (.int (i + j)), .shr)) : ∃ z, addD (.con (.int i)) (.con (.int j)) = some z ∧ P z := ⟨_, rfl, h⟩
theorem x_addS (hl : s.length + t.length ≤ cap) (h : P (.con (.str (s ++ t)), .shr)) : ∃ z, addD (.con (.str s)) (.con (.str t)) = some z ∧ P z := ⟨_, if_pos hl, h⟩
theorem x_addL (hl : xs.length + ys.length ≤ cap) (h : P (.lst (xs ++ ys), .fr)) : ∃ z, addD (.lst xs) (.lst ys) = some z ∧ P z := ⟨_, if_pos hl, h⟩
theorem x_sub (h : P (.con (.int (i - j)), .shr)) : ∃ z, subD (.con (.int i)) (.con (.int j)) = some z ∧ P z := ⟨_, rfl, h⟩
theorem x_mul (hl : (-18446744073709551616 < i ∧ i < 18446744073709551616) ∨ (-18446744073709551616 < j ∧ j < 18446744073709551616)) (h : P (.con (.int (i * j)), .shr)) : ∃ z, mulD (.con (.int i)) (.con (.int j)) = some z ∧ P z :=
  ⟨_, if_pos (by unfold CMulB; simpa using hl), h⟩
theorem x_div (hl : 0 < j ∧ j < 1606938044258990275541962092341162602522202993782792835301376) (h : P (.con (.int (i / j)), .shr)) : ∃ z, divD (.con (.int i)) (.con (.int j)) = some z ∧ P z :=
  ⟨_, if_pos (by unfold CDivB; simpa using hl), h⟩
theorem x_mod (hl : 0 < j) (h : P (.con (.int (i % j)), .shr)) : ∃ z, modD (.con (.int i)) (.con (.int j)) = some z ∧ P z := ⟨_, if_pos (by simpa using hl), h⟩
theorem x_pow {k : Int} (hl : 0 ≤ j ∧ j ≤ 1000 ∧ i.natAbs < 18446744073709551616) (hk : i ^ j.toNat = k) (h : P (.con (.int k), .shr)) : ∃ z, powD (.con (.int i)) (.con (.int j)) = some z ∧ P z :=
  ⟨_, if_pos (by unfold CPowB; simpa using hl), by dsimp only; rw [hk]; exact h⟩
theorem x_neg (h : W (.int (-i))) : ∃ z, negV (.con (.int i)) = some z ∧ W z := ⟨_, rfl, h⟩
theorem x_lt (h : B (decide (i < j))) : ∃ k, ltC (.con (.int i)) (.con (.int j)) = some k ∧ B k := ⟨_, rfl, h⟩
theorem x_le (h : B (decide (i ≤ j))) : ∃ k, leC (.con (.int i)) (.con (.int j)) = some k ∧ B k := ⟨_, rfl, h⟩
theorem x_gt (h : B (decide (j < i))) : ∃ k, gtC (.con (.int i)) (.con (.int j)) = some k ∧ B k := ⟨_, rfl, h⟩
theorem x_ge (h : B (decide (j ≤ i))) : ∃ k, geC (.con (.int i)) (.con (.int j)) = some k ∧ B k := ⟨_, rfl, h⟩
theorem eqD_int : eqD (.con (.int i)) (.con (.int j)) = some (decide (i = j)) := by
  have e : eqD (.con (.int i)) (.con (.int j)) = some (decide (V.int i = V.int j)) := by
    unfold eqD
    dsimp only
    rw [if_pos (by rfl)]
  rw [e]
  simp
theorem eqD_str : eqD (.con (.str s)) (.con (.str t)) = some (decide (s = t)) := by
  have e : eqD (.con (.str s)) (.con (.str t)) = some (decide (V.str s = V.str t)) := by
    unfold eqD
    dsimp only
    rw [if_pos (by rfl)]
  rw [e]
  simp
theorem x_eqI (h : B (decide (i = j))) : ∃ k, eqD (.con (.int i)) (.con (.int j)) = some k ∧ B k := ⟨_, eqD_int, h⟩
theorem x_neI (h : B (!decide (i = j))) : ∃ k, neD (.con (.int i)) (.con (.int j)) = some k ∧ B k := ⟨_, by unfold neD; rw [eqD_int]; rfl, h⟩
theorem x_eqS (h : B (decide (s = t))) : ∃ k, eqD (.con (.str s)) (.con (.str t)) = some k ∧ B k := ⟨_, eqD_str, h⟩
theorem x_neS (h : B (!decide (s = t))) : ∃ k, neD (.con (.str s)) (.con (.str t)) = some k ∧ B k := ⟨_, by unfold neD; rw [eqD_str]; rfl, h⟩
theorem eqD_lst (hx : okD 60 (.lst xs) = true) (hy : okD 60 (.lst ys) = true) : eqD (.lst xs) (.lst ys) = some (same (.lst xs) (.lst ys)) := by
  unfold eqD
  simp [hx, hy]
theorem x_eqL (hx : okD 60 (.lst xs) = true) (hy : okD 60 (.lst ys) = true) (h : B (same (.lst xs) (.lst ys))) : ∃ k, eqD (.lst xs) (.lst ys) = some k ∧ B k := ⟨_, eqD_lst hx hy, h⟩
theorem x_neL (hx : okD 60 (.lst xs) = true) (hy : okD 60 (.lst ys) = true) (h : B (!same (.lst xs) (.lst ys))) : ∃ k, neD (.lst xs) (.lst ys) = some k ∧ B k := ⟨_, by unfold neD; rw [eqD_lst hx hy]; rfl, h⟩
theorem x_ix {d : D} (hl : atI xs i = some d) (h : P (d, .shr)) : ∃ z, ixD (.lst xs) (.con (.int i)) = some z ∧ P z := ⟨_, by show (atI xs i).map _ = _; rw [hl]; rfl, h⟩
theorem x_ixT {d : D} (hl : atI xs i = some d) (h : P (d, .shr)) : ∃ z, ixD (.tup xs) (.con (.int i)) = some z ∧ P z := ⟨_, by show (atI xs i).map _ = _; rw [hl]; rfl, h⟩
theorem x_len (h : P (.con (.int xs.length), .shr)) : ∃ z, lenD [.lst xs] = some z ∧ P z := ⟨_, rfl, h⟩
theorem x_sc {g : List D → Option V} {ds : List D} (h : ∃ v, g ds = some v ∧ P (.con v, .shr)) : ∃ z, scB g ds = some z ∧ P z := by
  obtain ⟨v, e, h⟩ := h
  exact ⟨_, by unfold scB; rw [e]; rfl, h⟩
theorem x_abs (h : W (.int (if i < 0 then -i else i))) : ∃ v, VL.absV [.con (.int i)] = some v ∧ W v := ⟨_, rfl, h⟩
theorem x_max (h : W (.int (if j > i then j else i))) : ∃ v, maxV [.con (.int i), .con (.int j)] = some v ∧ W v := ⟨_, rfl, h⟩
theorem x_min (h : W (.int (if j < i then j else i))) : ∃ v, minV [.con (.int i), .con (.int j)] = some v ∧ W v := ⟨_, rfl, h⟩
theorem x_int (h : W (.int i)) : ∃ v, intV [.con (.int i)] = some v ∧ W v := ⟨_, rfl, h⟩
theorem x_intB {k : Bool} (h : W (.int (if k then 1 else 0))) : ∃ v, intV [.con (.bl k)] = some v ∧ W v := ⟨_, rfl, h⟩
theorem x_list (h : P (.lst xs, .fr)) : ∃ z, listD [.lst xs] = some z ∧ P z := ⟨_, rfl, h⟩
theorem x_listT (h : P (.lst xs, .fr)) : ∃ z, listD [.tup xs] = some z ∧ P z := ⟨_, rfl, h⟩
theorem x_asB {k : Bool} (h : B k) : ∃ b, asB (.con (.bl k)) = some b ∧ B b := ⟨_, rfl, h⟩
theorem x_trB {k : Bool} (h : B k) : ∃ b, truthD (.con (.bl k)) = some b ∧ B b := ⟨_, rfl, h⟩
theorem x_trI (h : B (i != 0)) : ∃ b, truthD (.con (.int i)) = some b ∧ B b := ⟨_, rfl, h⟩
theorem x_trL (h : B (!xs.isEmpty)) : ∃ b, truthD (.lst xs) = some b ∧ B b := ⟨_, rfl, h⟩
theorem x_isNI (h : B false) : ∃ k, isNC (.con (.int i)) (.con .non) = some k ∧ B k := ⟨_, rfl, h⟩
theorem x_isNN (h : B true) : ∃ k, isNC (.con .non) (.con .non) = some k ∧ B k := ⟨_, rfl, h⟩
theorem x_tyI {U : Ty → Prop} (h : U .int) : ∃ t, tyOf (.con (.int i)) = some t ∧ U t := ⟨_, rfl, h⟩
theorem x_tyB {U : Ty → Prop} {k : Bool} (h : U .bool) : ∃ t, tyOf (.con (.bl k)) = some t ∧ U t := ⟨_, rfl, h⟩
theorem x_tyS {U : Ty → Prop} (h : U .str) : ∃ t, tyOf (.con (.str s)) = some t ∧ U t := ⟨_, rfl, h⟩
theorem x_tyL {U : Ty → Prop} (h : U .list) : ∃ t, tyOf (.lst xs) = some t ∧ U t := ⟨_, rfl, h⟩
theorem x_tyT {U : Ty → Prop} (h : U .tuple) : ∃ t, tyOf (.tup xs) = some t ∧ U t := ⟨_, rfl, h⟩
theorem x_rng1 {S : List D → Prop} (hl : -4611686018427387904 ≤ i ∧ i < 4611686018427387904) (h : S (rngD 0 i.toNat)) : ∃ z, rng1 [.con (.int i)] = some z ∧ S z := ⟨_, if_pos (by unfold small62; simpa using hl), h⟩
theorem x_lstOf {S : List D → Prop} (h : S xs) : ∃ z, lstOf (.lst xs) = some z ∧ S z := ⟨_, rfl, h⟩
theorem x_setG {n : Int} {d : D} {k : Nat} {S : List D × D → Prop} (hl : ixN xs.length n = some k) (h : S (xs.set k d, .non)) : ∃ z, setG (.con (.int n)) d xs = some z ∧ S z := ⟨_, by show (ixN xs.length n).map _ = _; rw [hl]; rfl, h⟩
end
end L2.VL
end
section
set_option Elab.async false
set_option linter.all false
set_option maxRecDepth 100000
/-! VLu: what is lent: an expression that only reads, and whose value holds no address. -/
namespace L2.VL
open PySem PySem.Spec PyProof.Rows
def lent (o : Option Slot) : Option Slot := o.map fun s => ⟨s.d, false, s.pin⟩
def dBor (r : DE) : DE := fun ρ => match (r >>= dcur) (ρ.map lent) with
  | .ok (.con c) _ => .ok (.con c, .shr) ρ
  | _ => .stuck
theorem Rel.lend {G : Fix} {O : Own} {σ : St} {H : Hp} {ρ : Rho} (R : Rel G O σ H ρ []) : Rel ⟨G.K, H, fun _ => False, G.Pin⟩ (fun _ => none) σ H (ρ.map lent) [] := by
  have st : Stay H H (lin O) (lin fun _ => none) := fun a o _ e => ⟨e, fun z => z rfl⟩
  refine ⟨by rw [List.length_map]; exact R.len, fun b o e => ⟨e, .inl rfl⟩, fun b => ⟨fun z => (by cases z), fun z => False.elim z⟩, fun a w e => (by cases e), fun i v e => ?_, fun i s e => ?_, trivial⟩
  · obtain ⟨h1, s, h2, h3⟩ := R.pn i v e
    exact ⟨h1, ⟨s.d, false, s.pin⟩, by rw [List.getElem?_map, h2]; rfl, h3⟩
  · rw [List.getElem?_map] at e
    obtain ⟨o, e1, e2⟩ := Option.map_eq_some_iff.mp e
    obtain ⟨s', rfl, rfl⟩ := Option.map_eq_some_iff.mp e2
    obtain ⟨v, h1, h2⟩ := R.sl i s' e1
    refine ⟨v, h1, ?_⟩
    show Rep G.K H _ v s'.d
    unfold SlotOk at h2
    cases q : s'.own with
    | false => rw [q] at h2; exact h2.mono st
    | true =>
      rw [q] at h2
      obtain ⟨a, ho, rfl, h3, h4, c⟩ := h2
      exact .obj (fun z => z rfl) (.inl h4) (c.mono st)
theorem Rel.unlend {G : Fix} {O O' : Own} {σ : St} {H H' : Hp} {ρ ρ' : Rho} {T : List Tmp} {c v : V} (R : Rel G O σ H ρ []) (R' : Rel ⟨G.K, H, fun _ => False, G.Pin⟩ O' σ H' ρ' T) : Rel G O σ H' ρ [⟨c, .con c, .shr⟩] := by
  have up : ∀ a o, H a = some o → H' a = some o := fun a o e => (R'.fr a o e).1
  have st : Stay H H' (lin O) (lin O) := fun a o n e => ⟨up a o e, n⟩
  refine ⟨R.len, fun b o e => ⟨up b o (R.fr b o e).1, (R.fr b o e).2⟩, R.ot, fun a w e => ?_, R.pn, fun i s e => ?_, ⟨Rep.con c, trivial⟩⟩
  · obtain ⟨o, h⟩ := R.tr a w e
    exact ⟨o, up a o h⟩
  · obtain ⟨v, h1, h2⟩ := R.sl i s e
    exact ⟨v, h1, slot_mono st (fun a o e1 e2 => ⟨e1, up a o e2⟩) h2⟩
theorem se_bor {X : Cx} {e : Expr} {r : DE} (h : SE X e r) : SE X e (dBor r) := fun W tk => PE.imp (h W tk) fun σ H Q ⟨G, O, ρ, hK, R, h⟩ => by
  refine ⟨⟨G.K, H, fun _ => False, G.Pin⟩, _, _, hK, R.lend, ?_⟩
  unfold dBor at h
  have key : ((r >>= dcur) (ρ.map lent)).post (fun d ρ' => ∃ c, d = .con c ∧ ∀ O' v H', Rel G O' σ H' ρ [⟨v, .con c, .shr⟩] → Q v H') fun _ _ => False := by
    cases q : (r >>= dcur) (ρ.map lent) with
    | stuck => rw [q] at h; exact h.elim
    | ex x ρ' => rw [q] at h; exact h.elim
    | ok d ρ' =>
      rw [q] at h
      cases d with
      | con c => exact ⟨c, rfl, h⟩
      | lst _ => exact h.elim
      | tup _ => exact h.elim
      | dic _ => exact h.elim
      | dit _ => exact h.elim
  refine Res.post_mono ((post_bind _ _).mp key) (fun x ρ1 q O1 v H1 R1 => ?_) fun _ _ z => z.elim
  obtain ⟨d, e1, c, rfl, q2⟩ := post_cur.mp q
  have v1 : v = c := (R1.view R1.tm.1 e1).con
  subst v1
  exact q2 O v H1 (R.unlend (v := v) R1)
theorem p_bor {r : DE} {ρ : Rho} {V1 : D × Kd → Rho → Prop} {E : Exn → Rho → Prop} (h : (r (ρ.map lent)).post (fun x ρ' => ∃ d, cur ρ' x = some d ∧ ∃ c, d = .con c ∧ V1 (.con c, .shr) ρ) fun _ _ => False) : ((dBor r) ρ).post V1 E := by
  have key : ((r >>= dcur) (ρ.map lent)).post (fun d ρ' => ∃ c, d = .con c ∧ V1 (.con c, .shr) ρ) fun _ _ => False := (post_bind _ _).mpr (Res.post_ok h fun x ρ' z => post_cur.mpr z)
  unfold dBor
  cases q : (r >>= dcur) (ρ.map lent) with
  | stuck => rw [q] at key; exact key.elim
  | ex x ρ' => rw [q] at key; exact key.elim
  | ok d ρ' =>
    rw [q] at key
    obtain ⟨c, rfl, z⟩ := key
    exact z
theorem e_con {c : V} {P : V → Prop} (h : P c) : ∃ c', D.con c = .con c' ∧ P c' := ⟨c, rfl, h⟩
section
variable {ρ : Rho} {i : Nat} {d e : D} {p o : Bool}
theorem ex_slot {P : List D → Bool → Prop} {xs : List D} (hi : ρ[i]? = some (some ⟨.lst xs, true, p⟩)) (h : P xs p) : ∃ xs p, ρ[i]? = some (some ⟨.lst xs, true, p⟩) ∧ P xs p := ⟨_, _, hi, h⟩
theorem ex_app {P : D → List D → Bool → Prop} {xs : List D} (hi : ρ[i]? = some (some ⟨.lst xs, true, p⟩)) (hl : xs.length < cap) (h : P d xs p) : ∃ d' xs' p', [(d, Kd.shr)] = [(d', Kd.shr)] ∧ ρ[i]? = some (some ⟨.lst xs', true, p'⟩) ∧ xs'.length < cap ∧ P d' xs' p' := ⟨d, xs, p, rfl, hi, hl, h⟩
theorem ex_par {P : D × Kd → D × Kd → Prop} {x y : D × Kd} (hn : nonm x = some ()) (h : P x y) : ∃ x' y', [x, y] = [x', y'] ∧ nonm x' = some () ∧ P x' y' := ⟨x, y, rfl, hn, h⟩
theorem ex_zip {P : List D → List D → Prop} {a b : List D} (h : P a b) : ∃ a' b', [D.lst a, D.lst b] = [D.lst a', D.lst b'] ∧ P a' b' := ⟨a, b, rfl, h⟩
theorem sl_i {P : Int → Prop} {j : Int} (h : P j) : ∃ j', cur ρ (.con (.int j), .shr) = some (D.int j') ∧ P j' := ⟨j, rfl, h⟩
theorem sl_l {P : List D → Prop} {xs : List D} (h : P xs) : ∃ j', cur ρ (.lst xs, .shr) = some (.lst j') ∧ P j' := ⟨xs, rfl, h⟩
theorem sl_lF {P : List D → Prop} {xs : List D} (h : P xs) : ∃ j', cur ρ (.lst xs, .fr) = some (.lst j') ∧ P j' := ⟨xs, rfl, h⟩
theorem sl_iN {P : Int → Prop} {j : Int} (hi : ρ[i]? = some (some ⟨.con (.int j), o, p⟩)) (h : P j) : ∃ j', cur ρ (e, .nm i) = some (D.int j') ∧ P j' := ⟨j, by unfold cur; dsimp only; rw [hi], h⟩
theorem sl_lN {P : List D → Prop} {xs : List D} (hi : ρ[i]? = some (some ⟨.lst xs, o, p⟩)) (h : P xs) : ∃ j', cur ρ (e, .nm i) = some (.lst j') ∧ P j' := ⟨xs, by unfold cur; dsimp only; rw [hi], h⟩
end
/-! ### small facts on data -/
theorem at_map {α : Type} {f : α → D} {xs : List α} {i : Nat} (h : i < xs.length) : atI (xs.map f) (i : Int) = some (f xs[i]) := by
  have h' : i < (xs.map f).length := by simpa using h
  unfold atI ixN
  rw [if_pos (by omega), if_pos (by omega)]
  simp [h]
theorem sameL_int : ∀ xs ys : List Int, sameL (xs.map fun n => D.con (.int n)) (ys.map fun n => D.con (.int n)) = decide (xs = ys)
  | [], [] => rfl
  | [], _ :: _ => rfl
  | _ :: _, [] => rfl
  | x :: xs, y :: ys => by
    show (sameV (.int x) (.int y) && sameL (xs.map _) (ys.map _)) = _
    rw [sameL_int xs ys]
    simp [sameV]
theorem okL_int (xs : List Int) (n : Nat) : okD (n + 1) (.lst (xs.map fun n => D.con (.int n))) = true := by
  unfold okD
  rw [List.all_eq_true]
  intro d hd
  obtain ⟨i, _, rfl⟩ := List.mem_map.mp hd
  unfold okD
  rfl
theorem strsD_map2 {α : Type} (f : α → Str) : ∀ xs : List α, strsD (xs.map fun a => D.con (.str (f a))) = some (xs.map f)
  | [] => rfl
  | x :: xs => by
    show (strsD (xs.map _)).map _ = _
    rw [strsD_map2 f xs]
    rfl
theorem blsD_true {α : Type} : ∀ xs : List α, blsD (xs.map fun _ => D.con (.bl true)) = some (xs.map fun _ => true)
  | [] => rfl
  | x :: xs => by
    show (blsD (xs.map _)).map _ = _
    rw [blsD_true xs]
    rfl
theorem x_join0 {α : Type} {f : α → Str} {xs : List α} {P : D × Kd → Prop} (h1 : ∀ a ∈ xs, (f a).length ≤ 1000) (hl : xs.length ≤ 10000) (h : P (.con (.str (Txt.join "" (xs.map f))), .shr)) :
    ∃ z, joinD (.con (.str "")) [.lst (xs.map fun a => D.con (.str (f a)))] = some z ∧ P z := by
  refine ⟨_, ?_, h⟩
  unfold joinD
  dsimp only
  rw [strsD_map2]
  dsimp only
  rw [if_pos]
  have : ∀ ys : List α, (∀ a ∈ ys, (f a).length ≤ 1000) → ((ys.map f).map (·.length)).sum ≤ 1000 * ys.length := by
    intro ys
    induction ys with
    | nil => intro _; simp
    | cons y ys ih =>
      intro h
      have := ih fun a ha => h a (List.mem_cons_of_mem _ ha)
      have := h y List.mem_cons_self
      simp only [List.map_cons, List.sum_cons, List.length_cons]
      omega
  have e := this xs h1
  have e0 : ("" : Str).length = 0 := rfl
  rw [e0]
  simp only [Nat.mul_zero, Nat.add_zero]
  omega
theorem rngD_at {n i : Nat} {x : D} (h : (rngD 0 n)[i]? = some x) : i < n ∧ x = .con (.int i) := by
  unfold rngD at h
  rw [List.getElem?_map] at h
  obtain ⟨j, h1, rfl⟩ := Option.map_eq_some_iff.mp h
  obtain ⟨h2, rfl⟩ := List.getElem?_eq_some_iff.mp h1
  simp at h2 ⊢
  exact h2
theorem rngD_len {n : Nat} : (rngD 0 n).length = n := by simp [rngD]
theorem br_dt {p : Prop} [Decidable p] {A B : Prop} (hp : p) (h : A) : Br (decide p) A B := by
  unfold Br
  rw [if_pos (decide_eq_true hp)]; exact h
theorem br_df {p : Prop} [Decidable p] {A B : Prop} (hp : ¬ p) (h : B) : Br (decide p) A B := by
  unfold Br
  rw [if_neg (fun z => hp (of_decide_eq_true z))]; exact h
theorem p_forI {t : Tg} {body : DS} {xs : List D} {ρ : Rho} {Q : Fl → Rho → Prop} {E : Exn → Rho → Prop} (I : Nat → Rho → Prop) (h0 : I 0 ρ)
    (hs : ∀ i x ρ, xs[i]? = some x → I i ρ → ((t.put x) ρ).post (fun _ ρ1 => (body ρ1).post (TurnK (I (i + 1)) Q) E) E) (he : ∀ ρ, I xs.length ρ → Q .nx ρ) : ((forD t body xs) ρ).post Q E :=
  for_inv I h0 (fun i x ρ e h => Res.post_ok (hs i x ρ e h) fun _ ρ1 z => Res.post_ok z fun f ρ2 z => by cases f <;> exact z) he
theorem p_forP {α : Type} (as : List α) (f : α → D) {t : Tg} {body : DS} {ρ : Rho} {Q : Fl → Rho → Prop} {E : Exn → Rho → Prop} (I : List α → Rho → Prop) (h0 : I [] ρ)
    (hs : ∀ pre a post ρ, as = pre ++ a :: post → I pre ρ → ((t.put (f a)) ρ).post (fun _ ρ1 => (body ρ1).post (TurnK (I (pre ++ [a])) Q) E) E) (he : ∀ ρ, I as ρ → Q .nx ρ) : ((forD t body (as.map f)) ρ).post Q E :=
  for_pre as f I h0 (fun pre a post ρ e h => Res.post_ok (hs pre a post ρ e h) fun _ ρ1 z => Res.post_ok z fun f ρ2 z => by cases f <;> exact z) he
theorem blsD_rep : ∀ n : Nat, blsD (List.replicate n (D.con (.bl true))) = some (List.replicate n true)
  | 0 => rfl
  | n + 1 => by
    show (blsD (List.replicate n _)).map _ = _
    rw [blsD_rep n]
    rfl
theorem x_allT {n : Nat} {W : V → Prop} (h : W (.bl true)) : ∃ v, allV [.lst (List.replicate n (D.con (.bl true)))] = some v ∧ W v :=
  ⟨_, by unfold allV; dsimp only; rw [blsD_rep]; simp, h⟩
theorem post_run {n : Nat} {r : DS} {args : List Arg} {Q : D → Bool → Rho → Prop} {E : Exn → Rho → Prop} : FRes.post (runFn n r args) Q E ↔ (r (args.map slotOf ++ List.replicate (n - args.length) none)).post (RunK args.length Q) (fun x ρ' => E x (ρ'.take args.length)) :=
  ⟨fun h => Res.post_ok (post_runFn.mp h) fun f ρ' q => by cases f <;> exact q, p_run⟩
theorem ex_args {ρ : Rho} {xs : List (D × Kd)} {a : List Arg} {P : List Arg → Prop} (e : argsOf ρ xs = some a) (h : P a) : ∃ x, argsOf ρ xs = some x ∧ P x := ⟨a, e, h⟩
theorem ix_nat {n p : Nat} (h : p < n) : ixN n (p : Int) = some p := by
  unfold ixN
  rw [if_pos (by omega), if_pos (by omega)]
  simp
end L2.VL
end
section
set_option Elab.async false
set_option linter.all false
set_option maxRecDepth 100000
/-! VLv (written by mkw.py): the rules again, over a post that does not unfold by itself. -/
namespace L2.VL
open PySem PySem.Spec PyProof.Rows
structure Res.pst {α : Type} (r : Res α) (Q : α → Rho → Prop) (E : Exn → Rho → Prop) : Prop where
  h : r.post Q E
structure FRes.pst (r : Option FRes) (Q : D → Bool → Rho → Prop) (E : Exn → Rho → Prop) : Prop where
  h : FRes.post r Q E
theorem pst_iff {α : Type} {r : Res α} {Q : α → Rho → Prop} {E : Exn → Rho → Prop} : r.pst Q E ↔ r.post Q E := ⟨fun z => z.h, fun z => ⟨z⟩⟩
theorem fpst_iff {r : Option FRes} {Q : D → Bool → Rho → Prop} {E : Exn → Rho → Prop} : FRes.pst r Q E ↔ FRes.post r Q E := ⟨fun z => z.h, fun z => ⟨z⟩⟩
section
variable {α β : Type} {ρ : Rho} {E : Exn → Rho → Prop} {Q : Fl → Rho → Prop} {a b : DS} {q qa qb : M Bool} {r ra rb rc : DE} {V1 : D × Kd → Rho → Prop} {T1 : Bool → Rho → Prop} {d e : D} {o p : Bool} {i j : Nat}
theorem w_p_run {n : Nat} {r : DS} {args : List Arg} {Q : D → Bool → Rho → Prop} (h : (r (args.map slotOf ++ List.replicate (n - args.length) none)).pst (RunK args.length Q) (fun x ρ' => E x (ρ'.take args.length))) : FRes.pst (runFn n r args) Q E := by
  simp only [pst_iff, fpst_iff] at *
  exact VL.p_run h
theorem w_p_seq (h : (a ρ).pst (SeqK b Q E) E) : ((dSeq a b) ρ).pst Q E := by
  simp only [pst_iff, fpst_iff] at *
  exact VL.p_seq h
theorem w_k_nx (h : (b ρ).pst Q E) : SeqK b Q E .nx ρ := by
  simp only [pst_iff, fpst_iff] at *
  exact VL.k_nx h
theorem w_p_next (h : Q .nx ρ) : (dNext ρ).pst Q E := by
  simp only [pst_iff, fpst_iff] at *
  exact VL.p_next h
theorem w_p_pass (h : Q .nx ρ) : (dPass ρ).pst Q E := by
  simp only [pst_iff, fpst_iff] at *
  exact VL.p_pass h
theorem w_p_brk (h : Q .brk ρ) : (dBrk ρ).pst Q E := by
  simp only [pst_iff, fpst_iff] at *
  exact VL.p_brk h
theorem w_p_cnt (h : Q .cnt ρ) : (dCnt ρ).pst Q E := by
  simp only [pst_iff, fpst_iff] at *
  exact VL.p_cnt h
theorem w_p_retN (h : Q (.ret .non false) ρ) : (dRetN ρ).pst Q E := by
  simp only [pst_iff, fpst_iff] at *
  exact VL.p_retN h
theorem w_p_expr (h : (r ρ).pst (fun _ ρ' => Q .nx ρ') E) : ((dExpr r) ρ).pst Q E := by
  simp only [pst_iff, fpst_iff] at *
  exact VL.p_expr h
theorem w_p_if (h : (q ρ).pst (fun k ρ' => Br k ((a ρ').pst Q E) ((b ρ').pst Q E)) E) : ((dIf q a b) ρ).pst Q E := by
  simp only [pst_iff, fpst_iff] at *
  exact VL.p_if h
theorem w_p_ret (h : (r ρ).pst (RetK Q) E) : ((dRet r) ρ).pst Q E := by
  simp only [pst_iff, fpst_iff] at *
  exact VL.p_ret h
theorem w_p_put {x : D × Kd} {U : Unit → Rho → Prop} (h : ∃ d, cur ρ x = some d ∧ pinned (settleR ρ x.2) i = false ∧ U () ((settleR ρ x.2).set i (some ⟨d, ownOf x.2, false⟩))) : ((dPut i x) ρ).pst U E := by
  simp only [pst_iff, fpst_iff] at *
  exact VL.p_put h
theorem w_p_set (h : (r ρ).pst (fun x ρ' => ((dPut i x) ρ').pst (fun _ ρ2 => Q .nx ρ2) E) E) : ((dSet i r) ρ).pst Q E := by
  simp only [pst_iff, fpst_iff] at *
  exact VL.p_set h
theorem w_q_shr {U : Unit → Rho → Prop} (hp : pinned ρ i = false) (h : U () (ρ.set i (some ⟨d, false, false⟩))) : ((dPut i (d, .shr)) ρ).pst U E := by
  simp only [pst_iff, fpst_iff] at *
  exact VL.q_shr hp h
theorem w_q_fr {U : Unit → Rho → Prop} (hp : pinned ρ i = false) (h : U () (ρ.set i (some ⟨d, true, false⟩))) : ((dPut i (d, .fr)) ρ).pst U E := by
  simp only [pst_iff, fpst_iff] at *
  exact VL.q_fr hp h
theorem w_q_nm {U : Unit → Rho → Prop} (hj : ρ[j]? = some (some ⟨d, o, p⟩)) (hp : pinned (ρ.set j (some ⟨d, false, p⟩)) i = false) (h : U () ((ρ.set j (some ⟨d, false, p⟩)).set i (some ⟨d, false, false⟩))) : ((dPut i (e, .nm j)) ρ).pst U E := by
  simp only [pst_iff, fpst_iff] at *
  exact VL.q_nm hj hp h
theorem w_p_par {bi bj : Bool} (h : ((dA [(bi, ra), (bj, rb)]) ρ).pst (fun xs ρ' => ∃ x y, xs = [x, y] ∧ nonm x = some () ∧ ((dPut j y) ρ').pst (fun _ ρ1 => ((dPut i x) ρ1).pst (fun _ ρ2 => Q .nx ρ2) E) E) E) : ((dPar i j bi bj ra rb) ρ).pst Q E := by
  simp only [pst_iff, fpst_iff] at *
  exact VL.p_par h
theorem w_p_fgB {is : List Nat} (h : (a (forgetR ρ is)).pst Q E) : ((dFgB is a) ρ).pst Q E := by
  simp only [pst_iff, fpst_iff] at *
  exact VL.p_fgB h
theorem w_p_fgE {is : List Nat} (h : (a ρ).pst (fun f ρ' => Q f (forgetR ρ' is)) E) : ((dFgE is a) ρ).pst Q E := by
  simp only [pst_iff, fpst_iff] at *
  exact VL.p_fgE h
theorem w_p_for {it : M (List D)} {t : Tg} (h : (it ρ).pst (fun xs ρ' => ((forD t a xs) ρ').pst Q E) E) : ((dFor it t a) ρ).pst Q E := by
  simp only [pst_iff, fpst_iff] at *
  exact VL.p_for h
theorem w_p_tg1 {U : Unit → Rho → Prop} (h : ((dPut i (d, .shr)) ρ).pst U E) : (((Tg.one i).put d) ρ).pst U E := by
  simp only [pst_iff, fpst_iff] at *
  exact VL.p_tg1 h
theorem w_p_tgm {U : Unit → Rho → Prop} {is : List Nat} {ds : List D} (h : ((VL.putAll is ds) ρ).pst U E) : (((Tg.many is).put (.tup ds)) ρ).pst U E := by
  simp only [pst_iff, fpst_iff] at *
  exact VL.p_tgm h
theorem w_p_pa0 {U : Unit → Rho → Prop} (h : U () ρ) : ((VL.putAll [] []) ρ).pst U E := by
  simp only [pst_iff, fpst_iff] at *
  exact VL.p_pa0 h
theorem w_p_pa1 {U : Unit → Rho → Prop} {is : List Nat} {ds : List D} (h : ((dPut i (d, .shr)) ρ).pst (fun _ ρ' => ((VL.putAll is ds) ρ').pst U E) E) : ((VL.putAll (i :: is) (d :: ds)) ρ).pst U E := by
  simp only [pst_iff, fpst_iff] at *
  exact VL.p_pa1 h
theorem w_p_unp {t : Tg} (h : (r ρ).pst (fun x ρ' => ((keep false x) ρ').pst (fun y ρ1 => ((t.put y.1) ρ1).pst (fun _ ρ2 => Q .nx ρ2) E) E) E) : ((dUnp t r) ρ).pst Q E := by
  simp only [pst_iff, fpst_iff] at *
  exact VL.p_unp h
theorem w_p_chk {U : Unit → Rho → Prop} {xs : List D} (hi : ρ[i]? = some (some ⟨.lst xs, true, p⟩)) (h : U () ρ) : ((chkOwn i) ρ).pst U E := by
  simp only [pst_iff, fpst_iff] at *
  exact VL.p_chk hi h
theorem w_p_mutEnd {g : List D → Option (List D × D)} {xs : List D} (hi : ρ[i]? = some (some ⟨.lst xs, true, p⟩)) (h : ∃ w, g xs = some w ∧ V1 (w.2, .shr) (ρ.set i (some ⟨.lst w.1, true, p⟩))) : ((mutEnd i g) ρ).pst V1 E := by
  simp only [pst_iff, fpst_iff] at *
  exact VL.p_mutEnd hi h
theorem w_p_app {xs : List D} (hi : ρ[i]? = some (some ⟨.lst xs, true, p⟩)) (h : ((dA [(false, r)]) ρ).pst (fun ys ρ' => ∃ d xs' p', ys = [(d, .shr)] ∧ ρ'[i]? = some (some ⟨.lst xs', true, p'⟩) ∧ xs'.length < cap ∧ V1 (.non, .shr) (ρ'.set i (some ⟨.lst (xs' ++ [d]), true, p'⟩))) E) : ((dMut i appG [(false, r)]) ρ).pst V1 E := by
  simp only [pst_iff, fpst_iff] at *
  exact VL.p_app hi h
theorem w_p_setIx {rk rv : DE} (h : (rv ρ).pst (fun x ρ1 => ((keep false x) ρ1).pst (fun y ρ2 => ∃ xs p, ρ2[i]? = some (some ⟨.lst xs, true, p⟩) ∧ (rk ρ2).pst (fun k ρ3 => ∃ kd, cur ρ3 k = some kd ∧ ∃ xs p, ρ3[i]? = some (some ⟨.lst xs, true, p⟩) ∧ ∃ w, setG kd y.1 xs = some w ∧ Q .nx (ρ3.set i (some ⟨.lst w.1, true, p⟩))) E) E) E) : ((dSetIx i rk rv) ρ).pst Q E := by
  simp only [pst_iff, fpst_iff] at *
  exact VL.p_setIx h
theorem w_p_var (hi : ρ[i]? = some (some ⟨d, o, p⟩)) (h : V1 (d, .nm i) ρ) : ((dVar i) ρ).pst V1 E := by
  simp only [pst_iff, fpst_iff] at *
  exact VL.p_var hi h
theorem w_p_con {v : V} (h : V1 (.con v, .shr) ρ) : ((dCon v) ρ).pst V1 E := by
  simp only [pst_iff, fpst_iff] at *
  exact VL.p_con h
theorem w_p_op2 {g : D → D → Option (D × Kd)} (h : (ra ρ).pst (fun x ρ1 => (rb ρ1).pst (fun y ρ2 => ∃ d, cur ρ2 x = some d ∧ ∃ e, cur ρ2 y = some e ∧ ∃ z, g d e = some z ∧ V1 z ρ2) E) E) : ((dOp2 g ra rb) ρ).pst V1 E := by
  simp only [pst_iff, fpst_iff] at *
  exact VL.p_op2 h
theorem w_p_cmp {g : D → D → Option Bool} (h : (ra ρ).pst (fun x ρ1 => (rb ρ1).pst (fun y ρ2 => ∃ d, cur ρ2 x = some d ∧ ∃ e, cur ρ2 y = some e ∧ ∃ k, g d e = some k ∧ V1 (.con (.bl k), .shr) ρ2) E) E) : ((dCmp g ra rb) ρ).pst V1 E := by
  simp only [pst_iff, fpst_iff] at *
  exact VL.p_cmp h
theorem w_p_chain {g g' : D → D → Option Bool} (h : (ra ρ).pst (fun x ρ1 => (rb ρ1).pst (fun y ρ2 => ∃ d, cur ρ2 x = some d ∧ ∃ e, cur ρ2 y = some e ∧ ∃ k, g d e = some k ∧ Br k ((rc ρ2).pst (fun u ρ3 => ∃ e', cur ρ3 y = some e' ∧ ∃ f, cur ρ3 u = some f ∧ ∃ k, g' e' f = some k ∧ V1 (.con (.bl k), .shr) ρ3) E) (V1 (.con (.bl false), .shr) ρ2)) E) E) : ((dChain g g' ra rb rc) ρ).pst V1 E := by
  simp only [pst_iff, fpst_iff] at *
  exact VL.p_chain h
theorem w_p_op1 {g : D → Option V} (h : (ra ρ).pst (fun x ρ1 => ∃ d, cur ρ1 x = some d ∧ ∃ v, g d = some v ∧ V1 (.con v, .shr) ρ1) E) : ((dOp1 g ra) ρ).pst V1 E := by
  simp only [pst_iff, fpst_iff] at *
  exact VL.p_op1 h
theorem w_p_dB (h : (r ρ).pst (fun x ρ1 => ∃ d, cur ρ1 x = some d ∧ ∃ k, asB d = some k ∧ T1 k ρ1) E) : ((dB r) ρ).pst T1 E := by
  simp only [pst_iff, fpst_iff] at *
  exact VL.p_dB h
theorem w_p_dTr (h : (r ρ).pst (fun x ρ1 => ∃ d, cur ρ1 x = some d ∧ ∃ k, truthD d = some k ∧ T1 k ρ1) E) : ((dTr r) ρ).pst T1 E := by
  simp only [pst_iff, fpst_iff] at *
  exact VL.p_dTr h
theorem w_p_not (h : (q ρ).pst (fun k ρ1 => T1 (!k) ρ1) E) : ((dNot q) ρ).pst T1 E := by
  simp only [pst_iff, fpst_iff] at *
  exact VL.p_not h
theorem w_p_and (h : (qa ρ).pst (fun k ρ1 => Br k ((qb ρ1).pst T1 E) (T1 false ρ1)) E) : ((dAnd qa qb) ρ).pst T1 E := by
  simp only [pst_iff, fpst_iff] at *
  exact VL.p_and h
theorem w_p_or (h : (qa ρ).pst (fun k ρ1 => Br k (T1 true ρ1) ((qb ρ1).pst T1 E)) E) : ((dOr qa qb) ρ).pst T1 E := by
  simp only [pst_iff, fpst_iff] at *
  exact VL.p_or h
theorem w_p_andV (h : ((dB ra) ρ).pst (fun k ρ1 => Br k ((rb ρ1).pst V1 E) (V1 (.con (.bl false), .shr) ρ1)) E) : ((dAndV ra rb) ρ).pst V1 E := by
  simp only [pst_iff, fpst_iff] at *
  exact VL.p_andV h
theorem w_p_orV (h : ((dB ra) ρ).pst (fun k ρ1 => Br k (V1 (.con (.bl true), .shr) ρ1) ((rb ρ1).pst V1 E)) E) : ((dOrV ra rb) ρ).pst V1 E := by
  simp only [pst_iff, fpst_iff] at *
  exact VL.p_orV h
theorem w_p_notV (h : ((dB ra) ρ).pst (fun k ρ1 => V1 (.con (.bl !k), .shr) ρ1) E) : ((dNotV ra) ρ).pst V1 E := by
  simp only [pst_iff, fpst_iff] at *
  exact VL.p_notV h
theorem w_p_ifx (h : (q ρ).pst (fun k ρ1 => Br k ((ra ρ1).pst V1 E) ((rb ρ1).pst V1 E)) E) : ((dIfx q ra rb) ρ).pst V1 E := by
  simp only [pst_iff, fpst_iff] at *
  exact VL.p_ifx h
theorem w_p_true (h : T1 true ρ) : ((pure true : M Bool) ρ).pst T1 E := by
  simp only [pst_iff, fpst_iff] at *
  exact VL.p_true h
section
variable {L1 : List (D × Kd) → Rho → Prop} {l : List (Bool × DE)}
theorem w_p_a0 (h : L1 [] ρ) : ((dA []) ρ).pst L1 E := by
  simp only [pst_iff, fpst_iff] at *
  exact VL.p_a0 h
theorem w_p_aT (h : (r ρ).pst (fun x ρ1 => ((dA l) ρ1).pst (fun ys ρ2 => L1 (x :: ys) ρ2) E) E) : ((dA ((true, r) :: l)) ρ).pst L1 E := by
  simp only [pst_iff, fpst_iff] at *
  exact VL.p_aT h
theorem w_p_aF (h : (r ρ).pst (fun x ρ1 => ((keep false x) ρ1).pst (fun y ρ2 => ((dA l) ρ2).pst (fun ys ρ3 => L1 (y :: ys) ρ3) E) E) E) : ((dA ((false, r) :: l)) ρ).pst L1 E := by
  simp only [pst_iff, fpst_iff] at *
  exact VL.p_aF h
theorem w_k_shr (h : V1 (d, .shr) ρ) : ((keep false (d, .shr)) ρ).pst V1 E := by
  simp only [pst_iff, fpst_iff] at *
  exact VL.k_shr h
theorem w_k_fr (h : V1 (d, .shr) ρ) : ((keep false (d, .fr)) ρ).pst V1 E := by
  simp only [pst_iff, fpst_iff] at *
  exact VL.k_fr h
theorem w_k_nm (hi : ρ[i]? = some (some ⟨d, o, p⟩)) (h : V1 (d, .shr) (ρ.set i (some ⟨d, false, p⟩))) : ((keep false (e, .nm i)) ρ).pst V1 E := by
  simp only [pst_iff, fpst_iff] at *
  exact VL.k_nm hi h
theorem w_p_lst (h : ((dA l) ρ).pst (fun xs ρ1 => ∃ ds, shrs xs = some ds ∧ ds.length ≤ cap ∧ V1 (.lst ds, .fr) ρ1) E) : ((dLst l) ρ).pst V1 E := by
  simp only [pst_iff, fpst_iff] at *
  exact VL.p_lst h
theorem w_p_tup (h : ((dA l) ρ).pst (fun xs ρ1 => ∃ ds, shrs xs = some ds ∧ ds.length ≤ cap ∧ V1 (.tup ds, .shr) ρ1) E) : ((dTup l) ρ).pst V1 E := by
  simp only [pst_iff, fpst_iff] at *
  exact VL.p_tup h
theorem w_p_bi {g : List D → Option (D × Kd)} (h : ((dA l) ρ).pst (fun xs ρ1 => ∃ ds, curs ρ1 xs = some ds ∧ ∃ z, g ds = some z ∧ V1 z ρ1) E) : ((dBi g l) ρ).pst V1 E := by
  simp only [pst_iff, fpst_iff] at *
  exact VL.p_bi h
theorem w_p_mt {ty : D → Bool} {g : D → List D → Option (D × Kd)} (h : (r ρ).pst (fun x ρ1 => ∃ d, cur ρ1 x = some d ∧ ty d = true ∧ ((dA l) ρ1).pst (fun xs ρ2 => ∃ d, cur ρ2 x = some d ∧ ∃ ds, curs ρ2 xs = some ds ∧ ∃ z, g d ds = some z ∧ V1 z ρ2) E) E) : ((dMt ty g r l) ρ).pst V1 E := by
  simp only [pst_iff, fpst_iff] at *
  exact VL.p_mt h
theorem w_p_isi {u : Ty} (h : (r ρ).pst (fun x ρ1 => ∃ d, cur ρ1 x = some d ∧ ∃ t, tyOf d = some t ∧ V1 (.con (.bl (isiT t u)), .shr) ρ1) E) : ((dIsi u r) ρ).pst V1 E := by
  simp only [pst_iff, fpst_iff] at *
  exact VL.p_isi h
theorem w_p_call {F : Fn} {np : Nat} {dfl : List D} (h : ((dA l) ρ).pst (fun xs ρ' => uniqW (wsOf ρ' 0 xs) = true ∧ xs.length + dfl.length = np ∧ ∃ args, argsOf ρ' xs = some args ∧ FRes.pst (F (args ++ dfl.map shA)) (fun d b outs => V1 (d, frK b) (backs xs outs 0 ρ')) (fun x outs => E x (backs xs outs 0 ρ'))) E) : ((dCall F np dfl l) ρ).pst V1 E := by
  simp only [pst_iff, fpst_iff] at *
  exact VL.p_call h
theorem w_p_iLst {S1 : List D → Rho → Prop} (h : (r ρ).pst (fun x ρ1 => ((keep false x) ρ1).pst (fun y ρ2 => ∃ xs, lstOf y.1 = some xs ∧ S1 xs ρ2) E) E) : ((iLst r) ρ).pst S1 E := by
  simp only [pst_iff, fpst_iff] at *
  exact VL.p_iLst h
theorem w_p_iRng {g : List D → Option (List D)} {S1 : List D → Rho → Prop} (h : ((dA l) ρ).pst (fun xs ρ1 => ∃ ds, curs ρ1 xs = some ds ∧ ∃ z, g ds = some z ∧ S1 z ρ1) E) : ((iRng g l) ρ).pst S1 E := by
  simp only [pst_iff, fpst_iff] at *
  exact VL.p_iRng h
theorem w_p_iZip {S1 : List D → Rho → Prop} (h : ((dA l) ρ).pst (fun xs ρ1 => ∃ ds, shrs xs = some ds ∧ ∃ a b, ds = [.lst a, .lst b] ∧ S1 ((a.zip b).map fun p => .tup [p.1, p.2]) ρ1) E) : ((iZip2 l) ρ).pst S1 E := by
  simp only [pst_iff, fpst_iff] at *
  exact VL.p_iZip h
theorem w_p_slL0 {hi : DE} (h : (r ρ).pst (fun x ρ1 => (hi ρ1).pst (fun y ρ2 => ∃ j : Int, cur ρ2 y = some (.int j) ∧ ∃ ds, cur ρ2 x = some (.lst ds) ∧ V1 (.lst (cutD ds none (some j)), .fr) ρ2) E) E) : ((dSlL r none (some hi)) ρ).pst V1 E := by
  simp only [pst_iff, fpst_iff] at *
  exact VL.p_slL0 h
end
theorem w_p_noX {m : M α} {Q : α → Rho → Prop} (h : (m ρ).pst Q fun _ _ => False) : ((noX m) ρ).pst Q E := by
  simp only [pst_iff, fpst_iff] at *
  exact VL.p_noX h
theorem w_p_lcT {t : Tg} {x : D} {U : Option D → Rho → Prop} (h : ((t.put x) ρ).pst (fun _ ρ1 => (q ρ1).pst (fun k ρ2 => Br k ((r ρ2).pst (fun y ρ3 => ((keep false y) ρ3).pst (fun z ρ4 => U (some z.1) ρ4) E) fun _ _ => False) (U none ρ2)) fun _ _ => False) E) : ((lcT t q r x) ρ).pst U E := by
  simp only [pst_iff, fpst_iff] at *
  exact VL.p_lcT h
theorem w_p_lc {own : List Nat} {it : M (List D)} {t : Tg} (h : (it ρ).pst (fun xs ρ1 => own.all (fun i => !pinned ρ1 i) = true ∧ ((lcD own t q r xs) ρ1).pst (fun ds ρ2 => ds.length ≤ cap ∧ V1 (.lst ds, .fr) (wipeR ρ2 own)) E) E) : ((dLc own it t q r) ρ).pst V1 E := by
  simp only [pst_iff, fpst_iff] at *
  exact VL.p_lc h
end
section
variable {P : D × Kd → Prop} {B : Bool → Prop} {W : V → Prop} {i j : Int} {xs ys : List D} {s t : Str}
end
theorem w_p_bor {r : DE} {ρ : Rho} {V1 : D × Kd → Rho → Prop} {E : Exn → Rho → Prop} (h : (r (ρ.map lent)).pst (fun x ρ' => ∃ d, cur ρ' x = some d ∧ ∃ c, d = .con c ∧ V1 (.con c, .shr) ρ) fun _ _ => False) : ((dBor r) ρ).pst V1 E := by
  simp only [pst_iff, fpst_iff] at *
  exact VL.p_bor h
theorem w_p_forI {t : Tg} {body : DS} {xs : List D} {ρ : Rho} {Q : Fl → Rho → Prop} {E : Exn → Rho → Prop} (I : Nat → Rho → Prop) (h0 : I 0 ρ) (hs : ∀ i x ρ, xs[i]? = some x → I i ρ → ((t.put x) ρ).pst (fun _ ρ1 => (body ρ1).pst (TurnK (I (i + 1)) Q) E) E) (he : ∀ ρ, I xs.length ρ → Q .nx ρ) : ((forD t body xs) ρ).pst Q E := by
  simp only [pst_iff, fpst_iff] at *
  exact VL.p_forI I h0 hs he
theorem w_p_forP {α : Type} (as : List α) (f : α → D) {t : Tg} {body : DS} {ρ : Rho} {Q : Fl → Rho → Prop} {E : Exn → Rho → Prop} (I : List α → Rho → Prop) (h0 : I [] ρ) (hs : ∀ pre a post ρ, as = pre ++ a :: post → I pre ρ → ((t.put (f a)) ρ).pst (fun _ ρ1 => (body ρ1).pst (TurnK (I (pre ++ [a])) Q) E) E) (he : ∀ ρ, I as ρ → Q .nx ρ) : ((forD t body (as.map f)) ρ).pst Q E := by
  simp only [pst_iff, fpst_iff] at *
  exact VL.p_forP as f I h0 hs he
theorem w_lc_inv {own : List Nat} {t : Tg} {q : M Bool} {r : DE} {xs : List D} {ρ : Rho} {Q : List D → Rho → Prop} {E : Exn → Rho → Prop} (I : Nat → List D → Rho → Prop) (h0 : I 0 [] (wipeR ρ own)) (hs : ∀ i x acc ρ, xs[i]? = some x → I i acc ρ → ((lcT t q r x) ρ).pst (fun o ρ' => I (i + 1) (acc ++ o.toList) (wipeR ρ' own)) E) (he : ∀ acc ρ, I xs.length acc (wipeR ρ own) → Q acc ρ) : ((lcD own t q r xs) ρ).pst Q E := by
  simp only [pst_iff, fpst_iff] at *
  exact VL.lc_inv I h0 hs he
theorem w_run {n : Nat} {r : DS} {args : List Arg} {Q : D → Bool → Rho → Prop} {E : Exn → Rho → Prop} : FRes.pst (runFn n r args) Q E ↔ (r (args.map slotOf ++ List.replicate (n - args.length) none)).pst (RunK args.length Q) (fun x ρ' => E x (ρ'.take args.length)) := by
  rw [pst_iff, fpst_iff]
  exact post_run
theorem w_go {r : Option FRes} {Q Q' : D → Bool → Rho → Prop} {E' : Exn → Rho → Prop} (h : FRes.pst r Q fun _ _ => False) (h1 : ∀ d b o, Q d b o → Q' d b o) : FRes.pst r Q' E' := ⟨FRes.go h.h h1⟩
theorem w_mono {r : Option FRes} {Q Q' : D → Bool → Rho → Prop} {E E' : Exn → Rho → Prop} (h : FRes.pst r Q E) (h1 : ∀ d b o, Q d b o → Q' d b o) (h2 : ∀ x o, E x o → E' x o) : FRes.pst r Q' E' := ⟨FRes.mono h.h h1 h2⟩
end L2.VL
end
section
set_option Elab.async false
set_option linter.all false
set_option maxRecDepth 100000
/-! VLw: more operations: list(range(n)), pop, insert, reverse, extend, is True, walks of strings, repetition, xs[::-1], min and max of a list. -/
namespace L2.VL
open PySem PySem.Spec PyProof.Rows
section
variable {X : Cx} {pos : Pos} {a b e : Expr} {ra rb r : DE}
/-! ### list(range(n)) -/
def lrgD (d : D) : Option (D × Kd) := match d with
  | .con (.int n) => if 0 ≤ n ∧ n ≤ 16777216 then some (.lst (rngD 0 n.toNat), .fr) else none
  | _ => none
def dLrg (ra : DE) : DE := do
  let x ← ra
  let d ← dcur x
  mOpt (lrgD d)
theorem rg_reps {K : PySem.W.Frag} {H : Hp} {L : Addr → Prop} {n : Int} : Reps K H L (rgV 0 n) (rngD 0 n.toNat) := by
  unfold rgV rngD
  rw [show n - 0 = n by omega]
  have : ∀ xs : List Nat, Reps K H L (xs.map fun i => V.int (0 + (i : Nat))) (xs.map fun (k : Nat) => D.int (0 + k)) := by
    intro xs
    induction xs with
    | nil => exact .nil
    | cons x xs ih => exact .cons (.con _) ih
  exact this _
theorem se_lrg {p p2 pos2 : Pos} (hc : X.calm = true) (hm : X.mg "list" = none) (hm2 : X.mg "range" = none) (ha : SE X a ra) (hg : Gl X "list" := by rfl) (hg2 : Gl X "range" := by rfl)
    (na2 : starEach [a] X.env = (false, eval a X.env) :: starEach [] X.env := by rfl)
    (na : starEach [.Call (.Name "range" p) [a] [] pos2] X.env = (false, eval (.Call (.Name "range" p) [a] [] pos2) X.env) :: starEach [] X.env := by rfl) :
    SE X (.Call (.Name "list" p2) [.Call (.Name "range" p) [a] [] pos2] [] pos) (dLrg ra) := fun W tk =>
  PE.imp (pe_listRg hc hg hm (prg_1 hg2 hm2 (ha W tk) na2) na) fun σ H Q ⟨G, O, ρ, hK, R, h⟩ => by
    refine tE.at hK R (Res.post_ok ((post_bind _ _).mp h) fun x ρ1 q O1 v H1 R1 => ?_)
    obtain ⟨d, e1, q3⟩ := post_cur.mp ((post_bind _ _).mp q)
    obtain ⟨z, e2, q4⟩ := (post_opt _).mp q3
    have v1 := R1.view R1.tm.1 e1
    unfold lrgD at e2
    split at e2
    · rename_i n
      split at e2
      · rename_i hn
        cases e2
        refine ⟨n, v1.con, RgOk.of_le (by omega) (by omega) (by omega) (by omega), fun p hp => ?_⟩
        obtain ⟨O4, R4⟩ := R1.pop.fresh (d := .lst (rngD 0 n.toNat)) hp (.lst rg_reps)
        exact q4 O4 _ _ R4
      · cases e2
    · cases e2
/-! ### lists that are changed -/
def popG (ys ds : List D) : Option (List D × D) := match ds with
  | [.con (.int i)] => if small62 i then (ixN ys.length i).bind fun k => (ys[k]?).map fun y => (ys.eraseIdx k, y) else none
  | _ => none
theorem Reps.erase {K : PySem.W.Frag} {H : Hp} {L : Addr → Prop} : ∀ {vs : List V} {ds : List D} {k : Nat}, Reps K H L vs ds → Reps K H L (vs.eraseIdx k) (ds.eraseIdx k)
  | _, _, _, .nil => .nil
  | _, _, 0, .cons _ b => b
  | _, _, k + 1, .cons a b => .cons a b.erase
theorem Reps.at? {K : PySem.W.Frag} {H : Hp} {L : Addr → Prop} : ∀ {vs : List V} {ds : List D} {k : Nat} {d : D}, Reps K H L vs ds → ds[k]? = some d → ∃ v, vs[k]? = some v ∧ Rep K H L v d
  | _, _, 0, d, .cons a b, h => ⟨_, rfl, by cases (Option.some.inj h); exact a⟩
  | _, _, k + 1, d, .cons a b, h => by
    obtain ⟨v, h1, h2⟩ := b.at? (k := k) (by simpa using h)
    exact ⟨v, by simpa using h1, h2⟩
theorem ms_pop {K : PySem.W.Frag} : MutS K rPopAt popG := fun H L a vs as ys ds ys' rt Q h1 r1 r2 e => by
  unfold popG at e
  split at e
  · rename_i i
    split at e
    · rename_i hs
      obtain ⟨k, e1, e2⟩ := Option.bind_eq_some_iff.mp e
      obtain ⟨y, e3, e4⟩ := Option.map_eq_some_iff.mp e2
      cases e4
      obtain ⟨v, h2, h3⟩ := r1.at? e3
      cases r2 with
      | cons c1 c2 =>
        cases c2
        have e5 := c1.con_inv
        subst e5
        rw [← r1.len] at e1
        obtain ⟨q1, q2, q3, q4⟩ := ixN_seq e1
        unfold small62 at hs
        simp only [Bool.and_eq_true, decide_eq_true_eq] at hs
        exact ⟨_, v, r1.erase, h3, fun q => ⟨a, vs, i, k, v, rfl, rfl, h1, by omega, by omega, q1, h2, q⟩⟩
    · cases e
  · cases e
def insG (ys ds : List D) : Option (List D × D) := match ds with
  | [.con (.int i), d] => if ys.length < cap ∧ 0 ≤ i ∧ i < 2 ^ 62 then some (ys.take i.toNat ++ [d] ++ ys.drop i.toNat, .non) else none
  | _ => none
def revG (ys ds : List D) : Option (List D × D) := match ds with
  | [] => some (ys.reverse, .non)
  | _ => none
/-! ### is True, is not True -/
def isBD (x y : D) : Option Bool := match x, y with
  | .con (.bl i), .con (.bl j) => some (decide (i = j))
  | _, _ => none
def notBD (x y : D) : Option Bool := (isBD x y).map not
theorem cs_isB {K : PySem.W.Frag} : CmpS K rIsB isBD := fun a b H x y k O Q v1 v2 e q => by
  unfold isBD at e
  split at e
  · rename_i i j
    cases e
    exact ⟨i, j, v1.con, v2.con, q⟩
  · cases e
theorem cs_notB {K : PySem.W.Frag} : CmpS K rNotB notBD := fun a b H x y k O Q v1 v2 e q => by
  obtain ⟨k', e1, e2⟩ := Option.map_eq_some_iff.mp e
  unfold isBD at e1
  split at e1
  · rename_i i j
    cases e1
    exact ⟨i, j, v1.con, v2.con, by rw [e2]; exact q⟩
  · cases e1
/-! ### repetition -/
theorem rmulW (i : Int) (t : Tok) (l : Addr) (its : Array Value) (n : Nat) (sl : Array (Option Value)) :
    Meets (Builtin.«int.__rmul__» ⟨[.int i t, .ref l], []⟩) (fun _ R s => s.heap.get? l = some { cls := .type "list", dict := none, data := .seq its n, slots := sl } ∧
      R (.ok (.ret Value.notImplemented)) s) :=
  .of_wp fun prog w A R s h => by
    obtain ⟨hp, g, d, tk, os⟩ := s
    obtain ⟨hl, h⟩ := h
    wp_walk
    exact ⟨_, rfl, h⟩
theorem lmulW (l : Addr) (its : Array Value) (n : Nat) (sl : Array (Option Value)) (k : Int) (u : Tok) (h0 : ¬(!Builtin.List.listFitsIndex k) = true) (h1 : ¬its.size * k.toNat > (2 ^ 63 - 1) / 8) (h2 : ¬Builtin.List.listTooLong (its.size * k.toNat) = true) :
    Meets (Builtin.«list.__mul__» ⟨[.ref l, .int k u], []⟩) (fun _ R s => s.heap.get? l = some { cls := .type "list", dict := none, data := .seq its n, slots := sl } ∧
      R (.ok (.ret (Value.ref s.heap.objs.size))) { s with heap := s.heap.push { cls := Value.type "list", data := Data.seq (List.foldl (fun x1 x2 => x1 ++ x2) #[] (List.replicate (if its.isEmpty = true then 0 else k.toNat) its)) }, toks := s.toks }) :=
  .of_wp fun prog w A R s h => by
    obtain ⟨hp, g, d, tk, os⟩ := s
    obtain ⟨hl, h⟩ := h
    have hsz := AutoListH.joined_fits h2
    wp_walk
    refine wpAny_ite_false (decide_eq_false (Nat.not_lt.mpr hsz)) ?_
    wp_walk
    exact ⟨_, rfl, h⟩
def rRepL (K : PySem.W.Frag) : R2 := fun x y H Q => ∃ l k xs, x = .ref l ∧ y = .int k ∧ SqL K H l xs ∧ -(2 ^ 63) ≤ k ∧ k < 2 ^ 63 ∧ xs.length * k.toNat ≤ sizeLine ∧
  ∀ p, H p = none → Q (.ref p) (upd H p (.lst (List.replicate k.toNat xs).flatten))
theorem op_repL : OpR X (binaryOp .Mult) (rRepL X.K) := by
  intro pins s σ H x y v u Q I rx ry h
  obtain ⟨p, c, xs, rfl, rfl, hH, h1, h2, hz, q⟩ := h
  cases rx
  obtain ⟨t, rfl⟩ := ry
  obtain ⟨us, r, ⟨o1, n, e, c1, d1, k1⟩, _⟩ := I.list hH
  obtain ⟨cls1, dd1, dt1, sl1⟩ := o1
  dsimp only at c1 d1 k1
  subst c1 d1 k1
  have hl := r.length
  have lenO : us.toArray.size * c.toNat ≤ sizeLine := by rw [List.size_toArray, ← hl]; exact hz
  have capO : ¬ us.toArray.size * c.toNat > (2 ^ 63 - 1) / 8 := by
    have : (sizeLine : Nat) ≤ (2 ^ 63 - 1) / 8 := by decide
    omega
  have fitO : ¬ (!Builtin.List.listFitsIndex c) = true := by
    rw [fitsIndex_both h1 h2]
    exact Bool.false_ne_true
  have tooL : ¬ Builtin.List.listTooLong (us.toArray.size * c.toNat) = true := by
    rw [notLongL lenO]
    exact Bool.false_ne_true
  have newO : List.foldl (fun x1 x2 => x1 ++ x2) #[] (List.replicate (if us.toArray.isEmpty = true then 0 else c.toNat) us.toArray) = (List.replicate c.toNat us).flatten.toArray := by
    have f0 : ∀ m : Nat, List.foldl (fun x1 x2 => x1 ++ x2) #[] (List.replicate m us.toArray) = (List.replicate m us).flatten.toArray := fun m => by
      have w := foldl_rep us m []
      rwa [List.nil_append] at w
    rw [f0]
    cases us with
    | nil => simp
    | cons a r' => rw [if_neg (by simp)]
  refine wpAny_binaryOp_repeat_ref (T := "list") (U := "int") (by decide) ⟨_, e, rfl⟩ (fun s' => typeIs_int s' c t) noFill_list_mul F.fills_int_mul F.slot_int_rmul repeat_list F.slot_int_index.lookup
    (call_meets F.slot_int_rmul (typeIs_int s c t) F.entry_int_rmul (F.args_int_rmul_2 _ _) (rmulW c t p us.toArray n sl1)
      ⟨e, rfl, ⟨_, e, rfl⟩, call_meets F.slot_list_mul ⟨_, e, rfl⟩ F.entry_list_mul (F.args_list_mul_2 _ _) (lmulW p us.toArray n sl1 c t fitO capO tooL) ⟨e, ?_⟩⟩)
  rw [newO]
  exact ⟨.ref _, _, I.lnew (t' := s.toks) (r.rep c.toNat) (by rw [PyProof.Rows.lm_len_rep_flat, Nat.mul_comm]; exact hz), rfl, q _ I.fresh⟩
def mulA (x y : D) : Option (D × Kd) := match x, y with
  | .con (.int i), .con (.int j) => if CMulB i j then some (.con (.int (i * j)), .shr) else none
  | .lst xs, .con (.int k) => if small62 k && decide (xs.length * k.toNat ≤ cap) then some (.lst (List.replicate k.toNat xs).flatten, .fr) else none
  | _, _ => none
theorem Reps.rep {K : PySem.W.Frag} {H : Hp} {L : Addr → Prop} {vs : List V} {ds : List D} (h : Reps K H L vs ds) : ∀ n : Nat, Reps K H L (List.replicate n vs).flatten (List.replicate n ds).flatten
  | 0 => .nil
  | n + 1 => by
    rw [List.replicate_succ, List.replicate_succ, List.flatten_cons, List.flatten_cons]
    exact h.append (h.rep n)
abbrev rMulA (K : PySem.W.Frag) : R2 := fun x y H Q => rI CMul (fun i j => .int (i * j)) x y H Q ∨ rRepL K x y H Q
theorem op_mulA : OpR X (binaryOp .Mult) (rMulA X.K) := OpR.or op_mul op_repL
theorem os_mulA {K : PySem.W.Frag} : OpS2 K (rMulA K) mulA := by
  intro G O σ H ρ a b x y z Q hK R v1 v2 e q
  unfold mulA at e
  split at e
  · rename_i i j
    exact .inl (os_mul G O σ H ρ a b _ _ z Q hK R v1 v2 e q)
  · rename_i xs k
    split at e
    · rename_i hs
      cases e
      rw [Bool.and_eq_true, decide_eq_true_eq] at hs
      obtain ⟨hs1, hs2⟩ := hs
      unfold small62 at hs1
      simp only [Bool.and_eq_true, decide_eq_true_eq] at hs1
      obtain ⟨a1, vs, rfl, s1, r1⟩ := v1.lst
      refine .inr ⟨a1, k, vs, rfl, v2.con, s1, by omega, by omega, by rw [r1.len, ← cap_eq]; exact hs2, fun p hp => ?_⟩
      rw [← hK] at r1
      obtain ⟨O4, R4⟩ := R.fresh (d := .lst (List.replicate k.toNat xs).flatten) hp (.lst (r1.rep _))
      exact q O4 _ _ R4
    · cases e
  · cases e
/-! ### xs[::-1] -/
def revLD (d : D) : Option (D × Kd) := match d with
  | .lst xs => some (.lst xs.reverse, .fr)
  | _ => none
def dRevL (ra : DE) : DE := do
  let x ← ra
  let d ← dcur x
  mOpt (revLD d)
theorem Reps.rev {K : PySem.W.Frag} {H : Hp} {L : Addr → Prop} : ∀ {vs : List V} {ds : List D}, Reps K H L vs ds → Reps K H L vs.reverse ds.reverse
  | _, _, .nil => .nil
  | _, _, .cons a b => by
    rw [List.reverse_cons, List.reverse_cons]
    exact b.rev.append (.cons a .nil)
theorem se_revL {k : Nat} {p1 p2 p3 : Pos} (ha : SE X e ra) : SE X (.Subscript e (.Slice none none (some (.UnaryOp .USub (.Constant (.int 1) k p1) p2)) p3) pos) (dRevL ra) := fun W tk =>
  PE.imp (pe_revL (ha W tk)) fun σ H Q ⟨G, O, ρ, hK, R, h⟩ => by
    refine tE.at hK R (Res.post_ok ((post_bind _ _).mp h) fun x ρ1 q O1 v H1 R1 => ?_)
    obtain ⟨d, e1, q3⟩ := post_cur.mp ((post_bind _ _).mp q)
    obtain ⟨z, e2, q4⟩ := (post_opt _).mp q3
    have v1 := R1.view R1.tm.1 e1
    unfold revLD at e2
    split at e2
    · rename_i xs
      cases e2
      obtain ⟨a1, vs, rfl, s1, r1⟩ := v1.lst
      rw [hK] at s1
      refine ⟨a1, vs, rfl, s1, fun p hp => ?_⟩
      obtain ⟨O4, R4⟩ := R1.pop.fresh (d := .lst xs.reverse) hp (.lst r1.rev)
      exact q4 O4 _ _ R4
    · cases e2
/-! ### min, max of a list of ints -/
def minL : List Int → Option Int
  | [] => none
  | x :: xs => some (xs.foldl min x)
def maxL : List Int → Option Int
  | [] => none
  | x :: xs => some (xs.foldl max x)
def minLV (ds : List D) : Option V := match ds with
  | [.lst xs] => (intsD xs).bind fun ns => (minL ns).map .int
  | _ => none
def maxLV (ds : List D) : Option V := match ds with
  | [.lst xs] => (intsD xs).bind fun ns => (maxL ns).map .int
  | _ => none
theorem minL_of : ∀ {ns : List Int} {m k : Int}, minL ns = some m → k ∈ ns → (∀ y ∈ ns, k ≤ y) → k = m := by
  intro ns m k h hk hm
  cases ns with
  | nil => cases h
  | cons x xs =>
    cases h
    have : ∀ (xs : List Int) (x : Int), (xs.foldl min x = x ∨ xs.foldl min x ∈ xs) ∧ xs.foldl min x ≤ x ∧ ∀ y ∈ xs, xs.foldl min x ≤ y := by
      intro xs
      induction xs with
      | nil => intro x; exact ⟨.inl rfl, Int.le_refl _, fun y hy => (nomatch hy)⟩
      | cons z zs ih =>
        intro x
        obtain ⟨h1, h2, h3⟩ := ih (min x z)
        have e : (z :: zs).foldl min x = zs.foldl min (min x z) := rfl
        rw [e]
        refine ⟨?_, by omega, fun y hy => ?_⟩
        · rcases h1 with h1 | h1
          · rcases (by omega : min x z = x ∨ min x z = z) with h | h
            · left; omega
            · right; rw [h1, h]; exact List.mem_cons_self
          · right; exact List.mem_cons_of_mem _ h1
        · rcases List.mem_cons.mp hy with h | h
          · subst h; omega
          · exact h3 y h
    obtain ⟨h1, h2, h3⟩ := this xs x
    have a1 : xs.foldl min x ∈ x :: xs := by
      rcases h1 with h | h
      · rw [h]; exact List.mem_cons_self
      · exact List.mem_cons_of_mem _ h
    have a2 := hm _ a1
    have a3 : xs.foldl min x ≤ k := by
      rcases List.mem_cons.mp hk with h | h
      · rw [h]; exact h2
      · exact h3 _ h
    omega
theorem os_minL {K : PySem.W.Frag} : OpS K (rMin K) (scB minLV) := OpS.sc fun H vs ds v O Q w e q => by
  unfold minLV at e
  split at e
  · obtain ⟨ns, e1, e2⟩ := Option.bind_eq_some_iff.mp e
    obtain ⟨m, e3, rfl⟩ := Option.map_eq_some_iff.mp e2
    obtain ⟨v, rfl, v1⟩ := w.one
    obtain ⟨a1, us, rfl, s1, r1⟩ := v1.lst
    rw [intsD_of e1] at r1
    rw [r1.con_inv] at s1
    refine ⟨a1, ns, rfl, s1, ?_, fun k hk hm => ?_⟩
    · cases ns with
      | nil => cases e3
      | cons _ _ => simp
    · rw [minL_of e3 hk hm]; exact q
  · cases e
/-! ### walks of a text; of whatever is there -/
def chrs (z : Str) : List D := z.cps.toList.map fun c => .con (.str ⟨#[c]⟩)
def strOf (d : D) : Option (List D) := match d with
  | .con (.str z) => some (chrs z)
  | _ => none
def iStrD (r : DE) : M (List D) := do
  let x ← r
  let y ← keep false x
  mOpt (strOf y.1)
theorem walk_str {K : PySem.W.Frag} {T : List Tmp} {z : Str} : WalkOk K T (Its z) (chrs z) := by
  intro G O σ H ρ i T' hK R
  have hl : (chrs z).length = z.cps.size := by simp [chrs]
  refine ⟨fun hi => by rw [hl] at hi; exact hi, fun hi => by rw [hl] at hi; exact hi, fun x hx v H' y => ?_⟩
  obtain ⟨rfl, c, hc, rfl⟩ := y
  unfold chrs at hx
  rw [List.getElem?_map] at hx
  obtain ⟨c', h1, rfl⟩ := Option.map_eq_some_iff.mp hx
  rw [Array.getElem?_toList] at h1
  rw [h1] at hc
  cases hc
  exact ⟨O, R.con _⟩
theorem si_str {tg : Expr} (he : SE X e r) : SI X tg e (iStrD r) := fun W tk => PI.imp (pi_str (he W tk)) fun σ H Q ⟨G, O, ρ, hK, R, h⟩ =>
  ⟨G, O, ρ, hK, R, Res.post_ok ((post_bind _ _).mp h) fun x ρ1 q O1 v H1 R1 => by
    obtain ⟨d, e1, q2⟩ := keep_false ((post_bind _ _).mp q)
    obtain ⟨xs, e2, q3⟩ := (post_opt _).mp q2
    obtain ⟨O2, R2⟩ := R1.settle (d := d) e1
    unfold strOf at e2
    dsimp only at e2
    split at e2
    · rename_i z
      cases e2
      have v1 : v = .str z := (show Vw G.K H1 O2 v (.con (.str z)) from .inl R2.tm.1).con
      exact ⟨z, v1, q3 O2 H1 _ _ (NoNm.nil.cons fun i z => by cases z) R2 walk_str⟩
    · cases e2⟩
theorem PI.or {tg : Expr} {t t' : TI} (h : PI X tg e t) (h' : PI X tg e t') : PI X tg e fun σ H R => t σ H R ∨ t' σ H R := ⟨fun pins s σ H R I q => by
  rcases q with q | q
  · exact h.run pins s σ H R I q
  · exact h'.run pins s σ H R I q⟩
def anyOf (d : D) : Option (List D) := match d with
  | .lst xs => some xs
  | .tup xs => some xs
  | .con (.str z) => some (chrs z)
  | _ => none
def iAny (r : DE) : M (List D) := do
  let x ← r
  let y ← keep false x
  mOpt (anyOf y.1)
theorem iAny_split {ρ : Rho} {Q : List D → Rho → Prop} {E : Exn → Rho → Prop} (h : ((iAny r) ρ).post Q E) : ((iLst r) ρ).post Q E ∨ ((iTuple r) ρ).post Q E ∨ ((iStrD r) ρ).post Q E := by
  have h1 := (post_bind _ _).mp h
  unfold iLst iTuple iStrD
  simp only [post_bind]
  cases e1 : r ρ with
  | stuck => rw [e1] at h1; exact h1.elim
  | ex x ρ1 => exact .inl (by rw [e1] at h1; exact h1)
  | ok x ρ1 =>
    rw [e1] at h1
    have h2 := (post_bind _ _).mp h1
    simp only [Res.post]
    cases e2 : keep false x ρ1 with
    | stuck => rw [e2] at h2; exact h2.elim
    | ex x ρ1 => exact .inl (by rw [e2] at h2; exact h2)
    | ok y ρ2 =>
      rw [e2] at h2
      obtain ⟨xs, e3, h3⟩ := (post_opt _).mp h2
      unfold anyOf at e3
      split at e3
      · rename_i ys e4
        cases e3
        exact .inl ((post_opt (lstOf y.1)).mpr ⟨_, by rw [e4]; rfl, h3⟩)
      · rename_i ys e4
        cases e3
        exact .inr (.inl ((post_opt (tupOf y.1)).mpr ⟨_, by rw [e4]; rfl, h3⟩))
      · rename_i z e4
        cases e3
        exact .inr (.inr ((post_opt (strOf y.1)).mpr ⟨_, by rw [e4]; rfl, h3⟩))
      · cases e3
theorem si_any {tg : Expr} (he : SE X e r) : SI X tg e (iAny r) := fun W tk => PI.imp (PI.or (si_lst he W tk) (PI.or (si_tup he W tk) (si_str he W tk))) fun σ H Q ⟨G, O, ρ, hK, R, h⟩ => by
  rcases iAny_split h with h | h | h
  · exact .inl ⟨G, O, ρ, hK, R, h⟩
  · exact .inr (.inl ⟨G, O, ρ, hK, R, h⟩)
  · exact .inr (.inr ⟨G, O, ρ, hK, R, h⟩)
/-! ### a, b, c = e1, e2, e3 -/
def dPar3 (i j l : Nat) (b1 b2 b3 : Bool) (ra rb rc : DE) : DS := do
  let xs ← dA [(b1, ra), (b2, rb), (b3, rc)]
  match xs with
  | [x, y, z] => do
    let _ ← mOpt (nonm x)
    let _ ← mOpt (nonm y)
    dPut l z
    dPut j y
    dPut i x
    pure .nx
  | _ => mStuck
theorem nonm_of {x : D × Kd} {v : V} {T : List Tmp} (h : nonm x = some ()) (hT : NoNm T) : NoNm (⟨v, x.1, x.2⟩ :: T) := hT.cons fun i e => by
  unfold nonm at h
  have e' : x.2 = .nm i := e
  rw [e'] at h
  cases h
theorem ss_par3 {pj : VK → VK} (i j l : Nat) (b1 b2 b3 : Bool) {c : Expr} {rc : DE} {x y z : Str} {px py pz pt : Pos} {kt k2 : Nat} {pt2 : Pos} (hx : CxG X) (ha : SE X a ra) (hb : SE X b rb) (hc : SE X c rc) (hi : X.N[i]? = some x := by rfl) (hj : X.N[j]? = some y := by rfl) (hl : X.N[l]? = some z := by rfl)
    (hij : i ≠ j := by decide) (hil : i ≠ l := by decide) (hjl : j ≠ l := by decide)
    (hlx : X.env.scope.names.lookup x = some .local := by rfl) (hly : X.env.scope.names.lookup y = some .local := by rfl) (hlz : X.env.scope.names.lookup z = some .local := by rfl)
    (he1 : starEach [a, b, c] X.env = (false, eval a X.env) :: starEach [b, c] X.env := by rfl) (he2 : starEach [b, c] X.env = (false, eval b X.env) :: starEach [c] X.env := by rfl) (he3 : starEach [c] X.env = (false, eval c X.env) :: starEach [] X.env := by rfl)
    (hw : swappedStores [.Tuple [.Name x px, .Name y py, .Name z pz] kt pt] (.Tuple [a, b, c] k2 pt2) X.env = pure (some [x, y, z]) := by rfl)
    (hs : swapsWithSole [.Tuple [.Name x px, .Name y py, .Name z pz] kt pt] (.Tuple [a, b, c] k2 pt2) pos.line X.env = pure false := by rfl) :
    SSf pj X (.Assign [.Tuple [.Name x px, .Name y py, .Name z pz] kt pt] (.Tuple [a, b, c] k2 pt2) pos) (dPar3 i j l b1 b2 b3 ra rb rc) := fun W tk =>
  PS.imp (ps_par3 hx.calm hx.nd hi hj hl hij hil hjl hlx hly hlz (sa_cons (b := b1) ha (sa_cons (b := b2) hb (sa_cons (b := b3) hc sa_nil he3) he2) he1 W tk) hw hs) fun D σ H ⟨G, O, ρ, hK, R, h⟩ => by
    refine ⟨G, O, ρ, [], hK, R, Res.post_mono ((post_bind _ _).mp h) (fun xs ρ1 q O1 vs H1 hl R1 => ?_) fun x ρ' q => q σ⟩
    split at q
    · rename_i x1 y1 z1
      match vs, hl with
      | [v, u, w], _ =>
        refine ⟨_, _, _, rfl, ?_⟩
        obtain ⟨_, e1, q1⟩ := (post_opt _).mp ((post_bind _ _).mp q)
        obtain ⟨_, e2, q2⟩ := (post_opt _).mp ((post_bind _ _).mp q1)
        have R2 : Rel G O1 σ H1 ρ1 [⟨w, z1.1, z1.2⟩, ⟨u, y1.1, y1.2⟩, ⟨v, x1.1, x1.2⟩] := R1
        obtain ⟨O3, ρ3, R3, q3⟩ := put_post (nonm_of e2 (nonm_of e1 .nil)) R2 ((post_bind _ _).mp q2)
        obtain ⟨O4, ρ4, R4, q4⟩ := put_post (nonm_of e1 .nil) R3 ((post_bind _ _).mp q3)
        obtain ⟨O5, ρ5, R5, q5⟩ := put_post .nil R4 ((post_bind _ _).mp q4)
        refine q5 O5 _ _ ?_
        rw [List.set_comm _ _ hij, List.set_comm _ _ hil, List.set_comm _ _ hjl]
        exact R5
    · exact q.elim
theorem p_par3 {i j l : Nat} {b1 b2 b3 : Bool} {ra rb rc : DE} {ρ : Rho} {Q : Fl → Rho → Prop} {E : Exn → Rho → Prop} (h : ((dA [(b1, ra), (b2, rb), (b3, rc)]) ρ).post (fun xs ρ' => ∃ x y z, xs = [x, y, z] ∧ nonm x = some () ∧ nonm y = some () ∧ ((dPut l z) ρ').post (fun _ ρ0 => ((dPut j y) ρ0).post (fun _ ρ1 => ((dPut i x) ρ1).post (fun _ ρ2 => Q .nx ρ2) E) E) E) E) : ((dPar3 i j l b1 b2 b3 ra rb rc) ρ).post Q E :=
  (post_bind _ _).mpr (Res.post_ok h fun xs ρ' ⟨x, y, z, e, e2, e3, w⟩ => by
    subst e
    show Res.post ((mOpt (nonm x) >>= fun _ => mOpt (nonm y) >>= fun _ => dPut l z >>= fun _ => dPut j y >>= fun _ => dPut i x >>= fun _ => pure Fl.nx) ρ') Q E
    rw [post_bind, e2]
    show Res.post ((mOpt (nonm y) >>= fun _ => dPut l z >>= fun _ => dPut j y >>= fun _ => dPut i x >>= fun _ => pure Fl.nx) ρ') Q E
    rw [post_bind, e3]
    exact (post_bind _ _).mpr (Res.post_ok w fun _ ρ1 z => (post_bind _ _).mpr (Res.post_ok z fun _ ρ2 z => (post_bind _ _).mpr (Res.post_ok z fun _ ρ3 z => z))))
/-! ### (a, b) >= (c, d) -/
def rGeP (K : PySem.W.Frag) : R2 := fun x y H Q => ∃ (p p2 : Addr) (a b c d : Int), x = .ref p ∧ y = .ref p2 ∧ SqT K H p [.int a, .int b] ∧ SqT K H p2 [.int c, .int d] ∧ Q (.bl (if a = c then decide (d ≤ b) else decide (c ≤ a))) H
theorem vals_pair {a b : Int} {us : List Value} (h : Vals [.int a, .int b] us) : ∃ t1 t2, us = [.int a t1, .int b t2] := by
  cases h with
  | cons r1 h =>
    cases h with
    | cons r2 h =>
      cases h
      obtain ⟨t1, rfl⟩ := r1
      obtain ⟨t2, rfl⟩ := r2
      exact ⟨t1, t2, rfl⟩
theorem eqAt_dec {A : Around} {s : Shared} (i j : Int) (t u : Tok) : SeqAt.EqAt A s (.int i t) (.int j u) (decide (i = j)) := by
  have z : (i == j) = decide (i = j) := by
    by_cases q : i = j
    · rw [decide_eq_true q, q]; simp
    · rw [decide_eq_false q]; simp [q]
  rw [← z]
  exact SeqAt.EqAt.int_int _ _ _ _
theorem op_geP (hu : X.A.units < cLine) : OpR X (compareOp .GtE) (rGeP X.K) := by
  intro pins s σ H x y v u Q I rx ry h
  obtain ⟨p, p2, a, b, c, d, rfl, rfl, h1, h2, q⟩ := h
  cases rx
  cases ry
  obtain ⟨us, r1, t1, _⟩ := I.tuple h1
  obtain ⟨ws, r2, t2, _⟩ := I.tuple h2
  obtain ⟨k1, k2, rfl⟩ := vals_pair r1
  obtain ⟨k3, k4, rfl⟩ := vals_pair r2
  have R := Ob.RcOp.tuples_ge (A := X.A) (s := s) (e := fun j => if j = 0 then decide (a = c) else decide (b = d)) (r := fun j => if j = 0 then decide (c ≤ a) else decide (d ≤ b)) t1 t2 hu
    (fun j g1 g2 => match j, g1, g2 with
      | 0, _, _ => eqAt_dec a c k1 k3
      | 1, _, _ => eqAt_dec b d k2 k4
      | j + 2, g1, _ => by simp at g1; omega)
    (fun j g1 g2 _ => match j, g1, g2 with
      | 0, _, _ => Ob.RcOp.ge_int _ _ _ _
      | 1, _, _ => Ob.RcOp.ge_int _ _ _ _
      | j + 2, g1, _ => by simp at g1; omega)
  refine R X.prog X.w X.xe (EP X pins σ Q) ⟨.bl _, H, I, rfl, ?_⟩
  have e : Ob.lexAt (fun j => if j = 0 then decide (a = c) else decide (b = d)) (fun j => if j = 0 then decide (c ≤ a) else decide (d ≤ b)) (decide ([Value.int a k1, Value.int b k2].toArray.size ≥ [Value.int c k3, Value.int d k4].toArray.size)) 0 (min [Value.int a k1, Value.int b k2].toArray.size [Value.int c k3, Value.int d k4].toArray.size) = (if a = c then decide (d ≤ b) else decide (c ≤ a)) := by
    show (if decide (a = c) = true then (if decide (b = d) = true then true else decide (d ≤ b)) else decide (c ≤ a)) = _
    by_cases h : a = c
    · rw [if_pos (decide_eq_true h), if_pos h]
      by_cases g : b = d
      · rw [if_pos (decide_eq_true g)]; exact (decide_eq_true (by omega)).symm
      · rw [if_neg (fun z => g (of_decide_eq_true z))]
    · rw [if_neg (fun z => h (of_decide_eq_true z)), if_neg h]
  rw [e]
  exact q
def geA (x y : D) : Option Bool := match x, y with
  | .con (.int i), .con (.int j) => some (decide (j ≤ i))
  | .tup [.con (.int a), .con (.int b)], .tup [.con (.int c), .con (.int d)] => some (if a = c then decide (d ≤ b) else decide (c ≤ a))
  | _, _ => none
abbrev rGeA (K : PySem.W.Frag) : R2 := fun x y H Q => rI0 (fun i j => .bl (decide (j ≤ i))) x y H Q ∨ rGeP K x y H Q
theorem op_geA {k : Nat} (hr : Room k X.A) : OpR X (compareOp .GtE) (rGeA X.K) := OpR.or op_ge (op_geP (by have := hr.units; omega))
theorem cs_geA {K : PySem.W.Frag} : CmpS K (rGeA K) geA := fun x y H d1 d2 k O Q v1 v2 e q => by
  unfold geA at e
  split at e
  · cases e
    exact .inl ⟨_, _, v1.con, v2.con, q⟩
  · rename_i i1 i2 i3 i4
    cases e
    obtain ⟨a1, vs, rfl, s1, r1⟩ := v1.tup
    obtain ⟨a2, us, rfl, s2, r2⟩ := v2.tup
    have e1 := Reps.con_inv (f := V.int) (xs := [i1, i2]) r1
    have e2 := Reps.con_inv (f := V.int) (xs := [i3, i4]) r2
    rw [e1] at s1
    rw [e2] at s2
    exact .inr ⟨a1, a2, _, _, _, _, rfl, rfl, s1, s2, q⟩
  · cases e
/-! ### in: a list, a tuple, or a text in a text -/
def strIn (a b : Str) : Bool := !(Builtin.Str.occurrences b a 0 b.length 1).isEmpty
def inS (x y : D) : Option Bool := match x, y with
  | .con (.str a), .con (.str b) => some (strIn a b)
  | _, _ => none
def inA (x y : D) : Option Bool := (inD x y).or (inS x y)
def notInA (x y : D) : Option Bool := (inA x y).map not
abbrev rInS : R2 := fun x y H Q => ∃ i j, x = .str i ∧ y = .str j ∧ Q (.bl (!(Builtin.Str.occurrences j i 0 j.length 1).isEmpty)) H
abbrev rNotInS : R2 := fun x y H Q => ∃ i j, x = .str i ∧ y = .str j ∧ Q (.bl (!(!(Builtin.Str.occurrences j i 0 j.length 1).isEmpty))) H
theorem op_inA : OpR X (compareOp .In) (fun x y H Q => rIn X.K false x y H Q ∨ rInS x y H Q) := OpR.or op_in_seq op_in_str
theorem op_notInA : OpR X (compareOp .NotIn) (fun x y H Q => rIn X.K true x y H Q ∨ rNotInS x y H Q) := OpR.or op_notIn_seq op_notin_str
theorem inS_of {K : PySem.W.Frag} {H : Hp} {O : Own} {u w : V} {x y : D} {k : Bool} (v1 : Vw K H O u x) (v2 : Vw K H O w y) (e : inS x y = some k) : ∃ i j, u = .str i ∧ w = .str j ∧ strIn i j = k := by
  unfold inS at e
  split at e
  · cases e
    exact ⟨_, _, v1.con, v2.con, rfl⟩
  · cases e
theorem cs_inA {K : PySem.W.Frag} : CmpS K (fun x y H Q => rIn K false x y H Q ∨ rInS x y H Q) inA := fun a b H x y k O Q v1 v2 e q => by
  unfold inA at e
  cases h : inD x y with
  | some j =>
    rw [h] at e
    cases e
    exact .inl (cs_in a b H x y k O Q v1 v2 h q)
  | none =>
    rw [h] at e
    obtain ⟨i, j, e1, e2, e3⟩ := inS_of v1 v2 (show inS x y = some k from e)
    exact .inr ⟨i, j, e1, e2, by subst e3; exact q⟩
theorem cs_notInA {K : PySem.W.Frag} : CmpS K (fun x y H Q => rIn K true x y H Q ∨ rNotInS x y H Q) notInA := fun a b H x y k O Q v1 v2 e q => by
  obtain ⟨k', e1, e0⟩ := Option.map_eq_some_iff.mp e
  unfold inA at e1
  cases h : inD x y with
  | some j =>
    rw [h] at e1
    cases e1
    exact .inl (cs_notin a b H x y k O Q v1 v2 (by unfold notInD; rw [h]; exact congrArg some e0) q)
  | none =>
    rw [h] at e1
    obtain ⟨i, j, e4, e2, e3⟩ := inS_of v1 v2 (show inS x y = some k' from e1)
    refine .inr ⟨i, j, e4, e2, ?_⟩
    subst e3
    rw [← e0] at q
    exact q
/-! ### a method without arguments that changes its list -/
theorem dMut0_of {W : WX} {rr : V → List V → Hp → VK → Prop} {i : Nat} {g : List D → List D → Option (List D × D)} (hs : MutS X.K rr g) (σ : St) (H : Hp) (Q : VK) (h : tE X.K W (dMut i g []) σ H Q) : tBM0 X.K "list" rr (tVar i) σ H Q := by
  obtain ⟨G, O, ρ, hK, R, h⟩ := h
  obtain ⟨z0, q0, h⟩ := post_chk.mp ((post_bind _ _).mp h)
  obtain ⟨a, vs0, h1, h2, r0⟩ := own_at R (getOwn_of q0)
  refine ⟨.ref a, h1, .inl ⟨rfl, vs0, .inl (.inl h2)⟩, ?_⟩
  have q := (post_bind _ _).mp h
  obtain ⟨ds, e1, q2⟩ := (post_opt _).mp ((post_bind _ _).mp (show ((pure [] : M (List (D × Kd))) ρ).post _ _ from q))
  obtain ⟨z, w, q1, qg, q3⟩ := post_mutEnd.mp q2
  have eo := getOwn_of q1
  obtain ⟨a2, vs1, h3, h4, r4⟩ := own_at R eo
  rw [h1] at h3
  cases h3
  cases e1
  rw [hK] at r4
  obtain ⟨vs', rv, k1, k2, k3⟩ := hs H (lin O) a vs1 [] z.1 [] w.1 w.2 Q h4 r4 .nil qg
  rw [← hK] at k1 k2
  obtain ⟨R3, oa⟩ := R.write (d := .lst w.1) eo rfl h1 h4 (.lst k1)
  refine k3 (q3 O rv _ (R3.push ?_))
  refine Rep.mono (fun b ob n eb => ⟨?_, n⟩) k2
  rw [upd_ne]
  · exact eb
  · exact fun z => n (by rw [z]; unfold lin; rw [oa]; simp)
theorem se_mut0 (i : Nat) {id : String} {name x : Str} {rr : V → List V → Hp → VK → Prop} {g : List D → List D → Option (List D × D)} {apos xpos : Pos} (slot : PySem.Slot "list" name id) (hty : typeOf (.builtin id) = pure (.type "method_descriptor")) (hm : MtR X id rr)
    (hs : MutS X.K rr g) (hN : X.N[i]? = some x := by rfl) (hv : Vis X.env.scope x := by first | exact Or.inl rfl | exact Or.inr (Or.inl rfl) | exact Or.inr (Or.inr rfl)) (hd : (x == ("__debug__" : Str)) = false := by decide)
    (hcd : (x == ("__classdict__" : Str)) = false := by decide)
    (hbase : attributeBase (.Name x xpos) name X.env (eval (.Name x xpos) X.env) = eval (.Name x xpos) X.env := by rfl) (hline : (apos.endLine == pos.line) = true := by rfl) :
    SE X (.Call (.Attribute (.Name x xpos) name apos) [] [] pos) (dMut i g []) := fun W tk =>
  PE.imp (pe_bm0 PySem.F.plainAttrs_list slot hty hm (pe_var hN hv hd hcd) hbase hline) (dMut0_of hs)
theorem ms_rev {K : PySem.W.Frag} : MutS K rReverse revG := fun H L a vs as ys ds ys' rt Q h1 r1 r2 e => by
  unfold revG at e
  split at e
  · cases e
    cases r2
    exact ⟨_, .non, r1.rev, .con _, fun q => ⟨a, vs, rfl, rfl, h1, q⟩⟩
  · cases e
theorem ms_ins {K : PySem.W.Frag} : MutS K (fun x vs H Q => ∃ (l : Addr) (xs : List V) (i : Int) (y : V), x = .ref l ∧ vs = [.int i, y] ∧ H l = some (.lst xs) ∧ xs.length < sizeLine ∧ 0 ≤ i ∧ i < 2 ^ 63 ∧
    Q .non (upd H l (.lst (xs.take i.toNat ++ [y] ++ xs.drop i.toNat)))) insG := fun H L a vs as ys ds ys' rt Q h1 r1 r2 e => by
  unfold insG at e
  split at e
  · rename_i i d
    split at e
    · rename_i hz
      cases e
      cases r2 with
      | cons c1 c2 =>
        cases c2 with
        | cons c2 c3 =>
          cases c3
          have e5 := c1.con_inv
          subst e5
          exact ⟨_, .non, ((r1.take _).append (.cons c2 .nil)).append (r1.drop _), .con _, fun q => ⟨a, vs, i, _, rfl, rfl, h1, by rw [r1.len, ← cap_eq]; exact hz.1, hz.2.1, by have := hz.2.2; omega, q⟩⟩
    · cases e
  · cases e
end
end L2.VL
end
section
set_option Elab.async false
set_option linter.all false
set_option maxRecDepth 100000
/-! VLx: sorted of a list of pairs of ints. -/
namespace L2.VL
open PySem PySem.Spec PyProof.Rows
inductive PairsAt (K : PySem.W.Frag) (H : Hp) : List V → List (Int × Int) → Prop
  | nil : PairsAt K H [] []
  | cons {t : Addr} {a b : Int} {xs : List V} {ps : List (Int × Int)} : SqT K H t [.int a, .int b] → PairsAt K H xs ps → PairsAt K H (.ref t :: xs) ((a, b) :: ps)
/-- the pair that stands at a reference -/
def pairIn (h : Heap) (u : Value) : Int × Int := match u with
  | .ref t => match h.get? t with
    | some o => match o.data with
      | .seq its _ => match its.toList with
        | [.int a _, .int b _] => (a, b)
        | _ => (0, 0)
      | _ => (0, 0)
    | none => (0, 0)
  | _ => (0, 0)
def lexLe (p q : Int × Int) : Bool := !SrtO.lexB q p
def rSortP (K : PySem.W.Frag) : List V → Hp → VK → Prop := fun vs H Q => ∃ (a : Addr) (xs : List V) (ps : List (Int × Int)), vs = [V.ref a] ∧ SqL K H a xs ∧ PairsAt K H xs ps ∧
  ∀ (zs : List (V × (Int × Int))) (p : Addr), zs.Perm (xs.zip ps) → (zs.map (·.2)).Pairwise (fun u v => lexLe u v = true) → H p = none → Q (.ref p) (upd H p (.lst (zs.map (·.1))))
section
variable {X : Cx} {pins : List (Addr × Obj)} {σ : St} {H : Hp} {s : Shared}
theorem pairs_in (I : Inv X pins σ H s) : ∀ {xs : List V} {ps : List (Int × Int)} {us : List Value}, PairsAt X.K H xs ps → Vals xs us →
    xs.zip ps = us.map (fun u => (backV u, pairIn s.heap u)) ∧ xs = us.map backV ∧ ∀ u ∈ us, Srt.IsPair s.heap u (pairIn s.heap u).1 (pairIn s.heap u).2 ∧ ∃ a, u = .ref a
  | _, _, _, .nil, .nil => ⟨rfl, rfl, fun u hu => (nomatch hu)⟩
  | _, _, _ :: us, .cons (t := t) (a := a) (b := b) h1 h2, .cons r rr => by
    cases r
    obtain ⟨e1, e2, e3⟩ := pairs_in I h2 rr
    obtain ⟨its, r1, ⟨o, ho, hc, n, hd⟩, _⟩ := I.tuple h1
    obtain ⟨k1, k2, rfl⟩ := vals_pair r1
    have pe : pairIn s.heap (.ref t) = (a, b) := by
      unfold pairIn
      dsimp only
      rw [ho]
      dsimp only
      rw [hd]
    refine ⟨?_, ?_, fun u hu => ?_⟩
    · rw [List.zip_cons_cons, List.map_cons, e1, pe]
      rfl
    · rw [List.map_cons, ← e2]
      rfl
    · rcases List.mem_cons.mp hu with e | e
      · subst e
        rw [pe]
        exact ⟨⟨t, o, k1, k2, n, rfl, ho, hc, hd⟩, t, rfl⟩
      · exact e3 u e
theorem cr_sortP : CallR X (.builtin "sorted") (rSortP X.K) := by
  intro pins s σ H vs us Q I r h
  obtain ⟨a, xs, ps, rfl, hs, hx, q⟩ := h
  obtain ⟨its, rv, hl, hz⟩ := I.list hs
  obtain ⟨u, rfl, ru⟩ := vals1 r
  obtain rfl : u = Value.ref a := ru
  obtain ⟨e1, e2, e3⟩ := pairs_in I hx rv
  refine SrtO.sorted_pairsO (k := pairIn s.heap) hl.isList (by rw [← rv.length]; exact hz) (fun v hv => (e3 v hv).1) fun h' d out h1 h2 kp hd hn => ?_
  obtain ⟨n, hn⟩ := hn
  have h3 : ∀ u ∈ out, ∃ a, u = Value.ref a := fun u hu => (e3 u (h2.perm.mem_iff.mp hu)).2
  have pz : (out.map fun u => (backV u, pairIn s.heap u)).Perm (xs.zip ps) := by
    rw [e1]
    exact h2.perm.map _
  have sz : ((out.map fun u => (backV u, pairIn s.heap u)).map (·.2)).Pairwise (fun u v => lexLe u v = true) := by
    rw [List.map_map, List.pairwise_map]
    refine List.Pairwise.imp ?_ h1
    intro x y hxy
    unfold lexLe
    show (!SrtO.lexB (pairIn s.heap y) (pairIn s.heap x)) = true
    rw [show SrtO.lexB (pairIn s.heap y) (pairIn s.heap x) = false from hxy]
    rfl
  have q' := q _ d pz sz (I.hok.fresh hd)
  have e4 : (out.map fun u => (backV u, pairIn s.heap u)).map (·.1) = out.map backV := by
    rw [List.map_map]
    rfl
  rw [e4] at q'
  refine ⟨.ref d, upd H d (.lst (out.map backV)), I.laid (t' := s.toks) kp hd ⟨?_, out, n, vals_back h3, hn⟩, rfl, q'⟩
  rw [List.length_map, h2.perm.length_eq, ← rv.length]
  exact hz
end
/-! ### on data -/
def pairsD : List D → Option (List (Int × Int))
  | [] => some []
  | .tup [.con (.int a), .con (.int b)] :: ds => (pairsD ds).map ((a, b) :: ·)
  | _ => none
abbrev pairD (p : Int × Int) : D := .tup [.con (.int p.1), .con (.int p.2)]
theorem pairsD_of : ∀ {ds : List D} {ps : List (Int × Int)}, pairsD ds = some ps → ds = ps.map pairD
  | [], _, e => by cases e; rfl
  | .tup [.con (.int a), .con (.int b)] :: ds, ps, e => by
    obtain ⟨r, e1, rfl⟩ := Option.map_eq_some_iff.mp (show (pairsD ds).map ((a, b) :: ·) = some ps from e)
    rw [List.map_cons, ← pairsD_of e1]
theorem pairsD_map : ∀ ps : List (Int × Int), pairsD (ps.map pairD) = some ps
  | [] => rfl
  | p :: ps => by
    show (pairsD (ps.map pairD)).map _ = _
    rw [pairsD_map ps]
    rfl
def sortP (ps : List (Int × Int)) : List (Int × Int) := ps.mergeSort lexLe
theorem lexLe_iff {p q : Int × Int} : lexLe p q = true ↔ p.1 < q.1 ∨ (p.1 = q.1 ∧ p.2 ≤ q.2) := by
  unfold lexLe
  rw [Bool.not_eq_true', SrtO.lexB_no]
  omega
theorem sortP_unique {ps zs : List (Int × Int)} (hp : zs.Perm ps) (hs : zs.Pairwise fun u v => lexLe u v = true) : zs = sortP ps := by
  have p := List.mergeSort_perm ps lexLe
  have s2 := List.pairwise_mergeSort (le := lexLe) (fun a b c h1 h2 => by rw [lexLe_iff] at *; omega) (fun a b => by
    rw [Bool.or_eq_true, lexLe_iff, lexLe_iff]; omega) ps
  refine List.Perm.eq_of_pairwise (fun a b _ _ h1 h2 => ?_) hs s2 (hp.trans p.symm)
  rw [lexLe_iff] at h1 h2
  exact Prod.ext (by omega) (by omega)
theorem Rep.tupAt {K : PySem.W.Frag} {H : Hp} {L : Addr → Prop} {v : V} {ds : List D} (h : Rep K H L v (.tup ds)) : ∃ a vs, v = .ref a ∧ SqT K H a vs ∧ Reps K H L vs ds := by
  cases h with
  | obj n r c =>
    cases c with
    | tup q => exact ⟨_, _, rfl, .inl r, q⟩
  | kt k q => exact ⟨_, _, rfl, .inr k, q⟩
theorem reps_pairs {K : PySem.W.Frag} {H : Hp} {L : Addr → Prop} : ∀ {xs : List V} {ps : List (Int × Int)}, Reps K H L xs (ps.map pairD) → PairsAt K H xs ps ∧ ∀ z ∈ xs.zip ps, Rep K H L z.1 (pairD z.2)
  | _, [], .nil => ⟨.nil, fun z hz => (nomatch hz)⟩
  | _, (a, b) :: ps, .cons c1 c2 => by
    obtain ⟨h1, h2⟩ := reps_pairs c2
    obtain ⟨t, vs, rfl, s1, r1⟩ := Rep.tupAt c1
    have e1 := Reps.con_inv (f := V.int) (xs := [a, b]) r1
    rw [e1] at s1
    refine ⟨.cons s1 h1, fun z hz => ?_⟩
    rw [List.zip_cons_cons] at hz
    rcases List.mem_cons.mp hz with e | e
    · subst e; exact c1
    · exact h2 z e
theorem reps_of {K : PySem.W.Frag} {H : Hp} {L : Addr → Prop} : ∀ {zs : List (V × (Int × Int))}, (∀ z ∈ zs, Rep K H L z.1 (pairD z.2)) → Reps K H L (zs.map (·.1)) ((zs.map (·.2)).map pairD)
  | [], _ => .nil
  | z :: zs, h => .cons (h z List.mem_cons_self) (reps_of fun w hw => h w (List.mem_cons_of_mem _ hw))
def sortPD (ds : List D) : Option (D × Kd) := match ds with
  | [.lst xs] => (pairsD xs).map fun ps => (.lst ((sortP ps).map pairD), .fr)
  | _ => none
theorem zip_snd {α β : Type} : ∀ {xs : List α} {ys : List β}, xs.length = ys.length → (xs.zip ys).map (·.2) = ys
  | [], [], _ => rfl
  | x :: xs, y :: ys, h => by
    rw [List.zip_cons_cons, List.map_cons, zip_snd (Nat.succ.inj h)]
theorem PairsAt.len {K : PySem.W.Frag} {H : Hp} : ∀ {xs : List V} {ps : List (Int × Int)}, PairsAt K H xs ps → xs.length = ps.length
  | _, _, .nil => rfl
  | _, _, .cons _ h => congrArg Nat.succ h.len
theorem os_sortP {K : PySem.W.Frag} : OpS K (rSortP K) sortPD := by
  intro G O σ H ρ vs ds z Q hK R w e q
  unfold sortPD at e
  split at e
  · obtain ⟨ps, e1, rfl⟩ := Option.map_eq_some_iff.mp e
    obtain ⟨v, rfl, v1⟩ := w.one
    obtain ⟨a1, us, rfl, s1, r1⟩ := v1.lst
    rw [pairsD_of e1] at r1
    obtain ⟨h1, h2⟩ := reps_pairs r1
    refine ⟨a1, us, ps, rfl, s1, h1, fun zs p hp hs hl => ?_⟩
    have e2 : zs.map (·.2) = sortP ps := by
      refine sortP_unique ?_ hs
      have := hp.map (fun z : V × (Int × Int) => z.2)
      rwa [zip_snd h1.len] at this
    have r2 := reps_of (K := K) (H := H) (L := lin O) (zs := zs) fun z hz => h2 z (hp.mem_iff.mp hz)
    rw [e2, ← hK] at r2
    obtain ⟨O4, R4⟩ := R.fresh (d := .lst ((sortP ps).map pairD)) hl (.lst r2)
    exact q O4 _ _ R4
  · cases e
/-! ### sorted: ints or pairs -/
def sortA (ds : List D) : Option (D × Kd) := (sortedD ds).or (sortPD ds)
theorem OpS.or {K : PySem.W.Frag} {r1 r2 : List V → Hp → VK → Prop} {g1 g2 : List D → Option (D × Kd)} (h1 : OpS K r1 g1) (h2 : OpS K r2 g2) : OpS K (fun vs H Q => r1 vs H Q ∨ r2 vs H Q) fun ds => (g1 ds).or (g2 ds) := by
  intro G O σ H ρ vs ds z Q hK R w e q
  dsimp only at e
  cases h : g1 ds with
  | some y =>
    rw [h] at e
    cases e
    exact .inl (h1 G O σ H ρ vs ds _ Q hK R w h q)
  | none =>
    rw [h] at e
    exact .inr (h2 G O σ H ρ vs ds z Q hK R w e q)
abbrev rSortA (K : PySem.W.Frag) : List V → Hp → VK → Prop := fun vs H Q => rSortedI K vs H Q ∨ rSortP K vs H Q
theorem os_sortA {K : PySem.W.Frag} : OpS K (rSortA K) sortA := OpS.or os_sorted os_sortP
theorem cr_sortA {X : Cx} : CallR X (.builtin "sorted") (rSortA X.K) := fun pins s σ H vs us Q I r h => by
  rcases h with h | h
  · exact cr_sortedI pins s σ H vs us Q I r h
  · exact cr_sortP pins s σ H vs us Q I r h
end L2.VL
end
section
set_option Elab.async false
set_option linter.all false
set_option maxRecDepth 100000
/-! VLy: the rules of reckoning for VLw and VLx. -/
namespace L2.VL
open PySem PySem.Spec PyProof.Rows
section
variable {ρ : Rho} {E : Exn → Rho → Prop} {r ra : DE} {V1 : D × Kd → Rho → Prop} {i : Nat} {p : Bool}
theorem p_lrg (h : (ra ρ).post (fun x ρ1 => ∃ d, cur ρ1 x = some d ∧ ∃ z, lrgD d = some z ∧ V1 z ρ1) E) : ((dLrg ra) ρ).post V1 E :=
  (post_bind _ _).mpr (Res.post_ok h fun x ρ1 ⟨d, e1, z⟩ => (post_bind _ _).mpr (post_cur.mpr ⟨d, e1, (post_opt _).mpr z⟩))
theorem p_revL (h : (ra ρ).post (fun x ρ1 => ∃ d, cur ρ1 x = some d ∧ ∃ z, revLD d = some z ∧ V1 z ρ1) E) : ((dRevL ra) ρ).post V1 E :=
  (post_bind _ _).mpr (Res.post_ok h fun x ρ1 ⟨d, e1, z⟩ => (post_bind _ _).mpr (post_cur.mpr ⟨d, e1, (post_opt _).mpr z⟩))
theorem p_iAny {S1 : List D → Rho → Prop} (h : (r ρ).post (fun x ρ1 => ((keep false x) ρ1).post (fun y ρ2 => ∃ xs, anyOf y.1 = some xs ∧ S1 xs ρ2) E) E) : ((iAny r) ρ).post S1 E :=
  (post_bind _ _).mpr (Res.post_ok h fun x ρ1 z => (post_bind _ _).mpr (Res.post_ok z fun y ρ2 z => (post_opt _).mpr z))
theorem p_mut {g : List D → List D → Option (List D × D)} {l : List (Bool × DE)} {xs : List D} (hi : ρ[i]? = some (some ⟨.lst xs, true, p⟩)) (h : ((dA l) ρ).post (fun ys ρ' => ∃ ds, shrs ys = some ds ∧ ∃ xs p, ρ'[i]? = some (some ⟨.lst xs, true, p⟩) ∧ ∃ w, g xs ds = some w ∧ V1 (w.2, .shr) (ρ'.set i (some ⟨.lst w.1, true, p⟩))) E) : ((dMut i g l) ρ).post V1 E := by
  unfold dMut
  refine (post_bind _ _).mpr (p_chk hi ((post_bind _ _).mpr (Res.post_ok h ?_)))
  rintro ys ρ' ⟨ds, e1, xs', p', h1, h2⟩
  exact (post_bind _ _).mpr ((post_opt _).mpr ⟨ds, e1, p_mutEnd h1 h2⟩)
theorem w_p_lrg (h : (ra ρ).pst (fun x ρ1 => ∃ d, cur ρ1 x = some d ∧ ∃ z, lrgD d = some z ∧ V1 z ρ1) E) : ((dLrg ra) ρ).pst V1 E := by
  simp only [pst_iff] at *
  exact p_lrg h
theorem w_p_revL (h : (ra ρ).pst (fun x ρ1 => ∃ d, cur ρ1 x = some d ∧ ∃ z, revLD d = some z ∧ V1 z ρ1) E) : ((dRevL ra) ρ).pst V1 E := by
  simp only [pst_iff] at *
  exact p_revL h
theorem w_p_iAny {S1 : List D → Rho → Prop} (h : (r ρ).pst (fun x ρ1 => ((keep false x) ρ1).pst (fun y ρ2 => ∃ xs, anyOf y.1 = some xs ∧ S1 xs ρ2) E) E) : ((iAny r) ρ).pst S1 E := by
  simp only [pst_iff] at *
  exact p_iAny h
theorem w_p_mut {g : List D → List D → Option (List D × D)} {l : List (Bool × DE)} {xs : List D} (hi : ρ[i]? = some (some ⟨.lst xs, true, p⟩)) (h : ((dA l) ρ).pst (fun ys ρ' => ∃ ds, shrs ys = some ds ∧ ∃ xs p, ρ'[i]? = some (some ⟨.lst xs, true, p⟩) ∧ ∃ w, g xs ds = some w ∧ V1 (w.2, .shr) (ρ'.set i (some ⟨.lst w.1, true, p⟩))) E) : ((dMut i g l) ρ).pst V1 E := by
  simp only [pst_iff] at *
  exact p_mut hi h
theorem w_p_par3 {i j l : Nat} {b1 b2 b3 : Bool} {ra rb rc : DE} {Q : Fl → Rho → Prop} (h : ((dA [(b1, ra), (b2, rb), (b3, rc)]) ρ).pst (fun xs ρ' => ∃ x y z, xs = [x, y, z] ∧ nonm x = some () ∧ nonm y = some () ∧ ((dPut l z) ρ').pst (fun _ ρ0 => ((dPut j y) ρ0).pst (fun _ ρ1 => ((dPut i x) ρ1).pst (fun _ ρ2 => Q .nx ρ2) E) E) E) E) : ((dPar3 i j l b1 b2 b3 ra rb rc) ρ).pst Q E := by
  simp only [pst_iff] at *
  exact p_par3 h
theorem ex_par3 {P : D × Kd → D × Kd → D × Kd → Prop} {x y z : D × Kd} (hn : nonm x = some ()) (hm : nonm y = some ()) (h : P x y z) : ∃ x' y' z', [x, y, z] = [x', y', z'] ∧ nonm x' = some () ∧ nonm y' = some () ∧ P x' y' z' := ⟨x, y, z, rfl, hn, hm, h⟩
end
section
variable {P : D × Kd → Prop} {B : Bool → Prop} {W : V → Prop} {i j n : Int} {xs ys : List D} {s t : Str} {S : List D → Prop} {M2 : List D × D → Prop}
theorem x_lrg (hl : 0 ≤ n ∧ n ≤ 16777216) (h : P (.lst (rngD 0 n.toNat), .fr)) : ∃ z, lrgD (.con (.int n)) = some z ∧ P z := ⟨_, if_pos hl, h⟩
theorem x_revL (h : P (.lst xs.reverse, .fr)) : ∃ z, revLD (.lst xs) = some z ∧ P z := ⟨_, rfl, h⟩
theorem x_anyL (h : S xs) : ∃ z, anyOf (.lst xs) = some z ∧ S z := ⟨_, rfl, h⟩
theorem x_anyT (h : S xs) : ∃ z, anyOf (.tup xs) = some z ∧ S z := ⟨_, rfl, h⟩
theorem x_anyS (h : S (chrs s)) : ∃ z, anyOf (.con (.str s)) = some z ∧ S z := ⟨_, rfl, h⟩
theorem x_mulA (hl : (-18446744073709551616 < i ∧ i < 18446744073709551616) ∨ (-18446744073709551616 < j ∧ j < 18446744073709551616)) (h : P (.con (.int (i * j)), .shr)) : ∃ z, mulA (.con (.int i)) (.con (.int j)) = some z ∧ P z :=
  ⟨_, if_pos (by unfold CMulB; simpa using hl), h⟩
theorem x_repA (hl : (-4611686018427387904 ≤ n ∧ n < 4611686018427387904) ∧ xs.length * n.toNat ≤ cap) (h : P (.lst (List.replicate n.toNat xs).flatten, .fr)) : ∃ z, mulA (.lst xs) (.con (.int n)) = some z ∧ P z :=
  ⟨_, if_pos (by unfold small62; simpa using hl), h⟩
theorem x_popG {k : Nat} {y : D} (hs : -4611686018427387904 ≤ i ∧ i < 4611686018427387904) (hi : ixN xs.length i = some k) (hy : xs[k]? = some y) (h : M2 (xs.eraseIdx k, y)) : ∃ w, popG xs [.con (.int i)] = some w ∧ M2 w := by
  refine ⟨_, ?_, h⟩
  unfold popG
  dsimp only
  rw [if_pos (by unfold small62; simpa using hs), hi]
  show (xs[k]?).map _ = _
  rw [hy]
  rfl
theorem x_revG (h : M2 (xs.reverse, .non)) : ∃ w, revG xs [] = some w ∧ M2 w := ⟨_, rfl, h⟩
theorem x_isB {a b : Bool} (h : B (decide (a = b))) : ∃ k, isBD (.con (.bl a)) (.con (.bl b)) = some k ∧ B k := ⟨_, rfl, h⟩
theorem x_notB {a b : Bool} (h : B (!decide (a = b))) : ∃ k, notBD (.con (.bl a)) (.con (.bl b)) = some k ∧ B k := ⟨_, rfl, h⟩
theorem x_geI (h : B (decide (j ≤ i))) : ∃ k, geA (.con (.int i)) (.con (.int j)) = some k ∧ B k := ⟨_, rfl, h⟩
theorem x_geP {a b c d : Int} (h : B (if a = c then decide (d ≤ b) else decide (c ≤ a))) : ∃ k, geA (.tup [.con (.int a), .con (.int b)]) (.tup [.con (.int c), .con (.int d)]) = some k ∧ B k := ⟨_, rfl, h⟩
theorem x_inS (h : B (strIn s t)) : ∃ k, inA (.con (.str s)) (.con (.str t)) = some k ∧ B k := ⟨_, rfl, h⟩
theorem x_ninS (h : B (!strIn s t)) : ∃ k, notInA (.con (.str s)) (.con (.str t)) = some k ∧ B k := ⟨_, rfl, h⟩
theorem x_inL {x y : D} {b : Bool} (e : inD x y = some b) (h : B b) : ∃ k, inA x y = some k ∧ B k := ⟨b, by unfold inA; rw [e]; rfl, h⟩
theorem x_ninL {x y : D} {b : Bool} (e : inD x y = some b) (h : B (!b)) : ∃ k, notInA x y = some k ∧ B k := ⟨!b, by unfold notInA inA; rw [e]; rfl, h⟩
theorem x_minL {ns : List Int} {m : Int} (e : minL ns = some m) (h : W (.int m)) : ∃ v, minLV [.lst (ns.map fun n => .con (.int n))] = some v ∧ W v := by
  refine ⟨_, ?_, h⟩
  unfold minLV
  dsimp only
  rw [intsD_map (fun n : Int => n), List.map_id']
  show (minL ns).map _ = _
  rw [e]
  rfl
theorem x_ixS {c : Nat} (hl : s.length ≤ cap) (e : atI s.cps.toList i = some c) (h : P (.con (.str ⟨#[c]⟩), .shr)) : ∃ z, ixD (.con (.str s)) (.con (.int i)) = some z ∧ P z := by
  refine ⟨_, ?_, h⟩
  unfold ixD
  dsimp only
  rw [if_pos hl, e]
  rfl
theorem x_lenS (hl : s.length ≤ cap) (h : P (.con (.int s.length), .shr)) : ∃ z, lenD [.con (.str s)] = some z ∧ P z := ⟨_, if_pos hl, h⟩
theorem x_sortP {ps : List (Int × Int)} (h : P (.lst ((sortP ps).map pairD), .fr)) : ∃ z, sortA [.lst (ps.map pairD)] = some z ∧ P z := by
  refine ⟨_, ?_, h⟩
  cases ps with
  | nil =>
    have e1 : sortI [] = [] := by simp [sortI]
    have e2 : sortP [] = [] := by simp [sortP]
    show some (D.lst ((sortI []).map fun n => D.con (.int n)), Kd.fr) = some (D.lst ((sortP []).map pairD), Kd.fr)
    rw [e1, e2]
    rfl
  | cons p ps =>
    unfold sortA
    have e1 : sortedD [.lst ((p :: ps).map pairD)] = none := rfl
    have e2 : sortPD [.lst ((p :: ps).map pairD)] = some (.lst ((sortP (p :: ps)).map pairD), .fr) := by
      unfold sortPD
      dsimp only
      rw [pairsD_map]
      rfl
    rw [e1, e2]
    rfl
theorem x_sortI {ns : List Int} (h : P (.lst ((sortI ns).map fun n => .con (.int n)), .fr)) : ∃ z, sortA [.lst (ns.map fun n => .con (.int n))] = some z ∧ P z := by
  refine ⟨_, ?_, h⟩
  have e1 : sortedD [.lst (ns.map fun n => D.con (.int n))] = some (.lst ((sortI ns).map fun n => .con (.int n)), .fr) := by
    unfold sortedD
    dsimp only
    rw [intsD_map (fun n : Int => n), List.map_id']
    rfl
  unfold sortA
  rw [e1]
  rfl
end
end L2.VL
end
section
set_option Elab.async false
set_option linter.all false
set_option maxRecDepth 100000
/-! VLz: enumerate of a text. -/
namespace L2.VL
open PySem PySem.Spec PyProof.Rows
def ItsE (x : Str) : It := ⟨fun i _ => i < x.cps.size, fun i H v H' => ∃ T c, v = .ref T ∧ H T = none ∧ H' = upd H T (.tup [.int (i : Nat), .str ⟨#[c]⟩]) ∧ x.cps[i]? = some c, fun i _ => x.cps.size ≤ i⟩
theorem draws_str {prog : Program} {w : World} {A : Around} (hh : A.handled = none) (it : Addr) (x : Str) (t : Tok) :
    Draws prog w A it [it] x.cps.size (fun i v => ∃ c u, x.cps[i]? = some c ∧ v = .str ⟨#[c]⟩ u) (fun i h => h.IsStrIter it (strIterType x) x t i) := by
  unfold strIterType
  split
  · exact Draws.strAscii hh it x t
  · exact Draws.strWide hh it x t
theorem turn_enumS {P : Program} {w : World} {K : PySem.W.Frag} {elts : List Expr} {kk : Nat} {tpos : Pos} (e it : Addr) (x : Str) (t : Tok) :
    Turn P w K (.Tuple elts kk tpos) (ItsE x) [e, it] e (fun i h => (∃ old, IsEnum h e it ((i : Nat) : Int) old) ∧ h.IsStrIter it (strIterType x) x t i ∧ e ≠ it ∧ i ≤ x.cps.size) where
  mem := by simp
  obj := fun i h st b hb => by
    obtain ⟨⟨old, he⟩, ⟨o, ho, hc, hd⟩, _⟩ := st
    have e' : b = e ∨ b = it := by simpa using hb
    rcases e' with z | z
    · rw [z]
      exact ⟨_, he, fun v q => nomatch q⟩
    · rw [z]
      exact ⟨o, ho, fun v q => by rw [hd] at q; cases q⟩
  keep := fun i h h' st k => by
    obtain ⟨⟨old, he⟩, ⟨o, ho, r⟩, hne, hi⟩ := st
    exact ⟨⟨old, k e (by simp) _ he⟩, ⟨o, k it (by simp) o ho, r⟩, hne, hi⟩
  item := by
    intro X hP hw hK hc i pins s σ H E I hf st hg
    subst hP hw hK
    obtain ⟨⟨old, he⟩, hit, hne, hi⟩ := st
    have hel : e < s.heap.objs.size := Heap.lt_size he
    have hil : it < s.heap.objs.size := by
      obtain ⟨_, q, _⟩ := hit
      exact Heap.lt_size q
    refine wpAny_pyNext_enum_itemD (draws_str (A := X.A.in1) (I.ok.hd hc) it x t) he hit hg hne (by simpa using hne) fun v h' tk hv ho hit' hT hsz hk => ?_
    obtain ⟨c, u, hcx, rfl⟩ := hv
    refine ⟨_, rfl, wpAny_letOwnedTupleGo_enum (s := { s with heap := h', toks := tk + 1 }) ho fun h2 he' sb => ?_⟩
    have hT2 : h2.get? s.heap.objs.size = some { cls := .type "tuple", data := .seq #[.int i tk, .str ⟨#[c]⟩ u] } := (sb.2 _ (Nat.ne_of_gt hel)).trans hT
    have new : ObjOk X.prog X.w (upd H s.heap.objs.size (.tup [.int (i : Nat), .str ⟨#[c]⟩])) h2 s.heap.objs.size (.tup [.int (i : Nat), .str ⟨#[c]⟩]) :=
      ⟨by show 2 ≤ sizeLine; decide, [.int i tk, .str ⟨#[c]⟩ u], .cons ⟨_, rfl⟩ (.cons ⟨_, rfl⟩ .nil), ⟨_, hT2, rfl, _, rfl⟩⟩
    have I1 : Inv X pins σ (upd H s.heap.objs.size (.tup [.int (i : Nat), .str ⟨#[c]⟩])) { s with heap := h2, toks := tk + 1 } :=
      I.turnedNew (ch := [e, it]) (fun b ob hb q => (sb.2 b (fun z => hb (by simp [z]))).trans (hk b ob (fun z => hb (by simp [z])) (fun z => hb (by simp [z])) q)) hf (Nat.le_refl _) new
    have hlt : i < x.cps.size := hg
    refine ⟨.ref s.heap.objs.size, _, I1, rfl, ⟨_, c, rfl, I.hok.fresh (Nat.le_refl _), rfl, hcx⟩, ⟨⟨.str ⟨#[c]⟩ u, ?_⟩, ?_, hne, hlt⟩, fun b hb => ?_⟩
    · have e1 : ((i + 1 : Nat) : Int) = (i : Int) + 1 := by omega
      rw [e1]
      exact he'
    · obtain ⟨o, ho2, r⟩ := hit'
      exact ⟨o, (sb.2 it (Ne.symm hne)).trans ho2, r⟩
    · have hb' : b < s.heap.objs.size := by
        have e' : b = e ∨ b = it := by simpa using hb
        rcases e' with z | z
        · rw [z]; exact hel
        · rw [z]; exact hil
      rw [upd_ne (Nat.ne_of_lt hb')]
      exact (hf b hb).1
  done := by
    intro X hP hw hK hc i pins s σ H E I hf st hg
    subst hP hw hK
    obtain ⟨⟨old, he⟩, hit, hne, hi⟩ := st
    have ei : i = x.cps.size := Nat.le_antisymm hi hg
    subst ei
    obtain ⟨f0, f1, f2, f3, f4, f5⟩ := hf it (by simp)
    exact wpAny_pyNext_enum_endD (draws_str (A := X.A.in1) (I.ok.hd hc) it x t) he hit fun h' eb => ⟨rfl, I.turned (t' := s.toks) (fun b o hb q => eb b o hb q) f0 f1 f3 f4 f5⟩
  self := fun A i s Q E st h => by
    obtain ⟨⟨_, he⟩, _⟩ := st
    exact wpAny_pyIter_enum he h
def iEnumS (ta : TA) : TI := fun σ H R => ta σ H fun vs H1 => ∃ x, vs = [.str x] ∧ R (ItsE x) H1
theorem pi_enumS {X : Cx} {e : Expr} {ta : TA} {p pos tpos : Pos} {elts : List Expr} {kk : Nat} (hg : Gl X "enumerate") (hm : X.mg "enumerate" = none) (ha : PA X [e] ta) (hs : starEach [e] X.env = [(false, eval e X.env)] := by rfl) :
    PI X (.Tuple elts kk tpos) (.Call (.Name "enumerate" p) [e] [] pos) (iEnumS ta) := by
  refine ⟨fun pins s σ H R I h => ?_⟩
  refine Call_ (ld_blt I hg hm boot_enumerate (PyProof.Rows.callWith_type1 (thn (ha.run pos pins s σ H _ I h) fun us s1 ⟨vs, H1, I1, r1, q1⟩ => ?_) hs rfl))
  obtain ⟨x, ex, q⟩ := q1
  subst ex
  cases r1 with
  | cons r rr =>
    cases rr
    obtain ⟨t, rfl⟩ := r
    refine call_enumerate_str fun h' he hit hsz hk => wpAny_pyIter_enum he ?_
    have I2 : Inv X pins σ H1 { s1 with heap := h' } := I1.kept (t' := s1.toks) hk
    refine ⟨s1.heap.objs.size + 1, [s1.heap.objs.size + 1, s1.heap.objs.size], _, _, H1, rfl, I2, turn_enumS (s1.heap.objs.size + 1) s1.heap.objs.size x t, ⟨⟨.none, he⟩, hit, Nat.succ_ne_self _, Nat.zero_le _⟩, fun b hb => ?_, q⟩
    have e' : b = s1.heap.objs.size + 1 ∨ b = s1.heap.objs.size := by simpa using hb
    have hle : s1.heap.objs.size ≤ b := by
      rcases e' with z | z
      · rw [z]; exact Nat.le_add_right _ _
      · rw [z]; exact Nat.le_refl _
    exact I1.fpOk hle (I1.hok.fresh hle)
def enumS (ds : List D) : Option (List D) := match ds with
  | [.con (.str z)] => some ((chrs z).zipIdx.map fun p => .tup [.int p.2, p.1])
  | _ => none
def enumA (ds : List D) : Option (List D) := match ds with
  | [.lst a] => some (a.zipIdx.map fun p => .tup [.int p.2, p.1])
  | [.con (.str z)] => some ((chrs z).zipIdx.map fun p => .tup [.int p.2, p.1])
  | _ => none
def iEnumSD (l : List (Bool × DE)) : M (List D) := do
  let xs ← dA l
  let ds ← mOpt (shrs xs)
  mOpt (enumS ds)
def iEnumA (l : List (Bool × DE)) : M (List D) := do
  let xs ← dA l
  let ds ← mOpt (shrs xs)
  mOpt (enumA ds)
theorem walk_enumS {K : PySem.W.Frag} {T : List Tmp} {z : Str} : WalkOk K T (ItsE z) ((chrs z).zipIdx.map fun p => .tup [.int p.2, p.1]) := by
  intro G O σ H ρ i T' hK R
  have hl : ((chrs z).zipIdx.map fun p => D.tup [.int p.2, p.1]).length = z.cps.size := by simp [chrs]
  refine ⟨fun hi => by rw [hl] at hi; exact hi, fun hi => by rw [hl] at hi; exact hi, fun x hx v H' y => ?_⟩
  obtain ⟨P, c, rfl, nP, rfl, hc⟩ := y
  rw [List.getElem?_map, List.getElem?_zipIdx] at hx
  unfold chrs at hx
  rw [List.getElem?_map, Array.getElem?_toList, hc] at hx
  cases hx
  refine ⟨O, ?_⟩
  have R2 := R.freshT (d := .tup [.int (i : Nat), .con (.str ⟨#[c]⟩)]) nP (.tup (.cons (.con (.int (i : Nat))) (.cons (.con (.str ⟨#[c]⟩)) .nil)))
  simpa using R2
section
variable {X : Cx} {e : Expr} {p pos : Pos}
theorem si_enumS {elts : List Expr} {kk : Nat} {tpos : Pos} {l : List (Bool × DE)} (hm : X.mg "enumerate" = none) (ha : SA X [e] l) (hg : Gl X "enumerate" := by rfl)
    (hs : starEach [e] X.env = [(false, eval e X.env)] := by rfl) : SI X (.Tuple elts kk tpos) (.Call (.Name "enumerate" p) [e] [] pos) (iEnumSD l) := fun W tk =>
  PI.imp (pi_enumS hg hm (ha W tk) hs) fun σ H Q ⟨G, O, ρ, hK, R, h⟩ => ⟨G, O, ρ, [], hK, R, Res.post_ok ((post_bind _ _).mp h) fun xs ρ1 q O1 vs H1 hl R1 => by
    obtain ⟨ds, e1, q2⟩ := (post_opt _).mp ((post_bind _ _).mp q)
    obtain ⟨z, e2, q3⟩ := (post_opt _).mp q2
    have rp := pushC_reps hl R1 e1
    unfold enumS at e2
    split at e2
    · cases e2
      cases rp with
      | cons r1 rr =>
        cases rr
        exact ⟨_, by rw [r1.con_inv], q3 O1 H1 _ _ NoNm.nil (pushC_pop R1) walk_enumS⟩
    · cases e2⟩
theorem iEnumA_split {l : List (Bool × DE)} {ρ : Rho} {Q : List D → Rho → Prop} {E : Exn → Rho → Prop} (h : ((iEnumA l) ρ).post Q E) : ((iEnum1 l) ρ).post Q E ∨ ((iEnumSD l) ρ).post Q E := by
  have h1 := (post_bind _ _).mp h
  unfold iEnum1 iEnumSD
  simp only [post_bind]
  cases e1 : dA l ρ with
  | stuck => rw [e1] at h1; exact h1.elim
  | ex x ρ1 => exact .inl (by rw [e1] at h1; exact h1)
  | ok x ρ1 =>
    rw [e1] at h1
    simp only [Res.post]
    obtain ⟨ds, e2, h2⟩ := (post_opt _).mp ((post_bind _ _).mp h1)
    obtain ⟨z, e3, h3⟩ := (post_opt _).mp h2
    unfold enumA at e3
    split at e3
    · cases e3
      exact .inl ((post_opt (shrs x)).mpr ⟨_, e2, h3⟩)
    · cases e3
      exact .inr ((post_opt (shrs x)).mpr ⟨_, e2, h3⟩)
    · cases e3
theorem si_enumA {elts : List Expr} {kk : Nat} {tpos : Pos} {l : List (Bool × DE)} (hm : X.mg "enumerate" = none) (ha : SA X [e] l) (hg : Gl X "enumerate" := by rfl)
    (hs : starEach [e] X.env = [(false, eval e X.env)] := by rfl) : SI X (.Tuple elts kk tpos) (.Call (.Name "enumerate" p) [e] [] pos) (iEnumA l) := fun W tk =>
  PI.imp (PI.or (si_enum hm ha hg hs W tk) (si_enumS hm ha hg hs W tk)) fun σ H Q ⟨G, O, ρ, hK, R, h⟩ => by
    rcases iEnumA_split h with h | h
    · exact .inl ⟨G, O, ρ, hK, R, h⟩
    · exact .inr ⟨G, O, ρ, hK, R, h⟩
end
theorem p_iEnumA {l : List (Bool × DE)} {ρ : Rho} {S1 : List D → Rho → Prop} {E : Exn → Rho → Prop} (h : ((dA l) ρ).post (fun xs ρ1 => ∃ ds, shrs xs = some ds ∧ ∃ z, enumA ds = some z ∧ S1 z ρ1) E) : ((iEnumA l) ρ).post S1 E :=
  (post_bind _ _).mpr (Res.post_ok h fun xs ρ1 ⟨ds, e1, z⟩ => (post_bind _ _).mpr ((post_opt _).mpr ⟨ds, e1, (post_opt _).mpr z⟩))
theorem w_p_iEnumA {l : List (Bool × DE)} {ρ : Rho} {S1 : List D → Rho → Prop} {E : Exn → Rho → Prop} (h : ((dA l) ρ).pst (fun xs ρ1 => ∃ ds, shrs xs = some ds ∧ ∃ z, enumA ds = some z ∧ S1 z ρ1) E) : ((iEnumA l) ρ).pst S1 E := by
  simp only [pst_iff] at *
  exact p_iEnumA h
theorem x_enL {xs : List D} {S : List D → Prop} (h : S (xs.zipIdx.map fun p => .tup [.int p.2, p.1])) : ∃ z, enumA [.lst xs] = some z ∧ S z := ⟨_, rfl, h⟩
theorem x_enS {z : Str} {S : List D → Prop} (h : S ((chrs z).zipIdx.map fun p => .tup [.int p.2, p.1])) : ∃ z', enumA [.con (.str z)] = some z' ∧ S z' := ⟨_, rfl, h⟩
end L2.VL
end
section
set_option Elab.async false
set_option linter.all false
set_option maxRecDepth 100000
/-! VLA: comprehensions by what each turn gives. -/
namespace L2.VL
open PySem PySem.Spec PyProof.Rows
section
variable {α : Type} {own : List Nat} {t : Tg} {q : M Bool} {r : DE} {xs : List D} {ρ : Rho} {V1 : D × Kd → Rho → Prop} {E : Exn → Rho → Prop}
abbrev LcK (own : List Nat) (V1 : D × Kd → Rho → Prop) : List D → Rho → Prop := fun ds ρ2 => ds.length ≤ cap ∧ V1 (.lst ds, .fr) (wipeR ρ2 own)
theorem w_p_lcK {it : M (List D)} (h : (it ρ).pst (fun xs ρ1 => own.all (fun i => !pinned ρ1 i) = true ∧ ((lcD own t q r xs) ρ1).pst (LcK own V1) E) E) : ((dLc own it t q r) ρ).pst V1 E := w_p_lc h
/-- by what holds between the turns -/
theorem w_lc_st (I : Nat → List D → Rho → Prop) (h0 : I 0 [] (wipeR ρ own))
    (hs : ∀ i x acc ρ, xs[i]? = some x → I i acc ρ → ((lcT t q r x) ρ).pst (fun o ρ' => I (i + 1) (acc ++ o.toList) (wipeR ρ' own)) E)
    (he : ∀ acc ρ', I xs.length acc ρ' → acc.length ≤ cap ∧ V1 (.lst acc, .fr) ρ') :
    ((lcD own t q r xs) ρ).pst (LcK own V1) E :=
  w_lc_inv I h0 hs fun acc ρ' h => he acc _ h
/-- each turn gives an item or none, and nothing else changes -/
theorem w_lc_fm {f : α → D} (as : List α) (g : α → Option D) (hx : xs = as.map f) (hw : wipeR ρ own = ρ) (hl : as.length ≤ cap)
    (hs : ∀ a ∈ as, ((lcT t q r (f a)) ρ).pst (fun o ρ' => o = g a ∧ wipeR ρ' own = ρ) E) (h : V1 (.lst (as.filterMap g), .fr) ρ) :
    ((lcD own t q r xs) ρ).pst (LcK own V1) E := by
  subst hx
  refine w_lc_st (fun i acc ρ' => acc = (as.take i).filterMap g ∧ ρ' = ρ) ⟨by simp, hw⟩ ?_ ?_
  · rintro i x acc ρ' hx ⟨rfl, rfl⟩
    rw [List.getElem?_map] at hx
    obtain ⟨a, ha, rfl⟩ := Option.map_eq_some_iff.mp hx
    have h1 := hs a (List.mem_of_getElem? ha)
    refine ⟨Res.post_ok h1.h ?_⟩
    rintro o ρ2 ⟨rfl, h2⟩
    refine ⟨?_, h2⟩
    rw [List.take_add_one, ha, List.filterMap_append]
    cases e : g a <;> simp [e]
  · rintro acc ρ' ⟨rfl, rfl⟩
    rw [List.length_map, List.take_length]
    exact ⟨Nat.le_trans (List.length_filterMap_le _ _) hl, h⟩
/-- each turn gives an item -/
theorem w_lc_map {f : α → D} (as : List α) (g : α → D) (hx : xs = as.map f) (hw : wipeR ρ own = ρ) (hl : as.length ≤ cap)
    (hs : ∀ a ∈ as, ((lcT t q r (f a)) ρ).pst (fun o ρ' => o = some (g a) ∧ wipeR ρ' own = ρ) E) (h : V1 (.lst (as.map g), .fr) ρ) :
    ((lcD own t q r xs) ρ).pst (LcK own V1) E :=
  w_lc_fm as (fun a => some (g a)) hx hw hl hs (by rw [show (fun a => some (g a)) = some ∘ g from rfl, List.filterMap_eq_map]; exact h)
/-- the items that fit -/
theorem w_lc_flt {f : α → D} (as : List α) (p : α → Bool) (g : α → D) (hx : xs = as.map f) (hw : wipeR ρ own = ρ) (hl : as.length ≤ cap)
    (hs : ∀ a ∈ as, ((lcT t q r (f a)) ρ).pst (fun o ρ' => o = (if p a then some (g a) else none) ∧ wipeR ρ' own = ρ) E) (h : V1 (.lst ((as.filter p).map g), .fr) ρ) :
    ((lcD own t q r xs) ρ).pst (LcK own V1) E := by
  refine w_lc_fm as (fun a => if p a then some (g a) else none) hx hw hl hs ?_
  have : as.filterMap (fun a => if p a then some (g a) else none) = (as.filter p).map g := by
    clear hx hl hs h
    induction as with
    | nil => rfl
    | cons a as ih =>
      by_cases e : p a = true
      · rw [List.filterMap_cons_some (b := g a) (by simp [e]), List.filter_cons_of_pos e, List.map_cons, ih]
      · rw [List.filterMap_cons_none (by simp [e]), List.filter_cons_of_neg e, ih]
  rw [this]; exact h
/-- no turn gives an item -/
theorem w_lc_none {f : α → D} (as : List α) (hx : xs = as.map f) (hw : wipeR ρ own = ρ)
    (hs : ∀ a ∈ as, ((lcT t q r (f a)) ρ).pst (fun o ρ' => o = none ∧ wipeR ρ' own = ρ) E) (h : V1 (.lst [], .fr) ρ) :
    ((lcD own t q r xs) ρ).pst (LcK own V1) E := by
  subst hx
  refine w_lc_st (fun i acc ρ' => acc = [] ∧ ρ' = ρ) ⟨rfl, hw⟩ ?_ ?_
  · rintro i x acc ρ' hx ⟨rfl, rfl⟩
    rw [List.getElem?_map] at hx
    obtain ⟨a, ha, rfl⟩ := Option.map_eq_some_iff.mp hx
    refine ⟨Res.post_ok (hs a (List.mem_of_getElem? ha)).h ?_⟩
    rintro o ρ2 ⟨rfl, h2⟩
    exact ⟨rfl, h2⟩
  · rintro acc ρ' ⟨rfl, rfl⟩
    exact ⟨Nat.zero_le _, h⟩
/-- a for whose turns change nothing -/
theorem w_p_forC {f : α → D} {body : DS} {Q : Fl → Rho → Prop} (as : List α) (hx : xs = as.map f)
    (hs : ∀ a ∈ as, ((t.put (f a)) ρ).pst (fun _ ρ1 => (body ρ1).pst (TurnK (fun ρ' => ρ' = ρ) Q) E) E) (he : Q .nx ρ) : ((forD t body xs) ρ).pst Q E := by
  subst hx
  refine w_p_forI (fun _ ρ' => ρ' = ρ) rfl ?_ ?_
  · rintro i x ρ' hx rfl
    rw [List.getElem?_map] at hx
    obtain ⟨a, ha, rfl⟩ := Option.map_eq_some_iff.mp hx
    exact hs a (List.mem_of_getElem? ha)
  · rintro ρ' rfl
    exact he
theorem rng_map (lo : Int) (n : Nat) : rngD lo n = (List.range n).map fun (k : Nat) => D.int (lo + k) := rfl
theorem rng0_map (n : Nat) : rngD 0 n = (List.range n).map fun (k : Nat) => D.int k := by simp [rngD]
theorem enum_map {α : Type} (f : α → D) (as : List α) : ((as.map f).zipIdx.map fun p => D.tup [.int p.2, p.1]) = as.zipIdx.map fun p => D.tup [.int p.2, f p.1] := by
  rw [List.zipIdx_map, List.map_map]
  rfl
theorem zip_map {α β : Type} (f : α → D) (g : β → D) (as : List α) (bs : List β) : (((as.map f).zip (bs.map g)).map fun p => D.tup [p.1, p.2]) = (as.zip bs).map fun p => D.tup [f p.1, g p.2] := by
  rw [List.zip_map, List.map_map]
  rfl
theorem same_nil (xs : List D) : VL.same (.lst xs) (.lst []) = xs.isEmpty := by cases xs <;> rfl
theorem x_neE {B : Bool → Prop} {xs : List D} (hx : okD 60 (.lst xs) = true) (h : B (!xs.isEmpty)) : ∃ k, neD (.lst xs) (.lst []) = some k ∧ B k := x_neL hx rfl (by rw [same_nil]; exact h)
theorem x_eqE {B : Bool → Prop} {xs : List D} (hx : okD 60 (.lst xs) = true) (h : B xs.isEmpty) : ∃ k, eqD (.lst xs) (.lst []) = some k ∧ B k := x_eqL hx rfl (by rw [same_nil]; exact h)
theorem x_neNN {B : Bool → Prop} (h : B false) : ∃ k, neD (.lst []) (.lst []) = some k ∧ B k := ⟨false, rfl, h⟩
theorem x_eqNN {B : Bool → Prop} (h : B true) : ∃ k, eqD (.lst []) (.lst []) = some k ∧ B k := ⟨true, rfl, h⟩
theorem rng_at {lo : Int} {n i : Nat} {x : D} (h : (rngD lo n)[i]? = some x) : i < n ∧ x = .con (.int (lo + i)) := by
  unfold rngD at h
  rw [List.getElem?_map] at h
  obtain ⟨j, h1, rfl⟩ := Option.map_eq_some_iff.mp h
  obtain ⟨h2, rfl⟩ := List.getElem?_eq_some_iff.mp h1
  simp at h2 ⊢
  exact h2
theorem rng_len (lo : Int) (n : Nat) : (rngD lo n).length = n := by simp [rngD]
theorem eqD_bl {a b : Bool} : eqD (.con (.bl a)) (.con (.bl b)) = some (decide (a = b)) := by
  have e : eqD (.con (.bl a)) (.con (.bl b)) = some (decide (V.bl a = V.bl b)) := by
    unfold eqD
    dsimp only
    rw [if_pos (by rfl)]
  rw [e]
  simp
theorem x_eqB {B : Bool → Prop} {a b : Bool} (h : B (decide (a = b))) : ∃ k, eqD (.con (.bl a)) (.con (.bl b)) = some k ∧ B k := ⟨_, eqD_bl, h⟩
theorem x_neB {B : Bool → Prop} {a b : Bool} (h : B (!decide (a = b))) : ∃ k, neD (.con (.bl a)) (.con (.bl b)) = some k ∧ B k := ⟨_, by unfold neD; rw [eqD_bl]; rfl, h⟩
theorem sameV_self (v : V) (n : Nat) (h : okD n (.con v) = true) : sameV v v = true := by
  cases v <;> first | rfl | (simp [sameV]; done) | (simp [okD] at h; done) | (cases n <;> simp [okD] at h)
mutual
theorem same_self : ∀ (d : D) (n : Nat), okD n d = true → VL.same d d = true
  | .con v, n, h => sameV_self v n h
  | .lst xs, 0, h => by simp [okD] at h
  | .tup xs, 0, h => by simp [okD] at h
  | .lst xs, n + 1, h => by unfold okD at h; exact sameL_self xs n h
  | .tup xs, n + 1, h => by unfold okD at h; exact sameL_self xs n h
  | .dic _, n, h => by cases n <;> simp [okD] at h
  | .dit _, n, h => by cases n <;> simp [okD] at h
theorem sameL_self : ∀ (xs : List D) (n : Nat), xs.all (okD n) = true → sameL xs xs = true
  | [], _, _ => rfl
  | x :: xs, n, h => by
    rw [List.all_cons, Bool.and_eq_true] at h
    show (VL.same x x && sameL xs xs) = true
    rw [same_self x n h.1, sameL_self xs n h.2]
    rfl
end
theorem x_eqLL {B : Bool → Prop} {xs : List D} (hx : okD 60 (.lst xs) = true) (h : B true) : ∃ k, eqD (.lst xs) (.lst xs) = some k ∧ B k := x_eqL hx hx (by rw [same_self _ _ hx]; exact h)
theorem x_neLL {B : Bool → Prop} {xs : List D} (hx : okD 60 (.lst xs) = true) (h : B false) : ∃ k, neD (.lst xs) (.lst xs) = some k ∧ B k := x_neL hx hx (by rw [same_self _ _ hx]; exact h)
def cutL {α : Type} (as : List α) (lo hi : Option Int) : List α := (as.drop (HT.sIx as.length 0 lo)).take (HT.sIx as.length as.length hi - HT.sIx as.length 0 lo)
theorem cutD_map (f : α → D) (as : List α) (lo hi : Option Int) : cutD (as.map f) lo hi = (cutL as lo hi).map f := by
  unfold cutD cutL
  rw [List.length_map, ← List.map_drop, ← List.map_take]
theorem cutL_mem {as : List α} {lo hi : Option Int} {a : α} (h : a ∈ cutL as lo hi) : a ∈ as := List.mem_of_mem_drop (List.mem_of_mem_take h)
theorem okL_fs {cs : List Nat} (h : ∀ c ∈ cs, c < 0x110000) (n : Nat) : okD n (.con (.str ⟨cs.toArray⟩)) = true := by
  have : PyData.strOk ⟨cs.toArray⟩ = true := by
    unfold PyData.strOk
    simp only [List.all_toArray, List.all_eq_true, decide_eq_true_eq]
    exact h
  cases n <;> exact this
theorem okL_map {α : Type} {f : α → D} (as : List α) (n : Nat) (h : ∀ a ∈ as, okD n (f a) = true) : okD (n + 1) (.lst (as.map f)) = true := by
  unfold okD
  rw [List.all_eq_true]
  intro d hd
  obtain ⟨a, ha, rfl⟩ := List.mem_map.mp hd
  exact h a ha
theorem x_lenM {P : D × Kd → Prop} {f : α → D} {as : List α} (h : P (.con (.int as.length), .shr)) : ∃ z, lenD [.lst (as.map f)] = some z ∧ P z := x_len (by rw [List.length_map]; exact h)
theorem x_rngN {S : List D → Prop} {n : Nat} (hl : n < 4611686018427387904) (h : S (rngD 0 n)) : ∃ z, rng1 [.con (.int n)] = some z ∧ S z := x_rng1 (by omega) (by rw [Int.toNat_natCast]; exact h)
theorem x_rng2 {S : List D → Prop} {i j : Int} (hl : -4611686018427387904 ≤ i ∧ i < 4611686018427387904 ∧ -4611686018427387904 ≤ j ∧ j < 4611686018427387904) (h : S (rngD i (j - i).toNat)) : ∃ z, rng2 [.con (.int i), .con (.int j)] = some z ∧ S z := ⟨_, if_pos (by unfold small62; simpa [and_assoc] using hl), h⟩
end
end L2.VL
end
section
set_option Elab.async false
set_option linter.all false
set_option maxRecDepth 100000
/-! VLB: extend, written dicts and what is found in them, the greatest of a list, how many different ints. -/
namespace L2.VL
open PySem PySem.Spec PyProof.Rows
/-! ### x.extend(a list of its own) -/
def extOk (i : Nat) (ρ : Rho) (x : D × Kd) : Option (List D) := match x with
  | (.lst zs, .fr) => some zs
  | (_, .nm j) => if j = i then none else match ρ[j]? with
    | some (some ⟨.lst zs, true, _⟩) => some zs
    | _ => none
  | _ => none
def extEnd (i : Nat) (x : D × Kd) : DE := fun ρ => match extOk i ρ x with
  | some zs => mutEnd i (fun ys => if ys.length + zs.length ≤ cap then some (ys ++ zs, .non) else none) ρ
  | none => .stuck
def dExt (i : Nat) (r : DE) : DE := do
  chkOwn i
  let x ← r
  extEnd i x
section
variable {X : Cx} {e : Expr} {r : DE} {pos : Pos}
theorem extOk_at {G : Fix} {O : Own} {σ : St} {H : Hp} {ρ : Rho} {i : Nat} {v : V} {x : D × Kd} {zs : List D} (R : Rel G O σ H ρ [⟨v, x.1, x.2⟩]) (e : extOk i ρ x = some zs) : ∃ b vs, v = .ref b ∧ H b = some (.lst vs) ∧ Reps G.K H (lin O) vs zs := by
  obtain ⟨d, k⟩ := x
  have h := R.tm.1
  unfold TmpOk at h
  unfold extOk at e
  cases k with
  | fr =>
    cases d with
    | lst ys =>
      cases e
      obtain ⟨b, ho, rfl, h1, h2, c⟩ := (show Owned _ _ _ _ _ _ from h)
      cases c with
      | lst q => exact ⟨b, _, rfl, h2, q⟩
    | con _ => cases e
    | tup _ => cases e
    | dic _ => cases e
    | dit _ => cases e
  | shr => cases d <;> cases e
  | nm j =>
    have e' : (if j = i then none else match ρ[j]? with
      | some (some ⟨.lst zs, true, _⟩) => some zs
      | _ => none) = some zs := by cases d <;> exact e
    split at e'
    · cases e'
    · split at e'
      · rename_i ys p hj
        cases e'
        obtain ⟨b, vs, h1, h2, h3⟩ := own_at R.pop hj
        have h : σ[j]? = some (some v) := h
        rw [h1] at h
        cases h
        exact ⟨b, vs, rfl, h2, h3⟩
      · cases e'
theorem se_ext (i : Nat) {x : Str} {apos xpos : Pos} (he : SE X e r) (hN : X.N[i]? = some x := by rfl) (hv : Vis X.env.scope x := by first | exact Or.inl rfl | exact Or.inr (Or.inl rfl) | exact Or.inr (Or.inr rfl)) (hd : (x == ("__debug__" : Str)) = false := by decide)
    (hcd : (x == ("__classdict__" : Str)) = false := by decide)
    (hbase : attributeBase (.Name x xpos) "extend" X.env (eval (.Name x xpos) X.env) = eval (.Name x xpos) X.env := by rfl)
    (hfew : ((backTo pos (starEach [e] X.env)).all (fun x => !x.1) && (backToKw pos (keywordEach [] X.env)).all (fun x => x.1.isSome)
      && decide ([e].length + ([] : List Keyword).length + (if ([] : List Keyword).isEmpty then 0 else 1) < 30)) = true := by rfl)
    (hline : (apos.endLine == pos.line) = true := by rfl) (hst : starEach [e] X.env = (false, eval e X.env) :: starEach [] X.env := by rfl) (hplain : (backTo pos (starEach [] X.env)).any (·.1) = false := by rfl) :
    SE X (.Call (.Attribute (.Name x xpos) "extend" apos) [e] [] pos) (dExt i r) := fun W tk =>
  PE.imp (pe_bm PySem.F.plainAttrs_list PySem.F.slot_list_extend PySem.F.type_list_extend mt_extend (pe_var hN hv hd hcd) (pa_cons (he W tk) pa_nil hst) hbase hfew hline hst hplain) fun σ H Q ⟨G, O, ρ, hK, R, h⟩ => by
    obtain ⟨z0, q0, h⟩ := post_chk.mp ((post_bind _ _).mp h)
    obtain ⟨a, vs0, h1, h2, _⟩ := own_at R (getOwn_of q0)
    refine ⟨.ref a, h1, .inl ⟨rfl, vs0, .inl (.inl h2)⟩, G, O, ρ, hK, R, Res.post_ok ((post_bind _ _).mp h) fun x ρ1 q O1 v H1 R1 => ?_⟩
    unfold extEnd at q
    cases ee : extOk i ρ1 x with
    | none => rw [ee] at q; exact q.elim
    | some zs =>
      rw [ee] at q
      obtain ⟨b, us, rfl, hb, rb⟩ := extOk_at R1 ee
      obtain ⟨z, w, q1, qg, q3⟩ := post_mutEnd.mp q
      have R2 := R1.pop
      have eo := getOwn_of q1
      obtain ⟨a2, vs1, h3, h4, r4⟩ := own_at R2 eo
      rw [h1] at h3
      cases h3
      split at qg
      · rename_i hz
        cases qg
        have c : Cont G.K H1 (lin O1) (.lst (vs1 ++ us)) (.lst (z.1 ++ zs)) := .lst (r4.append rb)
        obtain ⟨R3, oa⟩ := R2.write (d := .lst (z.1 ++ zs)) eo rfl h1 h4 c
        exact ⟨a, b, vs1, us, rfl, rfl, h4, hb, by rw [r4.len, rb.len, ← cap_eq]; exact hz, q3 O1 .non _ (R3.push (.con _))⟩
      · cases qg
end
/-! ### written dicts -/
def dDis (kvs : List (Key × V)) : DE := pure (.dic (kvs.map fun p => (p.1, .con p.2)), .fr)
theorem RepK.con_map {K : PySem.W.Frag} {H : Hp} {L : Addr → Prop} : ∀ kvs : List (Key × V), RepK K H L kvs (kvs.map fun p => (p.1, .con p.2))
  | [] => .nil
  | (_, _) :: r => .cons (.con _) (RepK.con_map r)
theorem tPairs_con {σ : St} : ∀ (kvs : List (Key × V)) (H : Hp) (Q : List (V × V) → Hp → Prop), Q (kvs.map fun kv => (kV kv.1, kv.2)) H → tPairs (kvs.map fun kv => (tC (kV kv.1), tC kv.2)) σ H Q
  | [], H, Q, h => h
  | kv :: r, H, Q, h => tPairs_con r H (fun ps H3 => Q ((kV kv.1, kv.2) :: ps) H3) h
section
variable {X : Cx} {pos : Pos}
theorem se_dict0 : SE X (.Dict [] [] pos) (dDis []) := fun W tk => PE.imp pe_dnewK fun σ H Q ⟨G, O, ρ, hK, R, h⟩ p hp => by
  obtain ⟨O', R'⟩ := R.fresh (d := .dic []) hp (.dic .nil)
  exact h O' _ _ R'
theorem se_dis {keys : List (Option Expr)} {values : List Expr} (kvs : List (Key × V)) (h : PPs X pos keys values (kvs.map fun kv => (tC (kV kv.1), tC kv.2))) (hall : keys.all (·.isSome) = true := by rfl) (hl : keys.length = values.length := by rfl) (h0 : keys ≠ [] := by exact fun z => nomatch z)
    (h15 : keys.length ≤ 15 := by decide) (hk : kvs.length ≤ 15 := by decide) (hm : mergeK [] kvs = kvs := by rfl) : SE X (.Dict keys values pos) (dDis kvs) := fun W tk => PE.imp (pe_disp h hall hl h0 h15) fun σ H Q ⟨G, O, ρ, hK, R, q⟩ p hp => by
  refine tPairs_con kvs _ _ ⟨upd_same, kvs, rfl, hk, ?_⟩
  rw [upd_upd, hm]
  obtain ⟨O', R'⟩ := R.fresh (d := .dic (kvs.map fun p => (p.1, .con p.2))) hp (.dic (RepK.con_map kvs))
  exact q O' _ _ R'
/-- d[k] -/
def rDGet : R2 := fun x y H Q => ∃ a v, x = .ref a ∧ DGet H a y (some v) ∧ Q v H
theorem ix_dget (hu : X.A.units + 1 < cLine) : IxR X rDGet := by
  intro value slice pins s σ H x y v u Q I rx ry h hs
  obtain ⟨a, r, rfl, g, q⟩ := h
  obtain rfl : v = Value.ref a := rx
  exact tail_any (dict_typeIs I g) PySem.F.slot_dict_getitem.lookup (d_getItem hu I g ry fun w' s3 I3 rw' => ⟨r, H, I3, rw', q⟩) hs
def keyD (d : D) : Option Key := match d with
  | .con (.int i) => some (.inl i)
  | .con (.str s) => some (.inr s)
  | _ => none
def findK (kvs : List (Key × D)) (k : Key) : Option D := (kvs.find? fun kv => decide (kv.1 = k)).map (·.2)
def dgetD (x y : D) : Option (D × Kd) := match x with
  | .dic kvs => (keyD y).bind fun k => (findK kvs k).map fun d => (d, .shr)
  | _ => none
theorem keyD_of {d : D} {k : Key} (e : keyD d = some k) : d = .con (kV k) := by
  unfold keyD at e
  split at e <;> cases e <;> rfl
theorem RepK.find {K : PySem.W.Frag} {H : Hp} {L : Addr → Prop} {k : Key} : ∀ {vs : List (Key × V)} {ds : List (Key × D)} {d : D}, RepK K H L vs ds → findK ds k = some d → ∃ v, valV vs k = some v ∧ Rep K H L v d
  | _, _, _, .nil, e => by simp [findK] at e
  | (a, v) :: vs, (_, d0) :: ds, d, .cons r rs, e => by
    unfold findK at e
    by_cases q : a = k
    · rw [List.find?_cons_of_pos (by simpa using q)] at e
      cases e
      exact ⟨v, valV_pos q, r⟩
    · rw [List.find?_cons_of_neg (by simpa using q)] at e
      obtain ⟨v', h1, h2⟩ := RepK.find rs (show findK ds k = some d from e)
      refine ⟨v', ?_, h2⟩
      unfold valV
      rw [List.find?_cons_of_neg (by simpa using q)]
      exact h1
theorem Vw.dic {K : PySem.W.Frag} {H : Hp} {O : Own} {v : V} {ds : List (Key × D)} (h : Vw K H O v (.dic ds)) : ∃ a vs, v = .ref a ∧ Rd H a (.dK vs) ∧ RepK K H (lin O) vs ds := by
  rcases h with h | ⟨a, ho, e, h1, c⟩
  · cases h with
    | obj n r c =>
      cases c with
      | dic q => exact ⟨_, _, rfl, r, q⟩
  · cases c with
    | dic q => exact ⟨a, _, e, .inl h1, q⟩
theorem os_dget {K : PySem.W.Frag} : OpS2 K rDGet dgetD := by
  intro G O σ H ρ a b x y z Q hK R v1 v2 e q
  unfold dgetD at e
  split at e
  · rename_i kvs
    obtain ⟨k, e1, e2⟩ := Option.bind_eq_some_iff.mp e
    obtain ⟨d, e3, rfl⟩ := Option.map_eq_some_iff.mp e2
    rw [keyD_of e1] at v2
    obtain ⟨p, vs, rfl, rd, rk⟩ := v1.dic
    obtain ⟨v, h1, h2⟩ := rk.find e3
    rw [v2.con]
    refine ⟨p, v, rfl, .inl ⟨vs, k, rd, rfl, h1.symm⟩, q O v H (R.push ?_)⟩
    rw [← hK] at h2
    exact h2
  · cases e
def ixA (x y : D) : Option (D × Kd) := (ixD x y).or (dgetD x y)
theorem ix_any (hu : X.A.units + 1 < cLine) : IxR X fun x y H Q => rIx X.K x y H Q ∨ rDGet x y H Q := IxR.or ix_seq (ix_dget hu)
theorem os_ixA {K : PySem.W.Frag} : OpS2 K (fun x y H Q => rIx K x y H Q ∨ rDGet x y H Q) ixA := OpS2.or os_ix os_dget
theorem units_of {k : Nat} {A : Around} (hr : Room k A) : A.units + 1 < cLine := by have := hr.units; omega
end
/-! ### the greatest of a list -/
theorem maxL_of : ∀ {ns : List Int} {m k : Int}, maxL ns = some m → k ∈ ns → (∀ y ∈ ns, y ≤ k) → k = m := by
  have key : ∀ (xs : List Int) (x : Int), (xs.foldl max x = x ∨ xs.foldl max x ∈ xs) ∧ x ≤ xs.foldl max x ∧ ∀ y ∈ xs, y ≤ xs.foldl max x := by
    intro xs
    induction xs with
    | nil => intro x; exact ⟨.inl rfl, Int.le_refl _, fun y hy => (nomatch hy)⟩
    | cons z zs ih =>
      intro x
      obtain ⟨h1, h2, h3⟩ := ih (max x z)
      have e : (z :: zs).foldl max x = zs.foldl max (max x z) := rfl
      rw [e]
      refine ⟨?_, by omega, fun y hy => ?_⟩
      · rcases h1 with h1 | h1
        · rcases (by omega : max x z = x ∨ max x z = z) with h | h
          · left; omega
          · right; rw [h1, h]; exact List.mem_cons_self
        · right; exact List.mem_cons_of_mem _ h1
      · rcases List.mem_cons.mp hy with h | h
        · subst h; omega
        · exact h3 y h
  intro ns m k e hk hm
  cases ns with
  | nil => cases hk
  | cons z zs =>
    obtain ⟨h1, h2, h3⟩ := key zs z
    cases e
    have a1 : zs.foldl max z ≤ k := by
      rcases h1 with q | q
      · rw [q]; exact hm _ List.mem_cons_self
      · exact hm _ (List.mem_cons_of_mem _ q)
    have a2 : k ≤ zs.foldl max z := by
      rcases List.mem_cons.mp hk with q | q
      · rw [q]; exact h2
      · exact h3 _ q
    omega
theorem os_maxL {K : PySem.W.Frag} : OpS K (rMax K) (scB maxLV) := OpS.sc fun H vs ds v O Q w e q => by
  unfold maxLV at e
  split at e
  · obtain ⟨ns, e1, e2⟩ := Option.bind_eq_some_iff.mp e
    obtain ⟨m, e3, rfl⟩ := Option.map_eq_some_iff.mp e2
    obtain ⟨v, rfl, v1⟩ := w.one
    obtain ⟨a1, us, rfl, s1, r1⟩ := v1.lst
    rw [intsD_of e1] at r1
    rw [r1.con_inv] at s1
    refine ⟨a1, ns, rfl, s1, ?_, fun k hk hm => ?_⟩
    · cases ns with
      | nil => cases e3
      | cons _ _ => simp
    · rw [maxL_of e3 hk hm]; exact q
  · cases e
/-- an object more, of nobody -/
theorem Rel.grow {G : Fix} {O : Own} {σ : St} {H : Hp} {ρ : Rho} {T : List Tmp} {p : Addr} {ho : HO} (R : Rel G O σ H ρ T) (hp : H p = none) : Rel G O σ (upd H p ho) ρ T := by
  have ne : ∀ {a : Addr} {o : HO}, H a = some o → a ≠ p := fun e z => by rw [z, hp] at e; cases e
  have hs : Stay H (upd H p ho) (lin O) (lin O) := fun a o n e => ⟨by rw [upd_ne (ne e)]; exact e, n⟩
  refine ⟨R.len, fun b o e => ?_, R.ot, fun a w e => ?_, R.pn, fun i s e => ?_, ?_⟩
  · obtain ⟨h1, h2⟩ := R.fr b o e
    rw [upd_ne (ne h1)]; exact ⟨h1, h2⟩
  · obtain ⟨o, q⟩ := R.tr a w e
    exact ⟨o, by rw [upd_ne (ne q)]; exact q⟩
  · obtain ⟨v, h1, h2⟩ := R.sl i s e
    exact ⟨v, h1, slot_mono hs (fun a o e1 e2 => ⟨e1, by rw [upd_ne (ne e2)]; exact e2⟩) h2⟩
  · exact tmps_mono hs (fun a o n _ e1 e2 => ⟨e1, by rw [upd_ne (ne e2)]; exact e2⟩) R.tm
/-! ### len(set(a list of ints)) -/
/-- how many different ones -/
def nubN (ns : List Int) : Nat := (firstMet (fun i => ns.getD i 0) ns.length).length
def SetF (P : Program) (w : World) (a : Addr) (n : Nat) : HO := .ext fun h => ∃ S : Int → Bool, h.SetOf (intKind P w) a S n
section
variable {X : Cx}
theorem setF_new {P : Program} {w : World} {H : Hp} {h : Heap} {a : Addr} {n : Nat} {S : Int → Bool} (R : h.SetOf (intKind P w) a S n) : ObjOk P w H h a (SetF P w a n) := by
  have ⟨o, es, ep, t, ho, r⟩ := R
  refine ⟨⟨S, R⟩, ⟨o, ho⟩, fun h1 h2 p k => ?_⟩
  obtain ⟨S', o', es', ep', t', ho', r'⟩ := p
  exact ⟨S', o', es', ep', t', k _ ho', r'⟩
def rSetL (X : Cx) : List V → Hp → VK → Prop := fun vs H Q => ∃ (a : Addr) (ns : List Int), vs = [V.ref a] ∧ SqL X.K H a (ns.map V.int) ∧ ns.length + 1 < scanBound ∧ ∀ p, H p = none → Q (.ref p) (upd H p (SetF X.prog X.w p (nubN ns)))
theorem cr_setL (hc : X.calm = true) : CallR X (.type "set") (rSetL X) := by
  intro pins s σ H vs us Q I r h
  obtain ⟨a, ns, rfl, hs, hb, q⟩ := h
  obtain ⟨its, rv, hl, _⟩ := I.list hs
  rw [Vals.ref1 r]
  have hi := rv.ints
  have hz : its.toArray.size = ns.length := by
    have e1 := hi.length
    simp
    omega
  refine call_set_list (ns := ns) (I.ok.hd hc) hl.isList (by simpa using hi) (by rw [hz]; exact hb) fun h' tk hS hk => ?_
  rw [hz] at hS
  have hp : s.heap.objs.size ≤ s.heap.objs.size := Nat.le_refl _
  exact ⟨.ref s.heap.objs.size, _, I.laid (a := s.heap.objs.size) (o := SetF X.prog X.w s.heap.objs.size (nubN ns)) (t' := tk) (fun b o e => hk b o (Heap.lt_size e) e) hp (setF_new hS), rfl, q _ (I.hok.fresh hp)⟩
theorem cr_lenF : CallR X (.builtin "len") (fun vs H Q => ∃ p n, vs = [V.ref p] ∧ H p = some (SetF X.prog X.w p n) ∧ Q (.int n) H) := by
  intro pins s σ H vs us Q I r h
  obtain ⟨p, n, rfl, hp, q⟩ := h
  obtain ⟨S, o, es, ep, t, ho, hex, hd, _, _, hb, hf, hn⟩ := (I.hok p _ hp).1
  rw [Vals.ref1 r]
  refine call_len_set ho hex hd hf (by unfold scanBound at hb; omega) ?_
  exact ⟨.int n, H, I.tok _, ⟨_, by rw [hn]⟩, q⟩
end
def lenSetV (d : D) : Option V := match d with
  | .lst xs => (intsD xs).bind fun ns => if ns.length < 4000 then some (.int (nubN ns)) else none
  | _ => none
section
variable {X : Cx} {e : Expr} {r : DE} {p1 p2 p3 pos : Pos}
theorem se_lenSet (hc : X.calm = true) (hm1 : X.mg "len" = none) (hm2 : X.mg "set" = none) (he : SE X e r) (hg1 : Gl X "len" := by rfl) (hg2 : Gl X "set" := by rfl)
    (hs1 : starEach [.Call (.Name "set" p2) [e] [] p3] X.env = (false, eval (.Call (.Name "set" p2) [e] [] p3) X.env) :: starEach [] X.env := by rfl) (hs2 : starEach [e] X.env = (false, eval e X.env) :: starEach [] X.env := by rfl)
    (hpl1 : (backTo pos (starEach [] X.env)).any (·.1) = false := by rfl) (hpl2 : (backTo p3 (starEach [] X.env)).any (·.1) = false := by rfl) :
    SE X (.Call (.Name "len" p1) [.Call (.Name "set" p2) [e] [] p3] [] pos) (dOp1 lenSetV r) := fun W tk =>
  PE.imp (pe_callB cr_lenF hg1 hm1 (by decide +kernel) (pa_cons (pe_callTy (cr_setL hc) hg2 hm2 (by decide +kernel) (pa_cons (he W tk) pa_nil hs2) (by decide) (by decide) hs2 hpl2) pa_nil hs1) (by decide) (by decide) hs1 hpl1) fun σ H Q ⟨G, O, ρ, hK, R, h⟩ => by
    refine tE.at hK R (Res.post_ok ((post_bind _ _).mp h) fun x ρ1 q O1 v H1 R1 => ?_)
    obtain ⟨d, e1, q2⟩ := post_cur.mp ((post_bind _ _).mp q)
    obtain ⟨w, e2, q3⟩ := (post_opt _).mp ((post_bind _ _).mp q2)
    have v1 := R1.view R1.tm.1 e1
    unfold lenSetV at e2
    split at e2
    · rename_i xs
      obtain ⟨ns, e3, e4⟩ := Option.bind_eq_some_iff.mp e2
      split at e4
      · rename_i hz
        cases e4
        obtain ⟨a1, us, rfl, s1, r1⟩ := v1.lst
        rw [intsD_of e3] at r1
        rw [r1.con_inv] at s1
        rw [hK] at s1
        refine ⟨a1, ns, rfl, s1, by unfold scanBound; omega, fun p hp => ⟨p, _, rfl, upd_same, ?_⟩⟩
        exact q3 O1 _ _ ((R1.pop.grow hp).con _)
      · cases e4
    · cases e2
end
end L2.VL
end
section
set_option Elab.async false
set_option linter.all false
set_option maxRecDepth 100000
/-! VLC: rules for VLB, and for while. -/
namespace L2.VL
open PySem PySem.Spec PyProof.Rows
section
variable {ρ : Rho} {E : Exn → Rho → Prop} {Q : Fl → Rho → Prop} {r : DE} {V1 : D × Kd → Rho → Prop} {i : Nat} {p : Bool}
theorem w_p_while {c : M Bool} {body : DS} (I : Nat → Rho → Prop) (n : Nat) (h0 : I n ρ)
    (hs : ∀ n ρ, I n ρ → (c ρ).pst (fun k ρ1 => Br k ((body ρ1).pst (TurnK (fun ρ' => ∃ m, m < n ∧ I m ρ') Q) E) (Q .nx ρ1)) E) : ((dWhile c body) ρ).pst Q E := by
  have go : ∀ (k n : Nat) (ρ : Rho), n < k → I n ρ → ((whileN c body k) ρ).post Q E := by
    intro k
    induction k with
    | zero => intro n ρ h; omega
    | succ k ih =>
      intro n ρ hn h
      refine (post_bind _ _).mpr (Res.post_ok (hs n ρ h).h fun b ρ1 q => ?_)
      cases b with
      | false => exact q
      | true =>
        have q : ((body ρ1).pst (TurnK (fun ρ' => ∃ m, m < n ∧ I m ρ') Q) E) := q
        refine (post_bind _ _).mpr (Res.post_ok q.h fun f ρ2 q2 => ?_)
        cases f with
        | nx => obtain ⟨m, hm, q3⟩ := q2; exact ih m ρ2 (by omega) q3
        | cnt => obtain ⟨m, hm, q3⟩ := q2; exact ih m ρ2 (by omega) q3
        | brk => exact q2
        | ret d b => exact q2
  have h := go (n + 1) n ρ (by omega) h0
  refine ⟨?_⟩
  rw [dWhile_of (post_ne h)]
  exact h
theorem w_p_ext {xs : List D} (hi : ρ[i]? = some (some ⟨.lst xs, true, p⟩)) (h : (r ρ).pst (fun x ρ' => ∃ zs, extOk i ρ' x = some zs ∧ ∃ xs p, ρ'[i]? = some (some ⟨.lst xs, true, p⟩) ∧ xs.length + zs.length ≤ cap ∧ V1 (.non, .shr) (ρ'.set i (some ⟨.lst (xs ++ zs), true, p⟩))) E) : ((dExt i r) ρ).pst V1 E := by
  refine ⟨?_⟩
  unfold dExt
  refine (post_bind _ _).mpr (p_chk hi ((post_bind _ _).mpr (Res.post_ok h.h ?_)))
  rintro x ρ' ⟨zs, e1, xs', p', e2, e3, h4⟩
  unfold extEnd
  rw [e1]
  exact p_mutEnd e2 ⟨(xs' ++ zs, .non), by exact if_pos e3, h4⟩
theorem ex_extF {P : List D → Prop} {zs : List D} (h : P zs) : ∃ ys, extOk i ρ (.lst zs, .fr) = some ys ∧ P ys := ⟨zs, rfl, h⟩
theorem w_p_dis {kvs : List (Key × V)} (h : V1 (.dic (kvs.map fun p => (p.1, .con p.2)), .fr) ρ) : ((dDis kvs) ρ).pst V1 E := ⟨h⟩
theorem x_dgetS {P : D × Kd → Prop} {kvs : List (Key × D)} {s : Str} {d : D} (e : findK kvs (.inr s) = some d) (h : P (d, .shr)) : ∃ z, dgetD (.dic kvs) (.con (.str s)) = some z ∧ P z := ⟨(d, .shr), by unfold dgetD keyD; simp [e], h⟩
theorem x_dgetI {P : D × Kd → Prop} {kvs : List (Key × D)} {s : Int} {d : D} (e : findK kvs (.inl s) = some d) (h : P (d, .shr)) : ∃ z, dgetD (.dic kvs) (.con (.int s)) = some z ∧ P z := ⟨(d, .shr), by unfold dgetD keyD; simp [e], h⟩
theorem x_lenSet {W : V → Prop} {ns : List Int} (hl : ns.length < 4000) (h : W (.int (nubN ns))) : ∃ v, lenSetV (.lst (ns.map fun n => .con (.int n))) = some v ∧ W v :=
  ⟨_, by unfold lenSetV; simp [intsD_map, hl], h⟩
theorem x_maxL {W : V → Prop} {ns : List Int} {m : Int} (e : maxL ns = some m) (h : W (.int m)) : ∃ v, maxLV [.lst (ns.map fun n => .con (.int n))] = some v ∧ W v :=
  ⟨_, by unfold maxLV; simp [intsD_map, e], h⟩
theorem x_sumL {W : V → Prop} {ns : List Int} (h : W (.int ns.sum)) : ∃ v, sumV [.lst (ns.map fun n => .con (.int n))] = some v ∧ W v :=
  ⟨_, by unfold sumV; simp [intsD_map], h⟩
theorem x_and {P : D × Kd → Prop} {i j : Int} (h : P (.con (.int (Builtin.bitAnd i j)), .shr)) : ∃ z, andD (.con (.int i)) (.con (.int j)) = some z ∧ P z := ⟨_, rfl, h⟩
theorem x_bor {P : D × Kd → Prop} {i j : Int} (h : P (.con (.int (Builtin.bitOr i j)), .shr)) : ∃ z, orD (.con (.int i)) (.con (.int j)) = some z ∧ P z := ⟨_, rfl, h⟩
theorem x_xor {P : D × Kd → Prop} {i j : Int} (h : P (.con (.int (Builtin.bitXor i j)), .shr)) : ∃ z, xorD (.con (.int i)) (.con (.int j)) = some z ∧ P z := ⟨_, rfl, h⟩
/-! #### bits of naturals -/
theorem bitAnd_nat (a b : Nat) : Builtin.bitAnd (a : Int) b = ((a &&& b : Nat) : Int) := by
  unfold Builtin.bitAnd
  rw [decide_eq_true (Int.natCast_nonneg a), decide_eq_true (Int.natCast_nonneg b)]
  simp
theorem bitOr_nat (a b : Nat) : Builtin.bitOr (a : Int) b = ((a ||| b : Nat) : Int) := by
  have e : ∀ n : Nat, decide (0 ≤ Builtin.bitNot (n : Int)) = false := fun n => by
    rw [decide_eq_false_iff_not]
    unfold Builtin.bitNot
    omega
  have n2 : ∀ x : Int, Builtin.bitNot (Builtin.bitNot x) = x := fun x => by unfold Builtin.bitNot; omega
  unfold Builtin.bitOr Builtin.bitAnd
  rw [e, e]
  simp only [n2, Int.toNat_natCast]
theorem xor_add_and : ∀ (a b : Nat), (a ^^^ b) + (a &&& b) = a ||| b := by
  intro a
  induction a using Nat.strongRecOn with
  | _ a ih =>
    intro b
    by_cases h : a = 0
    · subst h; simp
    · have i := ih (a / 2) (by omega) (b / 2)
      have e1 : (a ^^^ b) / 2 = (a / 2) ^^^ (b / 2) := Nat.xor_div_two
      have e2 : (a &&& b) / 2 = (a / 2) &&& (b / 2) := Nat.and_div_two
      have e3 : (a ||| b) / 2 = (a / 2) ||| (b / 2) := Nat.or_div_two
      have f1 : (a ^^^ b) % 2 = 1 ↔ ¬ (a % 2 = 1 ↔ b % 2 = 1) := Nat.xor_mod_two_eq_one
      have f2 : (a &&& b) % 2 = 1 ↔ a % 2 = 1 ∧ b % 2 = 1 := Nat.and_mod_two_eq_one
      have f3 : (a ||| b) % 2 = 1 ↔ a % 2 = 1 ∨ b % 2 = 1 := Nat.or_mod_two_eq_one
      rw [← e1, ← e2, ← e3] at i
      omega
theorem bitXor_nat (a b : Nat) : Builtin.bitXor (a : Int) b = ((a ^^^ b : Nat) : Int) := by
  unfold Builtin.bitXor
  rw [bitOr_nat, bitAnd_nat, ← xor_add_and]
  omega
theorem x_andN {P : D × Kd → Prop} {a b : Nat} (h : P (D.int (a &&& b : Nat), .shr)) : ∃ z, andD (D.int a) (D.int b) = some z ∧ P z := x_and (by rw [bitAnd_nat]; exact h)
theorem x_orN {P : D × Kd → Prop} {a b : Nat} (h : P (D.int (a ||| b : Nat), .shr)) : ∃ z, orD (D.int a) (D.int b) = some z ∧ P z := x_bor (by rw [bitOr_nat]; exact h)
theorem x_xorN {P : D × Kd → Prop} {a b : Nat} (h : P (D.int (a ^^^ b : Nat), .shr)) : ∃ z, xorD (D.int a) (D.int b) = some z ∧ P z := x_xor (by rw [bitXor_nat]; exact h)
theorem x_shl1 {P : D × Kd → Prop} {k : Nat} (hk : k ≤ 1000) (h : P (D.int (2 ^ k : Nat), .shr)) : ∃ z, shlD (D.int 1) (D.int k) = some z ∧ P z := by
  refine ⟨(D.int (1 * 2 ^ ((k : Int)).toNat), .shr), ?_, ?_⟩
  · refine if_pos ?_
    unfold CPowB
    simp
    omega
  · rw [Int.one_mul, Int.toNat_natCast]
    have : ((2 ^ k : Nat) : Int) = (2 : Int) ^ k := by simp
    rw [← this]
    exact h
theorem x_shrN {P : D × Kd → Prop} {a k : Nat} (h : P (D.int (a >>> k : Nat), .shr)) : ∃ z, shrD (D.int a) (D.int k) = some z ∧ P z := by
  refine ⟨(D.int ((a : Int) / 2 ^ ((k : Int)).toNat), .shr), ?_, ?_⟩
  · show (if decide ((0 : Int) ≤ (k : Int)) = true then some (D.int ((a : Int) / 2 ^ ((k : Int)).toNat), Kd.shr) else none) = _
    rw [decide_eq_true (Int.natCast_nonneg k)]
    exact if_pos rfl
  rw [Int.toNat_natCast]
  have : ((a >>> k : Nat) : Int) = (a : Int) / 2 ^ k := by
    rw [Nat.shiftRight_eq_div_pow]
    simp
  rw [← this]
  exact h
end
end L2.VL
end
section
set_option Elab.async false
set_option linter.all false
set_option maxRecDepth 100000
/-! VLD: text * int. -/
namespace L2.VL
open PySem PySem.Spec PyProof.Rows
def repS (s : Str) (n : Nat) : Str := ⟨(List.replicate n s.cps.toList).flatten.toArray⟩
def rMulS : R2 := fun x y H Q => ∃ s k, x = .str s ∧ y = .int k ∧ 0 ≤ k ∧ k ≤ 1000 ∧ s.length ≤ 1000 ∧ Q (.str (repS s k.toNat)) H
theorem foldl_app (n : Nat) (a : Array Nat) (acc : Array Nat) : (List.replicate n a).foldl (· ++ ·) acc = acc ++ (List.replicate n a.toList).flatten.toArray := by
  induction n generalizing acc with
  | zero => simp
  | succ n ih =>
    rw [List.replicate_succ, List.foldl_cons, ih, List.replicate_succ, List.flatten_cons]
    apply Array.toList_inj.mp
    simp
theorem op_mulS {X : Cx} : OpR X (binaryOp .Mult) rMulS := by
  intro pins s σ H x y v u Q I rx ry h
  obtain ⟨z, k, rfl, rfl, h0, h1, hl, q⟩ := h
  obtain ⟨t1, rfl⟩ := rx
  obtain ⟨t2, rfl⟩ := ry
  refine P.mul_str (by simp; omega) (fun a b => ?_) (fun a b => ?_) ?_
  · have hk : 0 < k := by omega
    have : (9223372036854775807 : Int) / k ≥ 9223372036854775 := by
      refine Int.le_ediv_of_mul_le hk ?_
      have : (9223372036854775 : Int) * k ≤ 9223372036854775 * 1000 := by omega
      omega
    have e : ((2 : Int) ^ 63 - 1) = 9223372036854775807 := by decide
    rw [e]
    omega
  · have : z.length * k.toNat ≤ 1000 * 1000 := Nat.mul_le_mul hl (by omega)
    unfold Builtin.Str.tooLong
    rw [decide_eq_false_iff_not]
    have e := sizeLine_eq
    omega
  · by_cases a : k < 1
    · rw [if_pos a]
      have : k = 0 := by omega
      subst this
      exact ⟨by decide, .str Str.empty, _, I.tok _, ⟨_, rfl⟩, q⟩
    · rw [if_neg a]
      by_cases b : (k == 1 || z.length == 0) = true
      · rw [if_pos b]
        refine ⟨.str z, H, I, ⟨_, rfl⟩, ?_⟩
        have e : repS z k.toNat = z := by
          rw [Bool.or_eq_true] at b
          unfold repS
          rcases b with b | b
          · have : k = 1 := by simpa using b
            subst this
            simp
          · have b : z.cps.size = 0 := by have b : (z.length == 0) = true := b; exact eq_of_beq b
            have : z.cps = #[] := Array.eq_empty_of_size_eq_zero b
            have e2 : (List.replicate k.toNat ([] : List Nat)).flatten = [] := by simp
            cases z
            simp at this
            subst this
            simp
        rw [e] at q
        exact q
      · rw [if_neg b]
        refine ⟨?_, .str _, _, I.tok _, ⟨_, rfl⟩, ?_⟩
        · show (_ : Array Nat).size ≤ _
          rw [foldl_app]
          rw [Array.empty_append, List.size_toArray, List.length_flatten, List.map_replicate, List.sum_replicate_nat]
          have : k.toNat * z.cps.toList.length ≤ 1000 * 1000 := Nat.mul_le_mul (by omega) hl
          have e := sizeLine_eq
          omega
        · rw [foldl_app]
          simpa [repS] using q
def mulSD (x y : D) : Option (D × Kd) := match x, y with
  | .con (.str s), .con (.int k) => if 0 ≤ k ∧ k ≤ 1000 ∧ s.length ≤ 1000 then some (.con (.str (repS s k.toNat)), .shr) else none
  | _, _ => none
theorem os_mulS {K : PySem.W.Frag} : OpS2 K rMulS mulSD := by
  intro G O σ H ρ a b x y z Q hK R v1 v2 e q
  unfold mulSD at e
  split at e
  · rename_i s k
    split at e
    · rename_i h
      cases e
      rw [v1.con, v2.con]
      exact ⟨s, k, rfl, rfl, h.1, h.2.1, h.2.2, q O _ H (R.con _)⟩
    · cases e
  · cases e
def mulT (x y : D) : Option (D × Kd) := (mulA x y).or (mulSD x y)
theorem op_mulT {X : Cx} : OpR X (binaryOp .Mult) fun x y H Q => rMulA X.K x y H Q ∨ rMulS x y H Q := OpR.or op_mulA op_mulS
theorem os_mulT {K : PySem.W.Frag} : OpS2 K (fun x y H Q => rMulA K x y H Q ∨ rMulS x y H Q) mulT := OpS2.or os_mulA os_mulS
section
variable {P : D × Kd → Prop} {i j : Int} {xs : List D}
theorem mulT_of {x y : D} {z : D × Kd} (e : mulA x y = some z) : mulT x y = some z := by unfold mulT; rw [e]; rfl
theorem x_mulT (hl : (-18446744073709551616 < i ∧ i < 18446744073709551616) ∨ (-18446744073709551616 < j ∧ j < 18446744073709551616)) (h : P (.con (.int (i * j)), .shr)) : ∃ z, mulT (.con (.int i)) (.con (.int j)) = some z ∧ P z := by
  obtain ⟨z, e, h⟩ := x_mulA hl h
  exact ⟨z, mulT_of e, h⟩
theorem x_repT (hl : (-4611686018427387904 ≤ i ∧ i < 4611686018427387904) ∧ xs.length * i.toNat ≤ cap) (h : P (.lst (List.replicate i.toNat xs).flatten, .fr)) : ∃ z, mulT (.lst xs) (.con (.int i)) = some z ∧ P z := by
  obtain ⟨z, e, h⟩ := x_repA hl h
  exact ⟨z, mulT_of e, h⟩
theorem x_mulS {s : Str} (hl : 0 ≤ i ∧ i ≤ 1000 ∧ s.length ≤ 1000) (h : P (.con (.str (repS s i.toNat)), .shr)) : ∃ z, mulT (.con (.str s)) (.con (.int i)) = some z ∧ P z :=
  ⟨_, by unfold mulT mulSD mulA; simp [hl], h⟩
end
end L2.VL
end
section
set_option Elab.async false
set_option linter.all false
set_option maxRecDepth 100000
/-! VLL: comprehensions whose names stand already; bits. -/
namespace L2.VL
open PySem PySem.Spec PyProof.Rows
section
variable {α : Type} {own : List Nat} {t : Tg} {q : M Bool} {r : DE} {xs : List D} {ρ : Rho} {V1 : D × Kd → Rho → Prop} {E : Exn → Rho → Prop}
theorem w_lc_mapW {f : α → D} (as : List α) (g : α → D) (ρw : Rho) (hw : wipeR ρ own = ρw) (hx : xs = as.map f) (hl : as.length ≤ cap)
    (hs : ∀ a ∈ as, ((lcT t q r (f a)) ρw).pst (fun o ρ' => o = some (g a) ∧ wipeR ρ' own = ρw) E) (h : V1 (.lst (as.map g), .fr) ρw) :
    ((lcD own t q r xs) ρ).pst (LcK own V1) E := by
  subst hw hx
  refine w_lc_st (fun i acc ρ' => acc = (as.take i).map g ∧ ρ' = wipeR ρ own) ⟨by simp, rfl⟩ ?_ ?_
  · rintro i x acc ρ' hx ⟨rfl, rfl⟩
    rw [List.getElem?_map] at hx
    obtain ⟨a, ha, rfl⟩ := Option.map_eq_some_iff.mp hx
    refine ⟨Res.post_ok (hs a (List.mem_of_getElem? ha)).h ?_⟩
    rintro o ρ2 ⟨rfl, h2⟩
    refine ⟨?_, h2⟩
    rw [List.take_add_one, ha]
    simp
  · rintro acc ρ' ⟨rfl, rfl⟩
    simp only [List.length_map, List.take_length]
    exact ⟨hl, h⟩
end
theorem x_bit {P : D × Kd → Prop} {a k : Nat} (h : P (D.int (if a.testBit k = true then 1 else 0), .shr)) : ∃ z, andD (D.int (a >>> k : Nat)) (D.int 1) = some z ∧ P z := by
  refine x_and ?_
  rw [show (1 : Int) = ((1 : Nat) : Int) from rfl, bitAnd_nat]
  have e : a >>> k &&& 1 = if a.testBit k = true then 1 else 0 := by
    unfold Nat.testBit
    rw [Nat.and_comm]
    rw [Nat.one_and_eq_mod_two]
    rcases Nat.mod_two_eq_zero_or_one (a >>> k) with q | q <;> simp [q]
  rw [e]
  have : (((if a.testBit k = true then 1 else 0 : Nat)) : Int) = if a.testBit k = true then 1 else 0 := by split <;> rfl
  rw [this]
  exact h
theorem bit_eq1 (b : Bool) : decide ((if b = true then (1 : Int) else 0) = 1) = b := by cases b <;> rfl
theorem bit_eq0 (b : Bool) : decide ((if b = true then (1 : Int) else 0) = 0) = !b := by cases b <;> rfl
theorem x_eqBit1 {B : Bool → Prop} {b : Bool} (h : B b) : ∃ k, eqD (D.int (if b = true then 1 else 0)) (D.int 1) = some k ∧ B k := x_eqI (by rw [bit_eq1]; exact h)
theorem x_eqBit0 {B : Bool → Prop} {b : Bool} (h : B (!b)) : ∃ k, eqD (D.int (if b = true then 1 else 0)) (D.int 0) = some k ∧ B k := x_eqI (by rw [bit_eq0]; exact h)
/-! what is forgotten, slot by slot -/
def unp (ρ : Rho) (i : Nat) : Rho := if pinned ρ i then ρ else ρ.set i none
section
variable {ρ xs : Rho} {d : D} {o : Bool} {x : Option Slot} {i : Nat} {is : List Nat}
theorem forgetR_nil : forgetR ρ [] = ρ := rfl
theorem forgetR_cons : forgetR ρ (i :: is) = unp (forgetR ρ is) i := rfl
theorem unp_n : unp (none :: xs) 0 = none :: xs := rfl
theorem unp_f : unp (some ⟨d, o, false⟩ :: xs) 0 = none :: xs := rfl
theorem unp_t : unp (some ⟨d, o, true⟩ :: xs) 0 = some ⟨d, o, true⟩ :: xs := rfl
theorem unp_s : unp (x :: xs) (i + 1) = x :: unp xs i := by
  unfold unp
  have e : pinned (x :: xs) (i + 1) = pinned xs i := by unfold pinned; rw [List.getElem?_cons_succ]
  rw [e]
  split
  · rfl
  · rw [List.set_cons_succ]
end
end L2.VL
end
section
set_option Elab.async false
set_option linter.all false
set_option maxRecDepth 100000
/-! VLP: a def that hands back a pair, seen through one of its parts: what the caller takes by [0] or [1] at once, is the caller's own. -/
namespace L2.VL
open PySem PySem.Spec PyProof.Rows
/-- the tuple that is handed back, seen through its part j -/
def prj (j : Nat) (Q : VK) : VK := fun u H => ∀ p vs, H p = some (.tup vs) → vs[j]? = some u → Q (.ref p) H
def finP (x : D × Kd) : DS := do
  let y ← dTake x
  pure (.ret y.1 y.2)
def dRet0 (l : List (Bool × DE)) : DS := do
  let xs ← dA l
  match xs with
  | [x, _] => finP x
  | _ => mStuck
def dRet1 (l : List (Bool × DE)) : DS := do
  let xs ← dA l
  match xs with
  | [_, y] => finP y
  | _ => mStuck
section
variable {X : Cx} {es : List Expr} {pos p : Pos} {l : List (Bool × DE)}
theorem finP_of {G : Fix} {O : Own} {σ : St} {H : Hp} {ρ : Rho} {x : D × Kd} {v : V} {E : Ends} {W : WX} (R : Rel G O σ H ρ [⟨v, x.1, x.2⟩]) (h : ((finP x) ρ).post (FlOk G E []) (EXs G W)) : E.rt v H := by
  obtain ⟨O2, y, ρ2, R2, q2⟩ := take_post R ((post_bind _ _).mp h)
  exact q2 O2 σ v H R2
theorem ss_ret0 {k} (hs : SA X es l) : SSf (prj 0) X (.Return (some (.Tuple es k pos)) p) (dRet0 l) := fun W tk => PS.imp (ps_ret (pe_tup (hs W tk))) fun D σ H ⟨G, O, ρ, hK, R, h⟩ => by
  refine ⟨G, O, ρ, [], hK, R, Res.post_mono ((post_bind _ _).mp h) (fun xs ρ1 q O1 vs H1 hl R1 => ?_) fun x ρ' q => q σ⟩
  split at q
  · rename_i x y
    match vs, hl with
    | [v, u], _ =>
      refine ⟨by show 2 ≤ sizeLine; decide, fun a ha => ?_⟩
      have R2 : Rel G O1 σ (upd H1 a (.tup [v, u])) ρ1 [⟨u, y.1, y.2⟩, ⟨v, x.1, x.2⟩] := Rel.grow R1 ha
      exact finP_of (E := D.re (prj 0)) R2.pop q a [v, u] (by unfold upd; rw [if_pos rfl]) rfl
  · exact q.elim
theorem ss_ret1 {k} (hs : SA X es l) : SSf (prj 1) X (.Return (some (.Tuple es k pos)) p) (dRet1 l) := fun W tk => PS.imp (ps_ret (pe_tup (hs W tk))) fun D σ H ⟨G, O, ρ, hK, R, h⟩ => by
  refine ⟨G, O, ρ, [], hK, R, Res.post_mono ((post_bind _ _).mp h) (fun xs ρ1 q O1 vs H1 hl R1 => ?_) fun x ρ' q => q σ⟩
  split at q
  · rename_i x y
    match vs, hl with
    | [v, u], _ =>
      refine ⟨by show 2 ≤ sizeLine; decide, fun a ha => ?_⟩
      have R2 : Rel G O1 σ (upd H1 a (.tup [v, u])) ρ1 [⟨u, y.1, y.2⟩, ⟨v, x.1, x.2⟩] := Rel.grow R1 ha
      obtain ⟨O3, R3⟩ := R2.only
      exact finP_of (E := D.re (prj 1)) R3 q a [v, u] (by unfold upd; rw [if_pos rfl]) rfl
  · exact q.elim
end
/-- a body that ends by handing back -/
def runFnP (n : Nat) (body : DS) : Fn := fun args => match body (args.map slotOf ++ List.replicate (n - args.length) none) with
  | .stuck => none
  | .ex x ρ' => some (.exc x (ρ'.take args.length))
  | .ok (.ret d b) ρ' => some (.ret d b (ρ'.take args.length))
  | .ok _ _ => none
def spFf (pj : VK → VK) (K : PySem.W.Frag) (F : Fn) (np : Nat) : Sp := fun vs H Q E => spF K F np vs H (pj Q) E
theorem body_ofP {pj : VK → VK} {K : PySem.W.Frag} {N ps : List Str} {r : DS} {vs : List V} {H : Hp} {Q : VK} {E : XK} (h : spFf pj K (runFnP N.length r) ps.length vs H Q E) :
    (fun D : Ends => tS K (fun cls d _ H => E cls d H) r (D.re pj)) { nx := fun _ H' => Q .non H', rt := Q } (start N vs) H := by
  obtain ⟨hv, G, O, args, hK, ha, R, h⟩ := h
  have R1 := R.more (N.length - vs.length)
  have pins : ∀ i v, G.Pin i = some v → i < args.length := fun i v e => by
    obtain ⟨_, s, h2, _⟩ := R.pn i v e
    have := (List.getElem?_eq_some_iff.mp h2).1
    simpa using this
  refine ⟨G, O, _, hK, R1, ?_⟩
  have el : args.length = vs.length := by rw [ha, hv]
  unfold runFnP at h
  rw [el] at h
  cases q : r (args.map slotOf ++ List.replicate (N.length - vs.length) none) with
  | stuck => rw [q] at h; exact h
  | ex x ρ' =>
    rw [q] at h
    rw [← el] at h
    exact fun σ' O' H' dd R' er => by rw [hK] at er ⊢; exact h O' _ H' dd (R'.few .nil pins) er
  | ok f ρ' =>
    rw [q] at h
    cases f with
    | nx => exact h.elim
    | ret d b =>
      dsimp only at h
      rw [← el] at h
      exact fun O' σ' v H' R' => h O' _ v H' (R'.few (NoNm.nil.cons fun i z => by cases b <;> cases z) pins)
    | brk => exact h.elim
    | cnt => exact h.elim
section
variable {P : Program} {w : World} {K : PySem.W.Frag} {mg : Str → Option Value} {base : Heap} {x : Str} {st : Stmt}
/-- a def as it stands, by its part j -/
structure DefP (j : Nat) (P : Program) (w : World) (K : PySem.W.Frag) (mg : Str → Option Value) (base : Heap) (x : Str) (k : Nat) (F : Fn) (np : Nat) (dvs : List V) : Prop where
  ex : ∃ (f : Addr) (fd : FuncData) (ps : List Str) (ds : List Value), mg x = some (.ref f) ∧ PySem.W.keepIn K (.ref f) = true ∧ ps.length = np ∧ FnOk P w K mg base (L2.CX P w) k f fd ps (spFf (prj j) K F np) ∧ Binds K fd ps ds ∧ Vals dvs ds
theorem defP_ok {j : Nat} {N ps : List Str} {k np : Nat} {r : DS} (F : FnAt K mg x st [] []) (S : FnScope N ps (defScope st)) (hn : ps.length = np)
    (hb : ∀ (kV doc pm : Value) (an : Option Addr) (cdv ct : Value) (us : List Value), us.length = ps.length → bindArgs (PySem.W.fnOf x x (defArgs st) (defBody st) (defScope st) .none kV doc pm an cdv ct) ⟨us, []⟩ = pure (ps.zip us))
    (h : ∀ (f : Addr) (cdv : Value) (A : Around) (outer : List Env) (s : Shared) (H : Hp) (E : XK), FnCx (cxOf (L2.CX P w) P w K mg base N x (defScope st) f cdv A outer s H E) k → SSsf (prj j) (cxOf (L2.CX P w) P w K mg base N x (defScope st) f cdv A outer s H E) (defBody st) r) :
    DefP j P w K mg base x (k + 1) (runFnP N.length r) np [] := by
  obtain ⟨f, fd, hm, F⟩ := F.ex
  subst hn
  refine ⟨f, fd, ps, [], hm, F.kp, rfl, F.ok S (fun vs H Q E h => h.1) fun cdv A outer s H vs Q E hr hsp => ?_, F.bindsN hb, .nil⟩
  have tk : Takes (cxOf (L2.CX P w) P w K mg base N x (defScope st) f cdv A outer s H E) (fun cls d _ H => E cls d H) := takes_of rfl rfl rfl rfl
  exact ⟨_, h f cdv A outer s H E ⟨⟨rfl, S.nd, passes_of rfl⟩, hr⟩ _ tk, body_ofP hsp⟩
end
section
variable {X : Cx} {k : Nat} {F : Fn} {dvs : List V} {x : Str} {p pos cpos ipos : Pos} {e : Expr} {es : List Expr} {l : List (Bool × DE)}
theorem se_callP {np j : Nat} {jj : Nat} (D : DefP j X.prog X.w X.K X.mg X.base x k F np dvs) (hr : Room k X.A) (ha : SA X (e :: es) l) (hg : Gl X x := by rfl) (hdb : (x == ("__debug__" : Str)) = false := by decide)
    (he : starEach (e :: es) X.env = (false, eval e X.env) :: starEach es X.env := by rfl) (hpl : (backTo cpos (starEach es X.env)).any (·.1) = false := by rfl) : SE X (.Subscript (.Call (.Name x p) (e :: es) [] cpos) (.Constant (.int (j : Nat)) jj ipos) pos) (dCall F np (dvs.map .con) l) := fun W tk => by
  obtain ⟨f, fd, ps, ds, hm, hk, hps, Fk, hb, hv⟩ := D.ex
  refine PE.imp (pe_ix ix_seq (pe_callSD (E := fun σ cls d H => W cls d σ H) Fk hr hg hm hk hb hv (fun σ => passAt tk σ) (ha W tk) hdb he hpl) pe_int (fun _ _ => rfl)) fun σ H Q h => ?_
  have hd : ∀ H L, Reps X.K H L dvs (dvs.map .con) := fun H L => by
    have := Reps.cons_map (K := X.K) (H := H) (L := L) (fun v : V => v) dvs
    simpa using this
  refine callee_of (ps := ps) hd hps σ H (prj j fun v H1 => rIx X.K v (.int (j : Nat)) H1 Q) ?_
  obtain ⟨G, O, ρ, hK, R, h⟩ := h
  exact ⟨G, O, ρ, hK, R, Res.post_ok h fun y ρ' q O' v H' R' a vs e1 e2 => .inr (.inl ⟨a, vs, (j : Nat), v, rfl, rfl, .inl (.inl e1), by unfold atI ixN; rw [if_pos (Int.natCast_nonneg j), if_pos (by exact_mod_cast (List.getElem?_eq_some_iff.mp e2).1)]; simpa using e2, q O' v H' R'⟩)⟩
end
/-! ### a test that only reads -/
def tBor (q : M Bool) : M Bool := fun ρ => match q (ρ.map lent) with
  | .ok b _ => .ok b ρ
  | _ => .stuck
theorem st_bor {X : Cx} {e : Expr} {q : M Bool} (h : ST X e q) : ST X e (tBor q) := fun W tk => PT.imp (h W tk) fun σ H Q ⟨G, O, ρ, hK, R, h⟩ => by
  refine ⟨⟨G.K, H, fun _ => False, G.Pin⟩, _, _, hK, R.lend, ?_⟩
  unfold tBor at h
  have key : (q (ρ.map lent)).post (fun b ρ' => ∀ O' H', Rel G O' σ H' ρ [] → Q b H') fun _ _ => False := by
    cases e1 : q (ρ.map lent) with
    | stuck => rw [e1] at h; exact h.elim
    | ex x ρ' => rw [e1] at h; exact h.elim
    | ok b ρ' => rw [e1] at h; exact h
  exact Res.post_mono key (fun b ρ1 q O1 H1 R1 => q O H1 (R.unlend (v := .non) (c := .non) R1).nil) fun _ _ z => z.elim
/-! ### reckoning -/
theorem w_p_tbor {q : M Bool} {ρ : Rho} {V1 : Bool → Rho → Prop} {E : Exn → Rho → Prop} (h : (q (ρ.map lent)).pst (fun b _ => V1 b ρ) fun _ _ => False) : ((tBor q) ρ).pst V1 E := by
  rw [pst_iff] at *
  unfold tBor
  cases e : q (ρ.map lent) with
  | stuck => rw [e] at h; exact h.elim
  | ex x ρ' => rw [e] at h; exact h.elim
  | ok b ρ' => rw [e] at h; exact h
def Fst2 (K : D × Kd → Rho → Prop) (xs : List (D × Kd)) (ρ : Rho) : Prop := match xs with
  | [x, _] => K x ρ
  | _ => False
def Snd2 (K : D × Kd → Rho → Prop) (xs : List (D × Kd)) (ρ : Rho) : Prop := match xs with
  | [_, y] => K y ρ
  | _ => False
section
variable {ρ : Rho} {E : Exn → Rho → Prop} {Q : Fl → Rho → Prop} {l : List (Bool × DE)} {K : D × Kd → Rho → Prop} {x y : D × Kd}
theorem f_fst2 (h : K x ρ) : Fst2 K [x, y] ρ := h
theorem f_snd2 (h : K y ρ) : Snd2 K [x, y] ρ := h
theorem fin_of (h : RetK Q x ρ) : ((finP x) ρ).post Q E := (post_bind _ _).mpr (Res.post_mono h (fun _ _ y => y) fun _ _ z => z.elim)
theorem w_p_ret0 (h : ((dA l) ρ).pst (Fst2 (RetK Q)) E) : ((dRet0 l) ρ).pst Q E := by
  simp only [pst_iff] at *
  refine (post_bind _ _).mpr (Res.post_ok h fun xs ρ' q => ?_)
  unfold Fst2 at q
  split at q
  · exact fin_of q
  · exact q.elim
theorem w_p_ret1 (h : ((dA l) ρ).pst (Snd2 (RetK Q)) E) : ((dRet1 l) ρ).pst Q E := by
  simp only [pst_iff] at *
  refine (post_bind _ _).mpr (Res.post_ok h fun xs ρ' q => ?_)
  unfold Snd2 at q
  split at q
  · exact fin_of q
  · exact q.elim
theorem w_runP {n : Nat} {r : DS} {args : List Arg} {Q : D → Bool → Rho → Prop} {E : Exn → Rho → Prop} (hq : ∀ o, ¬ Q .non false o)
    (h : (r (args.map slotOf ++ List.replicate (n - args.length) none)).pst (RunK args.length Q) (fun x ρ' => E x (ρ'.take args.length))) : FRes.pst (runFnP n r args) Q E := by
  rw [fpst_iff]
  rw [pst_iff] at h
  unfold runFnP FRes.post
  cases e : r (args.map slotOf ++ List.replicate (n - args.length) none) with
  | stuck => rw [e] at h; exact h.elim
  | ex x ρ' => rw [e] at h; exact h
  | ok f ρ' =>
    rw [e] at h
    cases f with
    | nx => exact absurd h (hq _)
    | ret d b => exact h
    | brk => exact h.elim
    | cnt => exact h.elim
end
section
variable {ρ : Rho} {E : Exn → Rho → Prop} {r : DE} {V1 : D × Kd → Rho → Prop}
theorem w_p_slL1 {lo : DE} (h : (r ρ).pst (fun x ρ1 => (lo ρ1).pst (fun y ρ2 => ∃ j : Int, cur ρ2 y = some (.int j) ∧ ∃ ds, cur ρ2 x = some (.lst ds) ∧ V1 (.lst (cutD ds (some j) none), .fr) ρ2) E) E) : ((dSlL r (some lo) none) ρ).pst V1 E := by
  simp only [pst_iff] at *
  unfold dSlL
  refine (post_bind _ _).mpr (Res.post_ok h fun x ρ1 z => (post_bind _ _).mpr ?_)
  show ((lo >>= fun x => dcur x >>= fun d => _) ρ1).post _ E
  refine (post_bind _ _).mpr (Res.post_ok z ?_)
  rintro y ρ2 ⟨j, e1, ds, e2, z⟩
  refine (post_bind _ _).mpr (post_cur.mpr ⟨_, e1, (post_opt _).mpr ⟨some j, rfl, (post_bind _ _).mpr ?_⟩⟩)
  exact (post_bind _ _).mpr (post_cur.mpr ⟨_, e2, (post_opt _).mpr ⟨_, rfl, z⟩⟩)
end
end L2.VL
end
section
set_option Elab.async false
set_option linter.all false
set_option maxRecDepth 100000
/-! VLS: an object that the data do not show (a set under construction): it stands outside, with what it holds told. -/
namespace L2.VL
open PySem PySem.Spec PyProof.Rows
def hidG (G : Fix) (a : Addr) (o : HO) : Fix :=
  { K := G.K, Fr := fun b => if b = a then some o else G.Fr b, Out := fun b => b = a ∨ G.Out b, Pin := G.Pin }
section
variable {G : Fix} {O : Own} {σ : St} {H : Hp} {ρ : Rho} {T : List Tmp} {a : Addr} {o o' : HO}
theorem Rel.hid (R : Rel G O σ H ρ T) (ha : H a = none) : Rel (hidG G a o) (oset O a (some .out)) σ (upd H a o) ρ T := by
  have oa : O a = none := R.lout a ha
  have na : ∀ {b : Addr} {u : HO}, H b = some u → b ≠ a := fun e z => by rw [z, ha] at e; cases e
  have up : ∀ {b : Addr} {u : HO}, H b = some u → upd H a o b = some u := fun e => by rw [upd_ne (na e)]; exact e
  have st : Stay H (upd H a o) (lin O) (lin (oset O a (some .out))) := fun b u n e => ⟨up e, by
    unfold lin; rw [oset_ne (na e)]; exact n⟩
  refine ⟨R.len, fun b u e => ?_, fun b => ?_, fun b w e => ?_, R.pn, fun i s e => ?_, ?_⟩
  · replace e : (if b = a then some o else G.Fr b) = some u := e
    by_cases z : b = a
    · rw [if_pos z] at e
      cases e
      exact ⟨by unfold upd; rw [if_pos z], .inr (oset_eq z)⟩
    · rw [if_neg z] at e
      obtain ⟨p, q⟩ := R.fr b u e
      exact ⟨up p, by rw [oset_ne z]; exact q⟩
  · by_cases z : b = a
    · rw [oset_eq z]
      exact ⟨fun _ => .inl z, fun _ => rfl⟩
    · rw [oset_ne z]
      exact ⟨fun h => .inr ((R.ot b).mp h), fun h => (R.ot b).mpr (h.resolve_left z)⟩
  · by_cases z : b = a
    · exact ⟨o, by unfold upd; rw [if_pos z]⟩
    · rw [oset_ne z] at e
      obtain ⟨u, p⟩ := R.tr b w e
      exact ⟨u, up p⟩
  · obtain ⟨v, p, q⟩ := R.sl i s e
    exact ⟨v, p, slot_mono st (fun b u e1 e2 => ⟨by rw [oset_ne (na e2)]; exact e1, up e2⟩) q⟩
  · exact tmps_mono st (fun b u n _ e1 e2 => ⟨by rw [oset_ne (na e2)]; exact e1, up e2⟩) R.tm
theorem Rel.hidAt (R : Rel (hidG G a o) O σ H ρ T) : H a = some o ∧ O a = some .out :=
  ⟨(R.fr a o (if_pos rfl)).1, (R.ot a).mpr (.inl rfl)⟩
theorem Rel.hidW (R : Rel (hidG G a o) O σ H ρ T) : Rel (hidG G a o') O σ (upd H a o') ρ T := by
  obtain ⟨h1, h2⟩ := R.hidAt
  have st : Stay H (upd H a o') (lin O) (lin O) := fun b u n e => by
    have z : b ≠ a := fun z => n (by unfold lin; rw [z, h2]; simp)
    exact ⟨by rw [upd_ne z]; exact e, n⟩
  refine ⟨R.len, fun b u e => ?_, R.ot, fun b w e => ?_, R.pn, fun i s e => ?_, ?_⟩
  · replace e : (if b = a then some o' else G.Fr b) = some u := e
    by_cases z : b = a
    · rw [if_pos z] at e
      cases e
      exact ⟨by unfold upd; rw [if_pos z], .inr (by rw [z]; exact h2)⟩
    · rw [if_neg z] at e
      obtain ⟨p, q⟩ := R.fr b u (show (if b = a then some o else G.Fr b) = some u by rw [if_neg z]; exact e)
      exact ⟨by rw [upd_ne z]; exact p, q⟩
  · by_cases z : b = a
    · exact ⟨o', by unfold upd; rw [if_pos z]⟩
    · obtain ⟨u, p⟩ := R.tr b w e
      exact ⟨u, by rw [upd_ne z]; exact p⟩
  · obtain ⟨v, p, q⟩ := R.sl i s e
    refine ⟨v, p, slot_mono st (fun b u e1 e2 => ⟨e1, ?_⟩) q⟩
    rw [upd_ne (fun z => by rw [z, h2] at e1; cases e1)]
    exact e2
  · refine tmps_mono st (fun b u n _ e1 e2 => ⟨e1, ?_⟩) R.tm
    rw [upd_ne (fun z => by rw [z, h2] at e1; cases e1)]
    exact e2
theorem Rel.unhid (R : Rel (hidG G a o) O σ H ρ T) (hf : G.Fr a = none) (ho : ¬ G.Out a) : Rel G (oset O a none) σ H ρ T := by
  obtain ⟨h1, h2⟩ := R.hidAt
  have st : Stay H H (lin O) (lin (oset O a none)) := fun b u n e => ⟨e, by
    unfold lin
    by_cases z : b = a
    · rw [oset_eq z]; simp
    · rw [oset_ne z]; exact n⟩
  refine ⟨R.len, fun b u e => ?_, fun b => ?_, fun b w e => ?_, R.pn, fun i s e => ?_, ?_⟩
  · have z : b ≠ a := fun z => by rw [z, hf] at e; cases e
    obtain ⟨p, q⟩ := R.fr b u (show (if b = a then some o else G.Fr b) = some u by rw [if_neg z]; exact e)
    exact ⟨p, by rw [oset_ne z]; exact q⟩
  · by_cases z : b = a
    · rw [oset_eq z]
      exact ⟨fun h => (by cases h), fun h => absurd (by rw [← z]; exact h) ho⟩
    · rw [oset_ne z]
      exact ⟨fun h => ((R.ot b).mp h).resolve_left z, fun h => (R.ot b).mpr (.inr h)⟩
  · by_cases z : b = a
    · rw [oset_eq z] at e; cases e
    · rw [oset_ne z] at e
      exact R.tr b w e
  · obtain ⟨v, p, q⟩ := R.sl i s e
    exact ⟨v, p, slot_mono st (fun b u e1 e2 => ⟨by rw [oset_ne (fun z => by rw [z, h2] at e1; cases e1)]; exact e1, e2⟩) q⟩
  · exact tmps_mono st (fun b u n _ e1 e2 => ⟨by rw [oset_ne (fun z => by rw [z, h2] at e1; cases e1)]; exact e1, e2⟩) R.tm
end
end L2.VL
end
section
set_option Elab.async false
set_option linter.all false
set_option maxRecDepth 100000
set_option maxHeartbeats 2000000
/-! VLT: {e for t in it if c}, e an int; sorted of such a set, any number of members. -/
namespace L2.VL
open PySem PySem.Spec PyProof.Rows L2 PpSet
/-- one more member -/
def addS (S : Int → Bool) (k : Int) : Int → Bool := fun j => S j || decide (j = k)
def cntS (S : Int → Bool) (n : Nat) (k : Int) : Nat := if S k = true then n else n + 1
/-- the comprehension: U the set's place -/
def tSi (w : World) (wi : TI) (g : TG) (tt : TT) (te : TE) (vs : List Nat) : TE := fun σ H Q =>
  wi σ H fun J Ha => ∀ U, Ha U = none → ∃ Inw : Nat → Nat → Hp → Prop, (∃ m, Inw 0 m (upd Ha U (SetO w U (fun _ => false) 0))) ∧
    ∀ i m Hi, Inw i m Hi → (J.stop i Hi ∧ Q (.ref U) Hi) ∨
      (J.go i Hi ∧ ∃ Go : Hp → Prop, (∀ Hn, Go Hn → ∃ m2, m2 < m ∧ Inw (i + 1) m2 Hn) ∧
        ∀ x Hx, J.yld i Hi x Hx → g x (wipe σ vs) Hx fun σb Hb => wipe σb vs = wipe σ vs ∧ tt σb Hb fun b Hc =>
          match b with
          | true => te σb Hc fun y Hd => ∃ (k : Int) (S : Int → Bool) (n : Nat), y = .int k ∧ Hd U = some (SetO w U S n) ∧ n + 1 < scanBound ∧ Go (upd Hd U (SetO w U (addS S k) (cntS S n k)))
          | false => Go Hc)
section
variable {X : Cx}
theorem addI_ok {pins : List (Addr × Obj)} {σ : L2.St} {H : Hp} {s : Shared} {E : Value → Shared → Prop} {U : Addr} {S : Int → Bool} {n : Nat} {k : Int} {tk : Tok} {Q : Value → Shared → Prop}
    (I : Inv X pins σ H s) (hU : H U = some (SetO X.w U S n)) (room : n + 1 < scanBound) (h : ∀ s', Inv X pins σ (upd H U (SetO X.w U (addS S k) (cntS S n k))) s' → Q .none s') :
    wpAny (model X.prog X.w) X.A (call (.builtin "set.add") [.ref U, .int k tk]) Q E s :=
  setR_add (setO_get I hU) room fun hp sb nw => h _ (I.write (e := U) (t' := s.toks + 1) (by rw [hU]; trivial) (.inl rfl) (fun b u hb hu => (sb.2 b hb).trans hu) (let ⟨o, _, _, _, ho, _⟩ := nw; ⟨o, ho⟩) (setO_new nw))
variable {elt tg iter : Expr} {ifs : List Expr} {scope : Scope} {own : List (Str × Nat)} {pos : Pos} {wi : TI} {g : TG} {tt : TT} {te : TE}
theorem si_loop {pins : List (Addr × Obj)} {σ : L2.St} {Hc : Hp} {sc sd : Shared} {Q : VK} {cl : List (Str × Addr)} {fp : List Addr} {it U : Addr} {tn : Nat → Heap → Prop} {J : It} {Inw : Nat → Nat → Hp → Prop} {m0 : Nat} {R : PySem.Result → Shared → Prop}
    (hc : X.calm = true) (Ic : Inv X pins σ Hc sc) (T : Turn X.prog X.w X.K tg J fp it tn) (fpc : ∀ b ∈ fp, FpOk X pins Hc b ∧ b < sc.heap.objs.size)
    (pg : PG (X.blk sc Hc scope (compEnvC scope cl sc.heap.objs.size X.env) fp) tg g) (pt : PTs (X.blk sc Hc scope (compEnvC scope cl sc.heap.objs.size X.env) fp) ifs tt) (pe : PE (X.blk sc Hc scope (compEnvC scope cl sc.heap.objs.size X.env) fp) elt te)
    (Id : Inv (X.blk sc Hc scope (compEnvC scope cl sc.heap.objs.size X.env) fp) [] (wipe σ (own.map (·.2))) Hc sd) (std : tn 0 sd.heap) (w0 : Inw 0 m0 Hc)
    (turn : ∀ i m Hi, Inw i m Hi → (J.stop i Hi ∧ Q (.ref U) Hi) ∨
      (J.go i Hi ∧ ∃ Go : Hp → Prop, (∀ Hn, Go Hn → ∃ m2, m2 < m ∧ Inw (i + 1) m2 Hn) ∧
        ∀ x Hx, J.yld i Hi x Hx → g x (wipe σ (own.map (·.2))) Hx fun σb Hb => wipe σb (own.map (·.2)) = wipe σ (own.map (·.2)) ∧ tt σb Hb fun b Hc =>
          match b with
          | true => te σb Hc fun y Hd => ∃ (k : Int) (S : Int → Bool) (n : Nat), y = .int k ∧ Hd U = some (SetO X.w U S n) ∧ n + 1 < scanBound ∧ Go (upd Hd U (SetO X.w U (addS S k) (cntS S n k)))
          | false => Go Hc))
    (fin : ∀ s' m H', Inv X pins σ H' s' → Q (.ref U) H' → s'.heap.Ns sc.heap.objs.size m → FpOk X pins H' sc.heap.objs.size → R (.ok .next) s') :
    codeAny (model X.prog X.w) X.A (.compLoop (.SetComp elt [⟨tg, iter, ifs, 0⟩] scope pos) 0 (.ref it) (.ref U) (compEnvC scope cl sc.heap.objs.size X.env)) R sd := by
  have cL : (compEnvC scope cl sc.heap.objs.size X.env).locals = sc.heap.objs.size := rfl
  generalize compEnvC scope cl sc.heap.objs.size X.env = ce at *
  have pinned : ∀ {τ : L2.St} {K : Hp} {s' : Shared}, Inv (X.blk sc Hc scope ce fp) [] τ K s' → (∀ b ∈ fp, K b = none) → ∀ b ∈ fp, FpOk (X.blk sc Hc scope ce fp) [] K b := fun Iz hz b hb => by
    have f1 := Iz.ok.exf b hb
    exact ⟨hz b hb, f1.1, Iz.ok.exfs b hb, .inl hb, fun x c e => f1.2 x c e, fun p hp => by cases List.mem_append.mp hp <;> contradiction⟩
  refine compLoopS_any (fun n s' => ∃ i K, Inv (X.blk sc Hc scope ce fp) [] (wipe σ (own.map (·.2))) K s' ∧ tn i s'.heap ∧ (∀ b ∈ fp, K b = none) ∧ Inw i n K) ?_ m0 ⟨0, Hc, Id, std, fun b hb => (fpc b hb).1.1, w0⟩
  rintro n se ⟨i, K, Ie, ste, ze, we⟩
  rcases turn i n K we with ⟨st, qe⟩ | ⟨go, Go, nxt, body⟩
  · refine thnF (T.done (X.blk sc Hc scope ce fp) rfl rfl rfl hc i [] se _ K (fun _ _ => False) Ie (pinned Ie ze) ste st) fun r sf ⟨er, If⟩ => ?_
    subst er
    obtain ⟨m, ns, _⟩ := If.loc
    have frC : K ce.locals = none := If.free
    have nsC : sf.heap.Ns ce.locals m := ns
    rw [cL] at frC nsC
    refine fin sf m K (Ic.call' (ch := fp) If.os If.base If.hok If.bare fun b hb => ?_) qe nsC (Ic.fpOk (Nat.le_refl _) frC)
    have f1 := (fpc b hb).1
    exact ⟨f1.2.2.2.1, f1.2.1, f1.2.2.2.2.1, f1.2.2.2.2.2⟩
  · refine thnF (T.item (X.blk sc Hc scope ce fp) rfl rfl rfl hc i [] se _ K (fun _ _ => False) Ie (pinned Ie ze) ste go) fun r sf ⟨u, er, hf⟩ => ?_
    subst er
    refine thnF hf fun _ sg ⟨x, Kg, Ig, rg, yg, stg, zg⟩ => ?_
    have Ip := Ig.pinned (pinned Ig zg) (T.obj _ _ stg)
    refine thnF (pg.run _ sg _ Kg x u _ Ip rg (body x Kg yg)) fun _ sh ⟨τ, Kh, Ih, ew, qh⟩ => ?_
    have back : ∀ {s' : Shared} {Kn : Hp}, Inv (X.blk sc Hc scope ce fp) ([] ++ pinsAt fp sg.heap) τ Kn s' → Go Kn → ∃ m, m < n ∧ ∃ i K, Inv (X.blk sc Hc scope ce fp) [] (wipe σ (own.map (·.2))) K s' ∧ tn i s'.heap ∧ (∀ b ∈ fp, K b = none) ∧ Inw i m K := by
      intro s' Kn In gn
      obtain ⟨m2, lt, wn⟩ := nxt Kn gn
      have same : ∀ {b o}, b ∈ fp → sg.heap.get? b = some o → s'.heap.get? b = some o ∧ Kn b = none := fun hb e =>
        (In.pin (_, _) (List.mem_append_right _ (List.mem_append_right _ (mem_pinsAt hb e)))).imp id And.left
      refine ⟨m2, lt, i + 1, Kn, In.unpinned.weak (by rw [← ew, wipe_length]) fun j v e => ?_, T.keep _ _ _ stg fun b hb o e => (same hb e).1, fun b hb => ?_, wn⟩
      · exact (wipe_some (by rw [ew]; exact e)).1
      · obtain ⟨o, e, _⟩ := T.obj _ _ stg b hb
        exact (same hb e).2
    refine thnF (pt.run _ sh τ Kh _ Ih qh) fun b si ⟨Ki, Ii, qi⟩ => ?_
    cases b with
    | false => exact back Ii qi
    | true =>
      refine thnF (pe.run _ si τ Ki _ Ii qi) fun z sj ⟨y, Kj, Ij, rj, k, S, c, ey, eU, room, gj⟩ => ?_
      subst ey
      obtain ⟨tk, rfl⟩ := rj
      exact addI_ok (X := X.blk sc Hc scope ce fp) Ij eU room fun s' In => back In gj
theorem pe_si (hc : X.calm = true) (hN : X.N.Nodup) (hi : PI X tg iter wi) (ok : BlkOk X.N X.env.scope scope own)
    (hg : ∀ (s : Shared) (H : Hp) (C : Addr) (cl : List (Str × Addr)) (fp : List Addr), PG (X.blk s H scope (compEnvC scope cl C X.env) fp) tg g)
    (ht : ∀ (s : Shared) (H : Hp) (C : Addr) (cl : List (Str × Addr)) (fp : List Addr), PTs (X.blk s H scope (compEnvC scope cl C X.env) fp) ifs tt)
    (he : ∀ (s : Shared) (H : Hp) (C : Addr) (cl : List (Str × Addr)) (fp : List Addr), PE (X.blk s H scope (compEnvC scope cl C X.env) fp) elt te)
    (hs : ∀ x, foldedSetIterable iter X.env x = pure x := by intro _; rfl) :
    PE X (.SetComp elt [⟨tg, iter, ifs, 0⟩] scope pos) (tSi X.w wi g tt te (own.map (·.2))) := by
  refine ⟨fun pins s σ H Q I hw => ?_⟩
  rw [eval_SetComp]
  have cells : ∀ y ∈ scope.names, y.2 = .free → ∃ c, X.env.cells.lookup y.1 = some c := fun y hy e =>
    I.ok.has _ ((ok.free y hy e).elim .inl .inr)
  refine wpAny_comprehension_free rfl hs (closure_ok cells) ok.kind (fun y hy e => by rw [ok.uniq y hy, e]) (thn (hi.run pins s σ H _ I hw) fun xv sa hx => thn hx fun itv sb hy => ?_)
  obtain ⟨it, fp, tn, J, Ha, rfl, Ib, T, stb, fpb, q⟩ := hy
  refine newSet_ok (newEnv_comp ?_)
  have aU : Ha sb.heap.objs.size = none := Ib.hok.fresh (Nat.le_refl _)
  obtain ⟨Inw, ⟨m0, w0⟩, turn⟩ := q _ aU
  -- the state with the empty set
  have Ic := Ib.laid (t' := sb.toks) (a := sb.heap.objs.size) (fun b o e => Heap.get?_push_of_some { cls := .type "set", dict := none, data := .set #[] 0 (.fresh 0 0 (!X.w.params.followText "set-order")) } e) (Nat.le_refl _) (setO_new (P := X.prog) (H := upd Ha sb.heap.objs.size (SetO X.w sb.heap.objs.size (fun _ => false) 0)) (setR_fresh X.w))
  have keepP : ∀ {b : Addr} {o : Obj}, sb.heap.get? b = some o → (sb.heap.push { cls := .type "set", dict := none, data := .set #[] 0 (.fresh 0 0 (!X.w.params.followText "set-order")) }).get? b = some o := fun e => Heap.get?_push_of_some _ e
  have fpc : ∀ b ∈ fp, FpOk X pins (upd Ha sb.heap.objs.size (SetO X.w sb.heap.objs.size (fun _ => false) 0)) b ∧ b < (sb.heap.push { cls := .type "set", dict := none, data := .set #[] 0 (.fresh 0 0 (!X.w.params.followText "set-order")) }).objs.size := fun b hb => by
    obtain ⟨o, e, _⟩ := T.obj _ _ stb b hb
    have lt := Heap.lt_size e
    exact ⟨⟨by rw [upd_ne (Nat.ne_of_lt lt)]; exact (fpb b hb).1, (fpb b hb).2⟩, by rw [Heap.size_push]; exact Nat.lt_succ_of_lt lt⟩
  have stc := T.keep _ _ _ stb fun b _ o e => keepP (b := b) (o := o) e
  have std : tn 0 (pushCells ((sb.heap.push { cls := .type "set", dict := none, data := .set #[] 0 (.fresh 0 0 (!X.w.params.followText "set-order")) }).push { cls := .type "dict", data := .dict #[] }) scope.names) := T.keep _ _ _ stc fun b _ o e => pushCells_keeps _ _ _ _ (Heap.get?_push_of_some _ e)
  refine (fun loop => codeAny_compStart_set loop (T.self X.A 0 _ _ _ std loop)) (si_loop (own := own) (Q := Q) hc Ic T fpc (hg _ _ _ _ fp) (ht _ _ _ _ fp) (he _ _ _ _ fp) (block_start Ic ok hN fpc) std w0 turn fun s' m H' I' qz ns f => ⟨m, ns, fun h2 sm => ?_⟩)
  exact ⟨.ref _, H', I'.turned (t' := s'.toks) (fun b o hb e => (sm.2 b hb).trans e) f.1 f.2.1 f.2.2.2.1 f.2.2.2.2.1 f.2.2.2.2.2, rfl, qz⟩
/-- sorted(a set of ints), any number of members -/
def rSortSI (w : World) : List V → Hp → VK → Prop := fun vs H Q => ∃ (a : Addr) (S : Int → Bool) (n : Nat), vs = [V.ref a] ∧ H a = some (SetO w a S n) ∧
  ∀ (ns : List Int) (p : Addr), ns.Pairwise (· < ·) → (∀ k : Int, k ∈ ns ↔ S k = true) → ns.length = n → H p = none → Q (.ref p) (upd H p (.lst (ns.map V.int)))
theorem sorted_setI {P : Program} {w : World} {A : Around} {E : Value → Shared → Prop} {s : Shared} {a : Addr} {S : Int → Bool} {n : Nat} {Q : Value → Shared → Prop} (R : SetR w s.heap a S n) (calm : A.handled = none)
    (h : ∀ s' p (out : Array Value) (c : Nat) (ns : List Int), (∀ b o, s.heap.get? b = some o → s'.heap.get? b = some o) → s'.gens = s.gens → s'.os = s.os → s.heap.objs.size ≤ p →
      s'.heap.get? p = some (seqObj "list" out c) → IntsAre out.toList ns → ns.Pairwise (· < ·) → (∀ k, k ∈ ns ↔ S k = true) → ns.length = n → Q (.ref p) s') :
    wpAny (model P w) A (call (.builtin "sorted") [.ref a]) Q E s := by
  obtain ⟨o, es, ep, t, ho, ex, hd, good, nd, mem, lt, fits, en, ris, led⟩ := R
  refine Calls.call_function_entry kind_sorted plain_sorted entry_sorted (args_sorted1 _) ?_
  unfold Builtin.«sorted»
  refine wpAny_bind (m := checkCount "sorted" 1 1 _) (wpAny_pure (wpAny_bind ?_))
  refine collect_set (A := A.in1) calm ⟨o, ho, ex.1, hd⟩ fits lt ris led fun s1 vs keep big gs os pm => ?_
  have all : IntsAre vs (vs.map SrtO.iv) := SrtO.ints_iv fun v hv => by
    obtain ⟨e, he, rfl⟩ := List.mem_map.mp (pm.mem_iff.mp hv)
    obtain ⟨k, tk, ek, _⟩ := good e he
    exact ⟨k, tk, ek⟩
  have keys : (vs.map SrtO.iv).Perm (es.toList.map keyOf) := by
    have z := pm.map SrtO.iv
    rw [List.map_map] at z
    exact z
  have len : vs.length = n := by rw [← en, pm.length_eq, List.length_map, Array.length_toList]
  have short : vs.length ≤ sizeLine := by rw [len, sizeLine_eq]; unfold scanBound at lt; omega
  refine wpAny_bind (wpAny_newList ?_ short)
  have at1 : (s1.heap.push (seqObj "list" vs.toArray 0)).get? s1.heap.objs.size = some (seqObj "list" vs.toArray 0) := Heap.get?_push_size _ rfl
  refine wpAny_bind (wpAny_holding (wpAny_call_entry slot_list_sort ⟨_, at1, rfl⟩ entry_list_sort (SrtO.list_sort_ord SrtO.swo_int at1 short (fun two => SrtO.ints_sortable all two) fun out so st => ⟨_, rfl, ?_⟩) (args_list_sort _)))
  obtain ⟨i1, i2, i3⟩ := SrtO.ints_out all so st
  obtain ⟨c, hc⟩ := sortedHeap_at (vs := vs) (out := out.toArray) at1
  have pk := i2.trans keys
  refine wpAny_pure ⟨_, rfl, h _ s1.heap.objs.size out.toArray c (out.map SrtO.iv) (fun b u e => ?_) gs os big hc (by simpa using i1) (lt_of_le_nodup _ i3 (pk.nodup_iff.mpr nd)) (fun k => by rw [pk.mem_iff, ← mem k]) (by rw [pk.length_eq, List.length_map, Array.length_toList]; exact en)⟩
  · have u1 := keep b u e
    have u2 := Heap.lt_size u1
    show (sortedHeap (s1.heap.push (seqObj "list" vs.toArray 0)) s1.heap.objs.size vs out.toArray).get? b = some u
    rw [sortedHeap_old (Nat.ne_of_lt u2) (by rw [size_push']; exact Nat.lt_succ_of_lt u2)]
    exact Heap.get?_push_of_some _ u1
theorem cr_sortSI (hc : X.calm = true) : CallR X (.builtin "sorted") (rSortSI X.w) := by
  intro pins s σ H vs us Q I r hq
  obtain ⟨a, S, n, rfl, ha, q⟩ := hq
  have R := setO_get I ha
  have small : n ≤ sizeLine := by
    obtain ⟨_, es, _, _, _, _, _, _, _, _, lt, _, en, _⟩ := R
    rw [sizeLine_eq, ← en]
    unfold scanBound at lt
    omega
  rw [Vals.ref1 r]
  refine sorted_setI R (I.ok.hd hc) fun s' p out c ns keep gs os big at1 inz rise mem len => ?_
  have np : H p = none := I.hok.fresh big
  have es : s' = { s with heap := s'.heap, gens := s'.gens, drawn := s'.drawn, toks := s'.toks } := by
    obtain ⟨h1, g1, d1, t1, o1⟩ := s'
    cases os
    rfl
  refine ⟨.ref p, upd H p (.lst (ns.map V.int)), ?_, rfl, q ns p rise mem len np⟩
  rw [es]
  exact I.call (ch := []) (Un.laid keep big np) (I.hok.laid keep big ⟨by rw [List.length_map, len]; exact small, out.toList, c, vals_of_ints inz, at1⟩) (by rw [gs]; exact I.bare) (fun _ z => nomatch z)
end
end L2.VL
end
section
set_option Elab.async false
set_option linter.all false
set_option maxRecDepth 100000
/-! VLQ: sorted({e for t in it if c}), e an int: the rising list of what occurs. -/
namespace L2.VL
open PySem PySem.Spec PyProof.Rows L2
/-- each number once, as first met -/
def nubI (ns : List Int) : List Int := ns.foldl (fun l k => if k ∈ l then l else l ++ [k]) []
theorem nubI_snoc (ns : List Int) (k : Int) : nubI (ns ++ [k]) = if k ∈ nubI ns then nubI ns else nubI ns ++ [k] := by
  unfold nubI
  rw [List.foldl_append]
  rfl
theorem snoc_ind {α : Type} {P : List α → Prop} (h0 : P []) (h1 : ∀ l a, P l → P (l ++ [a])) (l : List α) : P l := by
  rw [← List.reverse_reverse l]
  generalize l.reverse = r
  induction r with
  | nil => exact h0
  | cons a r ih => rw [List.reverse_cons]; exact h1 _ a ih
theorem nubI_mem (ns : List Int) : ∀ k, k ∈ nubI ns ↔ k ∈ ns := by
  refine snoc_ind (P := fun ns => ∀ k, k ∈ nubI ns ↔ k ∈ ns) (fun k => Iff.rfl) (fun l a ih k => ?_) ns
  rw [nubI_snoc]
  by_cases h : a ∈ nubI l
  · rw [if_pos h, ih, List.mem_append, List.mem_singleton]
    exact ⟨.inl, fun z => z.elim id fun e => by rw [e]; exact (ih a).mp h⟩
  · rw [if_neg h, List.mem_append, List.mem_append, ih]
theorem nubI_len (ns : List Int) : (nubI ns).length ≤ ns.length := by
  refine snoc_ind (P := fun ns => (nubI ns).length ≤ ns.length) (Nat.le_refl _) (fun l a ih => ?_) ns
  rw [nubI_snoc]
  split
  · rw [List.length_append]; omega
  · rw [List.length_append, List.length_append]; simp only [List.length_singleton]; omega
def memS (ns : List Int) : Int → Bool := fun k => decide (k ∈ ns)
theorem memS_add (ns : List Int) (k : Int) : addS (memS ns) k = memS (ns ++ [k]) := by
  funext j
  unfold addS memS
  rw [Bool.eq_iff_iff]
  simp
theorem cnt_add (ns : List Int) (k : Int) : cntS (memS ns) (nubI ns).length k = (nubI (ns ++ [k])).length := by
  unfold cntS memS
  rw [nubI_snoc]
  by_cases h : k ∈ ns
  · rw [if_pos (decide_eq_true h), if_pos ((nubI_mem ns k).mpr h)]
  · rw [if_neg (by simpa using h), if_neg (fun z => h ((nubI_mem ns k).mp z)), List.length_append]
    rfl
/-- rising lists with the same members are the same -/
theorem rise_uniq : ∀ {xs ys : List Int}, xs.Pairwise (· < ·) → ys.Pairwise (· < ·) → (∀ k, k ∈ xs ↔ k ∈ ys) → xs = ys
  | [], [], _, _, _ => rfl
  | [], y :: ys, _, _, h => absurd ((h y).mpr List.mem_cons_self) (by simp)
  | x :: xs, [], _, _, h => absurd ((h x).mp List.mem_cons_self) (by simp)
  | x :: xs, y :: ys, hx, hy, h => by
    obtain ⟨a1, a2⟩ := List.pairwise_cons.mp hx
    obtain ⟨b1, b2⟩ := List.pairwise_cons.mp hy
    have e : x = y := by
      rcases List.mem_cons.mp ((h x).mp List.mem_cons_self) with z | z
      · exact z
      · rcases List.mem_cons.mp ((h y).mpr List.mem_cons_self) with w | w
        · exact w.symm
        · have := b1 x z
          have := a1 y w
          omega
    subst e
    rw [rise_uniq a2 b2 fun k => ?_]
    constructor
    · intro q
      rcases List.mem_cons.mp ((h k).mp (List.mem_cons_of_mem _ q)) with z | z
      · have := a1 k q
        omega
      · exact z
    · intro q
      rcases List.mem_cons.mp ((h k).mpr (List.mem_cons_of_mem _ q)) with z | z
      · have := b1 k q
        omega
      · exact z
def sortU (ns : List Int) : List Int := (nubI ns).mergeSort fun a b => decide (a ≤ b)
theorem nubI_nodup (ns : List Int) : (nubI ns).Nodup := by
  refine snoc_ind (P := fun ns => (nubI ns).Nodup) List.nodup_nil (fun l a ih => ?_) ns
  rw [nubI_snoc]
  split
  · exact ih
  · rename_i h
    rw [List.nodup_append]
    exact ⟨ih, by simp, fun x hx y hy e => h (by rw [List.mem_singleton] at hy; rw [← hy, ← e]; exact hx)⟩
theorem sortU_mem (ns : List Int) (k : Int) : k ∈ sortU ns ↔ k ∈ ns := by
  unfold sortU
  rw [List.mem_mergeSort, nubI_mem]
theorem sortU_len (ns : List Int) : (sortU ns).length = (nubI ns).length := (List.mergeSort_perm _ _).length_eq
theorem sortU_rise (ns : List Int) : (sortU ns).Pairwise (· < ·) := by
  have h1 : (sortU ns).Pairwise (fun a b => decide (a ≤ b) = true) := List.pairwise_mergeSort (fun a b c h1 h2 => by simp only [decide_eq_true_eq] at *; omega) (fun a b => by simp only [Bool.or_eq_true, decide_eq_true_eq]; omega) _
  have h2 : (sortU ns).Nodup := ((List.mergeSort_perm _ _).nodup_iff).mpr (nubI_nodup ns)
  exact List.Pairwise.imp₂ (fun a b h1 h2 => by have := of_decide_eq_true h1; have h2 : a ≠ b := h2; omega) h1 h2
def ssEnd (ds : List D) : Option (D × Kd) := (intsD ds).bind fun ns => if ns.length ≤ 4000 then some (.lst ((sortU ns).map fun n => .con (.int n)), .fr) else none
def dSs (own : List Nat) (it : M (List D)) (t : Tg) (q : M Bool) (r : DE) : DE := do
  let xs ← it
  okOwn own
  let ds ← lcD own t q r xs
  wipeM own
  mOpt (ssEnd ds)
end L2.VL
end
section
set_option Elab.async false
set_option linter.all false
set_option maxRecDepth 100000
/-! VLR: the walk of sorted({e for t in it if c}). -/
namespace L2.VL
open PySem PySem.Spec PyProof.Rows L2
section
variable {X : Cx} {t : Tg} {it : M (List D)} {q : M Bool} {r : DE}
theorem lcD_noex (vs : List Nat) : ∀ (l : List D) (ρ : Rho) (x : Exn) (ρ' : Rho), (lcD vs t q r l) ρ ≠ .ex x ρ' := by
  intro l
  induction l with
  | nil => intro ρ x ρ' z; cases z
  | cons a l ih =>
    intro ρ x ρ' z
    replace z : (M.bind (wipeM vs) fun _ => M.bind (t.put a) fun _ => M.bind (noX q) fun b => if b then M.bind (noX r) fun y => M.bind (keep false y) fun z => M.bind (lcD vs t q r l) fun rest => M.ret (z.1 :: rest) else lcD vs t q r l) ρ = .ex x ρ' := z
    have nx : ∀ {α : Type} (m : M α) (ρ : Rho) (y : Exn) (ρ2 : Rho), (noX m) ρ ≠ .ex y ρ2 := fun m ρ y ρ2 h => by
      unfold noX at h
      split at h
      · cases h
      · rename_i hn; exact hn _ _ h
    unfold M.bind at z
    dsimp only [wipeM] at z
    cases h1 : (t.put a) (wipeR ρ vs) with
    | stuck => rw [h1] at z; cases z
    | ex y ρ2 => exact tg_noex _ _ _ h1
    | ok u ρ2 =>
      rw [h1] at z
      dsimp only at z
      cases h2 : (noX q) ρ2 with
      | stuck => rw [h2] at z; cases z
      | ex y ρ3 => exact nx _ _ _ _ h2
      | ok b ρ3 =>
        rw [h2] at z
        dsimp only at z
        cases b with
        | false => exact ih _ _ _ z
        | true =>
          simp only [↓reduceIte] at z
          cases h3 : (noX r) ρ3 with
          | stuck => rw [h3] at z; cases z
          | ex y ρ4 => exact nx _ _ _ _ h3
          | ok y ρ4 =>
            rw [h3] at z
            dsimp only at z
            cases h4 : (keep false y) ρ4 with
            | stuck => rw [h4] at z; cases z
            | ex w ρ5 =>
              replace h4 : M.bind (dcur y) (fun d => M.bind (settleM y.2) fun _ => M.ret (d, Kd.shr)) ρ4 = .ex w ρ5 := h4
              unfold M.bind dcur at h4
              cases h5 : cur ρ4 y with
              | none => rw [h5] at h4; cases h4
              | some d => rw [h5] at h4; cases h4
            | ok w ρ5 =>
              rw [h4] at z
              dsimp only at z
              cases h5 : (lcD vs t q r l) ρ5 with
              | stuck => rw [h5] at z; cases z
              | ex w2 ρ6 => exact ih _ _ _ h5
              | ok w2 ρ6 => rw [h5] at z; cases z
theorem intsD_app : ∀ {a b : List D} {ns : List Int}, intsD (a ++ b) = some ns → ∃ x y, intsD a = some x ∧ intsD b = some y ∧ ns = x ++ y
  | [], b, ns, h => ⟨[], ns, rfl, h, rfl⟩
  | .con (.int k) :: a, b, ns, h => by
    obtain ⟨r, e, rfl⟩ := Option.map_eq_some_iff.mp (show (intsD (a ++ b)).map (k :: ·) = some ns from h)
    obtain ⟨x, y, h1, h2, rfl⟩ := intsD_app e
    exact ⟨k :: x, y, by show (intsD a).map _ = _; rw [h1]; rfl, h2, rfl⟩
  | .con .non :: _, _, _, h | .con (.bl _) :: _, _, _, h | .con (.str _) :: _, _, _, h | .con (.ref _) :: _, _, _, h | .lst _ :: _, _, _, h | .tup _ :: _, _, _, h | .dic _ :: _, _, _, h | .dit _ :: _, _, _, h => by cases h
theorem ss_imp {W : WX} {vs : List Nat} (hsub : ∀ i ∈ t.slots, i ∈ vs) (σ : St) (H : Hp) (Q : VK) (h : tE X.K W (dSs vs it t q r) σ H Q) :
    tSi X.w (tI X.K W it) (tG X.K t.slots t.put) (tT X.K WF q) (tE X.K WF r) vs σ H fun v H1 => rSortSI X.w [v] H1 Q := by
  obtain ⟨G, O, ρ, hK, R, h⟩ := h
  refine ⟨G, O, ρ, hK, R, Res.post_ok ((post_bind _ _).mp h) fun xs ρ1 q1 O1 H1 J T hT R1 wk => ?_⟩
  intro U hU
  replace q1 := (post_bind _ _).mp q1
  unfold okOwn at q1
  by_cases hok : vs.all (fun i => !pinned ρ1 i) = true
  · rw [if_pos hok] at q1
    have hp : ∀ i ∈ vs, G.Pin i = none := fun i hi => by
      cases e : G.Pin i with
      | none => rfl
      | some v =>
        obtain ⟨_, s, h2, h3⟩ := R1.pn i v e
        have := List.all_eq_true.mp hok i hi
        unfold pinned at this
        rw [h2] at this
        dsimp only at this
        rw [h3] at this
        cases this
    let Fin : List D → Rho → Prop := fun ds ρ' => ((do wipeM vs; mOpt (ssEnd ds) : DE) ρ').post (fun x ρ' => ∀ O' v H', Rel G O' σ H' ρ' [⟨v, x.1, x.2⟩] → Q v H') (EX G σ W)
    replace q1 : ((lcD vs t q r xs) ρ1).post (fun ds ρ' => Fin ds ρ') (EX G σ W) := (post_bind _ _).mp q1
    have fin_some : ∀ {ds ρ}, Fin ds ρ → ∃ ns z, intsD ds = some ns ∧ ns.length ≤ 4000 ∧ ssEnd ds = some z := fun {ds ρ} f => by
      obtain ⟨z, e, _⟩ := (post_opt _).mp (show ((mOpt (ssEnd ds) : DE) (wipeR ρ vs)).post _ _ from f)
      have e2 := e
      unfold ssEnd at e2
      obtain ⟨ns, e3, e4⟩ := Option.bind_eq_some_iff.mp e2
      split at e4
      · rename_i hl; exact ⟨ns, z, e3, hl, e⟩
      · cases e4
    have fU : G.Fr U = none := by
      cases e : G.Fr U with
      | none => rfl
      | some o => have := (R1.fr U o e).1; rw [hU] at this; cases this
    have oU : ¬ G.Out U := fun z => by
      have := (R1.ot U).mpr z
      rw [R1.lout U hU] at this
      cases this
    have R2 := R1.hid (o := SetO X.w U (fun _ => false) 0) hU
    refine ⟨fun i m H => m = xs.length - i ∧ i ≤ xs.length ∧ ∃ (O : Own) (ρ : Rho) (acc : List Int) (σ2 : St), L2.wipe σ2 vs = L2.wipe σ vs ∧ Rel (hidG G U (SetO X.w U (memS acc) (nubI acc).length)) O σ2 H ρ T ∧
      ((lcD vs t q r (xs.drop i)) ρ).post (fun ds ρ' => Fin ((acc.map fun n => D.con (.int n)) ++ ds) ρ') (EX G σ W), ⟨xs.length, by simp, Nat.zero_le _, _, ρ1, [], σ, rfl, R2, q1⟩, ?_⟩
    rintro i m H3 ⟨rfl, hi, O3, ρ3, acc, σ2, hw, R3, q3⟩
    have hlen : σ2.length = σ.length := by
      have := congrArg List.length hw
      rw [wipe_length, wipe_length] at this; exact this
    obtain ⟨w1, w2, w3⟩ := wk (hidG G U (SetO X.w U (memS acc) (nubI acc).length)) O3 σ2 H3 ρ3 i [] hK R3
    have off : ∀ j, j ∉ vs → σ2[j]? = σ[j]? := fun j hj => by
      have z1 := wipe_at σ2 vs j
      have z2 := wipe_at σ vs j
      rw [if_neg hj] at z1 z2
      rw [← z1, ← z2, hw]
    by_cases hlt : i < xs.length
    · refine .inr ⟨w1 hlt, fun H' => ∃ (O : Own) (ρ : Rho) (acc : List Int) (σ2 : St), L2.wipe σ2 vs = L2.wipe σ vs ∧ Rel (hidG G U (SetO X.w U (memS acc) (nubI acc).length)) O σ2 H' ρ T ∧
        ((lcD vs t q r (xs.drop (i + 1))) ρ).post (fun ds ρ' => Fin ((acc.map fun n => D.con (.int n)) ++ ds) ρ') (EX G σ W), fun H' p => ⟨xs.length - (i + 1), by omega, rfl, hlt, p⟩, fun v H' y => ?_⟩
      obtain ⟨O4, R4⟩ := w3 xs[i] (List.getElem?_eq_getElem hlt) v H' y
      rw [List.drop_eq_getElem_cons hlt] at q3
      have q3a := (post_bind (wipeM vs) _).mp q3
      replace q3 := (post_bind (t.put xs[i]) _).mp (show Res.post ((t.put xs[i] >>= fun _ => _) (wipeR ρ3 vs)) _ _ from q3a)
      have R5 : Rel (hidG G U (SetO X.w U (memS acc) (nubI acc).length)) O4 (L2.wipe σ vs) H' (wipeR ρ3 vs) (⟨v, xs[i], .shr⟩ :: T) := R4.wipe (hT.cons fun i z => by cases z) hp (by rw [wipe_length, hlen]) fun j hj => by
        rw [wipe_at, if_neg hj]; exact (off j hj).symm
      refine ⟨hidG G U (SetO X.w U (memS acc) (nubI acc).length), O4, _, _, xs[i], hK, hT, R5, noex (fun ρ x ρ' => tg_noex ρ x ρ') q3 fun ρ4 q4 O6 σ6 H6 ag R6 => ?_⟩
      have hw6 : L2.wipe σ6 vs = L2.wipe σ vs := (wipe_ag ag hsub).trans wipe_wipe
      refine ⟨hw6, tT.at (G := hidG G U _) hK R6 (Res.post_ok (post_noX ((post_bind _ _).mp q4) _) fun b ρ5 q5 O7 H7 R7 => ?_)⟩
      cases b with
      | false =>
        rw [if_neg Bool.false_ne_true] at q5
        exact ⟨O7, ρ5, acc, σ6, hw6, R7, q5⟩
      | true =>
        rw [if_pos rfl] at q5
        refine tE.at (G := hidG G U _) hK R7 (Res.post_ok (post_noX ((post_bind _ _).mp q5) _) fun y ρ6 q6 O8 u H8 R8 => ?_)
        obtain ⟨d, e1, q7⟩ := keep_false ((post_bind _ _).mp q6)
        obtain ⟨O9, R9⟩ := R8.settle (d := d) e1
        have q8 := (post_bind _ _).mp q7
        have ⟨ds, ρ7, q9⟩ : ∃ ds ρ7, Fin ((acc.map fun n => D.con (.int n)) ++ (d :: ds)) ρ7 := by
          cases qq : (lcD vs t q r (xs.drop (i + 1))) (settleR ρ6 y.2) with
          | stuck => rw [qq] at q8; exact q8.elim
          | ok ds ρ7 => rw [qq] at q8; exact ⟨ds, ρ7, q8⟩
          | ex x ρ7 => exact absurd qq (lcD_noex vs _ _ _ _)
        obtain ⟨ns, z, f1, f2, _⟩ := fin_some q9
        obtain ⟨x1, y1, f3, f4, rfl⟩ := intsD_app f1
        have ex : x1 = acc := by
          have z := intsD_map (fun n : Int => n) acc
          rw [List.map_id'] at z
          exact Option.some.inj (f3.symm.trans z)
        subst ex
        have ⟨k, ek⟩ : ∃ k, d = .con (.int k) := by
          have := intsD_of f4
          cases y1 with
          | nil => cases this
          | cons k y1 => exact ⟨k, (List.cons.inj this).1⟩
        subst ek
        have ev : u = .int k := (show Rep _ _ _ u (.con (.int k)) from R9.tm.1).con_inv
        have room : (nubI x1).length + 1 < scanBound := by
          have := nubI_len x1
          rw [List.length_append] at f2
          unfold scanBound
          omega
        refine ⟨k, memS x1, (nubI x1).length, ev, R9.hidAt.1, room, O9, settleR ρ6 y.2, x1 ++ [k], σ6, hw6, ?_, ?_⟩
        · rw [memS_add, cnt_add]
          exact R9.pop.hidW
        · refine Res.post_ok q8 fun ds ρ7 q9 => ?_
          rw [List.map_append, List.append_assoc]
          exact q9
    · have e : i = xs.length := by omega
      subst e
      rw [List.drop_length] at q3
      replace q3 : Fin ((acc.map fun n => D.con (.int n)) ++ []) ρ3 := q3
      rw [List.append_nil] at q3
      refine .inl ⟨w2 (Nat.le_refl _), U, _, _, rfl, R3.hidAt.1, fun ns p n1 n2 n3 np => ?_⟩
      obtain ⟨z, e3, q4⟩ := (post_opt _).mp (show ((mOpt (ssEnd (acc.map fun n => D.con (.int n))) : DE) (wipeR ρ3 vs)).post (fun x ρ' => ∀ O' v H', Rel G O' σ H' ρ' [⟨v, x.1, x.2⟩] → Q v H') (EX G σ W) from q3)
      unfold ssEnd at e3
      rw [show intsD (acc.map fun n => D.con (.int n)) = some acc by have z := intsD_map (fun n : Int => n) acc; rwa [List.map_id'] at z] at e3
      replace e3 : (if acc.length ≤ 4000 then some (D.lst ((sortU acc).map fun n => .con (.int n)), Kd.fr) else none) = some z := e3
      split at e3
      · cases e3
        have en : ns = sortU acc := rise_uniq n1 (sortU_rise acc) fun k => by rw [n2, sortU_mem]; unfold memS; rw [decide_eq_true_eq]
        subst en
        have R4 : Rel G (oset O3 U none) σ H3 (wipeR ρ3 vs) T := (R3.unhid fU oU).wipe (σ' := σ) hT hp hlen.symm fun j hj => (off j hj).symm
        obtain ⟨O6, R6⟩ := R4.nil.fresh (d := .lst ((sortU acc).map fun n => .con (.int n))) np (.lst (Reps.cons_map V.int _))
        exact q4 O6 _ _ R6
      · cases e3
  · rw [if_neg hok] at q1; exact q1.elim
variable {elt tg iter : Expr} {ifs : List Expr} {scope : Scope} {p1 p3 pos : Pos}
theorem se_ss (own : List (Str × Nat)) (hx : CxG X) (hm : X.mg "sorted" = none) (hi : SI X tg iter it) (ok : blkC X.N X.env.scope scope own = true)
    (hg : ∀ (s : Shared) (H : Hp) (C : Addr) (cl : List (Str × Addr)) (fp : List Addr), SG (X.blk s H scope (compEnvC scope cl C X.env) fp) tg t) (ht : ∀ (s : Shared) (H : Hp) (C : Addr) (cl : List (Str × Addr)) (fp : List Addr), STs (X.blk s H scope (compEnvC scope cl C X.env) fp) ifs q)
    (he : ∀ (s : Shared) (H : Hp) (C : Addr) (cl : List (Str × Addr)) (fp : List Addr), SE (X.blk s H scope (compEnvC scope cl C X.env) fp) elt r) (hsub : ∀ i ∈ t.slots, i ∈ own.map (·.2) := by decide) (hs : ∀ x, foldedSetIterable iter X.env x = pure x := by intro _; rfl)
    (hg1 : Gl X "sorted" := by rfl) (hs1 : starEach [.SetComp elt [⟨tg, iter, ifs, 0⟩] scope p3] X.env = (false, eval (.SetComp elt [⟨tg, iter, ifs, 0⟩] scope p3) X.env) :: starEach [] X.env := by rfl)
    (hpl1 : (backTo pos (starEach [] X.env)).any (·.1) = false := by rfl) :
    SE X (.Call (.Name "sorted" p1) [.SetComp elt [⟨tg, iter, ifs, 0⟩] scope p3] [] pos) (dSs (own.map (·.2)) it t q r) := fun W tk =>
  PE.imp (pe_callB (cr_sortSI hx.calm) hg1 hm (by decide +kernel) (pa_cons (pe_si (g := tG X.K t.slots t.put) (tt := tT X.K WF q) (te := tE X.K WF r) hx.calm hx.nd (hi W tk) (blkOk_by ok) (fun s H C cl fp => hg s H C cl fp) (fun s H C cl fp => ht s H C cl fp WF takesF) (fun s H C cl fp => he s H C cl fp WF takesF) hs) pa_nil hs1) (by decide) (by decide) hs1 hpl1)
    fun σ H Q h => ss_imp hsub σ H Q h
end
section
variable {own : List Nat} {t : Tg} {q : M Bool} {r : DE} {xs : List D} {ρ : Rho} {V1 : D × Kd → Rho → Prop} {E : Exn → Rho → Prop}
abbrev SsK (own : List Nat) (V1 : D × Kd → Rho → Prop) : List D → Rho → Prop := fun ds ρ2 => ∃ z, ssEnd ds = some z ∧ V1 z (wipeR ρ2 own)
theorem w_p_ssK {it : M (List D)} (h : (it ρ).pst (fun xs ρ1 => own.all (fun i => !pinned ρ1 i) = true ∧ ((lcD own t q r xs) ρ1).pst (SsK own V1) E) E) : ((dSs own it t q r) ρ).pst V1 E := by
  simp only [pst_iff] at *
  refine (post_bind _ _).mpr (Res.post_ok h fun xs ρ1 z => (post_bind _ _).mpr ?_)
  obtain ⟨ok, z⟩ := z
  unfold okOwn
  rw [if_pos ok]
  show ((lcD own t q r xs >>= fun ds => _) ρ1).post V1 E
  refine (post_bind _ _).mpr (Res.post_ok z fun ds ρ2 y => ?_)
  obtain ⟨w, e, v⟩ := y
  exact (post_opt _).mpr ⟨w, e, v⟩
theorem x_ss {ns : List Int} {P : D × Kd → Prop} (hl : ns.length ≤ 4000) (h : P (.lst ((sortU ns).map fun n => .con (.int n)), .fr)) : ∃ z, ssEnd (ns.map fun n => .con (.int n)) = some z ∧ P z := by
  refine ⟨_, ?_, h⟩
  unfold ssEnd
  have z := intsD_map (fun n : Int => n) ns
  rw [List.map_id'] at z
  rw [z]
  exact if_pos hl
end
end L2.VL
end
section
set_option Elab.async false
set_option linter.all false
set_option maxRecDepth 100000
/-! VLI: xs.remove(k), xs.index(k), xs a list of ints that has k. -/
namespace L2.VL
open PySem PySem.Spec PyProof.Rows L2
/-- where k stands first -/
def at1 : List Int → Int → Option Nat
  | [], _ => none
  | a :: r, k => if a = k then some 0 else (at1 r k).map (· + 1)
theorem at1_some : ∀ {ns : List Int} {k : Int} {j : Nat}, at1 ns k = some j → ns[j]? = some k ∧ ∀ m : Nat, m < j → ns[m]? ≠ some k
  | [], _, _, h => by cases h
  | a :: r, k, j, h => by
    unfold at1 at h
    split at h
    · rename_i e
      cases h
      exact ⟨by rw [e]; rfl, fun m hm => absurd hm (Nat.not_lt_zero _)⟩
    · rename_i e
      obtain ⟨i, h1, rfl⟩ := Option.map_eq_some_iff.mp h
      obtain ⟨h2, h3⟩ := at1_some h1
      refine ⟨by simpa using h2, fun m hm => ?_⟩
      cases m with
      | zero => intro z; exact e (Option.some.inj z)
      | succ m => simpa using h3 m (by omega)
theorem at1_of : ∀ {ns : List Int} {k : Int}, k ∈ ns → ∃ j, at1 ns k = some j
  | a :: r, k, h => by
    unfold at1
    by_cases e : a = k
    · exact ⟨0, if_pos e⟩
    · obtain ⟨j, h1⟩ := at1_of (ns := r) (k := k) ((List.mem_cons.mp h).resolve_left fun z => e z.symm)
      exact ⟨j + 1, by rw [if_neg e, h1]; rfl⟩
def remG (ys ds : List D) : Option (List D × D) := match ds with
  | [.con (.int k)] => (intsD ys).bind fun ns => (at1 ns k).map fun j => ((ns.eraseIdx j).map fun n => .con (.int n), .non)
  | _ => none
theorem ms_rem {K : PySem.W.Frag} : MutS K rRemI remG := fun H L a vs as ys ds ys' rt Q h1 r1 r2 e => by
  unfold remG at e
  split at e
  · rename_i k
    obtain ⟨ns, e1, e2⟩ := Option.bind_eq_some_iff.mp e
    obtain ⟨j, e3, e4⟩ := Option.map_eq_some_iff.mp e2
    cases e4
    obtain ⟨a1, a2⟩ := at1_some e3
    rw [intsD_of e1] at r1
    have ev := r1.con_inv
    subst ev
    cases r2 with
    | cons c1 c2 =>
      cases c2
      have e5 := c1.con_inv
      subst e5
      exact ⟨(ns.eraseIdx j).map V.int, .non, Reps.cons_map V.int _, .con _, fun q => ⟨a, ns, k, j, rfl, rfl, h1, a1, a2, q⟩⟩
  · cases e
def idxD (d : D) (ds : List D) : Option (D × Kd) := match d, ds with
  | .lst xs, [.con (.int k)] => (intsD xs).bind fun ns => (at1 ns k).map fun j => (.con (.int (j : Nat)), .shr)
  | _, _ => none
theorem om_index {K : PySem.W.Frag} : OpM K "list" (rIndex K) isLst idxD := ⟨ty_lst, by
  intro G O σ H ρ v vs d ds z Q hK R v1 w e q
  unfold idxD at e
  split at e
  · rename_i xs k
    obtain ⟨ns, e1, e2⟩ := Option.bind_eq_some_iff.mp e
    obtain ⟨j, e3, e4⟩ := Option.map_eq_some_iff.mp e2
    cases e4
    obtain ⟨b1, b2⟩ := at1_some e3
    obtain ⟨a1, us, rfl, s1, r1⟩ := v1.lst
    rw [intsD_of e1] at r1
    rw [r1.con_inv] at s1
    obtain ⟨u, rfl, v2⟩ := w.one
    rw [v2.con]
    have all : (ns.map V.int).all flatV = true := by
      rw [List.all_eq_true]
      intro y hy
      obtain ⟨n, _, rfl⟩ := List.mem_map.mp hy
      rfl
    refine ⟨a1, ns.map V.int, .int k, j, .int k, rfl, rfl, s1, rfl, all, by rw [List.getElem?_map, b1]; rfl, by show (k == k) = true; simp, fun m z' hm hz => ?_, q O _ H (R.con _)⟩
    rw [List.getElem?_map] at hz
    obtain ⟨n, hn, rfl⟩ := Option.map_eq_some_iff.mp hz
    show (n == k) = false
    rw [beq_eq_false_iff_ne]
    rintro rfl
    exact b2 m hm hn
  · cases e⟩
theorem x_remG {xs : List D} {ns : List Int} {k : Int} {j : Nat} {M2 : List D × D → Prop} (e : at1 ns k = some j) (h : M2 ((ns.eraseIdx j).map fun n => .con (.int n), .non)) : ∃ w, remG (ns.map fun n => .con (.int n)) [.con (.int k)] = some w ∧ M2 w := by
  refine ⟨_, ?_, h⟩
  unfold remG
  have z := intsD_map (fun n : Int => n) ns
  rw [List.map_id'] at z
  dsimp only
  rw [z]
  show (at1 ns k).map _ = _
  rw [e]
  rfl
theorem x_idx {ns : List Int} {k : Int} {j : Nat} {P : D × Kd → Prop} (e : at1 ns k = some j) (h : P (.con (.int (j : Nat)), .shr)) : ∃ z, idxD (.lst (ns.map fun n => .con (.int n))) [.con (.int k)] = some z ∧ P z := by
  refine ⟨_, ?_, h⟩
  unfold idxD
  have z := intsD_map (fun n : Int => n) ns
  rw [List.map_id'] at z
  dsimp only
  rw [z]
  show (at1 ns k).map _ = _
  rw [e]
  rfl
end L2.VL
end
section
set_option Elab.async false
set_option linter.all false
set_option maxRecDepth 100000
/-! VLJ: xs > ys, lists of ints. -/
namespace L2.VL
open PySem PySem.Spec PyProof.Rows L2
/-- greater by the first place that differs; of two of which one begins the other, the longer one -/
def lexG : List Int → List Int → Bool
  | [], _ => false
  | _ :: _, [] => true
  | a :: r, b :: s => if a = b then lexG r s else decide (b < a)
theorem first_lexG (f : Nat → Nat) (e r : Nat → Bool) (hf : True) : ∀ (ns ms : List Int) (k : Nat), (∀ j, j < ns.length → j < ms.length → e (k + j) = decide (ns.getD j 0 = ms.getD j 0)) → (∀ j, j < ns.length → j < ms.length → r (k + j) = decide (ms.getD j 0 < ns.getD j 0)) →
    SeqAt.firstLt e r (decide (ns.length > ms.length)) (List.range' k (min ns.length ms.length)) = lexG ns ms
  | [], ms, k, _, _ => by simp [SeqAt.firstLt, lexG]
  | a :: ns, [], k, _, _ => by simp [SeqAt.firstLt, lexG]
  | a :: ns, b :: ms, k, he, hr => by
    have e0 := he 0 (by simp) (by simp)
    have r0 := hr 0 (by simp) (by simp)
    have ih := first_lexG f e r hf ns ms (k + 1) (fun j h1 h2 => by
      have := he (j + 1) (by simp; omega) (by simp; omega)
      rw [show k + 1 + j = k + (j + 1) by omega, this]
      simp) (fun j h1 h2 => by
      have := hr (j + 1) (by simp; omega) (by simp; omega)
      rw [show k + 1 + j = k + (j + 1) by omega, this]
      simp)
    simp only [List.getD_cons_zero, Nat.add_zero] at e0 r0
    rw [show min (a :: ns).length (b :: ms).length = min ns.length ms.length + 1 by simp only [List.length_cons]; omega, List.range'_succ]
    unfold SeqAt.firstLt lexG
    rw [e0, r0]
    by_cases h : a = b
    · rw [if_pos (decide_eq_true h), if_pos h, ← ih]
      congr 1
      rw [decide_eq_decide]
      simp only [List.length_cons]
      omega
    · rw [if_neg (fun z => h (of_decide_eq_true z)), if_neg h]
def rGtL (K : PySem.W.Frag) : R2 := fun x y H Q => ∃ (p p2 : Addr) (ns ms : List Int), x = .ref p ∧ y = .ref p2 ∧ SqL K H p (ns.map V.int) ∧ SqL K H p2 (ms.map V.int) ∧ Q (.bl (lexG ns ms)) H
theorem ints_get : ∀ {vs : List Value} {ns : List Int}, IntsAre vs ns → ∀ (j : Nat) (h : j < vs.length), ∃ t, vs[j] = Value.int (ns.getD j 0) t
  | _, _, .cons n t r, 0, _ => ⟨t, rfl⟩
  | _, _, .cons n t r, j + 1, h => by
    obtain ⟨u, e⟩ := ints_get r j (by simpa using h)
    exact ⟨u, by simpa using e⟩
theorem op_gtL {X : Cx} (hu : X.A.units < cLine) : OpR X (compareOp .Gt) (rGtL X.K) := by
  intro pins s σ H x y v u Q I rx ry h
  obtain ⟨p, p2, ns, ms, rfl, rfl, h1, h2, q⟩ := h
  cases rx
  cases ry
  obtain ⟨us, r1, t1, _⟩ := I.list h1
  obtain ⟨ws, r2, t2, _⟩ := I.list h2
  have i1 := r1.ints
  have i2 := r2.ints
  have l1 : us.length = ns.length := by rw [← r1.length, List.length_map]
  have l2 : ws.length = ms.length := by rw [← r2.length, List.length_map]
  have R := SeqAt.RcOp.lists_gt (A := X.A) (s := s) (e := fun j => decide (ns.getD j 0 = ms.getD j 0)) (r := fun j => decide (ms.getD j 0 < ns.getD j 0)) t1.isList t2.isList hu
    (fun j g1 g2 => by
      obtain ⟨k1, e1⟩ := ints_get i1 j (by simpa using g1)
      obtain ⟨k2, e2⟩ := ints_get i2 j (by simpa using g2)
      simp only [List.getElem_toArray, e1, e2]
      exact eqAt_dec _ _ _ _)
    (fun j g1 g2 _ => by
      obtain ⟨k1, e1⟩ := ints_get i1 j (by simpa using g1)
      obtain ⟨k2, e2⟩ := ints_get i2 j (by simpa using g2)
      simp only [List.getElem_toArray, e1, e2]
      exact fun _ _ _ _ h => PyProof.Rows.gt_int h)
  refine R X.prog X.w X.xe (EP X pins σ Q) ⟨.bl _, H, I, rfl, ?_⟩
  have e := first_lexG id (fun j => decide (ns.getD j 0 = ms.getD j 0)) (fun j => decide (ms.getD j 0 < ns.getD j 0)) trivial ns ms 0 (fun j _ _ => by rw [Nat.zero_add]) (fun j _ _ => by rw [Nat.zero_add])
  rw [← List.range_eq_range'] at e
  rw [show us.toArray.size = ns.length by rw [List.size_toArray]; exact l1, show ws.toArray.size = ms.length by rw [List.size_toArray]; exact l2, e]
  exact q
def gtA (x y : D) : Option Bool := match x, y with
  | .con (.int i), .con (.int j) => some (decide (j < i))
  | .lst xs, .lst ys => (intsD xs).bind fun ns => (intsD ys).map fun ms => lexG ns ms
  | _, _ => none
abbrev rGtA (K : PySem.W.Frag) : R2 := fun x y H Q => rI0 (fun i j => .bl (decide (j < i))) x y H Q ∨ rGtL K x y H Q
theorem op_gtA {X : Cx} {k : Nat} (hr : Room k X.A) : OpR X (compareOp .Gt) (rGtA X.K) := OpR.or op_gt (op_gtL (by have := hr.units; omega))
theorem cs_gtA {K : PySem.W.Frag} : CmpS K (rGtA K) gtA := fun x y H d1 d2 k O Q v1 v2 e q => by
  unfold gtA at e
  split at e
  · cases e
    exact .inl ⟨_, _, v1.con, v2.con, q⟩
  · rename_i xs ys
    obtain ⟨ns, e1, e2⟩ := Option.bind_eq_some_iff.mp e
    obtain ⟨ms, e3, rfl⟩ := Option.map_eq_some_iff.mp e2
    obtain ⟨a1, vs, rfl, s1, r1⟩ := v1.lst
    obtain ⟨a2, us, rfl, s2, r2⟩ := v2.lst
    rw [intsD_of e1] at r1
    rw [intsD_of e3] at r2
    rw [r1.con_inv] at s1
    rw [r2.con_inv] at s2
    exact .inr ⟨a1, a2, _, _, rfl, rfl, s1, s2, q⟩
  · cases e
theorem x_gtI {B : Bool → Prop} {i j : Int} (h : B (decide (j < i))) : ∃ k, gtA (.con (.int i)) (.con (.int j)) = some k ∧ B k := ⟨_, rfl, h⟩
theorem x_gtL {B : Bool → Prop} {ns ms : List Int} (h : B (lexG ns ms)) : ∃ k, gtA (.lst (ns.map fun n => .con (.int n))) (.lst (ms.map fun n => .con (.int n))) = some k ∧ B k := by
  refine ⟨_, ?_, h⟩
  unfold gtA
  have z1 := intsD_map (fun n : Int => n) ns
  have z2 := intsD_map (fun n : Int => n) ms
  rw [List.map_id'] at z1 z2
  dsimp only
  rw [z1, z2]
  rfl
end L2.VL
end
section
set_option Elab.async false
set_option linter.all false
set_option maxRecDepth 100000
/-! VLM: [*xs, e, ..]. -/
namespace L2.VL
open PySem PySem.Spec PyProof.Rows L2
def tStar (K : PySem.W.Frag) (te : TE) (t : TA) : TA := fun σ H Q => te σ H fun x H1 => ∃ a vs, x = .ref a ∧ SqL K H1 a vs ∧ t σ H1 fun xs H2 => Q (vs ++ xs) H2
theorem vals_app : ∀ {vs ws : List V} {us ts : List Value}, Vals vs us → Vals ws ts → Vals (vs ++ ws) (us ++ ts)
  | [], _, _, _, .nil, r => r
  | _ :: _, _, _, _, .cons a b, r => .cons a (vals_app b r)
theorem pa_star {X : Cx} {e : Expr} {es : List Expr} {p : Pos} {te : TE} {t : TA} (he : PE X e te) (hr : PA X es t) (hs : starEach (.Starred e p :: es) X.env = (true, eval e X.env) :: starEach es X.env := by rfl) : PA X (.Starred e p :: es) (tStar X.K te t) := by
  refine ⟨fun pos pins s σ H Q I h => ?_⟩
  refine PySem.W.items_star (thn (he.run pins s σ H _ I h) fun u s1 ⟨x, H1, I1, r1, a, vs, ex, hl, q⟩ => ?_) hs
  subst ex
  obtain rfl : u = Value.ref a := r1
  refine StX.star_lst I1 hl fun us s2 I2 rv => ?_
  exact thn (hr.run pos pins s2 σ H1 _ I2 q) fun ts s3 ⟨xs, H2, I3, r2, q2⟩ => ⟨vs ++ xs, H2, I3, vals_app rv r2, q2⟩
theorem pushC_app : ∀ {vs ws : List V} {xs ys : List (D × Kd)} {T : List Tmp}, vs.length = xs.length → pushC (vs ++ ws) (xs ++ ys) T = pushC ws ys (pushC vs xs T)
  | [], _, [], _, _, _ => rfl
  | _ :: vs, ws, _ :: xs, ys, T, h => pushC_app (vs := vs) (ws := ws) (xs := xs) (ys := ys) (Nat.succ.inj h)
  | [], _, _ :: _, _, _, h => by cases h
  | _ :: _, _, [], _, _, h => by cases h
abbrev shD (ds : List D) : List (D × Kd) := ds.map fun d => (d, Kd.shr)
theorem push_shr {G : Fix} {O : Own} {σ : St} {H : Hp} {ρ : Rho} : ∀ {vs : List V} {ds : List D} {T : List Tmp}, Rel G O σ H ρ T → Reps G.K H (lin O) vs ds → Rel G O σ H ρ (pushC vs (shD ds) T)
  | [], [], _, R, .nil => R
  | v :: vs, d :: ds, T, R, .cons a b => push_shr (vs := vs) (ds := ds) (T := ⟨v, d, .shr⟩ :: T) (R.push a) b
theorem shrs_app : ∀ (ds : List D) (xs : List (D × Kd)), shrs (shD ds ++ xs) = (shrs xs).map (ds ++ ·)
  | [], xs => by simp
  | d :: ds, xs => by
    show (shrs (shD ds ++ xs)).map (d :: ·) = _
    rw [shrs_app ds xs]
    cases shrs xs <;> rfl
def stlG (d : D) (xs : List (D × Kd)) : Option (D × Kd) := match d with
  | .lst ds => gD .lst .fr (shD ds ++ xs)
  | _ => none
def dStl (r : DE) (l : List (Bool × DE)) : DE := do
  let x ← r
  let y ← keep false x
  let _ ← mOpt (lstOf y.1)
  let xs ← dA l
  mOpt (stlG y.1 xs)
theorem se_stl {X : Cx} {e : Expr} {es : List Expr} {p pos : Pos} {r : DE} {l : List (Bool × DE)} (he : SE X e r) (hs : SA X es l) (hst : starEach (.Starred e p :: es) X.env = (true, eval e X.env) :: starEach es X.env := by rfl) : SE X (.List (.Starred e p :: es) pos) (dStl r l) :=
  fun W tk => PE.imp (pe_lst (pa_star (he W tk) (hs W tk) hst)) fun σ H Q ⟨G, O, ρ, hK, R, h⟩ => by
    refine tE.at hK R (Res.post_ok ((post_bind _ _).mp h) fun x ρ1 q O1 v H1 R1 => ?_)
    obtain ⟨d, e0, q1⟩ := keep_false ((post_bind _ _).mp q)
    obtain ⟨O2, R2⟩ := R1.settle (d := d) e0
    obtain ⟨ds, e1, q2⟩ := (post_opt _).mp ((post_bind _ _).mp q1)
    have ed : d = .lst ds := by
      unfold lstOf at e1
      split at e1
      · rename_i zs hz
        cases e1
        exact hz
      · cases e1
    subst ed
    have rp : Rep G.K H1 (lin O2) v (.lst ds) := R2.tm.1
    obtain ⟨a, vs, rfl, s1, r1⟩ := (Vw.lst (.inl rp) : ∃ a vs, v = .ref a ∧ SqL G.K H1 a vs ∧ Reps G.K H1 (lin O2) vs ds)
    have hl0 : vs.length = (shD ds).length := by rw [List.length_map]; exact r1.len
    refine ⟨a, vs, rfl, by rw [← hK]; exact s1, G, O2, _, pushC vs (shD ds) [], hK, push_shr R2.pop r1, Res.post_ok ((post_bind _ _).mp q2) fun xs ρ3 q3 O3 ws H3 hl R3 => ?_⟩
    obtain ⟨z, e2, q4⟩ := (post_opt _).mp q3
    obtain ⟨es', e3, e4, e5⟩ := gD_of (show gD .lst .fr (shD ds ++ xs) = some z from e2)
    subst e5
    rw [← pushC_app hl0] at R3
    have rp2 := pushC_reps (by rw [List.length_append, List.length_append, hl0, hl]) R3 e3
    refine ⟨by rw [rp2.len]; exact e4, fun p hp => ?_⟩
    obtain ⟨O4, R4⟩ := (pushC_pop R3).fresh (d := .lst es') hp (.lst rp2)
    exact q4 O4 _ _ R4
section
variable {ρ : Rho} {E : Exn → Rho → Prop} {r : DE} {l : List (Bool × DE)} {V1 : D × Kd → Rho → Prop}
theorem w_p_stl (h : (r ρ).pst (fun x ρ1 => ((keep false x) ρ1).pst (fun y ρ2 => ∃ ds, lstOf y.1 = some ds ∧ ((dA l) ρ2).pst (fun xs ρ3 => ∃ es, shrs xs = some es ∧ ds.length + es.length ≤ cap ∧ V1 (.lst (ds ++ es), .fr) ρ3) E) E) E) : ((dStl r l) ρ).pst V1 E := by
  rw [pst_iff] at *
  refine (post_bind _ _).mpr (Res.post_ok h fun x ρ1 z => (post_bind _ _).mpr ?_)
  rw [pst_iff] at z
  refine Res.post_ok z fun y ρ2 z => ?_
  obtain ⟨ds, e1, z⟩ := z
  rw [pst_iff] at z
  refine (post_bind _ _).mpr ((post_opt _).mpr ⟨ds, e1, (post_bind _ _).mpr (Res.post_ok z fun xs ρ3 z => ?_)⟩)
  obtain ⟨es, e2, e3, z⟩ := z
  have ey : y.1 = .lst ds := by
    unfold lstOf at e1
    split at e1
    · rename_i zs hz
      cases e1
      exact hz
    · cases e1
  refine (post_opt _).mpr ⟨_, ?_, z⟩
  unfold stlG
  rw [ey]
  dsimp only
  unfold gD
  rw [shrs_app, e2]
  exact if_pos (by rw [List.length_append]; exact e3)
end
/-- the items that fit; what stands beside changes within J -/
theorem w_lc_fltJ {α : Type} {own : List Nat} {t : Tg} {q : M Bool} {r : DE} {xs : List D} {ρ : Rho} {V1 : D × Kd → Rho → Prop} {E : Exn → Rho → Prop} {f : α → D} (as : List α) (p : α → Bool) (g : α → D) (J : Rho → Prop) (hx : xs = as.map f) (h0 : J (wipeR ρ own)) (hl : as.length ≤ cap)
    (hs : ∀ a ∈ as, ∀ ρ, J ρ → ((lcT t q r (f a)) ρ).pst (fun o ρ' => o = (if p a then some (g a) else none) ∧ J (wipeR ρ' own)) E) (h : ∀ ρ, J ρ → V1 (.lst ((as.filter p).map g), .fr) ρ) :
    ((lcD own t q r xs) ρ).pst (LcK own V1) E := by
  subst hx
  refine w_lc_st (fun i acc ρ' => acc = ((as.take i).filter p).map g ∧ J ρ') ⟨by simp, h0⟩ ?_ ?_
  · rintro i x acc ρ' hx ⟨rfl, hj⟩
    rw [List.getElem?_map] at hx
    obtain ⟨a, ha, rfl⟩ := Option.map_eq_some_iff.mp hx
    have h1 := hs a (List.mem_of_getElem? ha) ρ' hj
    refine ⟨Res.post_ok h1.h ?_⟩
    rintro o ρ2 ⟨rfl, h2⟩
    refine ⟨?_, h2⟩
    rw [List.take_add_one, ha, List.filter_append, List.map_append]
    cases e : p a <;> simp [e]
  · rintro acc ρ' ⟨rfl, hj⟩
    rw [show (as.map f).length = as.length from List.length_map _, List.take_length]
    exact ⟨by rw [List.length_map]; exact Nat.le_trans (List.length_filter_le _ _) hl, h ρ' hj⟩
end L2.VL
end
section
set_option Elab.async false
set_option linter.all false
set_option maxRecDepth 100000
/-! VLN: x in xs, items of any depth. -/
namespace L2.VL
open PySem PySem.Spec PyProof.Rows L2
theorem readsAll_zip {h : Heap} : ∀ {us : List Value} {ds : List PyData} {as : List Addr}, ReadsAll h us ds as → us.length = ds.length ∧ ∀ q ∈ us.zip ds, ∃ bs, Reads h q.1 q.2 bs
  | [], [], _, _ => ⟨rfl, fun q hq => by cases hq⟩
  | u :: us, d :: ds, _, r => by
    cases r with
    | cons r1 r2 =>
      obtain ⟨h1, h2⟩ := readsAll_zip r2
      refine ⟨by simp [h1], fun q hq => ?_⟩
      rcases List.mem_cons.mp hq with rfl | hq
      · exact ⟨_, r1⟩
      · exact h2 q hq
  | [], _ :: _, _, r => by cases r
  | _ :: _, [], _, r => by cases r
def rInN (K : PySem.W.Frag) (neg : Bool) : R2 := fun x y H Q => ∃ d p xs ds, Dp K H x d ∧ y = .ref p ∧ SqL K H p xs ∧ DpAll K H xs ds ∧ SeqAt.shaped d = true ∧ ds.all SeqAt.shaped = true ∧ Q (.bl (if neg then !(ds.any fun e => PyData.eqv e d) else ds.any fun e => PyData.eqv e d)) H
open Classical in
theorem in_pick {A : Around} {s : Shared} {u : Value} {d : PyData} {as bs : List Addr} {us : List Value} {ds : List PyData} (hu : A.units + 64 < cLine) (ra : Reads s.heap u d as) (rb : ReadsAll s.heap us ds bs) (hd : SeqAt.shaped d = true) (hs : ds.all SeqAt.shaped = true) :
    ∃ e : Value → Bool, (∀ y ∈ us, SeqAt.EqAt A s y u (e y)) ∧ us.any e = ds.any fun e => PyData.eqv e d := by
  obtain ⟨hl, hz⟩ := readsAll_zip rb
  have at_ : ∀ q ∈ us.zip ds, SeqAt.EqAt A s q.1 u (PyData.eqv q.2 d) := fun q hq => by
    obtain ⟨cs, rq⟩ := hz q hq
    have sq : SeqAt.shaped q.2 = true := List.all_eq_true.mp hs q.2 (List.of_mem_zip hq).2
    exact SeqAt.eqAt_reads q.2 d A s q.1 u cs as rq ra (SeqAt.canLay_of_shaped sq) (SeqAt.canLay_of_shaped hd) (SeqAt.room_of_shaped sq hu)
  have left : ∀ y ∈ us, ∃ q ∈ us.zip ds, q.1 = y := fun y hy => by
    obtain ⟨i, hi, e⟩ := List.mem_iff_getElem.mp hy
    exact ⟨(us[i], ds[i]'(by omega)), List.mem_iff_getElem.mpr ⟨i, by rw [List.length_zip]; omega, by rw [List.getElem_zip]⟩, e⟩
  have right : ∀ z ∈ ds, ∃ q ∈ us.zip ds, q.2 = z := fun y hy => by
    obtain ⟨i, hi, e⟩ := List.mem_iff_getElem.mp hy
    exact ⟨(us[i]'(by omega), ds[i]), List.mem_iff_getElem.mpr ⟨i, by rw [List.length_zip]; omega, by rw [List.getElem_zip]⟩, e⟩
  refine ⟨fun y => decide (∃ q ∈ us.zip ds, q.1 = y ∧ PyData.eqv q.2 d = true), fun y hy => ?_, ?_⟩
  · by_cases h : ∃ q ∈ us.zip ds, q.1 = y ∧ PyData.eqv q.2 d = true
    · obtain ⟨q, h1, h2, h3⟩ := id h
      dsimp only
      rw [decide_eq_true h, ← h3, ← h2]
      exact at_ q h1
    · obtain ⟨q, h1, h2⟩ := left y hy
      have h3 : PyData.eqv q.2 d = false := by
        cases e : PyData.eqv q.2 d with
        | false => rfl
        | true => exact absurd ⟨q, h1, h2, e⟩ h
      dsimp only
      rw [decide_eq_false h, ← h3, ← h2]
      exact at_ q h1
  · rw [Bool.eq_iff_iff, List.any_eq_true, List.any_eq_true]
    constructor
    · rintro ⟨y, _, h⟩
      obtain ⟨q, h1, _, h3⟩ := of_decide_eq_true h
      exact ⟨q.2, (List.of_mem_zip h1).2, h3⟩
    · rintro ⟨z, hz, h⟩
      obtain ⟨q, h1, rfl⟩ := right z hz
      exact ⟨q.1, (List.of_mem_zip h1).1, decide_eq_true ⟨q, h1, rfl, h⟩⟩
section
variable {X : Cx}
theorem op_inN (hu : X.A.units + 65 < cLine) : OpR X (compareOp .In) (rInN X.K false) := by
  intro pins s σ H x y v u Q I rx ry h
  obtain ⟨d, p, xs, ds, hd, rfl, hq, hds, sd, sds, q⟩ := h
  cases ry
  obtain ⟨its, r, pl, hz⟩ := I.list hq
  obtain ⟨as, ra⟩ := Dp.reads I d x v hd rx
  obtain ⟨bs, rb⟩ := Dp.readsAll I ds xs its hds r
  obtain ⟨e, h1, h2⟩ := in_pick (A := X.A.in1) (by show X.A.units + 1 + 64 < _; omega) ra rb sd sds
  refine SeqAt.in_listAt e pl.isList (fun w hw => h1 w (by simpa using hw)) ⟨.bl _, H, I, rfl, ?_⟩
  rw [show its.toArray.any e = its.any e by simp, h2]
  exact q
theorem op_notInN (hu : X.A.units + 65 < cLine) : OpR X (compareOp .NotIn) (rInN X.K true) := by
  intro pins s σ H x y v u Q I rx ry h
  obtain ⟨d, p, xs, ds, hd, rfl, hq, hds, sd, sds, q⟩ := h
  cases ry
  obtain ⟨its, r, pl, hz⟩ := I.list hq
  obtain ⟨as, ra⟩ := Dp.reads I d x v hd rx
  obtain ⟨bs, rb⟩ := Dp.readsAll I ds xs its hds r
  obtain ⟨e, h1, h2⟩ := in_pick (A := X.A.in1) (by show X.A.units + 1 + 64 < _; omega) ra rb sd sds
  refine SeqAt.notIn_listAt e pl.isList (fun w hw => h1 w (by simpa using hw)) ⟨.bl _, H, I, rfl, ?_⟩
  rw [show its.toArray.any e = its.any e by simp, h2]
  exact q
end
def inN (x y : D) : Option Bool := match y with
  | .lst ds => if (okD 60 x && ds.all (okD 60)) = true then some (ds.any fun d => same d x) else none
  | _ => none
theorem reps_dp {K : PySem.W.Frag} {H : Hp} {O : Own} : ∀ {vs : List V} {ds : List D}, Reps K H (lin O) vs ds → ds.all (okD 60) = true → DpAll K H vs (ds.map toPy)
  | [], [], .nil, _ => .nil
  | v :: vs, d :: ds, .cons a b, h => by
    rw [List.all_cons, Bool.and_eq_true] at h
    exact .cons (Rep.dp 60 h.1 (.inl a)) (reps_dp b h.2)
theorem inN_of {K : PySem.W.Frag} {H : Hp} {O : Own} {u w : V} {x y : D} {k : Bool} (v1 : Vw K H O u x) (v2 : Vw K H O w y) (e : inN x y = some k) :
    ∃ d p xs ds, Dp K H u d ∧ w = .ref p ∧ SqL K H p xs ∧ DpAll K H xs ds ∧ SeqAt.shaped d = true ∧ ds.all SeqAt.shaped = true ∧ (ds.any fun e => PyData.eqv e d) = k := by
  unfold inN at e
  split at e
  · rename_i ds
    split at e
    · rename_i h
      rw [Bool.and_eq_true] at h
      cases e
      obtain ⟨a, vs, rfl, s, r⟩ := v2.lst
      have up : ∀ d, okD 60 d = true → okD 60 d = true := fun d h => h
      refine ⟨toPy x, a, vs, ds.map toPy, Rep.dp 60 h.1 v1, rfl, s, reps_dp r h.2, ok_shaped (up _ h.1), ?_, ?_⟩
      · rw [List.all_map, List.all_eq_true]
        intro d hd
        exact ok_shaped (up _ (List.all_eq_true.mp h.2 d hd))
      · rw [List.any_map]
        have : ∀ l : List D, l.all (okD 60) = true → (l.any ((fun e => PyData.eqv e (toPy x)) ∘ toPy)) = l.any fun d => same d x := by
          intro l
          induction l with
          | nil => intro _; rfl
          | cons d l ih =>
            intro hl
            rw [List.all_cons, Bool.and_eq_true] at hl
            rw [List.any_cons, List.any_cons, ih hl.2]
            show (PyData.eqv (toPy d) (toPy x) || _) = _
            rw [same_eqv 60 60 d x hl.1 h.1]
        exact this ds h.2
    · cases e
  · cases e
def inB (x y : D) : Option Bool := (inA x y).or (inN x y)
def notInB (x y : D) : Option Bool := (inB x y).map not
abbrev rInB (K : PySem.W.Frag) : R2 := fun x y H Q => (rIn K false x y H Q ∨ rInS x y H Q) ∨ rInN K false x y H Q
abbrev rNotInB (K : PySem.W.Frag) : R2 := fun x y H Q => (rIn K true x y H Q ∨ rNotInS x y H Q) ∨ rInN K true x y H Q
theorem op_inB {X : Cx} {k : Nat} (hr : Room k X.A) : OpR X (compareOp .In) (rInB X.K) := OpR.or op_inA (op_inN (by have := hr.un; omega))
theorem op_notInB {X : Cx} {k : Nat} (hr : Room k X.A) : OpR X (compareOp .NotIn) (rNotInB X.K) := OpR.or op_notInA (op_notInN (by have := hr.un; omega))
theorem cs_inB {K : PySem.W.Frag} : CmpS K (rInB K) inB := fun a b H x y k O Q v1 v2 e q => by
  unfold inB at e
  cases h : inA x y with
  | some j =>
    rw [h] at e
    cases e
    exact .inl (cs_inA a b H x y k O Q v1 v2 h q)
  | none =>
    rw [h] at e
    obtain ⟨d, p, xs, ds, e1, e2, e3, e4, e5, e6, e7⟩ := inN_of v1 v2 (show inN x y = some k from e)
    exact .inr ⟨d, p, xs, ds, e1, e2, e3, e4, e5, e6, by rw [e7]; exact q⟩
theorem cs_notInB {K : PySem.W.Frag} : CmpS K (rNotInB K) notInB := fun a b H x y k O Q v1 v2 e q => by
  obtain ⟨k', e1, e0⟩ := Option.map_eq_some_iff.mp e
  unfold inB at e1
  cases h : inA x y with
  | some j =>
    rw [h] at e1
    cases e1
    exact .inl (cs_notInA a b H x y k O Q v1 v2 (by unfold notInA; rw [h]; exact congrArg some e0) q)
  | none =>
    rw [h] at e1
    obtain ⟨d, p, xs, ds, e2, e3, e4, e5, e6, e7, e8⟩ := inN_of v1 v2 (show inN x y = some k' from e1)
    refine .inr ⟨d, p, xs, ds, e2, e3, e4, e5, e6, e7, ?_⟩
    rw [e8, if_pos rfl, e0]
    exact q
section
variable {B : Bool → Prop}
theorem y_inS {s t : Str} (h : B (strIn s t)) : ∃ k, inB (.con (.str s)) (.con (.str t)) = some k ∧ B k := ⟨_, rfl, h⟩
theorem y_ninS {s t : Str} (h : B (!strIn s t)) : ∃ k, notInB (.con (.str s)) (.con (.str t)) = some k ∧ B k := ⟨_, rfl, h⟩
theorem y_inL {x y : D} {b : Bool} (e : inD x y = some b) (h : B b) : ∃ k, inB x y = some k ∧ B k := ⟨b, by unfold inB inA; rw [e]; rfl, h⟩
theorem y_ninL {x y : D} {b : Bool} (e : inD x y = some b) (h : B (!b)) : ∃ k, notInB x y = some k ∧ B k := ⟨!b, by unfold notInB inB inA; rw [e]; rfl, h⟩
/-- a number in a list of numbers -/
theorem in_ints (k : Int) (ns : List Int) : inD (.con (.int k)) (.lst (ns.map fun n => D.con (.int n))) = some (decide (k ∈ ns)) := by
  have e : ∀ ns : List Int, flatDs (ns.map fun n => D.con (.int n)) = some (ns.map V.int) := by
    intro ns
    induction ns with
    | nil => rfl
    | cons a r ih =>
      rw [List.map_cons]
      unfold flatDs
      rw [show flatD (D.con (.int a)) = some (V.int a) from rfl, ih]
      rfl
  unfold inD
  dsimp only
  rw [show flatD (D.con (.int k)) = some (V.int k) from rfl, e]
  dsimp only
  congr 1
  induction ns with
  | nil => rfl
  | cons a r ih =>
    show (_ || _) = _
    have ih : ((r.map V.int).any fun y => eqV y (V.int k)) = decide (k ∈ r) := ih
    rw [ih, Bool.eq_iff_iff]
    show (a == k || decide (k ∈ r)) = true ↔ _
    simp only [Bool.or_eq_true, beq_iff_eq, decide_eq_true_eq, List.mem_cons]
    constructor
    · rintro (h | h)
      · exact .inl h.symm
      · exact .inr h
    · rintro (h | h)
      · exact .inl h.symm
      · exact .inr h
theorem y_inI {k : Int} {ns : List Int} (h : B (decide (k ∈ ns))) : ∃ b, inB (.con (.int k)) (.lst (ns.map fun n => D.con (.int n))) = some b ∧ B b := y_inL (in_ints k ns) h
theorem y_ninI {k : Int} {ns : List Int} (h : B (!decide (k ∈ ns))) : ∃ b, notInB (.con (.int k)) (.lst (ns.map fun n => D.con (.int n))) = some b ∧ B b := y_ninL (in_ints k ns) h
theorem same_ints : ∀ xs ys : List Int, sameL (xs.map fun n => D.con (.int n)) (ys.map fun n => D.con (.int n)) = decide (xs = ys)
  | [], [] => rfl
  | [], _ :: _ => rfl
  | _ :: _, [] => rfl
  | x :: xs, y :: ys => by
    rw [List.map_cons, List.map_cons]
    show (same (.con (.int x)) (.con (.int y)) && _) = _
    rw [same_ints xs ys, Bool.eq_iff_iff]
    have : same (.con (.int x)) (.con (.int y)) = decide (x = y) := by
      simp [same, sameV]
    rw [this]
    simp
/-- a list of numbers in a list of such lists -/
theorem inN_ints (k : List Int) (ns : List (List Int)) : inB (.lst (k.map fun n => D.con (.int n))) (.lst (ns.map fun l => .lst (l.map fun n => D.con (.int n)))) = some (decide (k ∈ ns)) := by
  have e1 : inA (.lst (k.map fun n => D.con (.int n))) (.lst (ns.map fun l => .lst (l.map fun n => D.con (.int n)))) = none := rfl
  unfold inB
  rw [e1, Option.none_or]
  unfold inN
  dsimp only
  have ok : ∀ l : List Int, okD 60 (.lst (l.map fun n => D.con (.int n))) = true := fun l => okL_map l 59 fun _ _ => rfl
  rw [if_pos (by
    rw [ok, Bool.true_and, List.all_map, List.all_eq_true]
    intro l _
    exact ok l), List.any_map]
  congr 1
  rw [Bool.eq_iff_iff, List.any_eq_true, decide_eq_true_eq]
  constructor
  · rintro ⟨l, hl, h⟩
    have h : sameL (l.map fun n => D.con (.int n)) (k.map fun n => D.con (.int n)) = true := h
    rw [same_ints] at h
    rw [← of_decide_eq_true h]
    exact hl
  · intro h
    refine ⟨k, h, ?_⟩
    show sameL (k.map fun n => D.con (.int n)) (k.map fun n => D.con (.int n)) = true
    rw [same_ints]
    exact decide_eq_true rfl
theorem y_inLL {k : List Int} {ns : List (List Int)} (h : B (decide (k ∈ ns))) : ∃ b, inB (.lst (k.map fun n => D.con (.int n))) (.lst (ns.map fun l => .lst (l.map fun n => D.con (.int n)))) = some b ∧ B b := ⟨_, inN_ints k ns, h⟩
theorem y_ninLL {k : List Int} {ns : List (List Int)} (h : B (!decide (k ∈ ns))) : ∃ b, notInB (.lst (k.map fun n => D.con (.int n))) (.lst (ns.map fun l => .lst (l.map fun n => D.con (.int n)))) = some b ∧ B b := ⟨_, by unfold notInB; rw [inN_ints]; rfl, h⟩
end
end L2.VL
end
section
set_option Elab.async false
set_option linter.all false
set_option maxRecDepth 100000
set_option maxHeartbeats 2000000
/-! VLX: own exceptions: raise C('..'), raise C(e) with a field, try .. except D as n: y = n.f. -/
namespace L2.VL
open PySem PySem.Spec PyProof.Rows L2
section
variable {G : Fix} {O : Own} {σ : St} {H : Hp} {ρ : Rho} {T : List Tmp}
/-- a new object that the data do not show -/
theorem Rel.freshX {p : Addr} {ho : HO} (R : Rel G O σ H ρ T) (hp : H p = none) : Rel G O σ (upd H p ho) ρ T := by
  have ne : ∀ {a : Addr} {o : HO}, H a = some o → a ≠ p := fun e z => by rw [z, hp] at e; cases e
  have hs : Stay H (upd H p ho) (lin O) (lin O) := fun a o n e => ⟨by rw [upd_ne (ne e)]; exact e, n⟩
  refine ⟨R.len, fun b o e => ?_, R.ot, fun a w e => ?_, R.pn, fun i s e => ?_, ?_⟩
  · obtain ⟨h1, h2⟩ := R.fr b o e
    rw [upd_ne (ne h1)]; exact ⟨h1, h2⟩
  · obtain ⟨o, q⟩ := R.tr a w e
    exact ⟨o, by rw [upd_ne (ne q)]; exact q⟩
  · obtain ⟨v, h1, h2⟩ := R.sl i s e
    refine ⟨v, h1, slot_mono hs (fun a o e1 e2 => ?_) h2⟩
    rw [upd_ne (ne e2)]; exact ⟨e1, e2⟩
  · refine tmps_mono hs (fun a o n _ e1 e2 => ?_) R.tm
    rw [upd_ne (ne e2)]; exact ⟨e1, e2⟩
/-- a slot of which nothing is said -/
theorem Rel.setN {i : Nat} {v : Option V} (R : Rel G O σ H ρ []) (hi : ρ[i]? = some none) : Rel G O (σ.set i v) H ρ [] := by
  refine ⟨by rw [List.length_set]; exact R.len, R.fr, R.ot, R.tr, fun j u e => ?_, fun j s e => ?_, trivial⟩
  · obtain ⟨h1, s, h2, h3⟩ := R.pn j u e
    have hj : j ≠ i := fun z => by rw [z, hi] at h2; cases h2
    exact ⟨by rw [List.getElem?_set_ne (Ne.symm hj)]; exact h1, s, h2, h3⟩
  · have hj : j ≠ i := fun z => by rw [z, hi] at e; cases e
    obtain ⟨u, h1, h2⟩ := R.sl j s e
    exact ⟨u, by rw [List.getElem?_set_ne (Ne.symm hj)]; exact h1, h2⟩
end
/-! ### raise -/
def dRaise (x : Exn) : DS := fun ρ => .ex x ρ
/-- what the written part says of an own class without own __init__ -/
structure ExcT (K : PySem.W.Frag) (mg : Str → Option Value) (x : Str) : Prop where
  g : mg x = some (.ref (He.ga K x))
  q : PySem.W.excIn K (He.ga K x) He.veBase "ValueError.__new__" = true
  k : PySem.W.keepIn K (.ref (He.ga K x)) = true
  b : PySem.W.subIn K (.ref (He.ga K x)) (.type "BaseException") = some true
  ty : PySem.W.typeIn K (.ref (He.ga K x)) = some (.type "type")
theorem ss_raise0 {X : Cx} {pj : VK → VK} {x m : Str} {j : Nat} {p p2 pos pos' : Pos} (hx : CxG X) (t : ExcT X.K X.mg x) (hg : Gl X x := by rfl) (hdb : (x == ("__debug__" : Str)) = false := by decide) :
    SSf pj X (.Raise (some (.Call (.Name x p) [.Constant (.str m) j p2] [] pos)) none pos') (dRaise ⟨x, none⟩) := fun W tk =>
  PS.imp (ps_raise hx.calm tk (pmk_own PySem.F.excBase_ValueError t.q t.g t.k (raises_own t.b t.ty) hg hdb)) fun D σ H ⟨G, O, ρ, hK, R, h⟩ => by
    have h : EXs G W ⟨x, none⟩ ρ := h
    have := h σ O H none R rfl
    rw [hK] at this
    exact this
/-! ### C(e): its __init__ -/
def spInit (K : PySem.W.Frag) (f : Str) : Sp := fun vs H Q E => ∃ (a C : Addr) (v : V), vs = [.ref a, v] ∧ OexC K C ∧ PySem.W.findIn K (.ref C) f = some none ∧ H a = some (exo a C none) ∧
  ∀ dx, H dx = none → dx ≠ a → Q .non (upd (upd H dx (exd dx [(f, v)])) a (exo a C (some dx)))
section
variable {X : Cx} {e : Expr} {es : List Expr} {ta : TA} {p1 p2 pos : Pos}
/-- R.__init__(self, ..), R an own class over ValueError without own __init__ -/
theorem pe_rkinit {x : Str} {CR : Addr} {pl : Sem Bool} (hg : Gl X x) (gR : X.mg x = some (.ref CR)) (sg : PySem.W.specialIn X.K (.ref CR) "__getattribute__" = some (some (.builtin "type.__getattribute__"))) (rd : PySem.W.readsIn X.K CR (.type "type") = true)
    (vV : PySem.W.findCls X.K (.ref CR) (.type "type") "__init__" = some (.val (.builtin "ValueError.__init__"))) (ha : PA X (e :: es) ta) (hdb : (x == ("__debug__" : Str)) = false := by decide)
    (hc : eval (.Call (.Attribute (.Name x p1) "__init__" p2) (e :: es) [] pos) X.env = (do
      let ov ← eval (.Name x p1) X.env
      standAt p2.atName
      let (f, first) ← holding [ov] (getMethod ov "__init__" pl)
      callWith pos f first (backTo pos (starEach (e :: es) X.env)) (backToKw pos (keywordEach [] X.env))) := by rfl)
    (he : starEach (e :: es) X.env = (false, eval e X.env) :: starEach es X.env := by rfl) (hpl : (backTo pos (starEach es X.env)).any (·.1) = false := by rfl) :
    PE X (.Call (.Attribute (.Name x p1) "__init__" p2) (e :: es) [] pos) (tVeI X.K ta) := by
  refine ⟨fun pins s σ H Q I h => ?_⟩
  refine PySem.W.methodCall_KW (ld_glob I hg gR ?_ hdb) hc
  refine PySem.W.method_cls I.kIn sg (PySem.W.cls_value I.kIn rd vV (by decide +kernel) ?_)
  show wpAny _ _ (callWith pos (Value.builtin "ValueError.__init__") [] (backTo pos (starEach (e :: es) X.env)) []) _ _ _
  refine PyProof.Rows.callWith_method1 (thn (ha.run pos pins _ σ H _ (I.tok _) h) fun us s1 ⟨vs, H1, I1, r1, a, C, ws, ev, hl, T, ea, q⟩ => ?_) he hpl
  subst ev
  cases r1 with
  | @cons _ u0 _ ur ra rw' =>
    obtain rfl : u0 = Value.ref a := ra
    have hlen : ur.length ≤ sizeLine := by
      rw [← Paired.length rw', sizeLine_eq]
      omega
    exact oinit_ok T I1 ea hlen fun s' J => ⟨.non, H1, J, rfl, q⟩
end
/-- what the written part says of the class whose __init__ is called -/
structure RkT (K : PySem.W.Frag) (mg : Str → Option Value) (x : Str) : Prop where
  g : mg x = some (.ref (He.ga K x))
  sg : PySem.W.specialIn K (.ref (He.ga K x)) "__getattribute__" = some (some (.builtin "type.__getattribute__"))
  rd : PySem.W.readsIn K (He.ga K x) (.type "type") = true
  v : PySem.W.findCls K (.ref (He.ga K x)) (.type "type") "__init__" = some (.val (.builtin "ValueError.__init__"))
/-- the reading of an __init__'s body: R.__init__(self, '..'); self.f = f -/
abbrev tInit (K : PySem.W.Frag) (f m : Str) : TS := tSeq (tDrop (tVeI K (tCons (tVar 0) (tCons (tC (.str m)) tNil)))) (tSeq (tOst K f (tVar 0) (tVar 1)) tNext)
/-- an own class with an __init__, by its name x, its field f, its __init__'s text st -/
structure InitT (K : PySem.W.Frag) (mg : Str → Option Value) (x f : Str) (qual : Str) (st : Stmt) : Prop where
  g : mg x = some (.ref (He.ga K x))
  oc : OexC K (He.ga K x)
  iC : PySem.W.findIn K (.ref (He.ga K x)) "__init__" = some (some (.ref (He.ma K (He.ga K x) "__init__")))
  tI : PySem.W.typeIn K (.ref (He.ma K (He.ga K x) "__init__")) = some (.type "function")
  nf : PySem.W.findIn K (.ref (He.ga K x)) f = some none
  xf : XfC K (He.ga K x)
  fn : ∃ fd, FunD K "__init__" qual (defArgs st) (defBody st) (defScope st) [] [] (He.ma K (He.ga K x) "__init__") fd
/-- .. ready to be called -/
structure MkT (P : Program) (w : World) (K : PySem.W.Frag) (mg : Str → Option Value) (base : Heap) (x f : Str) : Prop where
  g : mg x = some (.ref (He.ga K x))
  oc : OexC K (He.ga K x)
  iC : PySem.W.findIn K (.ref (He.ga K x)) "__init__" = some (some (.ref (He.ma K (He.ga K x) "__init__")))
  tI : PySem.W.typeIn K (.ref (He.ma K (He.ga K x) "__init__")) = some (.type "function")
  nf : PySem.W.findIn K (.ref (He.ga K x)) f = some none
  ex : ∃ fd ps, FnOk P w K mg base (L2.CX P w) 1 (He.ma K (He.ga K x) "__init__") fd ps (spInit K f) ∧ Binds K fd ps []
section
variable {P : Program} {w : World} {K : PySem.W.Frag} {mg : Str → Option Value} {base : Heap} {qual x f fp m : Str} {st : Stmt}
theorem init_ok (I : InitT K mg x f qual st) (S : FnScope ["self", fp] ["self", fp] (defScope st))
    (hb : ∀ (kV doc pm : Value) (an : Option Addr) (cdv ct : Value) (us : List Value), us.length = 2 → bindArgs (PySem.W.fnOf "__init__" qual (defArgs st) (defBody st) (defScope st) .none kV doc pm an cdv ct) ⟨us, []⟩ = pure ((["self", fp] : List Str).zip us))
    (h : ∀ (fI : Addr) (cdv : Value) (A : Around) (outer : List Env) (s : Shared) (H : Hp) (E : XK), PSs (cxOf (L2.CX P w) P w K mg base ["self", fp] qual (defScope st) fI cdv A outer s H E) (defBody st) (tInit K f m)) : MkT P w K mg base x f := by
  obtain ⟨fd, F⟩ := I.fn
  refine ⟨I.g, I.oc, I.iC, I.tI, I.nf, fd, ["self", fp], ?_, F.bindsN hb⟩
  refine F.ok S (fun vs H Q E ⟨a, C, v, e, _⟩ => by rw [e]; rfl) fun cdv A outer s H vs Q E hr ⟨a, C, v, ev, oc, nf, ea, q⟩ => ⟨_, h _ cdv A outer s H E, ?_⟩
  subst ev
  have e0 : start ["self", fp] [.ref a, v] = [some (.ref a), some v] := rfl
  rw [e0]
  refine ⟨.ref a, rfl, a, C, [.str m], rfl, by simp, oc, ea, v, rfl, .ref a, rfl, a, C, rfl, oc, nf, .inl ⟨ea, fun dx h1 h2 => ?_⟩⟩
  exact q dx h1 h2
end
def rfEnd (x f : Str) (o : Option (List D)) : DS := fun ρ => match o with
  | some [d] => .ex ⟨x, some [(f, d)]⟩ ρ
  | _ => .stuck
def dRaiseF (x f : Str) (r : DE) : DS := do
  let xs ← dA [(false, r)]
  rfEnd x f (shrs xs)
theorem ss_raiseF {X : Cx} {pj : VK → VK} {x f : Str} {p pos pos' : Pos} {e : Expr} {r : DE} (hx : CxG X) (M : MkT X.prog X.w X.K X.mg X.base x f) (hr : Room 2 X.A) (ha : SE X e r) (hg : Gl X x := by rfl) (hdb : (x == ("__debug__" : Str)) = false := by decide)
    (hst : starEach [e] X.env = (false, eval e X.env) :: starEach [] X.env := by rfl) (hpl : (backTo pos (starEach [] X.env)).any (·.1) = false := by rfl) :
    SSf pj X (.Raise (some (.Call (.Name x p) [e] [] pos)) none pos') (dRaiseF x f r) := fun W tk => by
  obtain ⟨fd, ps, F1, hb⟩ := M.ex
  refine PS.imp (ps_raise hx.calm tk (pmk_oex M.oc M.iC M.tI F1 hr hb .nil (passes_call tk fun _ _ _ _ z => z.elim) hg M.g ((sa_cons (b := false) ha sa_nil hst) W tk) hdb hst hpl)) fun D σ H ⟨G, O, ρ, hK, R, h⟩ => ?_
  refine ⟨G, O, ρ, [], hK, R, Res.post_mono ((post_bind _ _).mp h) (fun xs ρ1 q O1 vs H1 hl R1 => ?_) fun y ρ1 q => q σ⟩
  have q : (rfEnd x f (shrs xs) ρ1).post (FlOk G (Ends.re pj D) []) (EXs G W) := q
  obtain ⟨d, hd⟩ : ∃ d, shrs xs = some [d] := by
    unfold rfEnd at q
    cases e : shrs xs with
    | none => rw [e] at q; exact q.elim
    | some l =>
      rw [e] at q
      match l, q with
      | [], q => exact q.elim
      | [d], _ => exact ⟨d, rfl⟩
      | _ :: _ :: _, q => exact q.elim
  rw [hd] at q
  · have rp := pushC_reps hl R1 hd
    have R2 := pushC_pop R1
    cases rp with
    | cons r1 r2 =>
      rename_i v vs'
      cases r2
      refine ⟨by simp, fun a ha => ⟨a, _, v, rfl, M.oc, M.nf, upd_same, fun dx h1 h2 => ⟨rfl, dx, [(f, v)], upd_same, by rw [upd_ne h2]; exact upd_same, ?_, ?_⟩⟩⟩
      · rw [upd_ne h2] at h1
        exact h1
      · rw [upd_ne h2] at h1
        have eH : upd (del (upd (upd (upd H1 a (exo a (He.ga X.K x) none)) dx (exd dx [(f, v)])) a (exo a (He.ga X.K x) (some dx))) a) dx (.xd [(f, v)]) = upd H1 dx (.xd [(f, v)]) := by
          funext b
          by_cases hb1 : b = dx
          · rw [hb1, upd_same, upd_same]
          · rw [upd_ne hb1, upd_ne hb1]
            by_cases hb2 : b = a
            · rw [hb2, del_same, ha]
            · rw [del_ne hb2, upd_ne hb2, upd_ne hb1, upd_ne hb2]
        rw [eH]
        have q : EXs G W ⟨x, some [(f, d)]⟩ ρ1 := q
        have := q σ O1 (upd H1 dx (.xd [(f, v)])) (some dx) (R2.freshX h1) ⟨dx, [(f, v)], rfl, upd_same, rfl, by
          refine .cons (Rep.mono (fun b o n eb => ⟨?_, n⟩) r1) .nil
          rw [upd_ne (fun z => by rw [z, h1] at eb; cases eb)]
          exact eb⟩
        rw [hK] at this
        exact this
/-! ### try .. except -/
def dTry (i : Nat) (tab : List (Str × Bool)) (b : DS) (u : Exn → DS) : DS := fun ρ => match b ρ with
  | .stuck => .stuck
  | .ok f ρ' => .ok f ρ'
  | .ex x ρ' => match tab.lookup x.c, ρ'[i]? with
    | some true, some none => u x ρ'
    | some false, _ => .ex x ρ'
    | _, _ => .stuck
def xfD (x : Exn) (C f : Str) : Option D := if x.c = C then x.fs.bind (·.lookup f) else none
def dXf (x : Exn) (C f : Str) : DE := fun ρ => match xfD x C f with
  | some d => .ok (d, .shr) ρ
  | none => .stuck
theorem lookup_reps {K : PySem.W.Frag} {H : Hp} {L : Addr → Prop} {f : Str} {d : D} : ∀ {vs : List (Str × V)} {fs : List (Str × D)}, vs.map (·.1) = fs.map (·.1) → Reps K H L (vs.map (·.2)) (fs.map (·.2)) → fs.lookup f = some d → ∃ v, vs.lookup f = some v ∧ Rep K H L v d
  | [], [], _, _, h => by cases h
  | (g, v) :: vs, (g', d') :: fs, e, r, h => by
    have e1 : g = g' := (List.cons.inj e).1
    subst e1
    cases r with
    | cons a b =>
      by_cases z : (f == g) = true
      · simp [List.lookup, z] at h ⊢
        rw [← h]
        exact a
      · have z : (f == g) = false := by simpa using z
        simp [List.lookup, z] at h ⊢
        exact lookup_reps (List.cons.inj e).2 b h
  | [], _ :: _, e, _, _ => by cases e
  | _ :: _, [], e, _, _ => by cases e
theorem CxG.tr {X : Cx} (c : CxG X) {pn : List (Addr × Obj)} {xe : Value → Shared → Prop} (h : PassesOwn (model X.prog X.w) X.A X.env xe) : CxG (X.tr pn xe) := ⟨c.calm, c.nd, h⟩
theorem FnCx.tr {X : Cx} {k : Nat} (c : FnCx X k) {pn : List (Addr × Obj)} {xe : Value → Shared → Prop} (h : PassesOwn (model X.prog X.w) X.A X.env xe) : FnCx (X.tr pn xe) k := ⟨c.g.tr h, c.room⟩
section
variable {X : Cx} {xn en yn zn f : Str} {C : Str} {i j l : Nat} {body : List Stmt} {np ep pos pos' yp ap ap2 ps zp ps2 cp : Pos} {b : DS} {tab : List (Str × Bool)}
/-- the suite y = e.f -/
theorem ss_try1 (hx : CxG X) (hst : X.stack = X.env :: X.outer := by rfl) (hfr : X.env.frame = some X.env.locals := by rfl) (hi : X.N[i]? = some en) (hln : X.env.kindOf en = some .local) (hvi : Vis X.env.scope en) (hn : Names X xn (.ref (He.ga X.K xn)))
    (ht : ∀ p ∈ tab, PySem.W.exmOne X.K (.ref (He.ga X.K p.1)) (.ref (He.ga X.K xn)) = some p.2) (hxf : XfC X.K (He.ga X.K C)) (hno : PySem.W.findIn X.K (.ref (He.ga X.K C)) f = some none)
    (hb : ∀ (pn : List (Addr × Obj)) (xe : Value → Shared → Prop), PassesOwn (model X.prog X.w) X.A X.env xe → SSs (X.tr pn xe) body b)
    (hj : X.N[j]? = some yn) (hl : Loc X.env.scope yn) (hfj : X.fn yn = true ∨ X.env.scope.names.lookup yn = some .local) (hij : j ≠ i)
    (hd : (en == ("__debug__" : Str)) = false := by decide) (hcd : (en == ("__classdict__" : Str)) = false := by decide) (hsw : ∀ a pn, swapsWith (.Attribute (.Name en ap) f ap2) (some (.Name yn yp)) ps.line (X.suite a pn).env = pure false := by intros; rfl)
    (hab : ∀ a pn, attributeBase (.Name en ap) f (X.suite a pn).env (eval (.Name en ap) (X.suite a pn).env) = eval (.Name en ap) (X.suite a pn).env := by intros; rfl) :
    SS X (.Try body [.ExceptHandler (some (.Name xn np)) (some en) [.Assign [.Name yn yp] (.Attribute (.Name en ap) f ap2) ps] pos'] [] [] pos) (dTry i tab b fun x => dSet j (dXf x C f)) := fun W tk => by
  refine PS.imp (ps_try_as (i := i) (tb := fun W' D => tS X.K W' b D) (ts := fun a cls d => tSeq (tAsg (tXf a cls d (He.ga X.K C) f (tVar i)) (gName j)) tNext) hst hfr hx.nd hi hln hn tk (fun W' pn xe tk' po => hb pn xe po W' tk')
    (fun a oe cls d pn hz hf => pss_cons (ps_set hx.nd hj hl (pe_xf hxf hno hz hf (pe_var (X := X.suite a ((a, oe) :: pn)) hi hvi hd hcd) (hab a ((a, oe) :: pn))) (hsw a ((a, oe) :: pn)) hfj) pss_nil)) fun D σ H ⟨G, O, ρ, hK, R, h⟩ => ?_
  refine ⟨G, O, ρ, hK, R, ?_⟩
  unfold dTry at h
  cases e : b ρ with
  | stuck => rw [e] at h; exact h
  | ok fl ρ' => rw [e] at h; exact h
  | ex x ρ' =>
    rw [e] at h
    dsimp only at h
    intro σ' O' H' dd R' er
    cases e1 : tab.lookup x.c with
    | none =>
      rw [e1] at h
      cases e2 : ρ'[i]? with
      | none => rw [e2] at h; exact h.elim
      | some o => rw [e2] at h; cases o <;> exact h.elim
    | some bb =>
      have mem : (x.c, bb) ∈ tab := by
        have key : ∀ l : List (Str × Bool), l.lookup x.c = some bb → (x.c, bb) ∈ l := by
          intro l
          induction l with
          | nil => intro z; cases z
          | cons p l ih =>
            intro z
            obtain ⟨g, c⟩ := p
            by_cases y : (x.c == g) = true
            · simp [List.lookup, y] at z
              have : x.c = g := by simpa using y
              rw [this, z]
              exact List.mem_cons_self
            · have y : (x.c == g) = false := by simpa using y
              simp [List.lookup, y] at z
              exact List.mem_cons_of_mem _ (ih z)
        exact key tab e1
      refine ⟨bb, by have := ht _ mem; rw [← hK] at this ⊢; exact this, fun hbt a ha => ?_, fun hbf => ?_⟩
      · subst hbt
        rw [e1] at h
        cases e2 : ρ'[i]? with
        | none => rw [e2] at h; exact h.elim
        | some o =>
          cases o with
          | some s => rw [e2] at h; exact h.elim
          | none =>
            rw [e2] at h
            dsimp only at h
            have h2 := (post_bind _ _).mp h
            unfold dXf at h2
            cases e3 : xfD x C f with
            | none => rw [e3] at h2; exact h2.elim
            | some d =>
              rw [e3] at h2
              have h3 := (post_bind _ _).mp (show ((dPut j (d, .shr) >>= fun _ => pure Fl.nx) ρ').post (FlOk G D []) (EXs G W) from h2)
              unfold xfD at e3
              by_cases ec : x.c = C
              · rw [if_pos ec] at e3
                obtain ⟨fs, f1, f2⟩ := Option.bind_eq_some_iff.mp e3
                unfold ExnRep at er
                rw [f1] at er
                obtain ⟨da, vs, g1, g2, g3, g4⟩ := er
                obtain ⟨v, k1, k2⟩ := lookup_reps g3 g4 f2
                have hil : i < σ'.length := by
                  rw [← R'.len]
                  exact (List.getElem?_eq_some_iff.mp e2).1
                refine ⟨.ref a, by rw [List.getElem?_set_self hil], rfl, by rw [hK, ← ec]; rfl, da, vs, v, g1, g2, k1, ?_⟩
                have R2 := (R'.setN (v := some (.ref a)) e2).push (t := ⟨v, d, .shr⟩) k2
                obtain ⟨d', c1, c2, c3⟩ := post_dPut.mp h3
                cases c1
                obtain ⟨O3, ρ3, R3, q3, e5⟩ := put_post (Q := fun _ ρ => FlOk G D [] .nx ρ ∧ ρ[i]? = some none) (E := fun _ _ => False) .nil R2 (post_dPut.mpr ⟨d, rfl, c2, c3, by
                  show (ρ'.set j _)[i]? = some none
                  rw [List.getElem?_set_ne hij]
                  exact e2⟩)
                exact q3 O3 _ H' (R3.setN e5)
              · rw [if_neg ec] at e3
                cases e3
      · subst hbf
        rw [e1] at h
        cases e2 : ρ'[i]? with
        | none => rw [e2] at h; exact h σ' O' H' dd R' er
        | some o => rw [e2] at h; cases o <;> exact h σ' O' H' dd R' er
end
end L2.VL
end
section
set_option Elab.async false
set_option linter.all false
set_option maxRecDepth 100000
/-! VLO: what the top has written of own error classes: the facts' tests, the hook. -/
namespace L2.VL
open PySem PySem.Spec PyProof.Rows L2
/-! ### an own class over ValueError -/
def oexB (K : PySem.W.Frag) (C : Addr) : Bool := match K.lookup C with
  | some ⟨.type "type", _, .cls cd, sl⟩ => (match cd.mro, sl.toList with
    | .ref C' :: bm, [_, _, _, _, some (.builtin n), _] => C' == C && n == "ValueError.__new__" && !cd.hasDel && cd.hasDict && PySem.HandSPX.refsVE bm
    | _, _ => false)
  | _ => false
theorem oexB_ok {K : PySem.W.Frag} {C : Addr} (q : oexB K C = true) : ∃ nm q N bs bm sn sub ab col dd k0 k1 k2 k3 k5, K.lookup C = some (excClassObj nm q C N bs bm true sn sub ab col dd k0 k1 k2 k3 k5 "ValueError.__new__") ∧ PySem.HandSPX.refsVE bm = true := by
  unfold oexB at q
  split at q
  · rename_i dd cd sl ho
    split at q
    · rename_i C' bm k0 k1 k2 k3 n k5 hm hs
      simp only [Bool.and_eq_true, beq_iff_eq, Bool.not_eq_true'] at q
      obtain ⟨⟨⟨⟨rfl, rfl⟩, hdel⟩, hd⟩, hr⟩ := q
      obtain ⟨nm, bs, mro, ns, qn, hd', sn, sub, ab, col, del⟩ := cd
      dsimp only at hm hdel hd
      subst hm hdel hd
      have hsl : sl = #[k0, k1, k2, k3, some (.builtin "ValueError.__new__"), k5] := by
        obtain ⟨l⟩ := sl
        simp only at hs
        rw [hs]
      subst hsl
      exact ⟨nm, qn, ns, bs, bm, sn, sub, ab, col, dd, k0, k1, k2, k3, k5, ho, hr⟩
    · cases q
  · cases q
/-! ### the facts of classes -/
inductive Fc where
  | rk (x : Str)
  | ini (x f : Str)
def valB (r : Option PySem.W.CFound) (v : Value) : Bool := match r with
  | some (.val u) => u == v
  | _ => false
theorem valB_ok {r : Option PySem.W.CFound} {v : Value} (h : valB r v = true) : r = some (.val v) := by
  unfold valB at h
  split at h
  · rename_i u
    rw [beq_iff_eq.mp h]
  · cases h
def Fc.ok (K : PySem.W.Frag) : Fc → Bool
  | .rk x => He.eqO (PySem.W.specialIn K (.ref (He.ga K x)) "__getattribute__") (some (some (.builtin "type.__getattribute__"))) && (PySem.W.readsIn K (He.ga K x) (.type "type") && valB (PySem.W.findCls K (.ref (He.ga K x)) (.type "type") "__init__") (.builtin "ValueError.__init__"))
  | .ini x f => oexB K (He.ga K x) && (He.eqO (PySem.W.findIn K (.ref (He.ga K x)) "__setattr__") (some (some (.builtin "object.__setattr__"))) && (decide (PySem.W.subIn K (.ref (He.ga K x)) (.type "BaseException") = some true) && (decide (PySem.W.typeIn K (.ref (He.ga K x)) = some (.type "type")) && (PySem.W.keepIn K (.ref (He.ga K x)) &&
      (He.eqO (PySem.W.findIn K (.ref (He.ga K x)) "__init__") (some (some (.ref (He.ma K (He.ga K x) "__init__")))) && (decide (PySem.W.typeIn K (.ref (He.ma K (He.ga K x) "__init__")) = some (.type "function")) && (He.eqO (PySem.W.findIn K (.ref (He.ga K x)) f) (some none) && xfB K (He.ga K x))))))))
section
variable {K : PySem.W.Frag} {mg : Str → Option Value} {x f qual : Str} {st : Stmt}
theorem rk_ok (g : mg x = some (.ref (He.ga K x))) (h : (Fc.rk x).ok K = true) : RkT K mg x := by
  obtain ⟨h1, h⟩ := He.ba h
  obtain ⟨h2, h3⟩ := He.ba h
  exact ⟨g, He.eqO_ok h1, h2, valB_ok h3⟩
theorem ini_ok (g : mg x = some (.ref (He.ga K x))) (h : (Fc.ini x f).ok K = true) (fn : ∃ fd, FunD K "__init__" qual (defArgs st) (defBody st) (defScope st) [] [] (He.ma K (He.ga K x) "__init__") fd) : InitT K mg x f qual st := by
  obtain ⟨h1, h⟩ := He.ba h
  obtain ⟨h2, h⟩ := He.ba h
  obtain ⟨h3, h⟩ := He.ba h
  obtain ⟨h4, h⟩ := He.ba h
  obtain ⟨h5, h⟩ := He.ba h
  obtain ⟨h6, h⟩ := He.ba h
  obtain ⟨h7, h⟩ := He.ba h
  obtain ⟨h8, h9⟩ := He.ba h
  exact ⟨g, ⟨oexB_ok h1, He.eqO_ok h2, of_decide_eq_true h3, of_decide_eq_true h4, h5⟩, He.eqO_ok h6, of_decide_eq_true h7, He.eqO_ok h8, xfB_ok h9, fn⟩
theorem exct_ok (g : mg x = some (.ref (He.ga K x))) (h : (He.Fa.exc x).ok K = true) : ExcT K mg x := by
  obtain ⟨h1, h2, h3, h4⟩ := He.exc_ok h
  exact ⟨g, h1, h2, h3, h4⟩
end
/-- a class's method, by its place in the body -/
def clsAt (s : Stmt) (k : Nat) : Stmt := match s with
  | .ClassDef _ _ _ body _ _ _ _ _ _ _ => body.getD k (.Pass ⟨0, 0, 0, 0⟩)
  | _ => .Pass ⟨0, 0, 0, 0⟩
/-! ### the hook -/
def obC (n : Nat) (fa : List He.Fa) (fn : List He.DefD) (fc : List Fc) (g : Addr → Option Obj) : He.AlD × Bool :=
  (He.obsD fa fn (He.frG g (cStatics :: He.asD g n)), fc.all fun f => f.ok (He.frG g (cStatics :: He.asD g n)))
def hookC (n : Nat) (fa : List He.Fa) (fn : List He.DefD) (fc : List Fc) : PySem.W.Hook where
  α := He.AlD × Bool
  obs := fun s => obC n fa fn fc s.heap.get?
  val := fun _ => (He.valD fn, true)
  says := fun _ h => ∃ K : PySem.W.Frag, K.In h ∧ He.SaysD fa fn K ∧ (fc.all fun f => f.ok K) = true
  of := fun _ _ e => ⟨_, He.frG_in, congrArg Prod.fst e, congrArg Prod.snd e⟩
  keeps := fun _ _ _ ⟨K, hK, c⟩ k => ⟨K, PySem.W.Frag.In.keeps hK k, c⟩
theorem obC_eq {n : Nat} {fa : List He.Fa} {fn : List He.DefD} {fc : List Fc} {g : Addr → Option Obj} {s : Shared} (h : ∀ a, g a = s.heap.get? a) : obC n fa fn fc g = (hookC n fa fn fc).obs s := by
  have e : g = s.heap.get? := funext h
  rw [e] <;> rfl
theorem fc_at {fc : List Fc} {K : PySem.W.Frag} (h : (fc.all fun f => f.ok K) = true) (i : Nat) {f : Fc} (e : fc[i]? = some f := by rfl) : f.ok K = true := List.all_eq_true.mp h f (List.mem_of_getElem? e)
end L2.VL
end
section
set_option Elab.async false
set_option linter.all false
set_option maxRecDepth 100000
/-! VLU: a list of plain values made while all is lent; the rules of raise and try. -/
namespace L2.VL
open PySem PySem.Spec PyProof.Rows L2
def isCon : D → Bool
  | .con _ => true
  | _ => false
theorem conL_map {α : Type} (f : α → V) : ∀ as : List α, (as.map fun a => D.con (f a)).all isCon = true
  | [] => rfl
  | _ :: as => by rw [List.map_cons, List.all_cons, conL_map f as]; rfl
theorem reps_con {K : PySem.W.Frag} {H H' : Hp} {L L' : Addr → Prop} : ∀ {vs : List V} {ds : List D}, ds.all isCon = true → Reps K H L vs ds → Reps K H' L' vs ds
  | [], [], _, .nil => .nil
  | v :: vs, d :: ds, h, .cons a b => by
    rw [List.all_cons, Bool.and_eq_true] at h
    cases d with
    | con c => rw [a.con_inv]; exact .cons (.con c) (reps_con h.2 b)
    | lst _ => cases h.1
    | tup _ => cases h.1
    | dic _ => cases h.1
    | dit _ => cases h.1
def dLnd (r : DE) : DE := fun ρ => match r (ρ.map lent) with
  | .ok (.lst ds, .fr) _ => if ds.all isCon = true then .ok (.lst ds, .fr) ρ else .stuck
  | _ => .stuck
theorem Rel.unlendL {G : Fix} {O O' : Own} {σ : St} {H H' : Hp} {ρ ρ' : Rho} {v : V} {ds : List D} (R : Rel G O σ H ρ []) (R' : Rel ⟨G.K, H, fun _ => False, G.Pin⟩ O' σ H' ρ' [⟨v, .lst ds, .fr⟩]) (hc : ds.all isCon = true) : ∃ O2, Rel G O2 σ H' ρ [⟨v, .lst ds, .fr⟩] := by
  have up : ∀ a o, H a = some o → H' a = some o := fun a o e => (R'.fr a o e).1
  have ow : Owned G.K H' O' (.tp 0) v (.lst ds) := R'.tm.1
  obtain ⟨a, ho, rfl, h1, h2, c⟩ := ow
  have ha : H a = none := by
    cases e : H a with
    | none => rfl
    | some o =>
      rcases (R'.fr a o e).2 with z | z
      · rw [z] at h1; cases h1
      · rw [z] at h1; cases h1
  have oa : O a = none := R.lout a ha
  have ne : ∀ {b : Addr} {o : HO}, H b = some o → b ≠ a := fun e z => by rw [z, ha] at e; cases e
  have st : Stay H H' (lin O) (lin (oset O a (some (.tp 0)))) := fun b o n e => ⟨up b o e, by
    unfold lin at n ⊢
    rw [oset_ne (ne e)]; exact n⟩
  refine ⟨oset O a (some (.tp 0)), R.len, fun b o e => ?_, fun b => ?_, fun b w e => ?_, R.pn, fun i s e => ?_, ⟨a, ho, rfl, oset_eq rfl, h2, ?_⟩, trivial⟩
  · obtain ⟨p, q⟩ := R.fr b o e
    rw [oset_ne (ne p)]
    exact ⟨up b o p, q⟩
  · by_cases z : b = a
    · rw [oset_eq z]
      constructor
      · intro y; cases y
      · intro y
        have := (R.ot b).mpr y
        rw [z, oa] at this; cases this
    · rw [oset_ne z]; exact R.ot b
  · by_cases z : b = a
    · exact ⟨ho, by rw [z]; exact h2⟩
    · rw [oset_ne z] at e
      obtain ⟨o, h⟩ := R.tr b w e
      exact ⟨o, up b o h⟩
  · obtain ⟨u, p, q⟩ := R.sl i s e
    refine ⟨u, p, slot_mono st (fun b o e1 e2 => ⟨?_, up b o e2⟩) q⟩
    rw [oset_ne (ne e2)]; exact e1
  · cases c with
    | lst r => exact .lst (reps_con hc r)
theorem se_lnd {X : Cx} {e : Expr} {r : DE} (h : SE X e r) : SE X e (dLnd r) := fun W tk => PE.imp (h W tk) fun σ H Q ⟨G, O, ρ, hK, R, h⟩ => by
  refine ⟨⟨G.K, H, fun _ => False, G.Pin⟩, _, _, hK, R.lend, ?_⟩
  unfold dLnd at h
  cases q : r (ρ.map lent) with
  | stuck => rw [q] at h; exact h.elim
  | ex x ρ' => rw [q] at h; exact h.elim
  | ok x ρ' =>
    rw [q] at h
    obtain ⟨d, k⟩ := x
    cases d with
    | lst ds =>
      cases k with
      | fr =>
        dsimp only at h
        by_cases hc : ds.all isCon = true
        · rw [if_pos hc] at h
          intro O1 v H1 R1
          obtain ⟨O2, R2⟩ := R.unlendL R1 hc
          exact h O2 v H1 R2
        · rw [if_neg hc] at h
          exact h.elim
      | shr => exact h.elim
      | nm i => exact h.elim
    | con _ => exact h.elim
    | tup _ => exact h.elim
    | dic _ => exact h.elim
    | dit _ => exact h.elim
section
variable {ρ : Rho} {E : Exn → Rho → Prop} {Q : Fl → Rho → Prop} {r : DE} {V1 : D × Kd → Rho → Prop}
theorem w_p_lnd (h : (r (ρ.map lent)).pst (fun x _ => ∃ ds, x = (D.lst ds, Kd.fr) ∧ ds.all isCon = true ∧ V1 (.lst ds, .fr) ρ) fun _ _ => False) : ((dLnd r) ρ).pst V1 E := by
  rw [pst_iff] at *
  unfold dLnd
  cases q : r (ρ.map lent) with
  | stuck => rw [q] at h; exact h.elim
  | ex x ρ' => rw [q] at h; exact h.elim
  | ok x ρ' =>
    rw [q] at h
    obtain ⟨ds, rfl, hc, z⟩ := h
    dsimp only
    rw [if_pos hc]
    exact z
theorem e_lnd {ds : List D} {P : List D → Prop} (hc : ds.all isCon = true) (h : P ds) : ∃ ds', (D.lst ds, Kd.fr) = (D.lst ds', Kd.fr) ∧ ds'.all isCon = true ∧ P ds' := ⟨ds, rfl, hc, h⟩
/-! raise, try -/
theorem w_p_rs {x : Exn} (h : E x ρ) : ((dRaise x) ρ).pst Q E := by
  rw [pst_iff]
  exact h
theorem w_p_rsF {x f : Str} (h : ((dA [(false, r)]) ρ).pst (fun xs ρ' => ∃ d, shrs xs = some [d] ∧ E ⟨x, some [(f, d)]⟩ ρ') E) : ((dRaiseF x f r) ρ).pst Q E := by
  rw [pst_iff] at *
  unfold dRaiseF
  refine (post_bind _ _).mpr (Res.post_ok h fun xs ρ' ⟨d, e, z⟩ => ?_)
  show (rfEnd x f (shrs xs) ρ').post Q E
  rw [e]
  exact z
theorem ex_one {d : D} {P : D → Prop} (h : P d) : ∃ d', shrs [(d, Kd.shr)] = some [d'] ∧ P d' := ⟨d, rfl, h⟩
/-- what a try does with an exception -/
def TryK (i : Nat) (tab : List (Str × Bool)) (u : Exn → DS) (Q : Fl → Rho → Prop) (E : Exn → Rho → Prop) (x : Exn) (ρ' : Rho) : Prop :=
  (tab.lookup x.c = some true ∧ ρ'[i]? = some none ∧ ((u x) ρ').pst Q E) ∨ (tab.lookup x.c = some false ∧ E x ρ')
theorem w_p_try {i : Nat} {tab : List (Str × Bool)} {b : DS} {u : Exn → DS} (h : (b ρ).pst Q (TryK i tab u Q E)) : ((dTry i tab b u) ρ).pst Q E := by
  rw [pst_iff] at *
  unfold dTry
  cases q : b ρ with
  | stuck => rw [q] at h; exact h.elim
  | ok f ρ' => rw [q] at h; exact h
  | ex x ρ' =>
    rw [q] at h
    rcases h with ⟨h1, h2, h3⟩ | ⟨h1, h2⟩
    · rw [pst_iff] at h3
      dsimp only
      rw [h1, h2]
      exact h3
    · dsimp only
      rw [h1]
      exact h2
theorem w_p_xf {x : Exn} {C f : Str} (h : ∃ d, xfD x C f = some d ∧ V1 (d, .shr) ρ) : ((dXf x C f) ρ).pst V1 E := by
  obtain ⟨d, e, z⟩ := h
  rw [pst_iff]
  unfold dXf
  rw [e]
  exact z
theorem xf_one {C f : Str} {d : D} : xfD ⟨C, some [(f, d)]⟩ C f = some d := by
  unfold xfD
  rw [if_pos rfl]
  simp [List.lookup]
end
/-! signs in a list of signs -/
theorem in_chars (c : Nat) (cs : List Nat) : inD (.con (.str ⟨#[c]⟩)) (.lst (cs.map fun c => D.con (.str ⟨#[c]⟩))) = some (decide (c ∈ cs)) := by
  have e : ∀ cs : List Nat, flatDs (cs.map fun c => D.con (.str ⟨#[c]⟩)) = some (cs.map fun c => V.str ⟨#[c]⟩) := by
    intro cs
    induction cs with
    | nil => rfl
    | cons a r ih =>
      rw [List.map_cons]
      unfold flatDs
      rw [show flatD (D.con (.str ⟨#[a]⟩)) = some (V.str ⟨#[a]⟩) from rfl, ih]
      rfl
  unfold inD
  dsimp only
  rw [show flatD (D.con (.str ⟨#[c]⟩)) = some (V.str ⟨#[c]⟩) from rfl, e]
  dsimp only
  congr 1
  induction cs with
  | nil => rfl
  | cons a r ih =>
    show (_ || _) = _
    have ih : ((r.map fun c => V.str ⟨#[c]⟩).any fun y => eqV y (V.str ⟨#[c]⟩)) = decide (c ∈ r) := ih
    rw [ih, Bool.eq_iff_iff]
    have e2 : eqV (V.str ⟨#[a]⟩) (V.str ⟨#[c]⟩) = decide (a = c) := by
      show ((⟨#[a]⟩ : Str) == ⟨#[c]⟩) = _
      rw [Bool.eq_iff_iff]
      simp
    dsimp only
    rw [e2]
    simp only [Bool.or_eq_true, decide_eq_true_eq, List.mem_cons]
    constructor
    · rintro (h | h)
      · exact .inl h.symm
      · exact .inr h
    · rintro (h | h)
      · exact .inl h.symm
      · exact .inr h
end L2.VL
end
section
set_option Elab.async false
set_option linter.all false
set_option maxRecDepth 100000
set_option maxHeartbeats 2000000
/-! VLV: sorted of a dict whose keys are ints. -/
namespace L2.VL
open PySem PySem.Spec PyProof.Rows L2 PySem.W
theorem sorted_dictI {P : Program} {w : World} {A : Around} {E : Value → Shared → Prop} {s : Shared} {a : Addr} {vs : List (Key × Value)} {ns : List Int} {Q : Value → Shared → Prop} (lo : (a == sysModules) = false) (hD : s.heap.DictOf (mixKind P w) a vs) (hk : vs.map (·.1) = ns.map Sum.inl) (hz : vs.length ≤ sizeLine) (calm : A.handled = none)
    (h : ∀ s' p (out : Array Value) (c : Nat) (ms : List Int), (∀ b o, s.heap.get? b = some o → s'.heap.get? b = some o) → (∃ hp tk, s' = { s with heap := hp, toks := tk }) → s.heap.get? p = none → (∀ H : Hp, HOk P w H s.heap → H p = none) →
      s'.heap.get? p = some (seqObj "list" out c) → IntsAre out.toList ms → ms.Pairwise (· ≤ ·) → ms.Perm ns → Q (.ref p) s') :
    wpAny (model P w) A (call (.builtin "sorted") [.ref a]) Q E s := by
  obtain ⟨ep, hat⟩ := hD.dictAt
  refine Calls.call_function_entry kind_sorted plain_sorted entry_sorted (args_sorted1 _) ?_
  unfold Builtin.«sorted»
  refine wpAny_bind (m := checkCount "sorted" 1 1 _) (wpAny_pure (wpAny_bind ?_))
  refine kdu_collect (A := A.in1) (kdl_dict (knd := mixKind P w) (kvs := vs) (ep := ep) lo) calm hat hz fun h' tk acc keep pm => ?_
  have hlen : acc.toList.length = vs.length := by rw [Array.length_toList]; exact pm.1
  have each : ∀ j v, acc.toList[j]? = some v → ∃ i t, ns[j]? = some i ∧ v = Value.int i t := fun j v e => by
    obtain ⟨k, x, h1, h2⟩ := pm.2 j v (by rw [← Array.getElem?_toList]; exact e)
    have h3 : (ns.map (Sum.inl : Int → Key))[j]? = some k := by rw [← hk, List.getElem?_map, h1]; rfl
    rw [List.getElem?_map] at h3
    obtain ⟨i, hi, rfl⟩ := Option.map_eq_some_iff.mp h3
    rcases keyIs_shape (k := Sum.inl i) (v := v) h2 with ⟨i', t, e1, e2⟩ | ⟨x, t, e1, e2⟩
    · cases e1
      exact ⟨i, t, hi, e2⟩
    · cases e1
  have all : IntsAre acc.toList (acc.toList.map SrtO.iv) := SrtO.ints_iv fun v hv => by
    obtain ⟨j, hj⟩ := List.mem_iff_getElem?.mp hv
    obtain ⟨i, t, _, e⟩ := each j v hj
    exact ⟨i, t, e⟩
  have keys : acc.toList.map SrtO.iv = ns := by
    have hnl : vs.length = ns.length := by simpa using congrArg List.length hk
    refine List.ext_getElem? fun j => ?_
    rw [List.getElem?_map]
    cases ej : acc.toList[j]? with
    | some v =>
      obtain ⟨i, t, h1, rfl⟩ := each j v ej
      rw [h1]; rfl
    | none =>
      have := List.getElem?_eq_none_iff.mp ej
      exact (List.getElem?_eq_none_iff.mpr (by omega)).symm
  have short : acc.toList.length ≤ sizeLine := by rw [hlen]; exact hz
  refine wpAny_bind (wpAny_newList ?_ short)
  have at1 : (h'.push (seqObj "list" acc.toList.toArray 0)).get? h'.objs.size = some (seqObj "list" acc.toList.toArray 0) := Heap.get?_push_size _ rfl
  refine wpAny_bind (wpAny_holding (wpAny_call_entry slot_list_sort ⟨_, at1, rfl⟩ entry_list_sort (SrtO.list_sort_ord SrtO.swo_int at1 short (fun two => SrtO.ints_sortable all two) fun out so st => ⟨_, rfl, ?_⟩) (args_list_sort _)))
  obtain ⟨i1, i2, i3⟩ := SrtO.ints_out all so st
  obtain ⟨c, hc⟩ := sortedHeap_at (vs := acc.toList) (out := out.toArray) at1
  refine wpAny_pure ⟨_, rfl, h _ h'.objs.size out.toArray c (out.map SrtO.iv) (fun b u e => ?_) ⟨_, _, rfl⟩ ?_ (fun H ok => (ok.kept keep).fresh (Nat.le_refl _)) hc (by simpa using i1) i3 (by rw [keys] at i2; exact i2)⟩
  · have u1 := keep b u e
    have u2 := Heap.lt_size u1
    show (sortedHeap (h'.push (seqObj "list" acc.toList.toArray 0)) h'.objs.size acc.toList out.toArray).get? b = some u
    rw [sortedHeap_old (Nat.ne_of_lt u2) (by rw [size_push']; exact Nat.lt_succ_of_lt u2)]
    exact Heap.get?_push_of_some _ u1
  · cases eg : s.heap.get? h'.objs.size with
    | none => rfl
    | some o => exact absurd (Heap.lt_size (keep _ _ eg)) (Nat.lt_irrefl _)
/-- sorted(a dict whose keys are ints) -/
def rSortDI : List V → Hp → VK → Prop := fun vs H Q => ∃ (a : Addr) (kvs : List (Key × V)) (ns : List Int), vs = [V.ref a] ∧ Rd H a (.dK kvs) ∧ kvs.map (·.1) = ns.map Sum.inl ∧
  ∀ (ms : List Int) (p : Addr), ms.Perm ns → ms.Pairwise (· ≤ ·) → H p = none → Q (.ref p) (upd H p (.lst (ms.map V.int)))
theorem kv_keys : ∀ {kvs : List (Key × V)} {vs : List (Key × Value)}, KV kvs vs → vs.map (·.1) = kvs.map (·.1) := by
  intro kvs vs h
  unfold KV at h
  induction h with
  | nil => rfl
  | @cons a b l1 l2 r t ih => rw [List.map_cons, List.map_cons, ih, r.1]
theorem cr_sortDI {X : Cx} (hc : X.calm = true) : CallR X (.builtin "sorted") rSortDI := by
  intro pins s σ H vs us Q I r hq
  obtain ⟨a, kvs, ns, rfl, rd, hk, q⟩ := hq
  obtain ⟨hz, lo, ws, kv, hD⟩ := dk_rd I.hok rd
  have hw : ws.map (·.1) = ns.map Sum.inl := (kv_keys kv).trans hk
  have hwl : ws.length = kvs.length := by simpa using congrArg List.length (kv_keys kv)
  rw [Vals.ref1 r]
  refine sorted_dictI lo hD hw (by rw [hwl]; exact hz) (I.ok.hd hc) fun s' p out c ms keep hs gn fr at1 inz rise pm => ?_
  obtain ⟨hp, tk, rfl⟩ := hs
  have np : H p = none := fr H I.hok
  have hml : ms.length ≤ sizeLine := by
    rw [pm.length_eq]
    have := congrArg List.length hk
    simp only [List.length_map] at this
    omega
  exact ⟨.ref p, upd H p (.lst (ms.map V.int)), I.laidN keep gn np ⟨by rw [List.length_map]; exact hml, out.toList, c, vals_of_ints inz, at1⟩, rfl, q ms p pm rise np⟩
/-! ### in the data -/
def ikeys : List (Key × D) → Option (List Int)
  | [] => some []
  | (.inl i, _) :: r => (ikeys r).map (i :: ·)
  | (.inr _, _) :: _ => none
theorem ikeys_of {K : PySem.W.Frag} {H : Hp} {L : Addr → Prop} : ∀ {ds : List (Key × D)} {vs : List (Key × V)} {ns : List Int}, ikeys ds = some ns → RepK K H L vs ds → vs.map (·.1) = ns.map Sum.inl
  | [], _, ns, e, .nil => by cases e; rfl
  | (.inl i, _) :: r, _, ns, e, .cons _ rs => by
    obtain ⟨ms, h1, rfl⟩ := Option.map_eq_some_iff.mp e
    rw [List.map_cons, List.map_cons, ikeys_of h1 rs]
  | (.inr _, _) :: r, _, ns, e, .cons _ rs => by cases e
theorem ikeys_map {α : Type} (f : α → Int) (g : α → D) : ∀ as : List α, ikeys (as.map fun a => (Sum.inl (f a), g a)) = some (as.map f)
  | [] => rfl
  | a :: as => by
    show (ikeys (as.map fun a => (Sum.inl (f a), g a))).map (f a :: ·) = _
    rw [ikeys_map f g as]
    rfl
def sortDD (ds : List D) : Option (D × Kd) := match ds with
  | [.dic kvs] => (ikeys kvs).map fun ns => (.lst ((sortI ns).map fun n => .con (.int n)), .fr)
  | _ => none
theorem os_sortDD {K : PySem.W.Frag} : OpS K rSortDI sortDD := by
  intro G O σ H ρ vs ds z Q hK R w e q
  unfold sortDD at e
  split at e
  · obtain ⟨bs, e1, rfl⟩ := Option.map_eq_some_iff.mp e
    obtain ⟨v, rfl, v1⟩ := w.one
    obtain ⟨a1, us, rfl, rd, r1⟩ := v1.dic
    refine ⟨a1, us, bs, rfl, rd, ikeys_of e1 r1, fun ns' p pe so hl => ?_⟩
    rw [sortI_unique pe so]
    obtain ⟨O4, R4⟩ := R.fresh (d := .lst ((sortI bs).map fun n => .con (.int n))) hl (.lst (Reps.cons_map V.int _))
    exact q O4 _ _ R4
  · cases e
def sortB (ds : List D) : Option (D × Kd) := (sortA ds).or (sortDD ds)
theorem os_sortB {K : PySem.W.Frag} : OpS K (fun vs H Q => rSortA K vs H Q ∨ rSortDI vs H Q) sortB := OpS.or os_sortA os_sortDD
theorem cr_sortB {X : Cx} (hc : X.calm = true) : CallR X (.builtin "sorted") (fun vs H Q => rSortA X.K vs H Q ∨ rSortDI vs H Q) := fun pins s σ H vs us Q I r h => by
  rcases h with h | h
  · exact cr_sortA pins s σ H vs us Q I r h
  · exact cr_sortDI hc pins s σ H vs us Q I r h
section
variable {P : D × Kd → Prop}
theorem x_sortD {α : Type} {f : α → Int} {g : α → D} {as : List α} (h : P (.lst ((sortI (as.map f)).map fun n => .con (.int n)), .fr)) : ∃ z, sortB [.dic (as.map fun a => (Sum.inl (f a), g a))] = some z ∧ P z := by
  refine ⟨_, ?_, h⟩
  show Option.or none ((ikeys (as.map fun a => (Sum.inl (f a), g a))).map _) = _
  rw [ikeys_map]
  rfl
end
end L2.VL
end
section
set_option Elab.async false
set_option linter.all false
set_option maxRecDepth 100000
set_option maxHeartbeats 2000000
/-! VLW: d[k] = v on an own dict. -/
namespace L2.VL
open PySem PySem.Spec PyProof.Rows L2
def getOwnD (ρ : Rho) (i : Nat) : Option (List (Key × D) × Bool) := match ρ[i]? with
  | some (some ⟨.dic ys, true, p⟩) => some (ys, p)
  | _ => none
theorem getOwnD_of {ρ : Rho} {i : Nat} {z : List (Key × D) × Bool} (e : getOwnD ρ i = some z) : ρ[i]? = some (some ⟨.dic z.1, true, z.2⟩) := by
  unfold getOwnD at e
  split at e
  · rename_i h; cases e; exact h
  · cases e
theorem getOwnD_at {ρ : Rho} {i : Nat} {kvs : List (Key × D)} {p : Bool} (e : ρ[i]? = some (some ⟨.dic kvs, true, p⟩)) : getOwnD ρ i = some (kvs, p) := by
  unfold getOwnD
  rw [e]
def chkOwnD (i : Nat) : M Unit := fun ρ => match getOwnD ρ i with
  | some _ => .ok () ρ
  | none => .stuck
theorem post_chkD {i : Nat} {ρ : Rho} {Q : Unit → Rho → Prop} {E : Exn → Rho → Prop} : ((chkOwnD i) ρ).post Q E ↔ ∃ z, getOwnD ρ i = some z ∧ Q () ρ := by
  unfold chkOwnD
  cases getOwnD ρ i with
  | none => exact ⟨fun h => h.elim, fun ⟨_, e, _⟩ => by cases e⟩
  | some z => exact ⟨fun h => ⟨z, rfl, h⟩, fun ⟨_, _, h⟩ => h⟩
def putD (kvs : List (Key × D)) (k : Key) (d : D) : List (Key × D) :=
  if (kvs.any fun kv => decide (kv.1 = k)) = true then kvs.map (fun kv => if kv.1 = k then (kv.1, d) else kv) else kvs ++ [(k, d)]
def dkEnd (i : Nat) (kd d : D) : DS := fun ρ => match getOwnD ρ i, keyD kd with
  | some z, some k => if z.1.length < 1000000 then .ok .nx (ρ.set i (some ⟨.dic (putD z.1 k d), true, z.2⟩)) else .stuck
  | _, _ => .stuck
theorem post_dkEnd {i : Nat} {kd d : D} {ρ : Rho} {Q : Fl → Rho → Prop} {E : Exn → Rho → Prop} : ((dkEnd i kd d) ρ).post Q E ↔ ∃ z k, getOwnD ρ i = some z ∧ keyD kd = some k ∧ z.1.length < 1000000 ∧ Q .nx (ρ.set i (some ⟨.dic (putD z.1 k d), true, z.2⟩)) := by
  unfold dkEnd
  cases getOwnD ρ i with
  | none => exact ⟨fun h => h.elim, fun ⟨_, _, e, _⟩ => by cases e⟩
  | some z =>
    cases q : keyD kd with
    | none => exact ⟨fun h => h.elim, fun ⟨_, _, _, e2, _⟩ => by cases e2⟩
    | some k =>
      dsimp only
      by_cases hl : z.1.length < 1000000
      · rw [if_pos hl]
        exact ⟨fun h => ⟨z, k, rfl, rfl, hl, h⟩, fun ⟨_, _, e, e2, _, h⟩ => by cases e; cases e2; exact h⟩
      · rw [if_neg hl]
        exact ⟨fun h => h.elim, fun ⟨_, _, e, e2, h3, h⟩ => by cases e; exact absurd h3 hl⟩
theorem RepK.any {K : PySem.W.Frag} {H : Hp} {L : Addr → Prop} {k : Key} : ∀ {vs : List (Key × V)} {ds : List (Key × D)}, RepK K H L vs ds → (vs.any fun kv => decide (kv.1 = k)) = ds.any fun kv => decide (kv.1 = k)
  | _, _, .nil => rfl
  | _, _, .cons _ rs => by rw [List.any_cons, List.any_cons, RepK.any rs]
theorem RepK.mapK {K : PySem.W.Frag} {H : Hp} {L : Addr → Prop} {k : Key} {v : V} {d : D} (r : Rep K H L v d) : ∀ {vs : List (Key × V)} {ds : List (Key × D)}, RepK K H L vs ds → RepK K H L (vs.map fun kv => if kv.1 = k then (kv.1, v) else kv) (ds.map fun kv => if kv.1 = k then (kv.1, d) else kv)
  | _, _, .nil => .nil
  | (a, _) :: _, _, .cons r0 rs => by
    rw [List.map_cons, List.map_cons]
    by_cases q : a = k
    · rw [if_pos q, if_pos q]
      exact .cons r (RepK.mapK r rs)
    · rw [if_neg q, if_neg q]
      exact .cons r0 (RepK.mapK r rs)
theorem RepK.snoc {K : PySem.W.Frag} {H : Hp} {L : Addr → Prop} {k : Key} {v : V} {d : D} (r : Rep K H L v d) : ∀ {vs : List (Key × V)} {ds : List (Key × D)}, RepK K H L vs ds → RepK K H L (vs ++ [(k, v)]) (ds ++ [(k, d)])
  | _, _, .nil => .cons r .nil
  | _, _, .cons r0 rs => .cons r0 (RepK.snoc r rs)
theorem RepK.put {K : PySem.W.Frag} {H : Hp} {L : Addr → Prop} {k : Key} {v : V} {d : D} (r : Rep K H L v d) {vs : List (Key × V)} {ds : List (Key × D)} (rs : RepK K H L vs ds) : RepK K H L (putK vs k v) (putD ds k d) := by
  unfold putK putD
  rw [RepK.any rs]
  split
  · exact RepK.mapK r rs
  · exact RepK.snoc r rs
theorem RepK.len {K : PySem.W.Frag} {H : Hp} {L : Addr → Prop} : ∀ {vs : List (Key × V)} {ds : List (Key × D)}, RepK K H L vs ds → vs.length = ds.length
  | _, _, .nil => rfl
  | _, _, .cons _ rs => congrArg Nat.succ (RepK.len rs)
theorem own_atD {G : Fix} {O : Own} {σ : St} {H : Hp} {ρ : Rho} {T : List Tmp} {i : Nat} {ys : List (Key × D)} {p : Bool} (R : Rel G O σ H ρ T) (e : ρ[i]? = some (some ⟨.dic ys, true, p⟩)) : ∃ a vs, σ[i]? = some (some (.ref a)) ∧ H a = some (.dK vs) ∧ RepK G.K H (lin O) vs ys := by
  obtain ⟨v, h1, h2⟩ := R.sl i _ e
  obtain ⟨a, ho, rfl, h3, h4, c⟩ := (show Owned _ _ _ _ _ _ from h2)
  cases c with
  | dic r => exact ⟨a, _, h1, h4, r⟩
def dSetK (i : Nat) (rk rv : DE) : DS := do
  let x ← rv
  let y ← keep false x
  chkOwnD i
  let k ← rk
  let kd ← dcur k
  dkEnd i kd y.1
section
variable {X : Cx} {pos : Pos}
theorem ss_setK {pj : VK → VK} (i : Nat) {x : Str} {xpos tpos : Pos} {ke ve : Expr} {rk rv : DE} (hu : X.A.units + 1 < cLine) (hv : SE X ve rv) (hk : SE X ke rk) (hN : X.N[i]? = some x := by rfl) (hvis : Vis X.env.scope x := by first | exact Or.inl rfl | exact Or.inr (Or.inl rfl) | exact Or.inr (Or.inr rfl)) (hd : (x == ("__debug__" : Str)) = false := by decide)
    (hcd : (x == ("__classdict__" : Str)) = false := by decide)
    (hs : swapsWith ve (some (.Subscript (.Name x xpos) ke tpos)) pos.line X.env = pure false := by rfl) : SSf pj X (.Assign [.Subscript (.Name x xpos) ke tpos] ve pos) (dSetK i rk rv) := fun W tk =>
  PS.imp (ps_dput hu (pe_var hN hvis hd hcd) (hk W tk) (hv W tk) hs) fun D σ H ⟨G, O, ρ, hK, R, h⟩ => by
    refine tE.at hK R (Res.post_mono ((post_bind _ _).mp h) (fun y ρ1 q O1 v H1 R1 => ?_) fun x ρ' q => q σ)
    obtain ⟨d, e1, q2⟩ := keep_false ((post_bind _ _).mp q)
    obtain ⟨O2, R2⟩ := R1.settle (d := d) e1
    obtain ⟨z0, q0, q3⟩ := post_chkD.mp ((post_bind _ _).mp q2)
    obtain ⟨a, vs0, h1, h2, _⟩ := own_atD R2 (getOwnD_of q0)
    refine ⟨.ref a, h1, tE.at hK R2 (Res.post_mono ((post_bind _ _).mp q3) (fun k ρ2 q4 O3 u H3 R3 => ?_) fun x ρ' q => q σ)⟩
    obtain ⟨kd, e2, q5⟩ := post_cur.mp ((post_bind _ _).mp q4)
    obtain ⟨z, kk, q6, qk, ql, q7⟩ := post_dkEnd.mp q5
    have vk := R3.view R3.tm.1 e2
    rw [keyD_of qk] at vk
    have R4 := R3.pop
    have eo := getOwnD_of q6
    obtain ⟨a2, vs1, h3, h4, r4⟩ := own_atD R4 eo
    rw [h1] at h3
    cases h3
    have rd : Rep G.K H3 (lin O3) v d := R4.tm.1
    have hl : vs1.length < sizeLine := by rw [r4.len, sizeLine_eq]; omega
    refine ⟨a, _, rfl, .inl ⟨vs1, kk, h4, vk.con, hl, rfl⟩, ?_⟩
    exact q7 O3 σ _ (R4.nil.write (d := .dic (putD z.1 kk d)) eo rfl h1 h4 (.dic (RepK.put rd r4))).1
end
section
variable {ρ : Rho} {E : Exn → Rho → Prop} {Q : Fl → Rho → Prop} {i : Nat}
theorem w_p_setK {rk rv : DE} (h : (rv ρ).pst (fun x ρ1 => ((keep false x) ρ1).pst (fun y ρ2 => ∃ kvs p, ρ2[i]? = some (some ⟨.dic kvs, true, p⟩) ∧ (rk ρ2).pst (fun k ρ3 => ∃ kd, cur ρ3 k = some kd ∧ ∃ kvs p, ρ3[i]? = some (some ⟨.dic kvs, true, p⟩) ∧ ∃ kk, keyD kd = some kk ∧ kvs.length < 1000000 ∧ Q .nx (ρ3.set i (some ⟨.dic (putD kvs kk y.1), true, p⟩))) E) E) E) : ((dSetK i rk rv) ρ).pst Q E := by
  simp only [pst_iff, fpst_iff] at *
  unfold dSetK
  refine (post_bind _ _).mpr (Res.post_ok h fun x ρ1 z => (post_bind _ _).mpr (Res.post_ok z ?_))
  rintro y ρ2 ⟨xs, p, h1, z⟩
  refine (post_bind _ _).mpr (post_chkD.mpr ⟨_, getOwnD_at h1, (post_bind _ _).mpr (Res.post_ok z ?_)⟩)
  rintro k ρ3 ⟨kd, e, xs', p', h2, kk, h3, h4, h5⟩
  exact (post_bind _ _).mpr (post_cur.mpr ⟨kd, e, post_dkEnd.mpr ⟨_, kk, getOwnD_at h2, h3, h4, h5⟩⟩)
theorem putD_new {kvs : List (Key × D)} {k : Key} {d : D} (h : ∀ kv ∈ kvs, kv.1 ≠ k) : putD kvs k d = kvs ++ [(k, d)] := by
  unfold putD
  rw [if_neg]
  rw [List.any_eq_true]
  rintro ⟨kv, h1, h2⟩
  exact h kv h1 (by simpa using h2)
theorem putD_old {kvs : List (Key × D)} {k : Key} {d : D} (h : ∃ kv ∈ kvs, kv.1 = k) (hd : ∀ kv ∈ kvs, kv.2 = d) : putD kvs k d = kvs := by
  unfold putD
  rw [if_pos]
  · refine (List.map_congr_left fun kv hkv => ?_).trans (List.map_id _)
    by_cases q : kv.1 = k
    · rw [if_pos q, ← hd kv hkv]; rfl
    · rw [if_neg q]; rfl
  · rw [List.any_eq_true]
    obtain ⟨kv, h1, h2⟩ := h
    exact ⟨kv, h1, by simpa using h2⟩
end
end L2.VL
end
section
set_option Elab.async false
set_option linter.all false
set_option maxRecDepth 100000

set_option maxHeartbeats 4000000
namespace Law_strictranks_k61_whole_orders_or_barring
open PySem PySem.Spec PyProof.Rows L2 L2.VL
def topS (i : Nat) : Stmt := PySem.Challenge.pw_strictranks_k61_whole_orders_or_barring.main.body.getD i (.Pass ⟨0, 0, 0, 0⟩)
abbrev s__law_cells : Stmt := topS 44
abbrev s__law_draw : Stmt := topS 43
abbrev s__law_order : Stmt := topS 45
abbrev s__law_fact : Stmt := topS 47
abbrev s__law_first : Stmt := topS 46
abbrev s__law_turned : Stmt := topS 48
abbrev s__law_facts : Stmt := topS 49
abbrev s__law_put_in : Stmt := topS 51
abbrev s__law_ring : Stmt := topS 50
abbrev s__law_list : Stmt := topS 52
abbrev s_is_integer : Stmt := topS 12
abbrev s_need_count : Stmt := topS 13
abbrev s_fits_fact : Stmt := topS 14
abbrev s_need_facts : Stmt := topS 15
abbrev s_need_count_and_facts : Stmt := topS 16
abbrev s_rules_with : Stmt := topS 17
abbrev s_mask_of : Stmt := topS 20
abbrev s_layered : Stmt := topS 25
abbrev s_is_barred : Stmt := topS 26
abbrev s_lacking_rule : Stmt := topS 27
abbrev s_covering : Stmt := topS 28
abbrev s_least_barring : Stmt := topS 29
abbrev s_need_together : Stmt := topS 30
abbrev s_masks_of : Stmt := topS 21
abbrev s_can_stand : Stmt := topS 22
abbrev s_placeable : Stmt := topS 23
abbrev s_least_order : Stmt := topS 32
abbrev s_order_of : Stmt := topS 33
abbrev s_layers_of : Stmt := topS 31
abbrev s__law_asked : Stmt := topS 56
abbrev s_barring_set : Stmt := topS 34
abbrev s_need_layers : Stmt := topS 18
abbrev s_holds_by_layers : Stmt := topS 19
abbrev s_hold_in_layers : Stmt := topS 38
abbrev s__law_is_order : Stmt := topS 55
abbrev s_by_layers : Stmt := topS 39
abbrev s_order_by_layers : Stmt := topS 40
abbrev s__law_good_layers : Stmt := topS 57
abbrev s__law_indices : Stmt := topS 53
abbrev s__law_bars : Stmt := topS 54
abbrev s_are_indices : Stmt := topS 35
abbrev s_bars_all : Stmt := topS 36
abbrev s_is_barring_set : Stmt := topS 37
abbrev s__law_bad : Stmt := topS 58
abbrev s__law_told : Stmt := topS 59
abbrev s__law_right : Stmt := topS 60
abbrev s__law_tap : Stmt := topS 42
abbrev s_law : Stmt := topS 61
end Law_strictranks_k61_whole_orders_or_barring
end
section
set_option Elab.async false
set_option linter.all false
set_option maxRecDepth 100000

set_option maxHeartbeats 0
namespace Law_strictranks_k61_whole_orders_or_barring
open PySem PySem.Spec PyProof.Rows L2 L2.VL
def d__law_cells : He.DefD := ⟨("_law_cells", none), "_law_cells", "_law_cells", defArgs s__law_cells, defBody s__law_cells, defScope s__law_cells, [], []⟩
def d__law_draw : He.DefD := ⟨("_law_draw", none), "_law_draw", "_law_draw", defArgs s__law_draw, defBody s__law_draw, defScope s__law_draw, [], []⟩
def d__law_order : He.DefD := ⟨("_law_order", none), "_law_order", "_law_order", defArgs s__law_order, defBody s__law_order, defScope s__law_order, [], []⟩
def d__law_fact : He.DefD := ⟨("_law_fact", none), "_law_fact", "_law_fact", defArgs s__law_fact, defBody s__law_fact, defScope s__law_fact, [], []⟩
def d__law_first : He.DefD := ⟨("_law_first", none), "_law_first", "_law_first", defArgs s__law_first, defBody s__law_first, defScope s__law_first, [], []⟩
def d__law_turned : He.DefD := ⟨("_law_turned", none), "_law_turned", "_law_turned", defArgs s__law_turned, defBody s__law_turned, defScope s__law_turned, [], []⟩
def d__law_facts : He.DefD := ⟨("_law_facts", none), "_law_facts", "_law_facts", defArgs s__law_facts, defBody s__law_facts, defScope s__law_facts, [], []⟩
def d__law_put_in : He.DefD := ⟨("_law_put_in", none), "_law_put_in", "_law_put_in", defArgs s__law_put_in, defBody s__law_put_in, defScope s__law_put_in, [], []⟩
def d__law_ring : He.DefD := ⟨("_law_ring", none), "_law_ring", "_law_ring", defArgs s__law_ring, defBody s__law_ring, defScope s__law_ring, [], []⟩
def d__law_list : He.DefD := ⟨("_law_list", none), "_law_list", "_law_list", defArgs s__law_list, defBody s__law_list, defScope s__law_list, [], []⟩
def d_is_integer : He.DefD := ⟨("is_integer", none), "is_integer", "is_integer", defArgs s_is_integer, defBody s_is_integer, defScope s_is_integer, [.non], []⟩
def d_need_count : He.DefD := ⟨("need_count", none), "need_count", "need_count", defArgs s_need_count, defBody s_need_count, defScope s_need_count, [.int 60], []⟩
def d_fits_fact : He.DefD := ⟨("fits_fact", none), "fits_fact", "fits_fact", defArgs s_fits_fact, defBody s_fits_fact, defScope s_fits_fact, [], []⟩
def d_need_facts : He.DefD := ⟨("need_facts", none), "need_facts", "need_facts", defArgs s_need_facts, defBody s_need_facts, defScope s_need_facts, [], []⟩
def d_need_count_and_facts : He.DefD := ⟨("need_count_and_facts", none), "need_count_and_facts", "need_count_and_facts", defArgs s_need_count_and_facts, defBody s_need_count_and_facts, defScope s_need_count_and_facts, [.int 60], []⟩
def d_rules_with : He.DefD := ⟨("rules_with", none), "rules_with", "rules_with", defArgs s_rules_with, defBody s_rules_with, defScope s_rules_with, [], []⟩
def d_mask_of : He.DefD := ⟨("mask_of", none), "mask_of", "mask_of", defArgs s_mask_of, defBody s_mask_of, defScope s_mask_of, [.str "W"], []⟩
def d_layered : He.DefD := ⟨("layered", none), "layered", "layered", defArgs s_layered, defBody s_layered, defScope s_layered, [], []⟩
def d_is_barred : He.DefD := ⟨("is_barred", none), "is_barred", "is_barred", defArgs s_is_barred, defBody s_is_barred, defScope s_is_barred, [], []⟩
def d_lacking_rule : He.DefD := ⟨("lacking_rule", none), "lacking_rule", "lacking_rule", defArgs s_lacking_rule, defBody s_lacking_rule, defScope s_lacking_rule, [], []⟩
def d_covering : He.DefD := ⟨("covering", none), "covering", "covering", defArgs s_covering, defBody s_covering, defScope s_covering, [], []⟩
def d_least_barring : He.DefD := ⟨("least_barring", none), "least_barring", "least_barring", defArgs s_least_barring, defBody s_least_barring, defScope s_least_barring, [], []⟩
def d_need_together : He.DefD := ⟨("need_together", none), "need_together", "need_together", defArgs s_need_together, defBody s_need_together, defScope s_need_together, [], []⟩
def d_masks_of : He.DefD := ⟨("masks_of", none), "masks_of", "masks_of", defArgs s_masks_of, defBody s_masks_of, defScope s_masks_of, [], []⟩
def d_can_stand : He.DefD := ⟨("can_stand", none), "can_stand", "can_stand", defArgs s_can_stand, defBody s_can_stand, defScope s_can_stand, [], []⟩
def d_placeable : He.DefD := ⟨("placeable", none), "placeable", "placeable", defArgs s_placeable, defBody s_placeable, defScope s_placeable, [], []⟩
def d_least_order : He.DefD := ⟨("least_order", none), "least_order", "least_order", defArgs s_least_order, defBody s_least_order, defScope s_least_order, [], []⟩
def d_order_of : He.DefD := ⟨("order_of", none), "order_of", "order_of", defArgs s_order_of, defBody s_order_of, defScope s_order_of, [], []⟩
def d_layers_of : He.DefD := ⟨("layers_of", none), "layers_of", "layers_of", defArgs s_layers_of, defBody s_layers_of, defScope s_layers_of, [], []⟩
def d__law_asked : He.DefD := ⟨("_law_asked", none), "_law_asked", "_law_asked", defArgs s__law_asked, defBody s__law_asked, defScope s__law_asked, [], []⟩
def d_barring_set : He.DefD := ⟨("barring_set", none), "barring_set", "barring_set", defArgs s_barring_set, defBody s_barring_set, defScope s_barring_set, [], []⟩
def d_need_layers : He.DefD := ⟨("need_layers", none), "need_layers", "need_layers", defArgs s_need_layers, defBody s_need_layers, defScope s_need_layers, [], []⟩
def d_holds_by_layers : He.DefD := ⟨("holds_by_layers", none), "holds_by_layers", "holds_by_layers", defArgs s_holds_by_layers, defBody s_holds_by_layers, defScope s_holds_by_layers, [], []⟩
def d_hold_in_layers : He.DefD := ⟨("hold_in_layers", none), "hold_in_layers", "hold_in_layers", defArgs s_hold_in_layers, defBody s_hold_in_layers, defScope s_hold_in_layers, [], []⟩
def d__law_is_order : He.DefD := ⟨("_law_is_order", none), "_law_is_order", "_law_is_order", defArgs s__law_is_order, defBody s__law_is_order, defScope s__law_is_order, [], []⟩
def d_by_layers : He.DefD := ⟨("by_layers", none), "by_layers", "by_layers", defArgs s_by_layers, defBody s_by_layers, defScope s_by_layers, [], []⟩
def d_order_by_layers : He.DefD := ⟨("order_by_layers", none), "order_by_layers", "order_by_layers", defArgs s_order_by_layers, defBody s_order_by_layers, defScope s_order_by_layers, [], []⟩
def d__law_good_layers : He.DefD := ⟨("_law_good_layers", none), "_law_good_layers", "_law_good_layers", defArgs s__law_good_layers, defBody s__law_good_layers, defScope s__law_good_layers, [], []⟩
def d__law_indices : He.DefD := ⟨("_law_indices", none), "_law_indices", "_law_indices", defArgs s__law_indices, defBody s__law_indices, defScope s__law_indices, [], []⟩
def d__law_bars : He.DefD := ⟨("_law_bars", none), "_law_bars", "_law_bars", defArgs s__law_bars, defBody s__law_bars, defScope s__law_bars, [], []⟩
def d_are_indices : He.DefD := ⟨("are_indices", none), "are_indices", "are_indices", defArgs s_are_indices, defBody s_are_indices, defScope s_are_indices, [], []⟩
def d_bars_all : He.DefD := ⟨("bars_all", none), "bars_all", "bars_all", defArgs s_bars_all, defBody s_bars_all, defScope s_bars_all, [], []⟩
def d_is_barring_set : He.DefD := ⟨("is_barring_set", none), "is_barring_set", "is_barring_set", defArgs s_is_barring_set, defBody s_is_barring_set, defScope s_is_barring_set, [], []⟩
def d__law_bad : He.DefD := ⟨("_law_bad", none), "_law_bad", "_law_bad", defArgs s__law_bad, defBody s__law_bad, defScope s__law_bad, [], []⟩
def d__law_told : He.DefD := ⟨("_law_told", none), "_law_told", "_law_told", defArgs s__law_told, defBody s__law_told, defScope s__law_told, [], []⟩
def d__law_right : He.DefD := ⟨("_law_right", none), "_law_right", "_law_right", defArgs s__law_right, defBody s__law_right, defScope s__law_right, [], []⟩
def d__law_tap : He.DefD := ⟨("_law_tap", none), "_law_tap", "_law_tap", defArgs s__law_tap, defBody s__law_tap, defScope s__law_tap, [], []⟩
def d_law : He.DefD := ⟨("law", none), "law", "law", defArgs s_law, defBody s_law, defScope s_law, [], []⟩
def d_init_Barred : He.DefD := ⟨("Barred", some "__init__"), "__init__", "Barred.__init__", defArgs (clsAt (topS 2) 0), defBody (clsAt (topS 2) 0), defScope (clsAt (topS 2) 0), [], []⟩
def fn : List He.DefD := [d__law_cells, d__law_draw, d__law_order, d__law_fact, d__law_first, d__law_turned, d__law_facts, d__law_put_in, d__law_ring, d__law_list, d_is_integer, d_need_count, d_fits_fact, d_need_facts, d_need_count_and_facts, d_rules_with, d_mask_of, d_layered, d_is_barred, d_lacking_rule, d_covering, d_least_barring, d_need_together, d_masks_of, d_can_stand, d_placeable, d_least_order, d_order_of, d_layers_of, d__law_asked, d_barring_set, d_need_layers, d_holds_by_layers, d_hold_in_layers, d__law_is_order, d_by_layers, d_order_by_layers, d__law_good_layers, d__law_indices, d__law_bars, d_are_indices, d_bars_all, d_is_barring_set, d__law_bad, d__law_told, d__law_right, d__law_tap, d_law, d_init_Barred]
def fa : List He.Fa := [.glo "_law_cells", .glo "_law_draw", .glo "_law_order", .glo "_law_fact", .glo "_law_first", .glo "_law_turned", .glo "_law_facts", .glo "_law_put_in", .glo "_law_ring", .glo "_law_list", .glo "is_integer", .glo "need_count", .glo "fits_fact", .glo "need_facts", .glo "need_count_and_facts", .glo "rules_with", .glo "mask_of", .glo "layered", .glo "is_barred", .glo "lacking_rule", .glo "covering", .glo "least_barring", .glo "need_together", .glo "masks_of", .glo "can_stand", .glo "placeable", .glo "least_order", .glo "order_of", .glo "layers_of", .glo "_law_asked"] ++ [.glo "barring_set", .glo "need_layers", .glo "holds_by_layers", .glo "hold_in_layers", .glo "_law_is_order", .glo "by_layers", .glo "order_by_layers", .glo "_law_good_layers", .glo "_law_indices", .glo "_law_bars", .glo "are_indices", .glo "bars_all", .glo "is_barring_set", .glo "_law_bad", .glo "_law_told", .glo "_law_right", .glo "_law_tap", .glo "law", .free "abs", .free "all", .free "bool", .free "enumerate", .free "int", .free "isinstance", .free "len", .free "list", .free "max", .free "min", .free "range", .free "sorted"] ++ [.free "str", .free "sum", .free "zip", .str "AGAINST" "L", .str "FOR" "W", .int "MOST_FACTS" 200, .int "MOST_RULES" 60, .str "SILENT" ".", .glo "Barred", .glo "RankError", .exm "Barred" "Barred" true]
def loose : List Str := [("RankError" : Str), ("Barred" : Str), ("InvalidCount" : Str), ("InvalidFacts" : Str), ("InvalidLayers" : Str), ("MOST_RULES" : Str), ("MOST_FACTS" : Str), ("FOR" : Str), ("AGAINST" : Str), ("SILENT" : Str), ("is_integer" : Str), ("need_count" : Str), ("fits_fact" : Str), ("need_facts" : Str), ("need_count_and_facts" : Str), ("rules_with" : Str), ("need_layers" : Str), ("holds_by_layers" : Str), ("mask_of" : Str), ("masks_of" : Str)] ++ [("can_stand" : Str), ("placeable" : Str), ("layered" : Str), ("is_barred" : Str), ("lacking_rule" : Str), ("covering" : Str), ("least_barring" : Str), ("need_together" : Str), ("layers_of" : Str), ("least_order" : Str), ("order_of" : Str), ("barring_set" : Str), ("are_indices" : Str), ("bars_all" : Str), ("is_barring_set" : Str), ("hold_in_layers" : Str), ("by_layers" : Str), ("order_by_layers" : Str), ("_law_tap" : Str), ("_law_draw" : Str)] ++ [("_law_cells" : Str), ("_law_order" : Str), ("_law_first" : Str), ("_law_fact" : Str), ("_law_turned" : Str), ("_law_facts" : Str), ("_law_ring" : Str), ("_law_put_in" : Str), ("_law_list" : Str), ("_law_indices" : Str), ("_law_bars" : Str), ("_law_is_order" : Str), ("_law_asked" : Str), ("_law_good_layers" : Str), ("_law_bad" : Str), ("_law_told" : Str), ("_law_right" : Str)]
abbrev R : PySem.W.OpenRow := PySem.W.OpenLaw.row PySem.Challenge.rw_strictranks_k61_whole_orders_or_barring
def fc : List Fc := [.rk "RankError", .ini "Barred" "indices"]
abbrev hk : PySem.W.Hook := hookC 5 fa fn fc
def ob (s : PySem.W.SharedT) : He.AlD × Bool := obC 5 fa fn fc (HandSHeadRun.getT s)
theorem ob_eq (s : PySem.W.SharedT) : ob s = hk.obs s.abs := obC_eq (HandSHeadRun.getT_eq s)
theorem run (w : World) : HandSHeadRun.RunEq R (PySem.W.view R.prog [61]) hk ob 2860 loose w := by
  intro os
  kernel_rfl
end Law_strictranks_k61_whole_orders_or_barring
end
section
set_option Elab.async false
set_option linter.all false
set_option maxRecDepth 100000

noncomputable section
namespace Law_strictranks_k61_whole_orders_or_barring
open PySem PySem.Spec PyProof.Rows L2 L2.VL
/-- _law_cells: 0 _law_script, 1 _law_most -/
abbrev r__law_cells_1 : DS := dRet (dSlL (dOp2 addD (dVar 0) (dLst [(false, dCon (.int 0))])) none (some (dBi (scB maxV) [(true, dCon (.int 1)), (true, dBi (scB minV) [(true, dVar 1), (true, dBi (lenD) [(true, dVar 0)])])])))
def F__law_cells : Fn := runFn 2 r__law_cells_1
/-- _law_draw: 0 _law_tap_here, 1 _law_bound, 2 _law_found -/
abbrev r__law_draw_1_a_3 : DS := dRet (dVar 2)
abbrev r__law_draw_1_a_2 : DS := dSeq (dSetIx 0 (dCon (.int 0)) (dOp2 divD (dOp2 ixD (dVar 0) (dCon (.int 0))) (dVar 1))) r__law_draw_1_a_3
abbrev r__law_draw_1_a_1 : DS := dSeq (dSet 2 (dOp2 modD (dBi (scB intV) [(true, dOp2 ixD (dVar 0) (dCon (.int 0)))]) (dVar 1))) r__law_draw_1_a_2
abbrev r__law_draw_4 : DS := dRet (dOp2 modD (dBi (scB intV) [(true, dOp2 addD (dOp2 divD (dOp2 ixD (dVar 0) (dCon (.int 1))) (dCon (.int 32))) (dOp2 divD (dOp2 ixD (dVar 0) (dCon (.int 2))) (dCon (.int 16))))]) (dVar 1))
abbrev r__law_draw_3 : DS := dSeq (dSetIx 0 (dCon (.int 2)) (dOp2 modD (dBi (scB intV) [(true, dOp2 addD (dOp2 mulT (dOp2 ixD (dVar 0) (dCon (.int 2))) (dOp2 ixD (dVar 0) (dCon (.int 2)))) (dOp2 ixD (dVar 0) (dCon (.int 1))))]) (dCon (.int 2147483587)))) r__law_draw_4
abbrev r__law_draw_2 : DS := dSeq (dSetIx 0 (dCon (.int 1)) (dOp2 modD (dBi (scB intV) [(true, dOp2 addD (dOp2 mulT (dOp2 ixD (dVar 0) (dCon (.int 1))) (dCon (.int 69069))) (dCon (.int 40503)))]) (dCon (.int 4294967291)))) r__law_draw_3
abbrev r__law_draw_1 : DS := dSeq (dIf (dB (dCmp geA (dOp2 ixD (dVar 0) (dCon (.int 0))) (dOp2 powD (dCon (.int 10)) (dCon (.int 18))))) (r__law_draw_1_a_1) (dNext)) r__law_draw_2
def F__law_draw : Fn := runFn 3 r__law_draw_1
/-- _law_order: 0 _law_tap_here, 1 _law_count, 2 _law_left, 3 _law_found, 4 _law_turn -/
abbrev r__law_order_3_l_1 : DS := dExpr (dMut 3 appG [(false, dMut 2 popG [(false, dCall F__law_draw 2 [] [(true, dVar 0), (true, dBi (lenD) [(true, dVar 2)])])])])
abbrev r__law_order_4 : DS := dRet (dVar 3)
abbrev r__law_order_3 : DS := dSeq (dFgB [4] (dFor (iRng rng1 [(true, dVar 1)]) (.one 4) (dFgE [4] (r__law_order_3_l_1)))) r__law_order_4
abbrev r__law_order_2 : DS := dSeq (dSet 3 (dLst [])) r__law_order_3
abbrev r__law_order_1 : DS := dSeq (dSet 2 (dLrg (dVar 1))) r__law_order_2
def F__law_order : Fn := runFn 5 r__law_order_1
/-- _law_fact: 0 _law_tap_here, 1 _law_order_here, 2 _law_kind, 3 _law_count, 4 _law_signs, 5 _law_sign, 6 _law_turn, 7 _law_place, 8 _law_rule -/
abbrev r__law_fact_2_a_1 : DS := dRet (dMt isStr joinD (dCon (.str "")) [(true, dLc [8] (iRng rng1 [(true, dVar 3)]) (.one 8) (pure true) (dOp2 ixD (dLst [(false, dCon (.str "W")), (false, dCon (.str "L")), (false, dCon (.str "."))]) (dCall F__law_draw 2 [] [(true, dVar 0), (true, dCon (.int 3))])))])
abbrev r__law_fact_4_a_1_l_1_l_1 : DS := dSetIx 4 (dCall F__law_draw 2 [] [(true, dVar 0), (false, dVar 3)]) (dVar 5)
abbrev r__law_fact_4_a_1_l_1 : DS := dFgB [6] (dFor (iRng rng1 [(true, dOp2 ixD (dLst [(false, dCon (.int 1)), (false, dCon (.int 2)), (false, dCon (.int 0)), (false, dCon (.int 3))]) (dCall F__law_draw 2 [] [(true, dVar 0), (true, dCon (.int 4))]))]) (.one 6) (dFgE [6] (r__law_fact_4_a_1_l_1_l_1)))
abbrev r__law_fact_4_a_2 : DS := dRet (dMt isStr joinD (dCon (.str "")) [(true, dVar 4)])
abbrev r__law_fact_4_a_1 : DS := dSeq (dFgB [5, 6] (dFor (iLst (dLst [(false, dCon (.str "W")), (false, dCon (.str "L"))])) (.one 5) (dFgE [5, 6] (r__law_fact_4_a_1_l_1)))) r__law_fact_4_a_2
abbrev r__law_fact_9 : DS := dRet (dMt isStr joinD (dCon (.str "")) [(true, dVar 4)])
abbrev r__law_fact_8 : DS := dSeq (dSetIx 4 (dCall F__law_draw 2 [] [(true, dVar 0), (false, dVar 3)]) (dOp2 ixD (dLst [(false, dCon (.str "W")), (false, dCon (.str "L")), (false, dCon (.str "."))]) (dCall F__law_draw 2 [] [(true, dVar 0), (true, dCon (.int 3))]))) r__law_fact_9
abbrev r__law_fact_7 : DS := dSeq (dSetIx 4 (dOp2 ixD (dVar 1) (dOp2 subD (dVar 7) (dCon (.int 1)))) (dCon (.str "W"))) r__law_fact_8
abbrev r__law_fact_6 : DS := dSeq (dSetIx 4 (dOp2 ixD (dVar 1) (dVar 7)) (dCon (.str "L"))) r__law_fact_7
abbrev r__law_fact_5 : DS := dSeq (dSet 7 (dCall F__law_draw 2 [] [(true, dVar 0), (false, dVar 3)])) r__law_fact_6
abbrev r__law_fact_4 : DS := dSeq (dIf (dB (dCmp eqD (dVar 2) (dCon (.int 1)))) (r__law_fact_4_a_1) (dNext)) r__law_fact_5
abbrev r__law_fact_3 : DS := dSeq (dSet 4 (dOp2 mulT (dLst [(false, dCon (.str "."))]) (dVar 3))) r__law_fact_4
abbrev r__law_fact_2 : DS := dSeq (dIf (dB (dCmp eqD (dVar 2) (dCon (.int 0)))) (r__law_fact_2_a_1) (dNext)) r__law_fact_3
abbrev r__law_fact_1 : DS := dSeq (dSet 3 (dBi (lenD) [(true, dVar 1)])) r__law_fact_2
def F__law_fact : Fn := runFn 9 r__law_fact_1
/-- _law_first: 0 _law_order_here, 1 _law_fact_here, 2 _law_rule -/
abbrev r__law_first_1_l_1_a_1 : DS := dRet (dOp2 ixD (dVar 1) (dVar 2))
abbrev r__law_first_1_l_1 : DS := dIf (dB (dCmp neD (dOp2 ixD (dVar 1) (dVar 2)) (dCon (.str ".")))) (r__law_first_1_l_1_a_1) (dNext)
abbrev r__law_first_2 : DS := dRet (dCon (.str "W"))
abbrev r__law_first_1 : DS := dSeq (dFgB [2] (dFor (iAny (dVar 0)) (.one 2) (dFgE [2] (r__law_first_1_l_1)))) r__law_first_2
def F__law_first : Fn := runFn 3 r__law_first_1
/-- _law_turned: 0 _law_fact_here, 1 _law_sign -/
abbrev r__law_turned_1 : DS := dRet (dMt isStr joinD (dCon (.str "")) [(true, dLc [1] (iAny (dVar 0)) (.one 1) (pure true) (dOp2 dgetD (dDis [(.inr "W", .str "L"), (.inr "L", .str "W"), (.inr ".", .str ".")]) (dVar 1)))])
def F__law_turned : Fn := runFn 2 r__law_turned_1
/-- _law_facts: 0 _law_tap_here, 1 _law_order_here, 2 _law_many, 3 _law_is_true, 4 _law_kind, 5 _law_found, 6 _law_turn, 7 _law_fact_here -/
abbrev r__law_facts_3_l_2_a_1 : DS := dSet 7 (dBor (dCall F__law_turned 1 [] [(false, dVar 7)]))
abbrev r__law_facts_3_l_3_a_1 : DS := dSet 7 (dOp2 ixD (dVar 5) (dCall F__law_draw 2 [] [(true, dVar 0), (true, dBi (lenD) [(true, dVar 5)])]))
abbrev r__law_facts_3_l_4 : DS := dExpr (dMut 5 appG [(false, dVar 7)])
def r__law_facts_3_l_3 : DS := dSeq (dIf (dAnd (dB (dCmp neD (dVar 5) (dLst []))) (dB (dCmp eqD (dCall F__law_draw 2 [] [(true, dVar 0), (true, dCon (.int 8))]) (dCon (.int 1))))) (r__law_facts_3_l_3_a_1) (dNext)) r__law_facts_3_l_4
abbrev r__law_facts_3_l_2 : DS := dSeq (dIf (dAnd (dTr (dVar 3)) (dB (dCmp eqD (dCall F__law_first 2 [] [(false, dVar 1), (false, dVar 7)]) (dCon (.str "L"))))) (r__law_facts_3_l_2_a_1) (dNext)) r__law_facts_3_l_3
abbrev r__law_facts_3_l_1 : DS := dSeq (dSet 7 (dCall F__law_fact 3 [] [(true, dVar 0), (false, dVar 1), (false, dVar 4)])) r__law_facts_3_l_2
abbrev r__law_facts_4 : DS := dRet (dVar 5)
abbrev r__law_facts_3 : DS := dSeq (dFgB [6, 7] (dFor (iRng rng1 [(true, dVar 2)]) (.one 6) (dFgE [6, 7] (r__law_facts_3_l_1)))) r__law_facts_4
abbrev r__law_facts_2 : DS := dSeq (dSet 5 (dLst [])) r__law_facts_3
abbrev r__law_facts_1 : DS := dSeq (dSet 4 (dCall F__law_draw 2 [] [(true, dVar 0), (true, dCon (.int 3))])) r__law_facts_2
def F__law_facts : Fn := runFn 8 r__law_facts_1
/-- _law_put_in: 0 _law_tap_here, 1 _law_facts_here, 2 _law_more, 3 _law_found, 4 _law_fact_here -/
abbrev r__law_put_in_2_l_1 : DS := dExpr (dMut 3 insG [(false, dCall F__law_draw 2 [] [(true, dVar 0), (true, dOp2 addD (dBi (lenD) [(true, dVar 3)]) (dCon (.int 1)))]), (false, dVar 4)])
abbrev r__law_put_in_3 : DS := dRet (dVar 3)
abbrev r__law_put_in_2 : DS := dSeq (dFgB [4] (dFor (iAny (dVar 2)) (.one 4) (dFgE [4] (r__law_put_in_2_l_1)))) r__law_put_in_3
abbrev r__law_put_in_1 : DS := dSeq (dSet 3 (dBi (listD) [(true, dVar 1)])) r__law_put_in_2
def F__law_put_in : Fn := runFn 5 r__law_put_in_1
/-- _law_ring: 0 _law_tap_here, 1 _law_count, 2 _law_rules, 3 _law_found, 4 _law_place, 5 _law_signs, 6 _law_more -/
abbrev r__law_ring_3_l_5_a_1 : DS := dSetIx 5 (dVar 6) (dOp2 ixD (dLst [(false, dCon (.str "L")), (false, dCon (.str "W"))]) (dBi (scB intV) [(true, dAndV (dCmp inB (dVar 6) (dVar 2)) (dCmp eqD (dCall F__law_draw 2 [] [(true, dVar 0), (true, dCon (.int 2))]) (dCon (.int 1))))]))
abbrev r__law_ring_3_l_6 : DS := dExpr (dMut 3 appG [(false, dMt isStr joinD (dCon (.str "")) [(true, dVar 5)])])
abbrev r__law_ring_3_l_5 : DS := dSeq (dIf (dB (dCmp eqD (dOp2 ixD (dVar 5) (dVar 6)) (dCon (.str ".")))) (r__law_ring_3_l_5_a_1) (dNext)) r__law_ring_3_l_6
abbrev r__law_ring_3_l_4 : DS := dSeq (dSet 6 (dCall F__law_draw 2 [] [(true, dVar 0), (false, dVar 1)])) r__law_ring_3_l_5
abbrev r__law_ring_3_l_3 : DS := dSeq (dSetIx 5 (dOp2 ixD (dVar 2) (dVar 4)) (dCon (.str "L"))) r__law_ring_3_l_4
abbrev r__law_ring_3_l_2 : DS := dSeq (dSetIx 5 (dOp2 ixD (dVar 2) (dOp2 subD (dVar 4) (dCon (.int 1)))) (dCon (.str "W"))) r__law_ring_3_l_3
abbrev r__law_ring_3_l_1 : DS := dSeq (dSet 5 (dOp2 mulT (dLst [(false, dCon (.str "."))]) (dVar 1))) r__law_ring_3_l_2
abbrev r__law_ring_4 : DS := dRet (dVar 3)
abbrev r__law_ring_3 : DS := dSeq (dFgB [4, 5, 6] (dFor (iRng rng1 [(true, dBi (lenD) [(true, dVar 2)])]) (.one 4) (dFgE [4, 5, 6] (r__law_ring_3_l_1)))) r__law_ring_4
abbrev r__law_ring_2 : DS := dSeq (dSet 3 (dLst [])) r__law_ring_3
abbrev r__law_ring_1 : DS := dSeq (dSet 2 (dSlL (dCall F__law_order 2 [] [(true, dVar 0), (false, dVar 1)]) none (some (dOp2 addD (dCon (.int 1)) (dCall F__law_draw 2 [] [(true, dVar 0), (true, dOp2 ixD (dLst [(false, dBi (scB minV) [(true, dVar 1), (true, dCon (.int 5))]), (false, dVar 1)]) (dOp2 divD (dCall F__law_draw 2 [] [(true, dVar 0), (true, dCon (.int 4))]) (dCon (.int 3))))]))))) r__law_ring_2
def F__law_ring : Fn := runFn 7 r__law_ring_1
/-- _law_list: 0 _law_tap_here, 1 _law_order_here, 2 _law_most, 3 _law_count, 4 _law_kind, 5 _law_facts_here -/
abbrev r__law_list_3_a_1 : DS := dSet 5 (dCall F__law_put_in 3 [] [(true, dVar 0), (false, dVar 5), (true, dCall F__law_ring 2 [] [(true, dVar 0), (false, dVar 3)])])
abbrev r__law_list_4 : DS := dRet (dVar 5)
abbrev r__law_list_3 : DS := dSeq (dIf (dB (dCmp gtA (dVar 4) (dCon (.int 2)))) (r__law_list_3_a_1) (dNext)) r__law_list_4
abbrev r__law_list_2 : DS := dSeq (dSet 5 (dCall F__law_facts 4 [] [(true, dVar 0), (false, dVar 1), (true, dCall F__law_draw 2 [] [(true, dVar 0), (true, dOp2 addD (dVar 2) (dCon (.int 1)))]), (true, dCmp gtA (dVar 4) (dCon (.int 0)))])) r__law_list_3
abbrev r__law_list_1 : DS := dSeq (dPar 3 4 true true (dBi (lenD) [(true, dVar 1)]) (dCall F__law_draw 2 [] [(true, dVar 0), (true, dCon (.int 5))])) r__law_list_2
def F__law_list : Fn := runFn 6 r__law_list_1
/-- is_integer: 0 value, 1 low, 2 high -/
abbrev r_is_integer_1_a_1 : DS := dRet (dCon (.bl false))
abbrev r_is_integer_2 : DS := dRet (dAndV (dCmp leC (dVar 1) (dVar 0)) (dOrV (dCmp isNC (dVar 2) (dCon .non)) (dCmp leC (dVar 0) (dVar 2))))
abbrev r_is_integer_1 : DS := dSeq (dIf (dOr (dNot (dTr (dIsi .int (dVar 0)))) (dTr (dIsi .bool (dVar 0)))) (r_is_integer_1_a_1) (dNext)) r_is_integer_2
def F_is_integer : Fn := runFn 3 r_is_integer_1
/-- need_count: 0 count, 1 most -/
abbrev r_need_count_1_a_1 : DS := mStuck
abbrev r_need_count_1 : DS := dIf (dNot (dTr (dBor (dCall F_is_integer 3 [] [(false, dVar 0), (true, dCon (.int 1)), (false, dVar 1)])))) (r_need_count_1_a_1) (dNext)
def F_need_count : Fn := runFn 2 r_need_count_1
/-- fits_fact: 0 count, 1 value, 2 sign -/
abbrev r_fits_fact_1_a_1 : DS := dRet (dCon (.bl false))
abbrev r_fits_fact_2 : DS := dRet (dBi (scB allV) [(true, dLc [2] (iAny (dVar 1)) (.one 2) (pure true) (dCmp inB (dVar 2) (dTup [(false, dCon (.str "W")), (false, dCon (.str "L")), (false, dCon (.str "."))])))])
abbrev r_fits_fact_1 : DS := dSeq (dIf (dOr (dNot (dTr (dIsi .str (dVar 1)))) (dB (dCmp neD (dBi (lenD) [(true, dVar 1)]) (dVar 0)))) (r_fits_fact_1_a_1) (dNext)) r_fits_fact_2
def F_fits_fact : Fn := runFn 3 r_fits_fact_1
/-- need_facts: 0 count, 1 facts, 2 fact -/
abbrev r_need_facts_1_a_1 : DS := mStuck
abbrev r_need_facts_1 : DS := dIf (dOr (dNot (dTr (dIsi .list (dVar 1)))) (dOr (dB (dCmp gtA (dBi (lenD) [(true, dVar 1)]) (dCon (.int 200)))) (dNot (dTr (dBi (scB allV) [(true, dLc [2] (iAny (dVar 1)) (.one 2) (pure true) (dBor (dCall F_fits_fact 2 [] [(false, dVar 0), (false, dVar 2)])))]))))) (r_need_facts_1_a_1) (dNext)
def F_need_facts : Fn := runFn 3 r_need_facts_1
/-- need_count_and_facts: 0 count, 1 facts, 2 most -/
abbrev r_need_count_and_facts_2 : DS := dExpr (dCall F_need_facts 2 [] [(false, dVar 0), (false, dVar 1)])
abbrev r_need_count_and_facts_1 : DS := dSeq (dExpr (dCall F_need_count 2 [] [(false, dVar 0), (false, dVar 2)])) r_need_count_and_facts_2
def F_need_count_and_facts : Fn := runFn 3 r_need_count_and_facts_1
/-- rules_with: 0 fact, 1 sign, 2 rule, 3 there -/
abbrev r_rules_with_1 : DS := dRet (dLc [2, 3] (iEnumA [(false, dVar 0)]) (.many [2, 3]) (dB (dCmp eqD (dVar 3) (dVar 1))) (dVar 2))
def F_rules_with : Fn := runFn 4 r_rules_with_1
/-- mask_of: 0 fact, 1 sign, 2 rule -/
abbrev r_mask_of_1 : DS := dRet (dBi (scB sumV) [(true, dLc [2] (iLst (dCall F_rules_with 2 [] [(false, dVar 0), (false, dVar 1)])) (.one 2) (pure true) (dOp2 shlD (dCon (.int 1)) (dVar 2)))])
def F_mask_of : Fn := runFn 3 r_mask_of_1
/-- layered: 0 count, 1 facts, 2 placed, 3 left, 4 index, 5 fact, 6 front, 7 layer, 8 whole, 9 closed, 10 wins, 11 losses, 12 free, 13 rule, 14 one -/
abbrev r_layered_3_l_1_a_1 : DS := dExpr (dMut 3 appG [(false, dTup [(false, dVar 4), (false, dBor (dCall F_mask_of 2 ([.str "W"].map .con) [(false, dVar 5)])), (false, dBor (dCall F_mask_of 2 [] [(false, dVar 5), (false, dCon (.str "L"))]))])])
abbrev r_layered_3_l_1 : DS := dIf (dB (dCmp neD (dVar 5) (dOp2 mulT (dCon (.str ".")) (dVar 0)))) (r_layered_3_l_1_a_1) (dNext)
abbrev r_layered_5_l_2_l_1 : DS := dSet 9 (dOp2 orD (dVar 9) (dVar 11))
abbrev r_layered_5_l_4_a_1 : DS := dRet (dTup [(false, dLst []), (false, dLc [4, 10, 11] (iAny (dVar 3)) (.many [4, 10, 11]) (pure true) (dVar 4))])
abbrev r_layered_5_l_8 : DS := dSet 7 (dOp2 addD (dVar 7) (dCon (.int 1)))
abbrev r_layered_5_l_7 : DS := dSeq (dSet 6 (dOp2 orD (dVar 6) (dVar 12))) r_layered_5_l_8
abbrev r_layered_5_l_6 : DS := dSeq (dSet 3 (dLc [14] (iAny (dVar 3)) (.one 14) (dB (dCmp eqD (dOp2 andD (dOp2 ixD (dVar 14) (dCon (.int 1))) (dVar 12)) (dCon (.int 0)))) (dVar 14))) r_layered_5_l_7
abbrev r_layered_5_l_5 : DS := dSeq (dExpr (dExt 2 (dLc [13] (iRng rng1 [(true, dVar 0)]) (.one 13) (dB (dCmp eqD (dOp2 andD (dOp2 shrD (dVar 12) (dVar 13)) (dCon (.int 1))) (dCon (.int 1)))) (dTup [(false, dVar 13), (false, dVar 7)])))) r_layered_5_l_6
abbrev r_layered_5_l_4 : DS := dSeq (dIf (dB (dCmp eqD (dVar 12) (dCon (.int 0)))) (r_layered_5_l_4_a_1) (dNext)) r_layered_5_l_5
abbrev r_layered_5_l_3 : DS := dSeq (dSet 12 (dOp2 xorD (dVar 8) (dVar 9))) r_layered_5_l_4
abbrev r_layered_5_l_2 : DS := dSeq (dFgB [4, 10, 11] (dFor (iAny (dVar 3)) (.many [4, 10, 11]) (dFgE [4, 10, 11] (r_layered_5_l_2_l_1)))) r_layered_5_l_3
abbrev r_layered_5_l_1 : DS := dSeq (dSet 9 (dVar 6)) r_layered_5_l_2
abbrev r_layered_6 : DS := dRet (dTup [(false, dLc [13, 7] (iLst (dBi (sortA) [(true, dVar 2)])) (.many [13, 7]) (pure true) (dVar 7)), (false, dLst [])])
abbrev r_layered_5 : DS := dSeq (dFgB [4, 9, 10, 11, 12] (dWhile (dB (dCmp neD (dVar 6) (dVar 8))) (dFgE [4, 9, 10, 11, 12] (r_layered_5_l_1)))) r_layered_6
abbrev r_layered_4 : DS := dSeq (dUnp (.many [6, 7, 8]) (dTup [(false, dCon (.int 0)), (false, dCon (.int 0)), (false, dOp2 subD (dOp2 shlD (dCon (.int 1)) (dVar 0)) (dCon (.int 1)))])) r_layered_5
abbrev r_layered_3 : DS := dSeq (dFgB [4, 5] (dFor (iEnumA [(false, dVar 1)]) (.many [4, 5]) (dFgE [4, 5] (r_layered_3_l_1)))) r_layered_4
abbrev r_layered_2 : DS := dSeq (dSet 3 (dLst [])) r_layered_3
abbrev r_layered_1 : DS := dSeq (dSet 2 (dLst [])) r_layered_2
def F_layered : Fn := runFn 15 r_layered_1
abbrev r_layered_p0_3_l_1_a_1 : DS := dExpr (dMut 3 appG [(false, dTup [(false, dVar 4), (false, dBor (dCall F_mask_of 2 ([.str "W"].map .con) [(false, dVar 5)])), (false, dBor (dCall F_mask_of 2 [] [(false, dVar 5), (false, dCon (.str "L"))]))])])
abbrev r_layered_p0_3_l_1 : DS := dIf (dB (dCmp neD (dVar 5) (dOp2 mulT (dCon (.str ".")) (dVar 0)))) (r_layered_p0_3_l_1_a_1) (dNext)
abbrev r_layered_p0_5_l_2_l_1 : DS := dSet 9 (dOp2 orD (dVar 9) (dVar 11))
abbrev r_layered_p0_5_l_4_a_1 : DS := dRet0 [(true, dLst []), (true, dLc [4, 10, 11] (iAny (dVar 3)) (.many [4, 10, 11]) (pure true) (dVar 4))]
abbrev r_layered_p0_5_l_8 : DS := dSet 7 (dOp2 addD (dVar 7) (dCon (.int 1)))
abbrev r_layered_p0_5_l_7 : DS := dSeq (dSet 6 (dOp2 orD (dVar 6) (dVar 12))) r_layered_p0_5_l_8
abbrev r_layered_p0_5_l_6 : DS := dSeq (dSet 3 (dLc [14] (iAny (dVar 3)) (.one 14) (dB (dCmp eqD (dOp2 andD (dOp2 ixD (dVar 14) (dCon (.int 1))) (dVar 12)) (dCon (.int 0)))) (dVar 14))) r_layered_p0_5_l_7
abbrev r_layered_p0_5_l_5 : DS := dSeq (dExpr (dExt 2 (dLc [13] (iRng rng1 [(true, dVar 0)]) (.one 13) (dB (dCmp eqD (dOp2 andD (dOp2 shrD (dVar 12) (dVar 13)) (dCon (.int 1))) (dCon (.int 1)))) (dTup [(false, dVar 13), (false, dVar 7)])))) r_layered_p0_5_l_6
abbrev r_layered_p0_5_l_4 : DS := dSeq (dIf (dB (dCmp eqD (dVar 12) (dCon (.int 0)))) (r_layered_p0_5_l_4_a_1) (dNext)) r_layered_p0_5_l_5
abbrev r_layered_p0_5_l_3 : DS := dSeq (dSet 12 (dOp2 xorD (dVar 8) (dVar 9))) r_layered_p0_5_l_4
abbrev r_layered_p0_5_l_2 : DS := dSeq (dFgB [4, 10, 11] (dFor (iAny (dVar 3)) (.many [4, 10, 11]) (dFgE [4, 10, 11] (r_layered_p0_5_l_2_l_1)))) r_layered_p0_5_l_3
abbrev r_layered_p0_5_l_1 : DS := dSeq (dSet 9 (dVar 6)) r_layered_p0_5_l_2
abbrev r_layered_p0_6 : DS := dRet0 [(true, dLc [13, 7] (iLst (dBi (sortA) [(true, dVar 2)])) (.many [13, 7]) (pure true) (dVar 7)), (true, dLst [])]
abbrev r_layered_p0_5 : DS := dSeq (dFgB [4, 9, 10, 11, 12] (dWhile (dB (dCmp neD (dVar 6) (dVar 8))) (dFgE [4, 9, 10, 11, 12] (r_layered_p0_5_l_1)))) r_layered_p0_6
abbrev r_layered_p0_4 : DS := dSeq (dUnp (.many [6, 7, 8]) (dTup [(false, dCon (.int 0)), (false, dCon (.int 0)), (false, dOp2 subD (dOp2 shlD (dCon (.int 1)) (dVar 0)) (dCon (.int 1)))])) r_layered_p0_5
abbrev r_layered_p0_3 : DS := dSeq (dFgB [4, 5] (dFor (iEnumA [(false, dVar 1)]) (.many [4, 5]) (dFgE [4, 5] (r_layered_p0_3_l_1)))) r_layered_p0_4
abbrev r_layered_p0_2 : DS := dSeq (dSet 3 (dLst [])) r_layered_p0_3
abbrev r_layered_p0_1 : DS := dSeq (dSet 2 (dLst [])) r_layered_p0_2
def F_layered_p0 : Fn := runFnP 15 r_layered_p0_1
abbrev r_layered_p1_3_l_1_a_1 : DS := dExpr (dMut 3 appG [(false, dTup [(false, dVar 4), (false, dBor (dCall F_mask_of 2 ([.str "W"].map .con) [(false, dVar 5)])), (false, dBor (dCall F_mask_of 2 [] [(false, dVar 5), (false, dCon (.str "L"))]))])])
abbrev r_layered_p1_3_l_1 : DS := dIf (dB (dCmp neD (dVar 5) (dOp2 mulT (dCon (.str ".")) (dVar 0)))) (r_layered_p1_3_l_1_a_1) (dNext)
abbrev r_layered_p1_5_l_2_l_1 : DS := dSet 9 (dOp2 orD (dVar 9) (dVar 11))
abbrev r_layered_p1_5_l_4_a_1 : DS := dRet1 [(true, dLst []), (true, dLc [4, 10, 11] (iAny (dVar 3)) (.many [4, 10, 11]) (pure true) (dVar 4))]
abbrev r_layered_p1_5_l_8 : DS := dSet 7 (dOp2 addD (dVar 7) (dCon (.int 1)))
abbrev r_layered_p1_5_l_7 : DS := dSeq (dSet 6 (dOp2 orD (dVar 6) (dVar 12))) r_layered_p1_5_l_8
abbrev r_layered_p1_5_l_6 : DS := dSeq (dSet 3 (dLc [14] (iAny (dVar 3)) (.one 14) (dB (dCmp eqD (dOp2 andD (dOp2 ixD (dVar 14) (dCon (.int 1))) (dVar 12)) (dCon (.int 0)))) (dVar 14))) r_layered_p1_5_l_7
abbrev r_layered_p1_5_l_5 : DS := dSeq (dExpr (dExt 2 (dLc [13] (iRng rng1 [(true, dVar 0)]) (.one 13) (dB (dCmp eqD (dOp2 andD (dOp2 shrD (dVar 12) (dVar 13)) (dCon (.int 1))) (dCon (.int 1)))) (dTup [(false, dVar 13), (false, dVar 7)])))) r_layered_p1_5_l_6
abbrev r_layered_p1_5_l_4 : DS := dSeq (dIf (dB (dCmp eqD (dVar 12) (dCon (.int 0)))) (r_layered_p1_5_l_4_a_1) (dNext)) r_layered_p1_5_l_5
abbrev r_layered_p1_5_l_3 : DS := dSeq (dSet 12 (dOp2 xorD (dVar 8) (dVar 9))) r_layered_p1_5_l_4
abbrev r_layered_p1_5_l_2 : DS := dSeq (dFgB [4, 10, 11] (dFor (iAny (dVar 3)) (.many [4, 10, 11]) (dFgE [4, 10, 11] (r_layered_p1_5_l_2_l_1)))) r_layered_p1_5_l_3
abbrev r_layered_p1_5_l_1 : DS := dSeq (dSet 9 (dVar 6)) r_layered_p1_5_l_2
abbrev r_layered_p1_6 : DS := dRet1 [(true, dLc [13, 7] (iLst (dBi (sortA) [(true, dVar 2)])) (.many [13, 7]) (pure true) (dVar 7)), (true, dLst [])]
abbrev r_layered_p1_5 : DS := dSeq (dFgB [4, 9, 10, 11, 12] (dWhile (dB (dCmp neD (dVar 6) (dVar 8))) (dFgE [4, 9, 10, 11, 12] (r_layered_p1_5_l_1)))) r_layered_p1_6
abbrev r_layered_p1_4 : DS := dSeq (dUnp (.many [6, 7, 8]) (dTup [(false, dCon (.int 0)), (false, dCon (.int 0)), (false, dOp2 subD (dOp2 shlD (dCon (.int 1)) (dVar 0)) (dCon (.int 1)))])) r_layered_p1_5
abbrev r_layered_p1_3 : DS := dSeq (dFgB [4, 5] (dFor (iEnumA [(false, dVar 1)]) (.many [4, 5]) (dFgE [4, 5] (r_layered_p1_3_l_1)))) r_layered_p1_4
abbrev r_layered_p1_2 : DS := dSeq (dSet 3 (dLst [])) r_layered_p1_3
abbrev r_layered_p1_1 : DS := dSeq (dSet 2 (dLst [])) r_layered_p1_2
def F_layered_p1 : Fn := runFnP 15 r_layered_p1_1
/-- is_barred: 0 count, 1 facts -/
abbrev r_is_barred_1 : DS := dRet (dCmp neD (dOp2 ixD (dCall F_layered 2 [] [(false, dVar 0), (false, dVar 1)]) (dCon (.int 1))) (dLst []))
def F_is_barred : Fn := runFn 2 r_is_barred_1
/-- lacking_rule: 0 count, 1 facts, 2 rule, 3 signs, 4 fact -/
abbrev r_lacking_rule_1_l_2_a_1 : DS := dRet (dVar 2)
abbrev r_lacking_rule_1_l_2 : DS := dIf (dAnd (dB (dCmp inB (dCon (.str "W")) (dVar 3))) (dB (dCmp notInB (dCon (.str "L")) (dVar 3)))) (r_lacking_rule_1_l_2_a_1) (dNext)
abbrev r_lacking_rule_1_l_1 : DS := dSeq (dSet 3 (dLc [4] (iAny (dVar 1)) (.one 4) (pure true) (dOp2 ixD (dVar 4) (dVar 2)))) r_lacking_rule_1_l_2
abbrev r_lacking_rule_2 : DS := dRet (dCon .non)
abbrev r_lacking_rule_1 : DS := dSeq (dFgB [2, 3] (dFor (iRng rng1 [(true, dVar 0)]) (.one 2) (dFgE [2, 3] (r_lacking_rule_1_l_1)))) r_lacking_rule_2
def F_lacking_rule : Fn := runFn 5 r_lacking_rule_1
/-- covering: 0 count, 1 facts, 2 indices, 3 found, 4 rule, 5 index -/
abbrev r_covering_3_l_2 : DS := dSet 4 (dCall F_lacking_rule 2 [] [(false, dVar 0), (true, dLnd (dLc [5] (iAny (dVar 3)) (.one 5) (pure true) (dOp2 ixD (dVar 1) (dVar 5))))])
abbrev r_covering_3_l_1 : DS := dSeq (dExpr (dMut 3 appG [(false, dOp2 ixD (dLc [5] (iAny (dVar 2)) (.one 5) (dB (dCmp eqD (dOp2 ixD (dOp2 ixD (dVar 1) (dVar 5)) (dVar 4)) (dCon (.str "L")))) (dVar 5)) (dCon (.int 0)))])) r_covering_3_l_2
abbrev r_covering_4 : DS := dRet (dBi (sortA) [(true, dVar 3)])
abbrev r_covering_3 : DS := dSeq (dFgB [] (dWhile (dB (dCmp notNC (dVar 4) (dCon .non))) (dFgE [] (r_covering_3_l_1)))) r_covering_4
abbrev r_covering_2 : DS := dSeq (dSet 4 (dCall F_lacking_rule 2 [] [(false, dVar 0), (true, dLnd (dLc [5] (iAny (dVar 3)) (.one 5) (pure true) (dOp2 ixD (dVar 1) (dVar 5))))])) r_covering_3
abbrev r_covering_1 : DS := dSeq (dSet 3 (dLst [(false, dOp2 ixD (dVar 2) (dCon (.int 0)))])) r_covering_2
def F_covering : Fn := runFn 6 r_covering_1
/-- least_barring: 0 count, 1 facts, 2 left, 3 kept, 4 index, 5 fewer, 6 rest, 7 other, 8 place -/
abbrev r_least_barring_2_a_1 : DS := dRet (dCon .non)
abbrev r_least_barring_4_l_1_a_3_a_1 : DS := dSet 3 (dLc [8] (iAny (dVar 6)) (.one 8) (pure true) (dOp2 ixD (dVar 5) (dVar 8)))
abbrev r_least_barring_4_l_1_a_3 : DS := dIf (dB (dCmp neD (dVar 6) (dLst []))) (r_least_barring_4_l_1_a_3_a_1) (dNext)
abbrev r_least_barring_4_l_1_a_2 : DS := dSeq (dSet 6 (dCall F_layered_p1 2 [] [(false, dVar 0), (true, dLc [7] (iAny (dVar 5)) (.one 7) (pure true) (dOp2 ixD (dVar 1) (dVar 7)))])) r_least_barring_4_l_1_a_3
abbrev r_least_barring_4_l_1_a_1 : DS := dSeq (dSet 5 (dLc [7] (iAny (dVar 3)) (.one 7) (dB (dCmp neD (dVar 7) (dVar 4))) (dVar 7))) r_least_barring_4_l_1_a_2
abbrev r_least_barring_4_l_1 : DS := dIf (dB (dCmp inB (dVar 4) (dVar 3))) (r_least_barring_4_l_1_a_1) (dNext)
abbrev r_least_barring_5 : DS := dRet (dVar 3)
abbrev r_least_barring_4 : DS := dSeq (dFgB [4, 5, 6] (dFor (iLst (dBi (listD) [(true, dVar 3)])) (.one 4) (dFgE [4, 5, 6] (r_least_barring_4_l_1)))) r_least_barring_5
abbrev r_least_barring_3 : DS := dSeq (dSet 3 (dCall F_covering 3 [] [(false, dVar 0), (false, dVar 1), (false, dVar 2)])) r_least_barring_4
abbrev r_least_barring_2 : DS := dSeq (dIf (dB (dCmp eqD (dVar 2) (dLst []))) (r_least_barring_2_a_1) (dNext)) r_least_barring_3
abbrev r_least_barring_1 : DS := dSeq (dSet 2 (dCall F_layered_p1 2 [] [(false, dVar 0), (false, dVar 1)])) r_least_barring_2
def F_least_barring : Fn := runFn 9 r_least_barring_1
/-- need_together: 0 count, 1 facts -/
abbrev r_need_together_1_a_1 : DS := dRaiseF "Barred" "indices" (dCall F_least_barring 2 [] [(false, dVar 0), (false, dVar 1)])
abbrev r_need_together_1 : DS := dIf (dTr (dBor (dCall F_is_barred 2 [] [(false, dVar 0), (false, dVar 1)]))) (r_need_together_1_a_1) (dNext)
def F_need_together : Fn := runFn 2 r_need_together_1
/-- masks_of: 0 count, 1 facts, 2 found, 3 pairs, 4 rule, 5 fact, 6 mask -/
abbrev r_masks_of_3_l_1 : DS := dExpr (dMut 2 appG [(false, dSs [5, 6] (iAny (dVar 3)) (.many [5, 6]) (dB (dCmp eqD (dOp2 ixD (dVar 5) (dVar 4)) (dCon (.str "L")))) (dVar 6))])
abbrev r_masks_of_4 : DS := dRet (dVar 2)
abbrev r_masks_of_3 : DS := dSeq (dFgB [4] (dFor (iRng rng1 [(true, dVar 0)]) (.one 4) (dFgE [4] (r_masks_of_3_l_1)))) r_masks_of_4
abbrev r_masks_of_2 : DS := dSeq (dSet 3 (dLc [5] (iAny (dVar 1)) (.one 5) (pure true) (dTup [(false, dVar 5), (false, dBor (dCall F_mask_of 2 ([.str "W"].map .con) [(false, dVar 5)]))]))) r_masks_of_3
abbrev r_masks_of_1 : DS := dSeq (dSet 2 (dLst [])) r_masks_of_2
def F_masks_of : Fn := runFn 7 r_masks_of_1
/-- can_stand: 0 masks, 1 front, 2 rule, 3 mask -/
abbrev r_can_stand_1 : DS := dRet (dBi (scB allV) [(true, dLc [3] (iAny (dOp2 ixD (dVar 0) (dVar 2))) (.one 3) (pure true) (dCmp neD (dOp2 andD (dVar 3) (dVar 1)) (dCon (.int 0))))])
def F_can_stand : Fn := runFn 4 r_can_stand_1
/-- placeable: 0 masks, 1 front, 2 outside, 3 rule -/
abbrev r_placeable_2 : DS := dRet (dLc [3] (iAny (dVar 2)) (.one 3) (dTr (dBor (dCall F_can_stand 3 [] [(false, dVar 0), (false, dVar 1), (false, dVar 3)]))) (dVar 3))
abbrev r_placeable_1 : DS := dSeq (dSet 2 (dLc [3] (iRng rng1 [(true, dBi (lenD) [(true, dVar 0)])]) (.one 3) (dB (dCmp eqD (dOp2 andD (dOp2 shrD (dVar 1) (dVar 3)) (dCon (.int 1))) (dCon (.int 0)))) (dVar 3))) r_placeable_2
def F_placeable : Fn := runFn 4 r_placeable_1
/-- least_order: 0 count, 1 facts, 2 masks, 3 front, 4 found, 5 place, 6 rule -/
abbrev r_least_order_2_l_3 : DS := dSet 3 (dOp2 orD (dVar 3) (dOp2 shlD (dCon (.int 1)) (dVar 6)))
abbrev r_least_order_2_l_2 : DS := dSeq (dExpr (dMut 4 appG [(false, dVar 6)])) r_least_order_2_l_3
abbrev r_least_order_2_l_1 : DS := dSeq (dSet 6 (dOp2 ixD (dCall F_placeable 2 [] [(false, dVar 2), (false, dVar 3)]) (dCon (.int 0)))) r_least_order_2_l_2
abbrev r_least_order_3 : DS := dRet (dVar 4)
abbrev r_least_order_2 : DS := dSeq (dFgB [5, 6] (dFor (iRng rng1 [(true, dVar 0)]) (.one 5) (dFgE [5, 6] (r_least_order_2_l_1)))) r_least_order_3
abbrev r_least_order_1 : DS := dSeq (dPar3 2 3 4 true true true (dCall F_masks_of 2 [] [(false, dVar 0), (false, dVar 1)]) (dCon (.int 0)) (dLst [])) r_least_order_2
def F_least_order : Fn := runFn 7 r_least_order_1
/-- order_of: 0 count, 1 facts -/
abbrev r_order_of_3 : DS := dRet (dCall F_least_order 2 [] [(false, dVar 0), (false, dVar 1)])
abbrev r_order_of_2 : DS := dSeq (dExpr (dCall F_need_together 2 [] [(false, dVar 0), (false, dVar 1)])) r_order_of_3
abbrev r_order_of_1 : DS := dSeq (dExpr (dCall F_need_count_and_facts 3 ([.int 60].map .con) [(false, dVar 0), (false, dVar 1)])) r_order_of_2
def F_order_of : Fn := runFn 2 r_order_of_1
/-- layers_of: 0 count, 1 facts -/
abbrev r_layers_of_3 : DS := dRet (dCall F_layered_p0 2 [] [(false, dVar 0), (false, dVar 1)])
abbrev r_layers_of_2 : DS := dSeq (dExpr (dCall F_need_together 2 [] [(false, dVar 0), (false, dVar 1)])) r_layers_of_3
abbrev r_layers_of_1 : DS := dSeq (dExpr (dCall F_need_count_and_facts 3 ([.int 60].map .con) [(false, dVar 0), (false, dVar 1)])) r_layers_of_2
def F_layers_of : Fn := runFn 2 r_layers_of_1
/-- _law_asked: 0 _law_count, 1 _law_facts_here, 2 _law_is_least, 3 _law_found, 4 _law_indices_here, 5 e -/
abbrev r__law_asked_2_t_1 : DS := dSet 3 (dIfx (dTr (dVar 2)) (dCall F_order_of 2 [] [(false, dVar 0), (false, dVar 1)]) (dCall F_layers_of 2 [] [(false, dVar 0), (false, dVar 1)]))
abbrev r__law_asked_3 : DS := dRet (dTup [(false, dVar 3), (false, dVar 4)])
abbrev r__law_asked_2 : DS := dSeq (dTry 5 [("Barred", true)] (r__law_asked_2_t_1) fun x => dSet 4 (dXf x "Barred" "indices")) r__law_asked_3
abbrev r__law_asked_1 : DS := dSeq (dUnp (.many [3, 4]) (dTup [(false, dCon .non), (false, dCon .non)])) r__law_asked_2
def F__law_asked : Fn := runFn 6 r__law_asked_1
/-- barring_set: 0 count, 1 facts -/
abbrev r_barring_set_2 : DS := dRet (dCall F_least_barring 2 [] [(false, dVar 0), (false, dVar 1)])
abbrev r_barring_set_1 : DS := dSeq (dExpr (dCall F_need_count_and_facts 3 ([.int 60].map .con) [(false, dVar 0), (false, dVar 1)])) r_barring_set_2
def F_barring_set : Fn := runFn 2 r_barring_set_1
/-- need_layers: 0 layers, 1 is_list, 2 layer -/
abbrev r_need_layers_2_a_1 : DS := mStuck
abbrev r_need_layers_2 : DS := dIf (dOr (dNot (dTr (dVar 1))) (dNot (dTr (dBi (scB allV) [(true, dLc [2] (iAny (dVar 0)) (.one 2) (pure true) (dBor (dCall F_is_integer 3 [] [(false, dVar 2), (true, dCon (.int 0)), (true, dOp2 subD (dCon (.int 60)) (dCon (.int 1)))])))])))) (r_need_layers_2_a_1) (dNext)
abbrev r_need_layers_1 : DS := dSeq (dSet 1 (dAndV (dIsi .list (dVar 0)) (dChain leC leC (dCon (.int 1)) (dBi (lenD) [(true, dVar 0)]) (dCon (.int 60))))) r_need_layers_2
def F_need_layers : Fn := runFn 3 r_need_layers_1
/-- holds_by_layers: 0 layers, 1 fact, 2 losers, 3 winners, 4 rule -/
abbrev r_holds_by_layers_3 : DS := dRet (dOrV (dCmp eqD (dVar 2) (dLst [])) (dAndV (dCmp neD (dVar 3) (dLst [])) (dCmp ltC (dBi (scB minLV) [(true, dVar 3)]) (dBi (scB minLV) [(true, dVar 2)]))))
abbrev r_holds_by_layers_2 : DS := dSeq (dSet 3 (dLc [4] (iLst (dCall F_rules_with 2 [] [(false, dVar 1), (false, dCon (.str "W"))])) (.one 4) (pure true) (dOp2 ixD (dVar 0) (dVar 4)))) r_holds_by_layers_3
abbrev r_holds_by_layers_1 : DS := dSeq (dSet 2 (dLc [4] (iLst (dCall F_rules_with 2 [] [(false, dVar 1), (false, dCon (.str "L"))])) (.one 4) (pure true) (dOp2 ixD (dVar 0) (dVar 4)))) r_holds_by_layers_2
def F_holds_by_layers : Fn := runFn 5 r_holds_by_layers_1
/-- hold_in_layers: 0 layers, 1 facts, 2 fact -/
abbrev r_hold_in_layers_3 : DS := dRet (dBi (scB allV) [(true, dLc [2] (iAny (dVar 1)) (.one 2) (pure true) (dBor (dCall F_holds_by_layers 2 [] [(false, dVar 0), (false, dVar 2)])))])
abbrev r_hold_in_layers_2 : DS := dSeq (dExpr (dCall F_need_facts 2 [] [(true, dBi (lenD) [(true, dVar 0)]), (false, dVar 1)])) r_hold_in_layers_3
abbrev r_hold_in_layers_1 : DS := dSeq (dExpr (dCall F_need_layers 1 [] [(false, dVar 0)])) r_hold_in_layers_2
def F_hold_in_layers : Fn := runFn 3 r_hold_in_layers_1
/-- _law_is_order: 0 _law_count, 1 _law_facts_here, 2 _law_found, 3 _law_rule, 4 _law_fact_here -/
abbrev r__law_is_order_1_a_1 : DS := dRet (dCon (.bl false))
abbrev r__law_is_order_2_a_1 : DS := dRet (dCon (.bl false))
abbrev r__law_is_order_3_a_1 : DS := dRet (dCon (.bl false))
abbrev r__law_is_order_4 : DS := dRet (dCmp eqD (dLc [4] (iAny (dVar 1)) (.one 4) (dB (dCmp eqD (dCall F__law_first 2 [] [(false, dVar 2), (false, dVar 4)]) (dCon (.str "L")))) (dVar 4)) (dLst []))
abbrev r__law_is_order_3 : DS := dSeq (dIf (dB (dCmp neD (dLc [3] (iRng rng1 [(true, dVar 0)]) (.one 3) (dB (dCmp notInB (dVar 3) (dVar 2))) (dVar 3)) (dLst []))) (r__law_is_order_3_a_1) (dNext)) r__law_is_order_4
abbrev r__law_is_order_2 : DS := dSeq (dIf (dB (dCmp neD (dLc [3] (iAny (dVar 2)) (.one 3) (dOr (dNot (dTr (dIsi .int (dVar 3)))) (dTr (dIsi .bool (dVar 3)))) (dVar 3)) (dLst []))) (r__law_is_order_2_a_1) (dNext)) r__law_is_order_3
abbrev r__law_is_order_1 : DS := dSeq (dIf (dOr (dNot (dTr (dIsi .list (dVar 2)))) (dB (dCmp neD (dBi (lenD) [(true, dVar 2)]) (dVar 0)))) (r__law_is_order_1_a_1) (dNext)) r__law_is_order_2
def F__law_is_order : Fn := runFn 5 r__law_is_order_1
/-- by_layers: 0 layers, 1 layer, 2 rule -/
abbrev r_by_layers_1 : DS := dRet (dLc [1, 2] (iLst (dBi (sortA) [(true, dLc [2, 1] (iEnumA [(false, dVar 0)]) (.many [2, 1]) (pure true) (dTup [(false, dVar 1), (false, dVar 2)]))])) (.many [1, 2]) (pure true) (dVar 2))
def F_by_layers : Fn := runFn 3 r_by_layers_1
/-- order_by_layers: 0 layers -/
abbrev r_order_by_layers_2 : DS := dRet (dCall F_by_layers 1 [] [(false, dVar 0)])
abbrev r_order_by_layers_1 : DS := dSeq (dExpr (dCall F_need_layers 1 [] [(false, dVar 0)])) r_order_by_layers_2
def F_order_by_layers : Fn := runFn 1 r_order_by_layers_1
/-- _law_good_layers: 0 _law_count, 1 _law_facts_here, 2 _law_layers, 3 _law_fact_here, 4 _law_lower, 5 _law_upper, 6 _law_layer, 7 _law_k -/
abbrev r__law_good_layers_1_a_1 : DS := dRet (dCon (.bl false))
abbrev r__law_good_layers_2_a_1 : DS := dRet (dCon (.bl false))
abbrev r__law_good_layers_3_a_1 : DS := dRet (dCon (.bl false))
abbrev r__law_good_layers_4_l_3_a_1 : DS := dRet (dCon (.bl false))
abbrev r__law_good_layers_4_l_3 : DS := dIf (dAnd (dB (dCmp neD (dVar 4) (dLst []))) (dOr (dB (dCmp eqD (dVar 5) (dLst []))) (dB (dCmp geA (dBi (scB minLV) [(true, dVar 5)]) (dBi (scB minLV) [(true, dVar 4)]))))) (r__law_good_layers_4_l_3_a_1) (dNext)
abbrev r__law_good_layers_4_l_2 : DS := dSeq (dSet 5 (dLc [7] (iRng rng1 [(true, dVar 0)]) (.one 7) (dB (dCmp eqD (dOp2 ixD (dVar 3) (dVar 7)) (dCon (.str "W")))) (dOp2 ixD (dVar 2) (dVar 7)))) r__law_good_layers_4_l_3
abbrev r__law_good_layers_4_l_1 : DS := dSeq (dSet 4 (dLc [7] (iRng rng1 [(true, dVar 0)]) (.one 7) (dB (dCmp eqD (dOp2 ixD (dVar 3) (dVar 7)) (dCon (.str "L")))) (dOp2 ixD (dVar 2) (dVar 7)))) r__law_good_layers_4_l_2
abbrev r__law_good_layers_5 : DS := dRet (dBor (dCall F__law_is_order 3 [] [(false, dVar 0), (false, dVar 1), (true, dCall F_order_by_layers 1 [] [(false, dVar 2)])]))
abbrev r__law_good_layers_4 : DS := dSeq (dFgB [3, 4, 5] (dFor (iAny (dVar 1)) (.one 3) (dFgE [3, 4, 5] (r__law_good_layers_4_l_1)))) r__law_good_layers_5
abbrev r__law_good_layers_3 : DS := dSeq (dIf (dOr (dB (dCmp neD (dLc [6] (iAny (dVar 2)) (.one 6) (dNot (dB (dChain leC ltC (dCon (.int 0)) (dVar 6) (dCon (.int 60))))) (dVar 6)) (dLst []))) (dB (dCmp notBD (dBor (dCall F_hold_in_layers 2 [] [(false, dVar 2), (false, dVar 1)])) (dCon (.bl true))))) (r__law_good_layers_3_a_1) (dNext)) r__law_good_layers_4
abbrev r__law_good_layers_2 : DS := dSeq (dIf (dB (dCmp neD (dLc [6] (iAny (dVar 2)) (.one 6) (dOr (dNot (dTr (dIsi .int (dVar 6)))) (dTr (dIsi .bool (dVar 6)))) (dVar 6)) (dLst []))) (r__law_good_layers_2_a_1) (dNext)) r__law_good_layers_3
abbrev r__law_good_layers_1 : DS := dSeq (dIf (dOr (dNot (dTr (dIsi .list (dVar 2)))) (dB (dCmp neD (dBi (lenD) [(true, dVar 2)]) (dVar 0)))) (r__law_good_layers_1_a_1) (dNext)) r__law_good_layers_2
def F__law_good_layers : Fn := runFn 8 r__law_good_layers_1
/-- _law_indices: 0 _law_found, 1 _law_many, 2 _law_k -/
abbrev r__law_indices_1_a_1 : DS := dRet (dCon (.bl false))
abbrev r__law_indices_2_a_1 : DS := dRet (dCon (.bl false))
abbrev r__law_indices_3 : DS := dRet (dCmp eqD (dLc [2] (iRng rng2 [(true, dCon (.int 1)), (true, dBi (lenD) [(true, dVar 0)])]) (.one 2) (dB (dCmp geA (dOp2 ixD (dVar 0) (dOp2 subD (dVar 2) (dCon (.int 1)))) (dOp2 ixD (dVar 0) (dVar 2)))) (dVar 2)) (dLst []))
abbrev r__law_indices_2 : DS := dSeq (dIf (dB (dCmp neD (dLc [2] (iAny (dVar 0)) (.one 2) (dNot (dB (dChain leC ltC (dCon (.int 0)) (dVar 2) (dVar 1)))) (dVar 2)) (dLst []))) (r__law_indices_2_a_1) (dNext)) r__law_indices_3
abbrev r__law_indices_1 : DS := dSeq (dIf (dOr (dNot (dTr (dIsi .list (dVar 0)))) (dB (dCmp neD (dLc [2] (iAny (dVar 0)) (.one 2) (dOr (dNot (dTr (dIsi .int (dVar 2)))) (dTr (dIsi .bool (dVar 2)))) (dVar 2)) (dLst [])))) (r__law_indices_1_a_1) (dNext)) r__law_indices_2
def F__law_indices : Fn := runFn 3 r__law_indices_1
/-- _law_bars: 0 _law_count, 1 _law_some, 2 _law_rule, 3 _law_signs, 4 _law_fact_here -/
abbrev r__law_bars_1_a_1 : DS := dRet (dCon (.bl false))
abbrev r__law_bars_2_l_2_a_1 : DS := dRet (dCon (.bl false))
abbrev r__law_bars_2_l_2 : DS := dIf (dAnd (dB (dCmp inB (dCon (.str "W")) (dVar 3))) (dB (dCmp notInB (dCon (.str "L")) (dVar 3)))) (r__law_bars_2_l_2_a_1) (dNext)
abbrev r__law_bars_2_l_1 : DS := dSeq (dSet 3 (dLc [4] (iAny (dVar 1)) (.one 4) (pure true) (dOp2 ixD (dVar 4) (dVar 2)))) r__law_bars_2_l_2
abbrev r__law_bars_3 : DS := dRet (dCon (.bl true))
abbrev r__law_bars_2 : DS := dSeq (dFgB [2, 3] (dFor (iRng rng1 [(true, dVar 0)]) (.one 2) (dFgE [2, 3] (r__law_bars_2_l_1)))) r__law_bars_3
abbrev r__law_bars_1 : DS := dSeq (dIf (dOr (dB (dCmp eqD (dVar 1) (dLst []))) (dB (dCmp inB (dOp2 mulT (dCon (.str ".")) (dVar 0)) (dVar 1)))) (r__law_bars_1_a_1) (dNext)) r__law_bars_2
def F__law_bars : Fn := runFn 5 r__law_bars_1
/-- are_indices: 0 value, 1 many, 2 index, 3 one, 4 other -/
abbrev r_are_indices_1_a_1 : DS := dRet (dCon (.bl false))
abbrev r_are_indices_2 : DS := dRet (dBi (scB allV) [(true, dLc [3, 4] (iZip2 [(false, dVar 0), (false, dSlL (dVar 0) (some (dCon (.int 1))) none)]) (.many [3, 4]) (pure true) (dCmp ltC (dVar 3) (dVar 4)))])
abbrev r_are_indices_1 : DS := dSeq (dIf (dOr (dNot (dTr (dIsi .list (dVar 0)))) (dNot (dTr (dBi (scB allV) [(true, dLc [2] (iAny (dVar 0)) (.one 2) (pure true) (dBor (dCall F_is_integer 3 [] [(false, dVar 2), (true, dCon (.int 0)), (true, dOp2 subD (dVar 1) (dCon (.int 1)))])))])))) (r_are_indices_1_a_1) (dNext)) r_are_indices_2
def F_are_indices : Fn := runFn 5 r_are_indices_1
/-- bars_all: 0 count, 1 facts -/
abbrev r_bars_all_1 : DS := dRet (dAndV (dCmp neD (dVar 1) (dLst [])) (dAndV (dCmp notInB (dOp2 mulT (dCon (.str ".")) (dVar 0)) (dVar 1)) (dCmp isNC (dCall F_lacking_rule 2 [] [(false, dVar 0), (false, dVar 1)]) (dCon .non))))
def F_bars_all : Fn := runFn 2 r_bars_all_1
/-- is_barring_set: 0 count, 1 facts, 2 value, 3 index -/
abbrev r_is_barring_set_2 : DS := dRet (dAndV (dBor (dCall F_are_indices 2 [] [(false, dVar 2), (true, dBi (lenD) [(true, dVar 1)])])) (dBor (dCall F_bars_all 2 [] [(false, dVar 0), (true, dLc [3] (iAny (dVar 2)) (.one 3) (pure true) (dOp2 ixD (dVar 1) (dVar 3)))])))
abbrev r_is_barring_set_1 : DS := dSeq (dExpr (dCall F_need_count_and_facts 3 ([.int 60].map .con) [(false, dVar 0), (false, dVar 1)])) r_is_barring_set_2
def F_is_barring_set : Fn := runFn 4 r_is_barring_set_1
/-- _law_bad: 0 _law_count, 1 _law_facts_here, 2 _law_found, 3 _law_k -/
abbrev r__law_bad_1_a_1 : DS := dRet (dCon (.bl false))
abbrev r__law_bad_2 : DS := dRet (dCmp isBD (dBor (dCall F_is_barring_set 3 [] [(false, dVar 0), (false, dVar 1), (false, dVar 2)])) (dCon (.bl true)))
abbrev r__law_bad_1 : DS := dSeq (dIf (dOr (dNot (dTr (dBor (dCall F__law_indices 2 [] [(false, dVar 2), (true, dBi (lenD) [(true, dVar 1)])])))) (dNot (dTr (dBor (dCall F__law_bars 2 [] [(false, dVar 0), (true, dLc [3] (iAny (dVar 2)) (.one 3) (pure true) (dOp2 ixD (dVar 1) (dVar 3)))]))))) (r__law_bad_1_a_1) (dNext)) r__law_bad_2
def F__law_bad : Fn := runFn 4 r__law_bad_1
/-- _law_told: 0 _law_count, 1 _law_facts_here, 2 _law_layers, 3 _law_first_here, 4 _law_order_here, 5 _law_second, 6 _law_found, 7 _law_good, 8 _law_indices_here, 9 _law_one, 10 _law_some, 11 _law_k -/
abbrev r__law_told_4_a_1_a_1 : DS := dRet (dCon .non)
abbrev r__law_told_4_a_3 : DS := dRet (dIfx (dTr (dVar 7)) (dLst []) (dCon .non))
abbrev r__law_told_4_a_2 : DS := dSeq (dSet 7 (dAndV (dBor (dCall F__law_good_layers 3 [] [(false, dVar 0), (false, dVar 1), (false, dVar 2)])) (dBor (dCall F__law_is_order 3 [] [(false, dVar 0), (false, dVar 1), (false, dVar 4)])))) r__law_told_4_a_3
abbrev r__law_told_4_a_1 : DS := dSeq (dIf (dOr (dB (dCmp notNC (dVar 3) (dCon .non))) (dOr (dB (dCmp notNC (dVar 5) (dCon .non))) (dB (dCmp notNC (dVar 6) (dCon .non))))) (r__law_told_4_a_1_a_1) (dNext)) r__law_told_4_a_2
abbrev r__law_told_5_a_1 : DS := dRet (dCon .non)
abbrev r__law_told_6_l_1_a_1 : DS := dRet (dCon .non)
abbrev r__law_told_6_l_1 : DS := dIf (dNot (dTr (dBor (dCall F__law_bad 3 [] [(false, dVar 0), (false, dVar 1), (false, dVar 8)])))) (r__law_told_6_l_1_a_1) (dNext)
abbrev r__law_told_7_l_2_a_1 : DS := dRet (dCon .non)
abbrev r__law_told_7_l_2 : DS := dIf (dNot (dTr (dBor (dCall F__law_is_order 3 [] [(false, dVar 0), (false, dVar 10), (true, dOp2 ixD (dCall F__law_asked 3 [] [(false, dVar 0), (false, dVar 10), (true, dCon (.bl true))]) (dCon (.int 0)))])))) (r__law_told_7_l_2_a_1) (dNext)
abbrev r__law_told_7_l_1 : DS := dSeq (dSet 10 (dLc [11] (iAny (dVar 6)) (.one 11) (dB (dCmp neD (dVar 11) (dVar 9))) (dOp2 ixD (dVar 1) (dVar 11)))) r__law_told_7_l_2
abbrev r__law_told_8 : DS := dRet (dVar 6)
abbrev r__law_told_7 : DS := dSeq (dFgB [9, 10] (dFor (iAny (dVar 6)) (.one 9) (dFgE [9, 10] (r__law_told_7_l_1)))) r__law_told_8
abbrev r__law_told_6 : DS := dSeq (dFgB [8] (dFor (iLst (dLst [(false, dVar 3), (false, dVar 5), (false, dVar 6)])) (.one 8) (dFgE [8] (r__law_told_6_l_1)))) r__law_told_7
abbrev r__law_told_5 : DS := dSeq (dIf (dB (dCmp notNC (dVar 4) (dCon .non))) (r__law_told_5_a_1) (dNext)) r__law_told_6
abbrev r__law_told_4 : DS := dSeq (dIf (dB (dCmp notNC (dVar 2) (dCon .non))) (r__law_told_4_a_1) (dNext)) r__law_told_5
abbrev r__law_told_3 : DS := dSeq (dSet 6 (dCall F_barring_set 2 [] [(false, dVar 0), (false, dVar 1)])) r__law_told_4
abbrev r__law_told_2 : DS := dSeq (dUnp (.many [4, 5]) (dCall F__law_asked 3 [] [(false, dVar 0), (false, dVar 1), (true, dCon (.bl true))])) r__law_told_3
abbrev r__law_told_1 : DS := dSeq (dUnp (.many [2, 3]) (dCall F__law_asked 3 [] [(false, dVar 0), (false, dVar 1), (true, dCon (.bl false))])) r__law_told_2
def F__law_told : Fn := runFn 12 r__law_told_1
/-- _law_right: 0 _law_tap_here, 1 _law_is_large, 2 _law_order_here, 3 _law_count, 4 _law_facts_here, 5 _law_passed, 6 _law_found, 7 _law_first_here, 8 _law_left, 9 _law_turn, 10 _law_out -/
abbrev r__law_right_8_l_1_a_1 : DS := dRet (dCon (.bl false))
abbrev r__law_right_8_l_2_a_3 : DS := dSet 6 (dCall F__law_told 2 [] [(false, dVar 3), (false, dVar 8)])
abbrev r__law_right_8_l_2_a_2 : DS := dSeq (dSet 8 (dOp2 addD (dSlL (dVar 8) none (some (dVar 10))) (dSlL (dVar 8) (some (dOp2 addD (dVar 10) (dCon (.int 1)))) none))) r__law_right_8_l_2_a_3
abbrev r__law_right_8_l_2_a_1 : DS := dSeq (dSet 10 (dOp2 ixD (dVar 6) (dCall F__law_draw 2 [] [(true, dVar 0), (true, dBi (lenD) [(true, dVar 6)])]))) r__law_right_8_l_2_a_2
abbrev r__law_right_8_l_2 : DS := dIf (dB (dCmp neD (dVar 6) (dLst []))) (r__law_right_8_l_2_a_1) (dNext)
abbrev r__law_right_8_l_1 : DS := dSeq (dIf (dB (dCmp isNC (dVar 6) (dCon .non))) (r__law_right_8_l_1_a_1) (dNext)) r__law_right_8_l_2
abbrev r__law_right_9 : DS := dRet (dAndV (dCmp notNC (dVar 6) (dCon .non)) (dAndV (dCmp eqD (dVar 5) (dVar 4)) (dCmp eqD (dCall F__law_told 2 [] [(false, dVar 3), (false, dVar 5)]) (dVar 7))))
abbrev r__law_right_8 : DS := dSeq (dFgB [9, 10] (dFor (iRng rng1 [(true, dCon (.int 4))]) (.one 9) (dFgE [9, 10] (r__law_right_8_l_1)))) r__law_right_9
abbrev r__law_right_7 : DS := dSeq (dPar 7 8 false true (dVar 6) (dBi (listD) [(true, dVar 4)])) r__law_right_8
abbrev r__law_right_6 : DS := dSeq (dSet 6 (dCall F__law_told 2 [] [(false, dVar 3), (false, dVar 5)])) r__law_right_7
abbrev r__law_right_5 : DS := dSeq (dSet 5 (dBi (listD) [(true, dVar 4)])) r__law_right_6
abbrev r__law_right_4 : DS := dSeq (dSet 4 (dCall F__law_list 3 [] [(true, dVar 0), (false, dVar 2), (true, dOp2 ixD (dLst [(false, dCon (.int 12)), (false, dCon (.int 130))]) (dBi (scB intV) [(true, dVar 1)]))])) r__law_right_5
abbrev r__law_right_3 : DS := dSeq (dSet 3 (dBi (lenD) [(true, dVar 2)])) r__law_right_4
abbrev r__law_right_2 : DS := dSeq (dSet 2 (dCall F__law_order 2 [] [(true, dVar 0), (true, dOp2 addD (dCon (.int 1)) (dCall F__law_draw 2 [] [(true, dVar 0), (true, dOp2 ixD (dLst [(false, dCon (.int 8)), (false, dCon (.int 60))]) (dBi (scB intV) [(true, dVar 1)]))]))])) r__law_right_3
abbrev r__law_right_1 : DS := dSeq (dSet 1 (dCmp eqD (dCall F__law_draw 2 [] [(true, dVar 0), (true, dCon (.int 3))]) (dCon (.int 2)))) r__law_right_2
def F__law_right : Fn := runFn 11 r__law_right_1
/-- _law_tap: 0 _law_cell, 1 _law_turn, 2 _law_whole -/
abbrev r__law_tap_2 : DS := dRet (dLst [(false, dVar 2), (false, dOp2 addD (dOp2 addD (dOp2 modD (dBi (scB intV) [(true, dVar 2)]) (dCon (.int 4294967291))) (dOp2 mulT (dCon (.int 977)) (dVar 1))) (dCon (.int 1))), (false, dOp2 addD (dOp2 addD (dOp2 modD (dBi (scB intV) [(true, dVar 2)]) (dCon (.int 2147483587))) (dOp2 mulT (dCon (.int 31)) (dVar 1))) (dCon (.int 2)))])
abbrev r__law_tap_1 : DS := dSeq (dSet 2 (dOp2 addD (dOp2 mulT (dCon (.int 2)) (dBi (scB absV) [(true, dVar 0)])) (dBi (scB intV) [(true, dCmp ltC (dVar 0) (dCon (.int 0)))]))) r__law_tap_2
def F__law_tap : Fn := runFn 3 r__law_tap_1
/-- law: 0 _law_script, 1 _law_cells_here, 2 _law_k -/
abbrev r_law_2 : DS := dRet (dCmp eqD (dLc [2] (iRng rng1 [(true, dBi (lenD) [(true, dVar 1)])]) (.one 2) (dNot (dTr (dCall F__law_right 1 [] [(true, dCall F__law_tap 2 [] [(true, dOp2 ixD (dVar 1) (dVar 2)), (false, dVar 2)])]))) (dVar 2)) (dLst []))
abbrev r_law_1 : DS := dSeq (dSet 1 (dCall F__law_cells 2 [] [(false, dVar 0), (true, dCon (.int 4))])) r_law_2
def F_law : Fn := runFn 3 r_law_1
end Law_strictranks_k61_whole_orders_or_barring
end
end
section
set_option Elab.async false
set_option linter.all false
set_option maxRecDepth 100000
set_option maxHeartbeats 4000000
open PySem PySem.Spec PyProof.Rows L2 L2.VL
local macro_rules | `(tactic| walk_at "vA") => `(tactic| first
  | with_reducible refine VL.w_p_seq ?_
  | with_reducible refine VL.w_p_next ?_
  | with_reducible refine VL.w_p_pass ?_
  | with_reducible refine VL.w_p_brk ?_
  | with_reducible refine VL.w_p_cnt ?_
  | with_reducible refine VL.w_p_retN ?_
  | with_reducible refine VL.w_p_expr ?_
  | with_reducible refine VL.w_p_if ?_
  | with_reducible refine VL.w_p_ret ?_
  | with_reducible refine VL.w_p_ret0 ?_
  | with_reducible refine VL.w_p_ret1 ?_
  | with_reducible refine VL.w_p_set ?_
  | (with_reducible refine VL.w_p_fgB ?_; try simp only [VL.forgetR_nil, VL.forgetR_cons, VL.unp_n, VL.unp_f, VL.unp_t, VL.unp_s])
  | with_reducible refine VL.w_p_fgE ?_
  | with_reducible refine VL.w_p_for ?_
  | with_reducible refine VL.w_p_tg1 ?_
  | with_reducible refine VL.w_p_tgm ?_
  | with_reducible refine VL.w_p_pa0 ?_
  | with_reducible refine VL.w_p_pa1 ?_
  | with_reducible refine VL.w_p_unp ?_
  | with_reducible refine VL.w_p_con ?_
  | with_reducible refine VL.w_p_cmp ?_
  | with_reducible refine VL.w_p_op2 ?_
  | with_reducible refine VL.w_p_chain ?_
  | with_reducible refine VL.w_p_op1 ?_
  | with_reducible refine VL.w_p_dB ?_
  | with_reducible refine VL.w_p_dTr ?_
  | with_reducible refine VL.w_p_not ?_
  | with_reducible refine VL.w_p_and ?_
  | with_reducible refine VL.w_p_or ?_
  | with_reducible refine VL.w_p_andV ?_
  | with_reducible refine VL.w_p_orV ?_
  | with_reducible refine VL.w_p_notV ?_
  | with_reducible refine VL.w_p_ifx ?_
  | with_reducible refine VL.w_p_true ?_
  | with_reducible refine VL.w_p_a0 ?_
  | with_reducible refine VL.w_p_aT ?_
  | with_reducible refine VL.w_p_aF ?_
  | with_reducible refine VL.w_k_shr ?_
  | with_reducible refine VL.w_k_fr ?_
  | with_reducible refine VL.w_p_lst ?_
  | with_reducible refine VL.w_p_stl ?_
  | (with_reducible refine VL.w_p_lnd ?_; (try dsimp only [List.map_cons, List.map_nil, VL.lent, Option.map_some, Option.map_none]))
  | with_reducible refine VL.w_p_rs ?_
  | with_reducible refine VL.w_p_rsF ?_
  | with_reducible refine VL.w_p_try ?_
  | with_reducible refine VL.w_p_tup ?_
  | with_reducible refine VL.w_p_bi ?_
  | with_reducible refine VL.w_p_mt ?_
  | with_reducible refine VL.w_p_isi ?_
  | with_reducible refine VL.w_p_call ?_
  | with_reducible refine VL.w_p_iLst ?_
  | with_reducible refine VL.w_p_iRng ?_
  | with_reducible refine VL.w_p_iZip ?_
  | with_reducible refine VL.w_p_slL0 ?_
  | with_reducible refine VL.w_p_slL1 ?_
  | with_reducible refine VL.w_p_lcK ?_
  | with_reducible refine VL.w_p_ssK ?_
  | with_reducible refine VL.w_p_lcT ?_
  | (with_reducible refine VL.w_p_tbor ?_; (try dsimp only [List.map_cons, List.map_nil, VL.lent, Option.map_some, Option.map_none]))
  | (with_reducible refine VL.w_p_bor ?_; (try dsimp only [List.map_cons, List.map_nil, VL.lent, Option.map_some, Option.map_none]))
  | with_reducible refine VL.w_p_setIx ?_
  | with_reducible refine VL.w_p_setK ?_
  | with_reducible refine VL.w_p_par ?_
  | with_reducible refine VL.w_p_dis ?_
  | ((with_reducible apply VL.w_p_ext); focus rfl)
  | ((with_reducible apply VL.w_p_var); focus rfl)
  | ((with_reducible apply VL.w_k_nm); (focus rfl); try dsimp only [List.set_cons_zero, List.set_cons_succ])
  | ((with_reducible refine VL.w_q_shr ?_ ?_); (focus rfl); try dsimp only [List.set_cons_zero, List.set_cons_succ])
  | ((with_reducible refine VL.w_q_fr ?_ ?_); (focus rfl); try dsimp only [List.set_cons_zero, List.set_cons_succ])
  | ((with_reducible apply VL.w_q_nm); (focus rfl); (focus rfl); try dsimp only [List.set_cons_zero, List.set_cons_succ])
  | with_reducible refine VL.w_p_lrg ?_
  | with_reducible refine VL.w_p_revL ?_
  | with_reducible refine VL.w_p_iAny ?_
  | with_reducible refine VL.w_p_iEnumA ?_
  | with_reducible refine VL.w_p_par3 ?_
  | ((with_reducible apply VL.w_p_app); focus rfl)
  | ((with_reducible apply VL.w_p_mut); focus rfl))
local macro_rules | `(tactic| walk_at "vB") => `(tactic| first
  | with_reducible refine VL.x_bit ?_
  | with_reducible refine VL.x_eqBit1 ?_
  | with_reducible refine VL.x_eqBit0 ?_
  | with_reducible refine VL.x_neNN ?_
  | with_reducible refine VL.x_eqNN ?_
  | with_reducible refine VL.c_shr ?_
  | with_reducible refine VL.c_fr ?_
  | with_reducible refine VL.c_none ?_
  | with_reducible refine VL.c_cons ?_
  | with_reducible refine VL.h_none ?_
  | with_reducible refine VL.h_cons ?_
  | with_reducible refine VL.e_con ?_
  | with_reducible refine VL.ex_one ?_
  | (with_reducible refine VL.e_lnd (by first | rfl | exact VL.conL_map _ _) ?_)
  | with_reducible refine VL.x_add ?_
  | with_reducible refine VL.x_sub ?_
  | with_reducible refine VL.x_neg ?_
  | with_reducible refine VL.x_lt ?_
  | with_reducible refine VL.x_le ?_
  | with_reducible refine VL.x_gt ?_
  | with_reducible refine VL.x_gtI ?_
  | with_reducible refine VL.x_gtL ?_
  | with_reducible refine VL.x_ge ?_
  | with_reducible refine VL.x_eqI ?_
  | with_reducible refine VL.x_eqB ?_
  | with_reducible refine VL.x_neB ?_
  | with_reducible refine VL.x_neI ?_
  | with_reducible refine VL.x_eqS ?_
  | with_reducible refine VL.x_neS ?_
  | with_reducible refine VL.ex_extF ?_
  | with_reducible refine VL.x_andN ?_
  | with_reducible refine VL.x_orN ?_
  | with_reducible refine VL.x_xorN ?_
  | (with_reducible refine VL.x_shl1 (by omega) ?_)
  | with_reducible refine VL.x_shrN ?_
  | (with_reducible refine VL.x_lenSet (by omega) ?_)
  | with_reducible refine VL.x_sumL ?_
  | (with_reducible refine VL.x_mulT (by omega) ?_)
  | (with_reducible refine VL.x_mulS ⟨by omega, by omega, by decide⟩ ?_)
  | (with_reducible refine VL.x_repT ?_ ?_)
  | with_reducible refine VL.x_lenM ?_
  | with_reducible refine VL.x_len ?_
  | with_reducible refine VL.x_sc ?_
  | with_reducible refine VL.x_abs ?_
  | with_reducible refine VL.x_max ?_
  | with_reducible refine VL.x_min ?_
  | with_reducible refine VL.x_int ?_
  | with_reducible refine VL.x_intB ?_
  | with_reducible refine VL.x_list ?_
  | with_reducible refine VL.x_listT ?_
  | with_reducible refine VL.x_asB ?_
  | with_reducible refine VL.x_trB ?_
  | with_reducible refine VL.x_trI ?_
  | with_reducible refine VL.x_trL ?_
  | with_reducible refine VL.x_isNI ?_
  | with_reducible refine VL.x_isNN ?_
  | (with_reducible refine VL.x_tyI ?_; dsimp only [isiT])
  | (with_reducible refine VL.x_tyB ?_; dsimp only [isiT])
  | (with_reducible refine VL.x_tyS ?_; dsimp only [isiT])
  | (with_reducible refine VL.x_tyL ?_; dsimp only [isiT])
  | (with_reducible refine VL.x_tyT ?_; dsimp only [isiT])
  | with_reducible refine VL.x_lstOf ?_
  | ((with_reducible apply VL.c_nm); focus rfl)
  | (with_reducible refine VL.x_mul (by omega) ?_)
  | (with_reducible refine VL.x_div (by omega) ?_)
  | (with_reducible refine VL.x_mod (by omega) ?_)
  | (with_reducible refine VL.x_rngN (by omega) ?_)
  | (with_reducible refine VL.x_rng2 (by omega) ?_)
  | (with_reducible refine VL.x_rng1 (by simp only [List.length_map]; omega) ?_)
  | (with_reducible refine VL.x_rng1 (by omega) ?_)
  | with_reducible refine VL.x_enL ?_
  | with_reducible refine VL.x_enS ?_
  | ((with_reducible apply VL.ex_par3); (focus rfl); focus rfl)
  | (with_reducible refine VL.x_lrg (by omega) ?_)
  | with_reducible refine VL.x_revL ?_
  | with_reducible refine VL.x_anyL ?_
  | with_reducible refine VL.x_anyT ?_
  | with_reducible refine VL.x_anyS ?_
  | (with_reducible refine VL.x_mulA (by omega) ?_)
  | with_reducible refine VL.x_revG ?_
  | with_reducible refine VL.x_isB ?_
  | with_reducible refine VL.x_notB ?_
  | with_reducible refine VL.x_geI ?_
  | with_reducible refine VL.x_geP ?_
  | with_reducible refine VL.y_inS ?_
  | with_reducible refine VL.y_ninS ?_
  | with_reducible refine VL.y_inI ?_
  | with_reducible refine VL.y_ninI ?_
  | with_reducible refine VL.y_inLL ?_
  | with_reducible refine VL.y_ninLL ?_
  | ((with_reducible apply VL.x_ix); focus rfl)
  | ((with_reducible apply VL.x_ixT); focus rfl)
  | ((with_reducible apply VL.ex_slot); focus rfl)
  | ((with_reducible apply VL.ex_app); (focus rfl); (focus (simp only [List.length_map, List.length_append, List.length_cons, List.length_nil, VL.cap]; omega)))
  | ((with_reducible apply VL.ex_app); focus rfl)
  | ((with_reducible apply VL.ex_par); focus rfl)
  | ((with_reducible apply VL.sl_iN); focus rfl)
  | ((with_reducible apply VL.sl_lN); focus rfl)
  | ((with_reducible apply VL.x_setG); (focus rfl); (try dsimp only [List.set_cons_zero, List.set_cons_succ]))
  | (with_reducible refine VL.x_addL ?_ ?_)
  | with_reducible refine VL.ex_zip ?_
  | with_reducible refine VL.sl_i ?_
  | with_reducible refine VL.sl_l ?_
  | with_reducible refine VL.sl_lF ?_
  | ((with_reducible refine VL.x_pow ?_ rfl ?_); (focus decide); dsimp only [Int.reduceToNat, Int.reducePow])
  | (with_reducible refine VL.x_repA ?_ ?_)
  | ((with_reducible apply VL.ex_args); focus rfl))
local macro_rules | `(tactic| walk_at "v1") => `(tactic| first
  | (guard_target = Res.pst _ _ _; walk_at "vA")
  | (guard_target = Exists _; walk_at "vB")
  | with_reducible refine VL.w_k_nx ?_
  | with_reducible refine VL.k_ret ?_
  | with_reducible refine VL.k_brk ?_
  | with_reducible refine VL.k_cnt ?_
  | with_reducible refine VL.u_nx ?_
  | with_reducible refine VL.u_ret ?_
  | (with_reducible refine VL.t_nx ?_; try simp only [VL.forgetR_nil, VL.forgetR_cons, VL.unp_n, VL.unp_f, VL.unp_t, VL.unp_s])
  | (with_reducible refine VL.t_cnt ?_; try simp only [VL.forgetR_nil, VL.forgetR_cons, VL.unp_n, VL.unp_f, VL.unp_t, VL.unp_s])
  | with_reducible refine VL.t_brk ?_
  | with_reducible refine VL.t_ret ?_
  | with_reducible refine VL.f_fst2 ?_
  | with_reducible refine VL.f_snd2 ?_
  | with_reducible refine VL.r_shr ?_
  | with_reducible refine VL.r_fr ?_
  | with_reducible refine VL.br_t ?_
  | with_reducible refine VL.br_f ?_
  | with_reducible refine VL.br_n ?_
  | ((first | ((with_reducible apply VL.r_nm); focus rfl) | ((with_reducible apply VL.r_nmF); focus rfl) | ((with_reducible apply VL.r_nmP); focus rfl)); try dsimp only [List.set_cons_zero, List.set_cons_succ])
  | (with_reducible refine VL.br_dt rfl ?_)
  | (with_reducible refine VL.br_dt (by omega) ?_)
  | (with_reducible refine VL.br_df (by omega) ?_)
  | ((with_reducible refine And.intro (a := _ = _) ?_ ?_); focus rfl)
  | ((with_reducible refine And.intro (a := _ ≤ cap) ?_ ?_); focus (simp only [List.length_cons, List.length_nil, cap]; omega)))
local macro_rules | `(tactic| walk_at "v") => `(tactic| repeat' walk_at "v1")
local macro_rules | `(tactic| walk_at "s") => `(tactic| (try dsimp only [List.set_cons_zero, List.set_cons_succ]))
local macro_rules | `(tactic| walk_at "n") => `(tactic| (try simp only [VL.forgetR_nil, VL.forgetR_cons, VL.unp_n, VL.unp_f, VL.unp_t, VL.unp_s, wipeR, settleR, shareR, VL.ownOf, frK, backs, back1, lookNm, List.map_nil, List.map_cons, List.append_nil, slotOf, shA, List.getElem?_cons_zero, List.getElem?_cons_succ, List.set_cons_zero, List.set_cons_succ, List.nil_append, List.cons_append, List.length_cons, List.length_nil, List.take_succ_cons, List.take_zero, List.replicate_succ, List.replicate_zero, Bool.false_eq_true, if_true, if_false, ite_true, ite_false, Nat.reduceAdd, Nat.reduceSub, Nat.zero_add, Nat.reduceEqDiff, Option.map_none, Option.map_some, VL.lent]))
local macro_rules | `(tactic| walk_at "b") => `(tactic| (simp only [decide_true, decide_false, Bool.and_true, Bool.true_and, Bool.and_false, Bool.false_and, Bool.or_true, Bool.true_or, Bool.or_false, Bool.false_or, Bool.not_true, Bool.not_false, Bool.false_eq_true, if_true, if_false, ite_true, ite_false, and_true, true_and, false_and, and_false, and_self, List.set_cons_zero, List.set_cons_succ, *]))
namespace Law_strictranks_k61_whole_orders_or_barring
def Tap (d : D) : Prop := ∃ a b c : Int, d = .lst [.int a, .int b, .int c] ∧ 0 ≤ a ∧ (0 ≤ b ∧ b < 1099511627776) ∧ (0 ≤ c ∧ c < 1099511627776)
theorem sp_tap (n t : Int) (ht : 0 ≤ t ∧ t < 100) : FRes.pst (F__law_tap [⟨.int n, false⟩, ⟨.int t, false⟩]) (fun d k outs => Tap d ∧ k = true) (fun _ _ => False) := by
  rw [F__law_tap, w_run]
  walk_at "n"
  walk_at "v"
  walk_at "v"
  refine ⟨⟨_, _, _, rfl, ?_, ?_, ?_⟩, rfl⟩ <;> (split <;> split <;> omega)
def DrawQ (n : Int) (d : D) (k : Bool) (outs : Rho) : Prop := ∃ r t, d = .int r ∧ k = false ∧ (0 ≤ r ∧ r < n) ∧ Tap t ∧ outs = [some ⟨t, true, true⟩, some ⟨.int n, false, false⟩]
theorem sp_draw {t : D} (ht : Tap t) {n : Int} (hn : 0 < n ∧ n < 1000000000000000000000000000000000000000000000000) : FRes.pst (F__law_draw [⟨t, true⟩, ⟨.int n, false⟩]) (DrawQ n) (fun _ _ => False) := by
  obtain ⟨a, b, c, rfl, ha, hb, hc⟩ := ht
  rw [F__law_draw, w_run]
  walk_at "n"
  walk_at "v"
  refine br_d (fun h => ?_) fun h => ?_
  · unfold r__law_draw_1_a_1
    walk_at "v"
    walk_at "v"
    walk_at "v"
    refine ⟨_, _, rfl, rfl, ⟨Int.emod_nonneg _ (by omega), Int.emod_lt_of_pos _ hn.1⟩, ⟨_, _, _, rfl, Int.ediv_nonneg ha (by omega), hb, hc⟩, rfl⟩
  · walk_at "v"
    walk_at "v"
    walk_at "v"
    walk_at "v"
    refine ⟨_, _, rfl, rfl, ⟨Int.emod_nonneg _ (by omega), Int.emod_lt_of_pos _ hn.1⟩, ⟨_, _, _, rfl, ha, by omega, by omega⟩, rfl⟩
abbrev il (xs : List Int) : D := .lst (xs.map fun n => .con (.int n))
theorem sp_isint {x a b : Int} (h : a ≤ x ∧ x ≤ b) : FRes.pst (F_is_integer [⟨.int x, false⟩, ⟨.int a, false⟩, ⟨.int b, false⟩]) (fun d k o => d = .bl true ∧ k = false) (fun _ _ => False) := by
  rw [F_is_integer, w_run]
  walk_at "n"
  walk_at "v"
  walk_at "v"
  exact ⟨by simp [h.2], rfl⟩
theorem sp_isint0 {x a : Int} (h : a ≤ x) : FRes.pst (F_is_integer [⟨.int x, false⟩, ⟨.int a, false⟩, ⟨.non, false⟩]) (fun d k o => d = .bl true ∧ k = false) (fun _ _ => False) := by
  rw [F_is_integer, w_run]
  walk_at "n"
  walk_at "v"
  walk_at "v"
  rfl
theorem sp_cells {ns : List Int} {m : Int} (hm : 0 ≤ m ∧ m ≤ 60) (hn : ns.length ≤ 63) : FRes.pst (F__law_cells [⟨il ns, false⟩, ⟨.int m, false⟩]) (fun d k o => ∃ ms, d = il ms ∧ k = true ∧ ms.length ≤ 60) (fun _ _ => False) := by
  rw [F__law_cells, w_run]
  walk_at "n"
  walk_at "v"
  · simp [cap]; omega
  · rw [show (ns.map fun n => D.con (.int n)) ++ [D.con (.int 0)] = (ns ++ [0]).map fun n => D.con (.int n) by simp]
    unfold VL.cutD
    rw [← List.map_drop, ← List.map_take]
    refine ⟨_, rfl, rfl, ?_⟩
    rw [List.length_take]
    refine Nat.le_trans (Nat.min_le_left _ _) (Nat.le_trans (Nat.sub_le _ _) ?_)
    have hs : ∀ (n d : Nat) (j : Int), 0 ≤ j → j ≤ 60 → HT.sIx n d (some j) ≤ 60 := by
      intro n d j h1 h2
      unfold HT.sIx
      dsimp only
      rw [if_neg (by omega)]
      omega
    try generalize (List.map (fun n => D.con (V.int n)) ns).length = L
    refine hs _ _ _ ?_ ?_ <;> (repeat' split) <;> omega
end Law_strictranks_k61_whole_orders_or_barring
namespace Law_strictranks_k61_whole_orders_or_barring
def InB (n : Nat) (xs : List Int) : Prop := ∀ x ∈ xs, 0 ≤ x ∧ x < n
def rg (n : Nat) : List Int := (List.range n).map fun (k : Nat) => (k : Int)
def Ord (n : Nat) (os : List Int) : Prop := os.Perm (rg n)
theorem Ord.len {n : Nat} {os : List Int} (h : Ord n os) : os.length = n := by
  have := List.Perm.length_eq h
  simpa [rg] using this
theorem Ord.inb {n : Nat} {os : List Int} (h : Ord n os) : InB n os := fun x hx => by
  obtain ⟨k, hk, rfl⟩ := List.mem_map.mp ((List.Perm.mem_iff h).mp hx)
  rw [List.mem_range] at hk
  omega
def OrdQ (n : Nat) (d : D) (k : Bool) (outs : Rho) : Prop := ∃ os t, d = il os ∧ k = true ∧ Ord n os ∧ Tap t ∧ outs = [some ⟨t, true, true⟩, some ⟨.int n, false, false⟩]
theorem erase_map {α β : Type} (f : α → β) : ∀ (xs : List α) (k : Nat), (xs.map f).eraseIdx k = (xs.eraseIdx k).map f
  | [], _ => rfl
  | x :: xs, 0 => rfl
  | x :: xs, k + 1 => congrArg (f x :: ·) (erase_map f xs k)
theorem rng_il (n : Nat) : rngD 0 n = (((List.range n).map fun (k : Nat) => (k : Int)).map fun n => D.con (.int n)) := by
  unfold rngD
  rw [List.map_map]
  congr 1
  funext k
  simp
theorem sp_order {t : D} (ht : Tap t) {n : Nat} (hn : 1 ≤ n ∧ n ≤ 60) : FRes.pst (F__law_order [⟨t, true⟩, ⟨.int n, false⟩]) (OrdQ n) (fun _ _ => False) := by
  rw [F__law_order, w_run]
  walk_at "n"
  walk_at "v"
  walk_at "v"
  walk_at "v"
  walk_at "n"
  walk_at "v"
  try simp only [Int.toNat_natCast]
  refine w_p_forI (fun i ρ => ∃ ls os t, ls.length + i = n ∧ Ord n (ls ++ os) ∧ Tap t ∧ ρ = [some ⟨t, true, true⟩, some ⟨.int n, false, false⟩, some ⟨il ls, true, false⟩, some ⟨il os, true, false⟩, none])
    ⟨rg n, [], t, by simp [rg], by unfold Ord; rw [List.append_nil], ht, by rw [rng_il]; rfl⟩ ?_ ?_
  · rintro i x ρ hi ⟨ls, os, t, hl, ho, ht, rfl⟩
    obtain ⟨hi, rfl⟩ := rngD_at hi
    have hlo := ho.len
    rw [List.length_append] at hlo
    walk_at "v"
    refine w_go (sp_draw ht ⟨by omega, by omega⟩) ?_
    rintro d k o ⟨r, t1, rfl, rfl, hr, ht1, rfl⟩
    walk_at "n"
    walk_at "v"
    obtain ⟨k, rfl⟩ : ∃ k : Nat, r = k := ⟨r.toNat, by omega⟩
    have hk : k < ls.length := by omega
    refine x_popG (k := k) (y := .con (.int ls[k])) ⟨by omega, by omega⟩ (ix_nat (by simpa using hk)) (by simp [hk]) ?_
    rw [show (ls.map fun n => D.con (.int n)).eraseIdx k = (ls.eraseIdx k).map fun n => D.con (.int n) from erase_map _ _ _]
    walk_at "s"
    walk_at "v"
    walk_at "n"
    walk_at "v"
    refine ⟨ls.eraseIdx k, os ++ [ls[k]], t1, by rw [List.length_eraseIdx, if_pos hk]; omega, ?_, ht1, by simp⟩
    refine List.Perm.trans ?_ ho
    have p : ls.Perm (ls[k] :: ls.eraseIdx k) := by
      have e : ls = ls.take k ++ ls[k] :: ls.drop (k + 1) := by
        rw [← List.drop_eq_getElem_cons hk, List.take_append_drop]
      have e2 : ls.eraseIdx k = ls.take k ++ ls.drop (k + 1) := List.eraseIdx_eq_take_drop_succ ls k
      rw [e2]
      conv => lhs; rw [e]
      exact List.perm_middle
    rw [← List.append_assoc]
    refine List.Perm.trans (List.perm_append_comm) ?_
    show (ls[k] :: (ls.eraseIdx k ++ os)).Perm (ls ++ os)
    rw [← List.cons_append]
    exact (p.symm).append_right os
  · rintro ρ ⟨ls, os, t, hl, ho, ht, rfl⟩
    rw [rngD_len] at hl
    have : ls = [] := List.length_eq_zero_iff.mp (by omega)
    subst this
    walk_at "v"
    exact ⟨os, t, rfl, rfl, ho, ht, rfl⟩
/-! ### texts of signs -/
abbrev fs (cs : List Nat) : Str := ⟨cs.toArray⟩
def Sg (c : Nat) : Prop := c = 87 ∨ c = 76 ∨ c = 46
def FOk (n : Nat) (cs : List Nat) : Prop := cs.length = n ∧ ∀ c ∈ cs, Sg c
theorem str_W : (Str.ofString "W" : Str) = ⟨#[87]⟩ := by decide
theorem str_L : (Str.ofString "L" : Str) = ⟨#[76]⟩ := by decide
theorem str_P : (Str.ofString "." : Str) = ⟨#[46]⟩ := by decide
theorem str_E : (Str.ofString "" : Str) = ⟨#[]⟩ := by decide
theorem join_chars : ∀ cs : List Nat, Txt.join (Str.ofString "") (cs.map fun c => (⟨#[c]⟩ : Str)) = fs cs := by
  intro cs
  rw [TL.join_eq, str_E]
  induction cs with
  | nil => rfl
  | cons c cs ih =>
    cases cs with
    | nil => rfl
    | cons c2 cs =>
      have e : Str.join ⟨#[]⟩ ((c :: c2 :: cs).map fun c => (⟨#[c]⟩ : Str)) = (⟨#[c]⟩ : Str) ++ (⟨#[]⟩ : Str) ++ Str.join ⟨#[]⟩ ((c2 :: cs).map fun c => (⟨#[c]⟩ : Str)) := rfl
      rw [e, ih]
      show (⟨#[c] ++ #[] ++ (c2 :: cs).toArray⟩ : Str) = ⟨(c :: c2 :: cs).toArray⟩
      simp
abbrev chD (c : Nat) : D := .con (.str ⟨#[c]⟩)
/-- "".join of a list of signs -/
theorem x_joinC {cs : List Nat} {P : D × Kd → Prop} (hl : cs.length ≤ 10000) (h : P (.con (.str (fs cs)), .shr)) :
    ∃ z, joinD (.con (.str (Str.ofString ""))) [.lst (cs.map chD)] = some z ∧ P z :=
  x_join0 (f := fun c : Nat => (⟨#[c]⟩ : Str)) (fun _ _ => by show 1 ≤ 1000; decide) hl (by rw [join_chars]; exact h)
/-- one of the three signs, drawn -/
theorem sign_at {r : Int} (h : 0 ≤ r ∧ r < 3) : ∃ c, Sg c ∧ atI [D.con (.str (Str.ofString "W")), D.con (.str (Str.ofString "L")), D.con (.str (Str.ofString "."))] r = some (chD c) := by
  rw [str_W, str_L, str_P]
  rcases (by omega : r = 0 ∨ r = 1 ∨ r = 2) with rfl | rfl | rfl
  · exact ⟨87, .inl rfl, rfl⟩
  · exact ⟨76, .inr (.inl rfl), rfl⟩
  · exact ⟨46, .inr (.inr rfl), rfl⟩
end Law_strictranks_k61_whole_orders_or_barring
namespace Law_strictranks_k61_whole_orders_or_barring
def FactQ (n : Nat) (o1 : D) (kd : Int) (d : D) (k : Bool) (outs : Rho) : Prop := ∃ cs t, d = .str (fs cs) ∧ k = false ∧ FOk n cs ∧ Tap t ∧ outs = [some ⟨t, true, true⟩, some ⟨o1, false, false⟩, some ⟨.int kd, false, false⟩]
theorem sp_fact {t : D} (ht : Tap t) {os : List Int} {n : Nat} (hn : 1 ≤ n ∧ n ≤ 60) (hl : os.length = n) (ho : InB n os) (kd : Int) : FRes.pst (F__law_fact [⟨t, true⟩, ⟨il os, false⟩, ⟨.int kd, false⟩]) (FactQ n (il os) kd) (fun _ _ => False) := by
  rw [F__law_fact, w_run]
  walk_at "n"
  walk_at "v"
  rw [hl]
  walk_at "v"
  refine br_d (fun h => ?_) fun h => ?_
  · subst h
    walk_at "v"
    try simp only [Int.toNat_natCast]
    refine w_lc_inv (fun i acc ρ => ∃ cs t, acc = cs.map chD ∧ cs.length = i ∧ (∀ c ∈ cs, Sg c) ∧ Tap t ∧ ρ = [some ⟨t, true, true⟩, some ⟨il os, false, false⟩, some ⟨.int 0, false, false⟩, some ⟨.int n, false, false⟩, none, none, none, none, none]) ⟨[], t, rfl, rfl, (fun _ h => (nomatch h)), ht, rfl⟩ ?_ ?_
    · rintro i x acc ρ hx ⟨cs, t, rfl, rfl, hc, ht, rfl⟩
      obtain ⟨hi, rfl⟩ := rngD_at hx
      walk_at "v"
      refine w_go (sp_draw ht ⟨by decide, by decide⟩) ?_
      rintro d k o ⟨r, t1, rfl, rfl, hr, ht1, rfl⟩
      walk_at "n"
      walk_at "v"
      obtain ⟨c, sc, hat⟩ := sign_at hr
      refine x_ix hat ?_
      walk_at "v"
      walk_at "n"
      refine ⟨cs ++ [c], t1, by simp, by simp, fun y hy => ?_, ht1, rfl⟩
      rcases List.mem_append.mp hy with h | h
      · exact hc y h
      · rw [List.mem_singleton.mp h]; exact sc
    · rintro acc ρ ⟨cs, t, rfl, hl, hc, ht, hw⟩
      dsimp only [LcK]
      rw [hw]
      rw [rngD_len] at hl
      refine ⟨by simp [cap]; omega, ?_⟩
      walk_at "v"
      refine x_joinC (by omega) ?_
      walk_at "v"
      exact ⟨cs, t, rfl, rfl, ⟨hl, hc⟩, ht, rfl⟩
  · walk_at "v"
    walk_at "v"
    · simp only [List.length_cons, List.length_nil, cap]; omega
    rw [show (List.replicate ((n : Int)).toNat [D.con (.str (Str.ofString "."))]).flatten = (List.replicate n 46).map chD by
      rw [str_P, Int.toNat_natCast]
      clear hn hl ho
      induction n with
      | zero => rfl
      | succ n ih => rw [List.replicate_succ, List.flatten_cons, ih, List.replicate_succ, List.map_cons]; rfl]
    have f0 : FOk n (List.replicate n 46) := ⟨by simp, fun c hc => .inr (.inr (List.eq_of_mem_replicate hc))⟩
    revert f0
    generalize List.replicate n 46 = cs
    intro f0
    have setOk : ∀ {cs : List Nat} {k c : Nat}, FOk n cs → Sg c → FOk n (cs.set k c) := by
      intro cs k c h1 h2
      refine ⟨by rw [List.length_set]; exact h1.1, fun x hx => ?_⟩
      rcases List.mem_or_eq_of_mem_set hx with h | h
      · exact h1.2 x h
      · rw [h]; exact h2
    walk_at "v"
    refine br_d (fun h1 => ?_) fun h1 => ?_
    · subst h1
      walk_at "v"
      walk_at "n"
      walk_at "v"
      rw [str_W, str_L]
      refine w_p_forP [87, 76] chD (fun pre ρ => ∃ cs t, FOk n cs ∧ Tap t ∧ ρ = [some ⟨t, true, true⟩, some ⟨il os, false, false⟩, some ⟨.int 1, false, false⟩, some ⟨.int n, false, false⟩, some ⟨.lst (cs.map chD), true, false⟩, none, none, none, none]) ⟨cs, t, f0, ht, rfl⟩ ?_ ?_
      · rintro pre c post ρ e ⟨cs, t, f0, ht, rfl⟩
        have sc : Sg c := by
          have : c ∈ [87, 76] := by rw [e]; simp
          simp only [List.mem_cons, List.not_mem_nil, or_false] at this
          rcases this with rfl | rfl
          · exact .inl rfl
          · exact .inr (.inl rfl)
        walk_at "v"
        walk_at "v"
        walk_at "n"
        walk_at "v"
        refine w_go (sp_draw ht ⟨by decide, by decide⟩) ?_
        rintro d k o ⟨r, t1, rfl, rfl, hr, ht1, rfl⟩
        walk_at "n"
        walk_at "v"
        obtain ⟨m, hm, hat⟩ : ∃ m : Int, (0 ≤ m ∧ m ≤ 3) ∧ atI [D.con (.int 1), D.con (.int 2), D.con (.int 0), D.con (.int 3)] r = some (.con (.int m)) := by
          rcases (by omega : r = 0 ∨ r = 1 ∨ r = 2 ∨ r = 3) with rfl | rfl | rfl | rfl
          · exact ⟨1, by omega, rfl⟩
          · exact ⟨2, by omega, rfl⟩
          · exact ⟨0, by omega, rfl⟩
          · exact ⟨3, by omega, rfl⟩
        refine x_ix hat ?_
        walk_at "v"
        refine w_p_forI (fun i ρ => ∃ cs t, FOk n cs ∧ Tap t ∧ ρ = [some ⟨t, true, true⟩, some ⟨il os, false, false⟩, some ⟨.int 1, false, false⟩, some ⟨.int n, false, false⟩, some ⟨.lst (cs.map chD), true, false⟩, some ⟨chD c, false, false⟩, none, none, none]) ⟨cs, t1, f0, ht1, rfl⟩ ?_ ?_
        · rintro i x ρ hi ⟨cs, t, f0, ht, rfl⟩
          obtain ⟨hi, rfl⟩ := rngD_at hi
          walk_at "v"
          walk_at "v"
          refine w_go (sp_draw ht (n := n) ⟨by omega, by omega⟩) ?_
          rintro d k o ⟨r, t1, rfl, rfl, hr, ht1, rfl⟩
          walk_at "n"
          walk_at "v"
          obtain ⟨j, rfl⟩ : ∃ j : Nat, r = j := ⟨r.toNat, by omega⟩
          have hj : j < cs.length := by rw [f0.1]; omega
          refine ⟨_, _, rfl, ?_⟩
          refine x_setG (k := j) (xs := cs.map chD) (ix_nat (by simpa using hj)) ?_
          walk_at "v"
          walk_at "n"
          exact ⟨cs.set j c, t1, setOk f0 sc, ht1, by simp [List.map_set]⟩
        · rintro ρ ⟨cs, t, f0, ht, rfl⟩
          walk_at "v"
          walk_at "n"
          exact ⟨cs, t, f0, ht, rfl⟩
      · rintro ρ ⟨cs, t, f0, ht, rfl⟩
        walk_at "v"
        walk_at "v"
        refine x_joinC (by rw [f0.1]; omega) ?_
        walk_at "v"
        exact ⟨cs, t, rfl, rfl, f0, ht, rfl⟩
    · walk_at "v"
      walk_at "v"
      refine w_go (sp_draw ht (n := n) ⟨by omega, by omega⟩) ?_
      rintro d k o ⟨r, t1, rfl, rfl, hr, ht1, rfl⟩
      walk_at "n"
      walk_at "v"
      obtain ⟨p, rfl⟩ : ∃ p : Nat, r = p := ⟨r.toNat, by omega⟩
      have hp : p < os.length := by omega
      -- a place of the order, as an index
      have at1 : ∀ (i : Int) (y : Int), atI (os.map fun n => D.con (.int n)) i = some (.con (.int y)) → y ∈ os → ∃ j : Nat, y = j ∧ j < n := fun i y _ hy => ⟨y.toNat, by have := ho y hy; omega, by have := ho y hy; omega⟩
      obtain ⟨j1, e1, hj1⟩ := at1 p os[p] (at_map (f := fun n : Int => D.con (.int n)) hp) (List.getElem_mem _)
      obtain ⟨j2, q2, hj2⟩ : ∃ j2 : Nat, atI (os.map fun n => D.con (.int n)) ((p : Int) - 1) = some (.con (.int j2)) ∧ j2 < n := by
        by_cases h0 : p = 0
        · subst h0
          have hz : os.length - 1 < os.length := by omega
          have hy := ho _ (List.getElem_mem hz)
          refine ⟨os[os.length - 1].toNat, ?_, by omega⟩
          unfold atI ixN
          rw [if_neg (by omega), if_pos (by rw [List.length_map]; omega), List.length_map]
          show ((os.map fun n => D.con (.int n))[((0 : Nat) - 1 + os.length : Int).toNat]?) = _
          rw [show ((0 : Nat) - 1 + os.length : Int).toNat = os.length - 1 by omega, List.getElem?_map, List.getElem?_eq_getElem hz]
          show some (D.con (.int os[os.length - 1])) = _
          rw [show ((os[os.length - 1].toNat : Nat) : Int) = os[os.length - 1] by omega]
        · have hz : p - 1 < os.length := by omega
          have hy := ho _ (List.getElem_mem hz)
          refine ⟨os[p - 1].toNat, ?_, by omega⟩
          rw [show (p : Int) - 1 = ((p - 1 : Nat) : Int) by omega, at_map (f := fun n : Int => D.con (.int n)) hz, show ((os[p - 1].toNat : Nat) : Int) = os[p - 1] by omega]
      have hcs : cs.length = n := f0.1
      walk_at "v"
      rw [str_L]
      refine x_ix (at_map (f := fun n : Int => D.con (.int n)) hp) ?_
      walk_at "v"
      rw [e1]
      refine x_setG (k := j1) (xs := cs.map chD) (ix_nat (by simpa [hcs] using hj1)) ?_
      rw [show (cs.map chD).set j1 (D.con (.str ⟨#[76]⟩)) = (cs.set j1 76).map chD by rw [List.map_set]]
      have f1 : FOk n (cs.set j1 76) := setOk f0 (.inr (.inl rfl))
      revert f1
      generalize cs.set j1 76 = cs1
      intro f1
      walk_at "s"
      walk_at "v"
      walk_at "v"
      rw [str_W]
      refine x_ix q2 ?_
      walk_at "v"
      refine x_setG (k := j2) (xs := cs1.map chD) (ix_nat (by simpa [f1.1] using hj2)) ?_
      rw [show (cs1.map chD).set j2 (D.con (.str ⟨#[87]⟩)) = (cs1.set j2 87).map chD by rw [List.map_set]]
      have f2 : FOk n (cs1.set j2 87) := setOk f1 (.inl rfl)
      revert f2
      generalize cs1.set j2 87 = cs2
      intro f2
      walk_at "s"
      walk_at "v"
      walk_at "v"
      refine w_go (sp_draw ht1 ⟨by decide, by decide⟩) ?_
      rintro d k o ⟨r, t2, rfl, rfl, hr2, ht2, rfl⟩
      walk_at "n"
      walk_at "v"
      obtain ⟨c, sc, hat⟩ := sign_at hr2
      refine x_ix hat ?_
      walk_at "v"
      refine w_go (sp_draw ht2 (n := n) ⟨by omega, by omega⟩) ?_
      rintro d k o ⟨r, t3, rfl, rfl, hr3, ht3, rfl⟩
      walk_at "n"
      walk_at "v"
      obtain ⟨j3, rfl⟩ : ∃ j : Nat, r = j := ⟨r.toNat, by omega⟩
      refine ⟨_, _, rfl, ?_⟩
      refine x_setG (k := j3) (xs := cs2.map chD) (ix_nat (by rw [List.length_map, f2.1]; omega)) ?_
      rw [show (cs2.map chD).set j3 (chD c) = (cs2.set j3 c).map chD by rw [List.map_set]]
      have f3 : FOk n (cs2.set j3 c) := setOk f2 sc
      walk_at "s"
      walk_at "v"
      walk_at "v"
      refine x_joinC (by rw [f3.1]; omega) ?_
      walk_at "v"
      exact ⟨_, t3, rfl, rfl, f3, ht3, rfl⟩
end Law_strictranks_k61_whole_orders_or_barring
namespace Law_strictranks_k61_whole_orders_or_barring
theorem fs_len (cs : List Nat) : (fs cs).length = cs.length := by
  show cs.toArray.size = _
  simp
theorem chrs_fs (cs : List Nat) : chrs (fs cs) = cs.map chD := by simp [chrs]
theorem in_sg {c : Nat} (h : Sg c) : inD (chD c) (.tup [.con (.str (Str.ofString "W")), .con (.str (Str.ofString "L")), .con (.str (Str.ofString "."))]) = some true := by
  rw [str_W, str_L, str_P]
  rcases h with rfl | rfl | rfl <;> decide
theorem sp_fits {n : Nat} {cs : List Nat} (hn : n ≤ 60) (h : FOk n cs) : FRes.pst (F_fits_fact [⟨.int n, false⟩, ⟨.str (fs cs), false⟩]) (fun d k o => d = .bl true ∧ k = false) (fun _ _ => False) := by
  rw [F_fits_fact, w_run]
  walk_at "n"
  walk_at "v"
  refine x_lenS (by rw [fs_len, h.1]; simp only [cap]; omega) ?_
  rw [fs_len, h.1]
  walk_at "v"
  walk_at "v"
  rw [chrs_fs]
  refine w_lc_inv (fun i acc ρ => acc = List.replicate i (D.con (.bl true)) ∧ ρ = [some ⟨.int n, false, false⟩, some ⟨.str (fs cs), false, false⟩, none]) ⟨rfl, rfl⟩ ?_ ?_
  · rintro i x acc ρ hx ⟨rfl, rfl⟩
    rw [List.getElem?_map] at hx
    obtain ⟨c, hc, rfl⟩ := Option.map_eq_some_iff.mp hx
    walk_at "v"
    refine y_inL (in_sg (h.2 c (List.mem_of_getElem? hc))) ?_
    walk_at "v"
    walk_at "n"
    exact ⟨List.replicate_succ'.symm, trivial⟩
  · rintro acc ρ ⟨rfl, hw⟩
    dsimp only [LcK]
    rw [hw]
    refine ⟨by simp [cap, h.1]; omega, ?_⟩
    walk_at "v"
    refine x_allT ?_
    walk_at "v"
    rfl
abbrev fl (fss : List (List Nat)) : D := .lst (fss.map fun cs => .con (.str (fs cs)))
def LOk (n : Nat) (ls : List Int) : Prop := ls.length = n ∧ ∀ x ∈ ls, 0 ≤ x ∧ x ≤ 59
end Law_strictranks_k61_whole_orders_or_barring
namespace Law_strictranks_k61_whole_orders_or_barring
theorem sp_needfacts {n : Nat} {fss : List (List Nat)} (hn : n ≤ 60) (hl : fss.length ≤ 200) (h : ∀ cs ∈ fss, FOk n cs) : FRes.pst (F_need_facts [⟨.int n, false⟩, ⟨fl fss, false⟩]) (fun d k o => k = false ∧ o = [some ⟨.int n, false, false⟩, some ⟨fl fss, false, false⟩]) (fun _ _ => False) := by
  rw [F_need_facts, w_run]
  walk_at "n"
  walk_at "v"
  try rw [List.length_map]
  try refine br_df (by omega) ?_
  walk_at "v"
  refine w_lc_inv (fun i acc ρ => acc = List.replicate i (D.con (.bl true)) ∧ ρ = [some ⟨.int n, false, false⟩, some ⟨fl fss, false, false⟩, none]) ⟨rfl, rfl⟩ ?_ ?_
  · rintro i x acc ρ hx ⟨rfl, rfl⟩
    rw [List.getElem?_map] at hx
    obtain ⟨c, hc, rfl⟩ := Option.map_eq_some_iff.mp hx
    walk_at "v"
    refine w_go (sp_fits hn (h c (List.mem_of_getElem? hc))) ?_
    rintro d k o ⟨rfl, rfl⟩
    walk_at "n"
    walk_at "v"
    walk_at "n"
    exact ⟨List.replicate_succ'.symm, trivial⟩
  · rintro acc ρ ⟨rfl, hw⟩
    dsimp only [LcK]
    rw [hw]
    refine ⟨by simp [cap]; omega, ?_⟩
    walk_at "v"
    refine x_allT ?_
    walk_at "v"
    rfl
end Law_strictranks_k61_whole_orders_or_barring
namespace Law_strictranks_k61_whole_orders_or_barring
theorem sp_needlayers {n : Nat} {ls : List Int} (hn : 1 ≤ n ∧ n ≤ 60) (h : LOk n ls) : FRes.pst (F_need_layers [⟨il ls, false⟩]) (fun d k o => k = false ∧ o = [some ⟨il ls, false, false⟩]) (fun _ _ => False) := by
  rw [F_need_layers, w_run]
  walk_at "n"
  walk_at "v"
  rw [h.1]
  walk_at "v"
  walk_at "v"
  refine w_lc_inv (fun i acc ρ => acc = List.replicate i (D.con (.bl true)) ∧ ρ = [some ⟨il ls, false, false⟩, some ⟨.bl (decide ((n : Int) ≤ 60)), false, false⟩, none]) ⟨rfl, rfl⟩ ?_ ?_
  · rintro i x acc ρ hx ⟨rfl, rfl⟩
    rw [List.getElem?_map] at hx
    obtain ⟨c, hc, rfl⟩ := Option.map_eq_some_iff.mp hx
    walk_at "v"
    refine w_go (sp_isint (by have := h.2 c (List.mem_of_getElem? hc); omega)) ?_
    rintro d k o ⟨rfl, rfl⟩
    walk_at "n"
    walk_at "v"
    walk_at "n"
    exact ⟨List.replicate_succ'.symm, trivial⟩
  · rintro acc ρ ⟨rfl, hw⟩
    dsimp only [LcK]
    rw [hw]
    refine ⟨by simp [cap, h.1]; omega, ?_⟩
    walk_at "v"
    refine x_allT ?_
    walk_at "v"
    rfl
end Law_strictranks_k61_whole_orders_or_barring
namespace Law_strictranks_k61_whole_orders_or_barring
/-- the rules with a sign -/
def rw_ (cs : List Nat) (c : Nat) : List Int := ((cs.zipIdx.filter fun p => decide (p.1 = c)).map fun p => (p.2 : Int))
theorem chD_eq (a b : Nat) : ((⟨#[a]⟩ : Str) = ⟨#[b]⟩) = (a = b) := by simp
theorem sp_ruleswith {cs : List Nat} {c : Nat} (hl : cs.length ≤ 60) : FRes.pst (F_rules_with [⟨.str (fs cs), false⟩, ⟨chD c, false⟩]) (fun d k o => d = il (rw_ cs c) ∧ k = true ∧ o = [some ⟨.str (fs cs), false, false⟩, some ⟨chD c, false, false⟩]) (fun _ _ => False) := by
  rw [F_rules_with, w_run]
  walk_at "n"
  walk_at "v"
  rw [chrs_fs]
  refine w_lc_inv (fun i acc ρ => acc = (((cs.zipIdx.take i).filter fun p => decide (p.1 = c)).map fun p => (p.2 : Int)).map (fun n => D.con (.int n)) ∧ ρ = [some ⟨.str (fs cs), false, false⟩, some ⟨chD c, false, false⟩, none, none]) ⟨rfl, rfl⟩ ?_ ?_
  · rintro i x acc ρ hx ⟨rfl, rfl⟩
    have hi : i < cs.length := by
      have := (List.getElem?_eq_some_iff.mp hx).1
      simpa using this
    have hx2 : x = .tup [.int i, chD cs[i]] := by
      rw [List.getElem?_map, List.getElem?_zipIdx, List.getElem?_map, List.getElem?_eq_getElem hi] at hx
      have := (Option.some.inj hx).symm
      simpa using this
    subst hx2
    have e : cs.zipIdx.take (i + 1) = cs.zipIdx.take i ++ [(cs[i], i)] := by
      rw [List.take_add_one, List.getElem?_zipIdx, List.getElem?_eq_getElem hi]
      simp
    walk_at "v"
    rw [show decide ((⟨#[cs[i]]⟩ : Str) = ⟨#[c]⟩) = decide (cs[i] = c) by simp]
    refine br_d (fun h => ?_) fun h => ?_
    · walk_at "v"
      walk_at "n"
      rw [e, List.filter_append, List.map_append, List.map_append]
      simp [h]
    · walk_at "v"
      walk_at "n"
      rw [e, List.filter_append, List.map_append, List.map_append]
      simp [h]
  · rintro acc ρ ⟨rfl, hw⟩
    dsimp only [LcK]
    rw [hw]
    have hz : ((cs.map chD).zipIdx.map fun p => D.tup [.int p.2, p.1]).length = cs.zipIdx.length := by simp
    rw [hz, List.take_length]
    refine ⟨?_, ?_⟩
    · rw [List.length_map, List.length_map]
      refine Nat.le_trans (List.length_filter_le _ _) ?_
      rw [List.length_zipIdx]
      simp only [cap]; omega
    · walk_at "v"
      rfl
end Law_strictranks_k61_whole_orders_or_barring
namespace Law_strictranks_k61_whole_orders_or_barring
def LW (ls : List Int) (cs : List Nat) (c : Nat) : List Int := (rw_ cs c).map fun r => ls.getD r.toNat 0
def mn (xs : List Int) : Int := (minL xs).getD 0
def HB (ls : List Int) (cs : List Nat) : Bool := decide (LW ls cs 76 = []) || (!decide (LW ls cs 87 = []) && decide (mn (LW ls cs 87) < mn (LW ls cs 76)))
theorem rw_in {cs : List Nat} {c : Nat} {r : Int} (h : r ∈ rw_ cs c) : ∃ k : Nat, r = k ∧ k < cs.length := by
  unfold rw_ at h
  obtain ⟨p, hp, rfl⟩ := List.mem_map.mp h
  have h1 := (List.mem_filter.mp hp).1
  refine ⟨p.2, rfl, ?_⟩
  have := List.mem_zipIdx h1
  omega
theorem minL_mn {xs : List Int} (h : xs ≠ []) : minL xs = some (mn xs) := by
  cases xs with
  | nil => exact absurd rfl h
  | cons x xs => rfl
theorem lay_at {ls : List Int} {k : Nat} (h : k < ls.length) : atI (ls.map fun n => D.con (.int n)) (k : Int) = some (.con (.int (ls.getD k 0))) := by
  rw [at_map (f := fun n : Int => D.con (.int n)) h]
  simp [h]
theorem rw_len (cs : List Nat) (c : Nat) : (rw_ cs c).length ≤ cs.length := by
  unfold rw_
  try rw [List.length_map]
  refine Nat.le_trans (List.length_filter_le _ _) ?_
  rw [List.length_zipIdx]
  omega
theorem LW_map (ls : List Int) (cs : List Nat) (c : Nat) : (rw_ cs c).map (fun r => D.int (ls.getD r.toNat 0)) = (LW ls cs c).map fun n => D.con (.int n) := by unfold LW; rw [List.map_map]; rfl
theorem il_empty (xs : List Int) : (xs.map fun n => D.con (.int n)).isEmpty = decide (xs = []) := by cases xs <;> simp
end Law_strictranks_k61_whole_orders_or_barring
namespace Law_strictranks_k61_whole_orders_or_barring
theorem sp_hbl {n : Nat} {ls : List Int} {cs : List Nat} (hn : n ≤ 60) (h : LOk n ls) (hc : cs.length = n) : FRes.pst (F_holds_by_layers [⟨il ls, false⟩, ⟨.str (fs cs), false⟩]) (fun d k o => d = .bl (HB ls cs) ∧ k = false) (fun _ _ => False) := by
  have hl0 : ls.length = n := h.1
  have l1 := rw_len cs 76
  have l2 := rw_len cs 87
  have ok : ∀ c, okD 60 (il (LW ls cs c)) = true := fun c => okL_int _ 59
  rw [F_holds_by_layers, w_run]
  walk_at "n"
  walk_at "v"
  rw [str_L]
  refine w_go (sp_ruleswith (cs := cs) (c := 76) (by omega)) ?_
  rintro d k o ⟨rfl, rfl, rfl⟩
  walk_at "n"
  walk_at "v"
  refine w_lc_map (rw_ cs 76) (fun r => D.int (ls.getD r.toNat 0)) (by rfl) (by rfl) (by simp only [cap]; omega) ?_ ?_
  · intro r hr
    obtain ⟨k, rfl, hk⟩ := rw_in hr
    walk_at "v"
    refine x_ix (lay_at (by omega)) ?_
    walk_at "v"
    walk_at "n"
    walk_at "v"
  rw [LW_map]
  walk_at "v"
  rw [str_W]
  refine w_go (sp_ruleswith (cs := cs) (c := 87) (by omega)) ?_
  rintro d k o ⟨rfl, rfl, rfl⟩
  walk_at "n"
  walk_at "v"
  refine w_lc_map (rw_ cs 87) (fun r => D.int (ls.getD r.toNat 0)) (by rfl) (by rfl) (by simp only [cap]; omega) ?_ ?_
  · intro r hr
    obtain ⟨k, rfl, hk⟩ := rw_in hr
    walk_at "v"
    refine x_ix (lay_at (by omega)) ?_
    walk_at "v"
    walk_at "n"
    walk_at "v"
  rw [LW_map]
  walk_at "v"
  refine x_eqE (ok 76) ?_
  rw [il_empty]
  walk_at "v"
  refine br_d (fun h1 => ?_) fun h1 => ?_
  · walk_at "v"
    rw [show HB ls cs = true by unfold HB; simp [h1]]
    exact ⟨rfl, rfl⟩
  · walk_at "v"
    refine x_neE (ok 87) ?_
    rw [il_empty]
    walk_at "v"
    refine br_d (fun h2 => ?_) fun h2 => ?_
    · walk_at "v"
      rw [show HB ls cs = false by unfold HB; simp [h1, h2]]
      exact ⟨rfl, rfl⟩
    · walk_at "v"
      refine x_minL (ns := LW ls cs 87) (minL_mn h2) ?_
      walk_at "v"
      refine x_minL (minL_mn h1) ?_
      walk_at "v"
      rw [show HB ls cs = decide (mn (LW ls cs 87) < mn (LW ls cs 76)) by unfold HB; simp [h1, h2]]
      exact ⟨rfl, rfl⟩
end Law_strictranks_k61_whole_orders_or_barring
namespace Law_strictranks_k61_whole_orders_or_barring
theorem sp_hold {n : Nat} {ls : List Int} {fss : List (List Nat)} (hn : 1 ≤ n ∧ n ≤ 60) (h : LOk n ls) (hl : fss.length ≤ 200) (hf : ∀ cs ∈ fss, FOk n cs) : FRes.pst (F_hold_in_layers [⟨il ls, false⟩, ⟨fl fss, false⟩]) (fun d k o => d = .bl (fss.all (HB ls)) ∧ k = false) (fun _ _ => False) := by
  rw [F_hold_in_layers, w_run]
  walk_at "n"
  walk_at "v"
  refine w_go (sp_needlayers hn h) ?_
  rintro d k o ⟨rfl, rfl⟩
  walk_at "n"
  walk_at "v"
  walk_at "v"
  rw [h.1]
  refine w_go (sp_needfacts hn.2 hl hf) ?_
  rintro d k o ⟨rfl, rfl⟩
  walk_at "n"
  walk_at "v"
  walk_at "v"
  refine w_lc_inv (fun i acc ρ => acc = ((fss.take i).map fun cs => D.con (.bl (HB ls cs))) ∧ ρ = [some ⟨il ls, false, false⟩, some ⟨fl fss, false, false⟩, none]) ⟨rfl, rfl⟩ ?_ ?_
  · rintro i x acc ρ hx ⟨rfl, rfl⟩
    rw [List.getElem?_map] at hx
    obtain ⟨cs, hc, rfl⟩ := Option.map_eq_some_iff.mp hx
    walk_at "v"
    refine w_go (sp_hbl hn.2 h (hf cs (List.mem_of_getElem? hc)).1) ?_
    rintro d k o ⟨rfl, rfl⟩
    walk_at "n"
    walk_at "v"
    walk_at "n"
    rw [List.take_add_one, hc]
    simp
  · rintro acc ρ ⟨rfl, hw⟩
    dsimp only [LcK]
    rw [hw]
    simp only [List.length_map, List.take_length]
    refine ⟨by simp only [cap]; omega, ?_⟩
    walk_at "v"
    refine ⟨_, by unfold allV; dsimp only; rw [blsD_map]; rfl, ?_⟩
    walk_at "v"
    exact ⟨by simp [List.all_map], rfl⟩
end Law_strictranks_k61_whole_orders_or_barring
namespace Law_strictranks_k61_whole_orders_or_barring
theorem mn_le {xs : List Int} {x : Int} (h : x ∈ xs) : mn xs ≤ x ∧ mn xs ∈ xs := by
  have key : ∀ (xs : List Int) (x : Int), (xs.foldl min x = x ∨ xs.foldl min x ∈ xs) ∧ xs.foldl min x ≤ x ∧ ∀ y ∈ xs, xs.foldl min x ≤ y := by
    intro xs
    induction xs with
    | nil => intro x; exact ⟨.inl rfl, Int.le_refl _, fun y hy => (nomatch hy)⟩
    | cons z zs ih =>
      intro x
      obtain ⟨h1, h2, h3⟩ := ih (min x z)
      have e : (z :: zs).foldl min x = zs.foldl min (min x z) := rfl
      rw [e]
      refine ⟨?_, by omega, fun y hy => ?_⟩
      · rcases h1 with h1 | h1
        · rcases (by omega : min x z = x ∨ min x z = z) with h | h
          · left; omega
          · right; rw [h1, h]; exact List.mem_cons_self
        · right; exact List.mem_cons_of_mem _ h1
      · rcases List.mem_cons.mp hy with h | h
        · subst h; omega
        · exact h3 y h
  cases xs with
  | nil => cases h
  | cons z zs =>
    obtain ⟨h1, h2, h3⟩ := key zs z
    have e : mn (z :: zs) = zs.foldl min z := rfl
    rw [e]
    refine ⟨?_, ?_⟩
    · rcases List.mem_cons.mp h with q | q
      · rw [q]; exact h2
      · exact h3 _ q
    · rcases h1 with q | q
      · rw [q]; exact List.mem_cons_self
      · exact List.mem_cons_of_mem _ q
end Law_strictranks_k61_whole_orders_or_barring
namespace Law_strictranks_k61_whole_orders_or_barring
theorem strIn_one (c : Nat) (cs : List Nat) : strIn ⟨#[c]⟩ (fs cs) = decide (c ∈ cs) := by
  unfold strIn
  rw [PySem.StrLaws.found_one]
theorem str_eq1 (a b : Nat) : decide ((⟨#[a]⟩ : Str) = ⟨#[b]⟩) = decide (a = b) := by simp
theorem cap_fs {n : Nat} {cs : List Nat} (hn : n ≤ 60) (hc : cs.length = n) : (fs cs).length ≤ cap := by rw [fs_len, hc]; simp only [cap]; omega
theorem LOk.at {n : Nat} {ls : List Int} (h : LOk n ls) {r : Nat} (hr : r < n) : 0 ≤ ls.getD r 0 ∧ ls.getD r 0 ≤ 59 := by
  have e : ls.getD r 0 = ls[r]'(by rw [h.1]; exact hr) := by simp [h.1, hr]
  rw [e]
  exact h.2 _ (List.getElem_mem _)
theorem mem_rw {cs : List Nat} {c : Nat} {x : Int} : x ∈ rw_ cs c ↔ ∃ k : Nat, x = k ∧ k < cs.length ∧ cs.getD k 46 = c := by
  unfold rw_
  simp only [List.mem_map, List.mem_filter, decide_eq_true_eq]
  constructor
  · rintro ⟨⟨a, k⟩, ⟨h1, h2⟩, rfl⟩
    have h3 := List.mem_zipIdx h1
    refine ⟨k, rfl, by omega, ?_⟩
    have := h3.2.2
    simp at this
    have hk : k < cs.length := by omega
    simp [hk]
    rw [← this]; exact h2
  · rintro ⟨k, rfl, hk, e⟩
    refine ⟨(cs[k], k), ⟨?_, ?_⟩, rfl⟩
    · rw [List.mem_zipIdx_iff_getElem?]
      simp [hk]
    · simpa [hk] using e
theorem mem_LW {ls : List Int} {cs : List Nat} {c : Nat} {x : Int} : x ∈ LW ls cs c ↔ ∃ k, k < cs.length ∧ cs.getD k 46 = c ∧ ls.getD k 0 = x := by
  unfold LW
  rw [List.mem_map]
  constructor
  · rintro ⟨r, hr, rfl⟩
    obtain ⟨k, rfl, h1, h2⟩ := mem_rw.mp hr
    exact ⟨k, h1, h2, rfl⟩
  · rintro ⟨k, h1, h2, rfl⟩
    exact ⟨k, mem_rw.mpr ⟨k, rfl, h1, h2⟩, rfl⟩
theorem LW_nil {ls : List Int} {cs : List Nat} {c : Nat} : LW ls cs c = [] ↔ ∀ k, k < cs.length → cs.getD k 46 ≠ c := by
  rw [List.eq_nil_iff_forall_not_mem]
  constructor
  · intro h k hk e
    exact h _ (mem_LW.mpr ⟨k, hk, e, rfl⟩)
  · intro h x hx
    obtain ⟨k, h1, h2, _⟩ := mem_LW.mp hx
    exact h k h1 h2
/-- what holds_by_layers asks, by rules -/
theorem HB_iff {ls : List Int} {cs : List Nat} : HB ls cs = true ↔ (∀ k, k < cs.length → cs.getD k 46 ≠ 76) ∨ ∃ w, w < cs.length ∧ cs.getD w 46 = 87 ∧ ∀ k, k < cs.length → cs.getD k 46 = 76 → ls.getD w 0 < ls.getD k 0 := by
  unfold HB
  simp only [Bool.or_eq_true, decide_eq_true_eq, Bool.and_eq_true, Bool.not_eq_true', decide_eq_false_iff_not]
  by_cases h0 : LW ls cs 76 = []
  · simp only [h0, true_or, true_iff]
    exact .inl (LW_nil.mp h0)
  · have n0 : ¬ ∀ k, k < cs.length → cs.getD k 46 ≠ 76 := fun z => h0 (LW_nil.mpr z)
    simp only [h0, n0, false_or]
    obtain ⟨l, hl⟩ := List.exists_mem_of_ne_nil _ h0
    have m1 := fun x hx => mn_le (xs := LW ls cs 76) (x := x) hx
    constructor
    · rintro ⟨h1, h2⟩
      obtain ⟨w0, hw0⟩ := List.exists_mem_of_ne_nil _ h1
      obtain ⟨w, h3, h4, h5⟩ := mem_LW.mp (mn_le hw0).2
      refine ⟨w, h3, h4, fun k hk e => ?_⟩
      have := (m1 _ (mem_LW.mpr ⟨k, hk, e, rfl⟩)).1
      omega
    · rintro ⟨w, h1, h2, h3⟩
      have hw := mem_LW (ls := ls).mpr ⟨w, h1, h2, rfl⟩
      refine ⟨List.ne_nil_of_mem hw, ?_⟩
      obtain ⟨k, h4, h5, h6⟩ := mem_LW.mp (m1 l hl).2
      have := h3 k h4 h5
      have := (mn_le hw).1
      omega
end Law_strictranks_k61_whole_orders_or_barring
namespace Law_strictranks_k61_whole_orders_or_barring
/-- the first sign along an order that is no point; W if there is none -/
def fsgn (os : List Int) (cs : List Nat) : Nat := ((os.map fun r => cs.getD r.toNat 46).find? fun c => decide (c ≠ 46)).getD 87
theorem chr_at {cs : List Nat} {k : Nat} (h : k < cs.length) : atI (fs cs).cps.toList (k : Int) = some (cs.getD k 46) := by
  show atI cs.toArray.toList (k : Int) = _
  unfold atI ixN
  rw [if_pos (by omega), if_pos (by simp; omega)]
  simp [h]
theorem sp_first {n : Nat} {os : List Int} {cs : List Nat} (hn : n ≤ 60) (ho : InB n os) (hc : cs.length = n) : FRes.pst (F__law_first [⟨il os, false⟩, ⟨.str (fs cs), false⟩]) (fun d k o => d = .str ⟨#[fsgn os cs]⟩ ∧ k = false) (fun _ _ => False) := by
  rw [F__law_first, w_run]
  walk_at "n"
  walk_at "v"
  refine w_p_forP os (fun r => D.int r) (fun pre ρ => (∀ r ∈ pre, cs.getD r.toNat 46 = 46) ∧ ρ = [some ⟨il os, false, false⟩, some ⟨.str (fs cs), false, false⟩, none]) ⟨(fun _ h => nomatch h), rfl⟩ ?_ ?_
  · rintro pre r post ρ e ⟨hp, rfl⟩
    have hb := ho r (by rw [e]; simp)
    obtain ⟨k, rfl⟩ : ∃ k : Nat, r = k := ⟨r.toNat, by omega⟩
    walk_at "v"
    refine x_ixS (cap_fs hn hc) (chr_at (by omega)) ?_
    walk_at "v"
    rw [str_P, str_eq1]
    refine br_d (fun h1 => ?_) fun h1 => ?_
    · walk_at "n"
      walk_at "v"
      refine ⟨fun r hr => ?_, by trivial⟩
      rcases List.mem_append.mp hr with q | q
      · exact hp r q
      · rw [List.mem_singleton.mp q]; simpa using h1
    · walk_at "v"
      refine x_ixS (cap_fs hn hc) (chr_at (by omega)) ?_
      walk_at "v"
      refine ⟨?_, by trivial⟩
      have : fsgn os cs = cs.getD k 46 := by
        unfold fsgn
        rw [e, List.map_append, List.find?_append, List.find?_eq_none.mpr (by
          intro c hc
          obtain ⟨r, hr, rfl⟩ := List.mem_map.mp hc
          rw [hp r hr]; simp)]
        rw [List.map_cons, List.find?_cons_of_pos (by simpa using h1)]
        simp
      rw [this]
  · rintro ρ ⟨hp, rfl⟩
    walk_at "v"
    rw [str_W]
    refine ⟨?_, by trivial⟩
    have : fsgn os cs = 87 := by
      unfold fsgn
      rw [List.find?_eq_none.mpr (by
        intro c hc
        obtain ⟨r, hr, rfl⟩ := List.mem_map.mp hc
        rw [hp r hr]; simp)]
      rfl
    rw [this]
def turnC (c : Nat) : Nat := if c = 87 then 76 else if c = 76 then 87 else c
theorem turn_at {c : Nat} (h : Sg c) : findK [(.inr "W", D.con (.str (Str.ofString "L"))), (.inr "L", D.con (.str (Str.ofString "W"))), (.inr ".", D.con (.str (Str.ofString ".")))] (.inr ⟨#[c]⟩) = some (chD (turnC c)) := by
  rw [str_W, str_L, str_P]
  have e1 : (Sum.inr (Str.ofString "W") : Key) = .inr ⟨#[87]⟩ := by rw [str_W]
  rcases h with rfl | rfl | rfl
  · rfl
  · rfl
  · rfl
theorem sp_turned {n : Nat} {cs : List Nat} (hn : n ≤ 60) (hf : FOk n cs) : FRes.pst (F__law_turned [⟨.str (fs cs), false⟩]) (fun d k o => d = .str (fs (cs.map turnC)) ∧ k = false) (fun _ _ => False) := by
  have hc : cs.length = n := hf.1
  rw [F__law_turned, w_run]
  walk_at "n"
  walk_at "v"
  rw [chrs_fs]
  refine w_lc_map cs (fun c => chD (turnC c)) (by rfl) (by rfl) (by simp only [cap]; omega) ?_ ?_
  · intro c hc
    walk_at "v"
    refine x_dgetS (turn_at (hf.2 c hc)) ?_
    walk_at "v"
    walk_at "n"
    walk_at "v"
  walk_at "v"
  rw [show cs.map (fun c => chD (turnC c)) = (cs.map turnC).map chD by rw [List.map_map]; rfl]
  refine x_joinC (by simp; omega) ?_
  walk_at "v"
  rfl
end Law_strictranks_k61_whole_orders_or_barring
namespace Law_strictranks_k61_whole_orders_or_barring
theorem FOk.map {n : Nat} {cs : List Nat} (hf : FOk n cs) : FOk n (cs.map turnC) := ⟨by rw [List.length_map]; exact hf.1, fun c hc => by
  obtain ⟨a, ha, rfl⟩ := List.mem_map.mp hc
  rcases hf.2 a ha with rfl | rfl | rfl
  · exact .inr (.inl rfl)
  · exact .inl rfl
  · exact .inr (.inr rfl)⟩
theorem getD_turn (cs : List Nat) (k : Nat) : (cs.map turnC).getD k 46 = turnC (cs.getD k 46) := by
  rw [List.getD_eq_getElem?_getD, List.getD_eq_getElem?_getD, List.getElem?_map]
  cases cs[k]? <;> rfl
theorem turn_ne (c : Nat) : (turnC c ≠ 46) ↔ c ≠ 46 := by
  unfold turnC
  split
  · subst_vars; simp
  · split
    · subst_vars; simp
    · exact Iff.rfl
theorem fsgn_turn {os : List Int} {cs : List Nat} (h : fsgn os cs = 76) : fsgn os (cs.map turnC) = 87 := by
  unfold fsgn at h ⊢
  have e : (os.map fun r => (cs.map turnC).getD r.toNat 46) = (os.map fun r => cs.getD r.toNat 46).map turnC := by
    rw [List.map_map]
    exact List.map_congr_left fun r _ => getD_turn cs r.toNat
  rw [e, List.find?_map]
  have p : ((fun c => decide (c ≠ 46)) ∘ turnC) = fun c => decide (c ≠ 46) := by
    funext c
    simp only [Function.comp_apply, decide_eq_decide]
    exact turn_ne c
  rw [p]
  cases q : (os.map fun r => cs.getD r.toNat 46).find? fun c => decide (c ≠ 46) with
  | none => rfl
  | some c =>
    rw [q] at h
    have : c = 76 := h
    subst this
    rfl
def FactsQ (n : Nat) (os : List Int) (many : Nat) (tr : Bool) (d : D) (k : Bool) (outs : Rho) : Prop := ∃ fss t, d = fl fss ∧ k = true ∧ fss.length = many ∧ (∀ cs ∈ fss, FOk n cs ∧ (tr = true → fsgn os cs ≠ 76)) ∧ Tap t ∧
  outs = [some ⟨t, true, true⟩, some ⟨il os, false, false⟩, some ⟨.int many, false, false⟩, some ⟨.bl tr, false, false⟩]
theorem FOk.ok {n : Nat} {cs : List Nat} (hf : FOk n cs) (k : Nat) : okD k (.con (.str (fs cs))) = true := okL_fs (fun c hc => by rcases hf.2 c hc with h | h | h <;> omega) k
theorem str_Lne (c : Nat) : decide ((⟨#[c]⟩ : Str) = ⟨#[76]⟩) = decide (c = 76) := by simp
theorem sp_facts {t : D} (ht : Tap t) {os : List Int} {n many : Nat} {tr : Bool} (hn : 1 ≤ n ∧ n ≤ 60) (hl : os.length = n) (ho : InB n os) (hm : many ≤ 1000) : FRes.pst (F__law_facts [⟨t, true⟩, ⟨il os, false⟩, ⟨.int many, false⟩, ⟨.bl tr, false⟩]) (FactsQ n os many tr) (fun _ _ => False) := by
  rw [F__law_facts, w_run]
  walk_at "n"
  walk_at "v"
  refine w_go (sp_draw ht ⟨by decide, by decide⟩) ?_
  rintro d k o ⟨kd, t1, rfl, rfl, hkd, ht1, rfl⟩
  walk_at "n"
  walk_at "v"
  refine w_p_forI (fun i ρ => ∃ fss t, fss.length = i ∧ (∀ cs ∈ fss, FOk n cs ∧ (tr = true → fsgn os cs ≠ 76)) ∧ Tap t ∧ ρ = [some ⟨t, true, true⟩, some ⟨il os, false, false⟩, some ⟨.int many, false, false⟩, some ⟨.bl tr, false, false⟩, some ⟨.int kd, false, false⟩, some ⟨fl fss, true, false⟩, none, none]) ⟨[], t1, rfl, (fun _ h => nomatch h), ht1, rfl⟩ ?_ ?_
  · rintro i x ρ hx ⟨fss, t, hl2, hb, ht, rfl⟩
    obtain ⟨hi, rfl⟩ := rng_at hx
    walk_at "v"
    refine w_go (sp_fact ht hn hl ho kd) ?_
    rintro d k o ⟨cs, t2, rfl, rfl, hcs, ht2, rfl⟩
    walk_at "n"
    walk_at "v"
    -- the rest of the turn, for any fact that fits
    have rest : ∀ cs, FOk n cs ∧ (tr = true → fsgn os cs ≠ 76) → ∀ Q : Fl → Rho → Prop, (∀ ds t, (FOk n ds ∧ (tr = true → fsgn os ds ≠ 76)) → Tap t → Q .nx [some ⟨t, true, true⟩, some ⟨il os, false, false⟩, some ⟨.int many, false, false⟩, some ⟨.bl tr, false, false⟩, some ⟨.int kd, false, false⟩, some ⟨fl (fss ++ [ds]), true, false⟩, some ⟨.int (0 + i), false, false⟩, some ⟨.str (fs ds), false, false⟩]) → (r__law_facts_3_l_3 [some ⟨t2, true, true⟩, some ⟨il os, false, false⟩, some ⟨.int many, false, false⟩, some ⟨.bl tr, false, false⟩, some ⟨.int kd, false, false⟩, some ⟨fl fss, true, false⟩, some ⟨.int (0 + i), false, false⟩, some ⟨.str (fs cs), false, false⟩]).pst Q fun x ρ' => False := by
      intro cs hcs Q hQ
      have fin : ∀ ds t, (FOk n ds ∧ (tr = true → fsgn os ds ≠ 76)) → Tap t → Q .nx [some ⟨t, true, true⟩, some ⟨il os, false, false⟩, some ⟨.int many, false, false⟩, some ⟨.bl tr, false, false⟩, some ⟨.int kd, false, false⟩, some ⟨.lst (fss.map (fun cs => D.con (.str (fs cs))) ++ [D.con (.str (fs ds))]), true, false⟩, some ⟨.int (0 + i), false, false⟩, some ⟨.str (fs ds), false, false⟩] := fun ds t h1 h2 => by
        have := hQ ds t h1 h2
        rw [show fl (fss ++ [ds]) = .lst (fss.map (fun cs => D.con (.str (fs cs))) ++ [D.con (.str (fs ds))]) by simp] at this
        exact this
      unfold r__law_facts_3_l_3
      walk_at "v"
      refine x_neE (okL_map fss 59 fun x hx => (hb x hx).1.ok _) ?_
      walk_at "v"
      refine br_b (fun h3 => ?_) fun h3 => ?_
      · walk_at "v"
        walk_at "n"
        walk_at "v"
        exact fin _ _ hcs ht2
      · walk_at "v"
        refine w_go (sp_draw ht2 (n := 8) ⟨by decide, by decide⟩) ?_
        rintro d k o ⟨r3, t3, rfl, rfl, hr3, ht3, rfl⟩
        walk_at "n"
        walk_at "v"
        refine br_d (fun h4 => ?_) fun h4 => ?_
        · have hpos : 0 < fss.length := by
            cases fss with
            | nil => simp at h3
            | cons a b => simp
          walk_at "v"
          refine w_go (sp_draw ht3 (n := fss.length) ⟨by omega, by omega⟩) ?_
          rintro d k o ⟨r5, t5, rfl, rfl, hr5, ht5, rfl⟩
          walk_at "n"
          walk_at "v"
          obtain ⟨k, rfl⟩ : ∃ k : Nat, r5 = k := ⟨r5.toNat, by omega⟩
          have hk : k < fss.length := by omega
          refine x_ix (at_map (f := fun cs => D.con (.str (fs cs))) hk) ?_
          walk_at "v"
          walk_at "n"
          walk_at "v"
          exact fin _ _ (hb _ (List.getElem_mem _)) ht5
        · walk_at "v"
          walk_at "n"
          walk_at "v"
          exact fin _ _ hcs ht3
    have done : ∀ ds t, (FOk n ds ∧ (tr = true → fsgn os ds ≠ 76)) → Tap t → ∃ (fss' : List (List Nat)) (t' : D), fss'.length = i + 1 ∧ (∀ cs ∈ fss', FOk n cs ∧ (tr = true → fsgn os cs ≠ 76)) ∧ Tap t' ∧ ([some ⟨t, true, true⟩, some ⟨il os, false, false⟩, some ⟨.int many, false, false⟩, some ⟨.bl tr, false, false⟩, some ⟨.int kd, false, false⟩, some ⟨fl (fss ++ [ds]), true, false⟩, none, none] : Rho) = [some ⟨t', true, true⟩, some ⟨il os, false, false⟩, some ⟨.int many, false, false⟩, some ⟨.bl tr, false, false⟩, some ⟨.int kd, false, false⟩, some ⟨fl fss', true, false⟩, none, none] := fun ds t hd ht => by
      refine ⟨fss ++ [ds], t, by simp [hl2], fun x hx => ?_, ht, rfl⟩
      rcases List.mem_append.mp hx with h | h
      · exact hb x h
      · rw [List.mem_singleton.mp h]; exact hd
    refine br_b (fun h1 => ?_) fun h1 => ?_
    · subst h1
      walk_at "v"
      refine w_go (sp_first hn.2 ho hcs.1) ?_
      rintro d k o ⟨rfl, rfl⟩
      walk_at "n"
      walk_at "v"
      rw [str_L, str_Lne]
      refine br_d (fun h2 => ?_) fun h2 => ?_
      · walk_at "v"
        refine w_go (sp_turned hn.2 hcs) ?_
        rintro d k o ⟨rfl, rfl⟩
        walk_at "n"
        walk_at "v"
        refine rest (cs.map turnC) ⟨hcs.map, fun _ => by rw [fsgn_turn h2]; decide⟩ _ fun ds t hd ht => ?_
        walk_at "n"
        walk_at "v"
        simpa only [eq_self, Bool.false_eq_true, true_imp_iff, false_imp_iff, and_true] using done ds t hd ht
      · walk_at "v"
        refine rest cs ⟨hcs, fun _ => h2⟩ _ fun ds t hd ht => ?_
        walk_at "n"
        walk_at "v"
        simpa only [eq_self, Bool.false_eq_true, true_imp_iff, false_imp_iff, and_true] using done ds t hd ht
    · subst h1
      walk_at "v"
      refine rest cs ⟨hcs, fun z => nomatch z⟩ _ fun ds t hd ht => ?_
      walk_at "n"
      walk_at "v"
      simpa only [eq_self, Bool.false_eq_true, true_imp_iff, false_imp_iff, and_true] using done ds t hd ht
  · rintro ρ ⟨fss, t, hl2, hb, ht, rfl⟩
    rw [rng_len] at hl2
    walk_at "v"
    exact ⟨fss, t, rfl, rfl, hl2, hb, ht, rfl⟩
end Law_strictranks_k61_whole_orders_or_barring
namespace Law_strictranks_k61_whole_orders_or_barring
/-! sets of rules as bits -/
def bm (p : Nat → Bool) : Nat → Nat
  | 0 => 0
  | n + 1 => (if p n = true then 2 ^ n else 0) + bm p n
theorem bm_lt (p : Nat → Bool) : ∀ n, bm p n < 2 ^ n
  | 0 => by simp [bm]
  | n + 1 => by
    have := bm_lt p n
    unfold bm
    rw [Nat.pow_succ]
    split <;> omega
theorem bm_test (p : Nat → Bool) : ∀ n r, (bm p n).testBit r = (decide (r < n) && p r)
  | 0, r => by simp [bm]
  | n + 1, r => by
    have ih := bm_test p n r
    have lt := bm_lt p n
    unfold bm
    by_cases h : p n = true
    · rw [if_pos h]
      rcases Nat.lt_trichotomy r n with q | q | q
      · rw [Nat.testBit_two_pow_add_gt q, ih]
        simp [q, show r < n + 1 by omega]
      · subst q
        rw [Nat.testBit_two_pow_add_eq, Nat.testBit_lt_two_pow lt]
        simp [h]
      · rw [Nat.testBit_lt_two_pow]
        · simp [show ¬ r < n + 1 by omega]
        · have : 2 ^ (n + 1) ≤ 2 ^ r := Nat.pow_le_pow_right (by omega) (by omega)
          rw [Nat.pow_succ] at this
          omega
    · rw [if_neg h, Nat.zero_add, ih]
      by_cases q : r = n
      · subst q; simp [h]
      · simp [show (r < n + 1) = (r < n) by simp; omega]
theorem zipIdx_range {α : Type} (d : α) (xs : List α) : xs.zipIdx = (List.range xs.length).map fun k => (xs.getD k d, k) := by
  refine List.ext_getElem (by simp) fun i h1 h2 => ?_
  simp at h1
  simp [h1]
theorem rw_range (cs : List Nat) (c : Nat) : rw_ cs c = ((List.range cs.length).filter fun k => decide (cs.getD k 46 = c)).map fun (k : Nat) => (k : Int) := by
  unfold rw_
  rw [zipIdx_range 46 cs, List.filter_map, List.map_map]
  rfl
theorem sum_bm (p : Nat → Bool) : ∀ n, (((List.range n).filter p).map fun (k : Nat) => ((2 ^ k : Nat) : Int)).sum = (bm p n : Int)
  | 0 => rfl
  | n + 1 => by
    rw [List.range_succ, List.filter_append, List.map_append, List.sum_append, sum_bm p n]
    show _ = (((if p n = true then 2 ^ n else 0) + bm p n : Nat) : Int)
    by_cases h : p n = true
    · simp [h]; omega
    · simp [h]
/-- the rules with a sign, as bits -/
def mks (cs : List Nat) (c : Nat) : Nat := bm (fun k => decide (cs.getD k 46 = c)) cs.length
theorem mk_test {cs : List Nat} {c r : Nat} (h : c ≠ 46) : (mks cs c).testBit r = decide (cs.getD r 46 = c) := by
  unfold mks
  rw [bm_test]
  by_cases q : r < cs.length
  · simp [q]
  · have : cs.getD r 46 = 46 := by simp [List.getD_eq_getElem?_getD, List.getElem?_eq_none (Nat.le_of_not_lt q)]
    rw [this]
    simp [q, Ne.symm h]
theorem mk_lt (cs : List Nat) (c : Nat) : mks cs c < 2 ^ cs.length := bm_lt _ _
theorem sp_maskof {n : Nat} {cs : List Nat} {c : Nat} (hn : n ≤ 60) (hc : cs.length = n) : FRes.pst (F_mask_of [⟨.str (fs cs), false⟩, ⟨chD c, false⟩]) (fun d k o => d = .int (mks cs c) ∧ k = false) (fun _ _ => False) := by
  have l1 := rw_len cs c
  rw [F_mask_of, w_run]
  walk_at "n"
  walk_at "v"
  refine w_go (sp_ruleswith (cs := cs) (c := c) (by omega)) ?_
  rintro d k o ⟨rfl, rfl, rfl⟩
  walk_at "n"
  walk_at "v"
  refine w_lc_map (rw_ cs c) (fun r => D.int (2 ^ r.toNat : Nat)) (by rfl) (by rfl) (by simp only [cap]; omega) ?_ ?_
  · intro r hr
    obtain ⟨k, rfl, hk⟩ := rw_in hr
    walk_at "v"
    walk_at "n"
    walk_at "v"
  rw [show (rw_ cs c).map (fun r => D.int (2 ^ r.toNat : Nat)) = ((rw_ cs c).map fun r => ((2 ^ r.toNat : Nat) : Int)).map fun n => D.con (.int n) by rw [List.map_map]; rfl]
  walk_at "v"
  rw [rw_range, List.map_map, show ((fun r : Int => ((2 ^ r.toNat : Nat) : Int)) ∘ fun (k : Nat) => (k : Int)) = fun (k : Nat) => ((2 ^ k : Nat) : Int) by funext k; simp, sum_bm]
  exact ⟨rfl, rfl⟩
end Law_strictranks_k61_whole_orders_or_barring
namespace Law_strictranks_k61_whole_orders_or_barring
/-! layers by their equation -/
def LEq (n : Nat) (fss : List (List Nat)) (ly : Nat → Nat) : Prop :=
  (∀ r, r < n → ∀ f ∈ fss, f.getD r 46 = 76 → ∃ w, w < n ∧ f.getD w 46 = 87 ∧ ly w < ly r) ∧
  ∀ r, r < n → 0 < ly r → ∃ f ∈ fss, f.getD r 46 = 76 ∧ ∀ w, w < n → f.getD w 46 = 87 → ly r ≤ ly w + 1
def Bar (n : Nat) (gs : List (List Nat)) : Prop :=
  gs ≠ [] ∧ (∀ f ∈ gs, ∃ r, r < n ∧ f.getD r 46 ≠ 46) ∧ ∀ f ∈ gs, ∀ w, w < n → f.getD w 46 = 87 → ∃ g ∈ gs, g.getD w 46 = 76
def nsl (f : List Nat) : Bool := f.any fun c => decide (c ≠ 46)
theorem nsl_iff {f : List Nat} : nsl f = true ↔ ∃ r, r < f.length ∧ f.getD r 46 ≠ 46 := by
  unfold nsl
  rw [List.any_eq_true]
  constructor
  · rintro ⟨c, hc, h⟩
    obtain ⟨r, hr, rfl⟩ := List.mem_iff_getElem.mp hc
    exact ⟨r, hr, by simpa [hr] using h⟩
  · rintro ⟨r, hr, h⟩
    exact ⟨f[r], List.getElem_mem _, by simpa [hr] using h⟩
theorem sgn_lt {f : List Nat} {r c : Nat} (h : f.getD r 46 = c) (hc : c ≠ 46) : r < f.length := by
  by_cases q : r < f.length
  · exact q
  · have : f.getD r 46 = 46 := by simp [List.getD_eq_getElem?_getD, List.getElem?_eq_none (Nat.le_of_not_lt q)]
    omega
/-- the facts that are left ahead of a front -/
def lf (fss : List (List Nat)) (F : Nat) : List (List Nat × Nat) := fss.zipIdx.filter fun p => nsl p.1 && decide (mks p.1 87 &&& F = 0)
theorem lf_zero (fss : List (List Nat)) : lf fss 0 = fss.zipIdx.filter fun p => nsl p.1 := by
  unfold lf
  congr 1
  funext p
  simp
theorem and_or_zero (a F G : Nat) : (a &&& (F ||| G) = 0) ↔ (a &&& F = 0) ∧ (a &&& G = 0) := by
  rw [Nat.and_or_distrib_left, Nat.or_eq_zero_iff]
theorem lf_or (fss : List (List Nat)) (F G : Nat) : lf fss (F ||| G) = (lf fss F).filter fun p => decide (mks p.1 87 &&& G = 0) := by
  unfold lf
  rw [List.filter_filter]
  congr 1
  funext p
  by_cases h1 : mks p.1 87 &&& F = 0 <;> by_cases h2 : mks p.1 87 &&& G = 0 <;> simp [and_or_zero, h1, h2]
theorem lf_mem {fss : List (List Nat)} {F : Nat} {f : List Nat} (hf : f ∈ fss) (h1 : nsl f = true) (h2 : mks f 87 &&& F = 0) : ∃ i, (f, i) ∈ lf fss F := by
  obtain ⟨i, hi, rfl⟩ := List.mem_iff_getElem.mp hf
  refine ⟨i, List.mem_filter.mpr ⟨?_, by simp [h1, h2]⟩⟩
  rw [List.mem_zipIdx_iff_getElem?]
  simp [hi]
theorem lf_in {fss : List (List Nat)} {F : Nat} {p : List Nat × Nat} (h : p ∈ lf fss F) : p.1 ∈ fss ∧ nsl p.1 = true ∧ mks p.1 87 &&& F = 0 := by
  obtain ⟨h1, h2⟩ := List.mem_filter.mp h
  rw [Bool.and_eq_true, decide_eq_true_eq] at h2
  refine ⟨?_, h2.1, h2.2⟩
  rw [List.mem_zipIdx_iff_getElem?] at h1
  exact List.mem_of_getElem? h1
theorem and_test {a F r : Nat} (h : a &&& F = 0) (h1 : a.testBit r = true) : F.testBit r = false := by
  have := congrArg (fun x => Nat.testBit x r) h
  simp only [Nat.testBit_and, h1, Bool.true_and, Nat.zero_testBit] at this
  exact this
theorem and_ne {a F : Nat} (h : a &&& F ≠ 0) : ∃ r, a.testBit r = true ∧ F.testBit r = true := by
  obtain ⟨r, hr⟩ := Nat.exists_testBit_of_ne_zero h
  rw [Nat.testBit_and, Bool.and_eq_true] at hr
  exact ⟨r, hr.1, hr.2⟩
def clo (F : Nat) (L : List (List Nat × Nat)) : Nat := L.foldl (fun a p => a ||| mks p.1 76) F
theorem clo_test (L : List (List Nat × Nat)) : ∀ (F r : Nat), (clo F L).testBit r = (F.testBit r || L.any fun p => (mks p.1 76).testBit r) := by
  unfold clo
  induction L with
  | nil => intro F r; simp
  | cons p L ih =>
    intro F r
    rw [List.foldl_cons, ih, List.any_cons, Nat.testBit_or, Bool.or_assoc]
theorem whole_test (n r : Nat) : (2 ^ n - 1).testBit r = decide (r < n) := Nat.testBit_two_pow_sub_one n r
structure LInv (n : Nat) (fss : List (List Nat)) (F t : Nat) (ly : Nat → Nat) (P : List Nat) : Prop where
  lt : ∀ r, F.testBit r = true → r < n
  nd : P.Nodup
  mem : ∀ r, r ∈ P ↔ F.testBit r = true
  tm : ∀ r, F.testBit r = true → ly r < t
  a : ∀ r, F.testBit r = true → ∀ f ∈ fss, f.getD r 46 = 76 → ∃ w, F.testBit w = true ∧ f.getD w 46 = 87 ∧ ly w < ly r
  b : ∀ r, F.testBit r = true → 0 < ly r → ∃ f ∈ fss, f.getD r 46 = 76 ∧ ∀ w, F.testBit w = true → f.getD w 46 = 87 → ly r ≤ ly w + 1
  c : 0 < t → ∀ r, r < n → F.testBit r = false → ∃ f ∈ fss, f.getD r 46 = 76 ∧ ∀ w, F.testBit w = true → f.getD w 46 = 87 → t ≤ ly w + 1
theorem LInv.start (n : Nat) (fss : List (List Nat)) : LInv n fss 0 0 (fun _ => 0) [] :=
  ⟨by simp, by simp, by simp, by simp, by simp, by simp, by omega⟩
def fre (n F : Nat) (fss : List (List Nat)) : Nat := (2 ^ n - 1) ^^^ clo F (lf fss F)
section
variable {n : Nat} {fss : List (List Nat)} {F t : Nat} {ly : Nat → Nat} {P : List Nat}
theorem fre_test (hF : ∀ r, F.testBit r = true → r < n) (hf : ∀ f ∈ fss, f.length = n) (r : Nat) : (fre n F fss).testBit r = true ↔ r < n ∧ F.testBit r = false ∧ ∀ p ∈ lf fss F, p.1.getD r 46 ≠ 76 := by
  unfold fre
  rw [Nat.testBit_xor, whole_test, clo_test]
  have e : ((lf fss F).any fun p => (mks p.1 76).testBit r) = true ↔ ∃ p ∈ lf fss F, p.1.getD r 46 = 76 := by
    rw [List.any_eq_true]
    constructor
    · rintro ⟨p, hp, h⟩
      rw [mk_test (by decide), decide_eq_true_eq] at h
      exact ⟨p, hp, h⟩
    · rintro ⟨p, hp, h⟩
      exact ⟨p, hp, by rw [mk_test (by decide), decide_eq_true_eq]; exact h⟩
  have lt : ∀ p ∈ lf fss F, p.1.getD r 46 = 76 → r < n := fun p hp h => by
    have := sgn_lt h (by decide)
    rw [hf _ (lf_in hp).1] at this
    exact this
  by_cases hr : r < n
  · cases h1 : F.testBit r with
    | true => simp [hr]
    | false =>
      cases h2 : (lf fss F).any fun p => (mks p.1 76).testBit r with
      | true =>
        obtain ⟨p, hp, h⟩ := e.mp h2
        simp only [hr, decide_true, Bool.or_true, bne_self_eq_false, Bool.false_eq_true, true_and, false_iff]
        exact fun z => z p hp h
      | false =>
        simp only [hr, decide_true, Bool.or_false, true_and]
        refine ⟨fun _ p hp h => ?_, fun _ => by rfl⟩
        have := e.mpr ⟨p, hp, h⟩
        rw [h2] at this
        cases this
  · have h1 : F.testBit r = false := by
      cases q : F.testBit r with
      | true => exact absurd (hF r q) hr
      | false => rfl
    have h2 : ((lf fss F).any fun p => (mks p.1 76).testBit r) = false := by
      cases q : (lf fss F).any fun p => (mks p.1 76).testBit r with
      | true =>
        obtain ⟨p, hp, h⟩ := e.mp q
        exact absurd (lt p hp h) hr
      | false => rfl
    simp [hr, h1, h2]
theorem LInv.step (I : LInv n fss F t ly P) (hf : ∀ f ∈ fss, f.length = n) :
    LInv n fss (F ||| fre n F fss) (t + 1) (fun r => if F.testBit r = true then ly r else t) (P ++ (List.range n).filter fun r => (fre n F fss).testBit r) := by
  have fr := fre_test I.lt hf
  have or : ∀ r, (F ||| fre n F fss).testBit r = true ↔ F.testBit r = true ∨ (fre n F fss).testBit r = true := fun r => by rw [Nat.testBit_or, Bool.or_eq_true]
  have old : ∀ r, F.testBit r = true → (if F.testBit r = true then ly r else t) = ly r := fun r h => if_pos h
  have new : ∀ r, (fre n F fss).testBit r = true → (if F.testBit r = true then ly r else t) = t := fun r h => if_neg (by rw [((fr r).mp h).2.1]; decide)
  refine ⟨fun r h => ?_, ?_, fun r => ?_, fun r h => ?_, fun r h f hff hl => ?_, fun r h hp => ?_, fun _ r hr h => ?_⟩
  · rcases (or r).mp h with q | q
    · exact I.lt r q
    · exact ((fr r).mp q).1
  · rw [List.nodup_append]
    refine ⟨I.nd, List.Pairwise.filter _ List.nodup_range, fun a ha b hb e => ?_⟩
    subst e
    have h1 := (I.mem a).mp ha
    have h2 := (List.mem_filter.mp hb).2
    rw [((fr a).mp h2).2.1] at h1
    cases h1
  · rw [List.mem_append, or, I.mem, List.mem_filter, List.mem_range]
    constructor
    · rintro (q | q)
      · exact .inl q
      · exact .inr q.2
    · rintro (q | q)
      · exact .inl q
      · exact .inr ⟨((fr r).mp q).1, q⟩
  · rcases (or r).mp h with q | q
    · have := I.tm r q
      simp only [old r q]; omega
    · simp only [new r q]; omega
  · rcases (or r).mp h with q | q
    · obtain ⟨w, h1, h2, h3⟩ := I.a r q f hff hl
      exact ⟨w, (or w).mpr (.inl h1), h2, by simp only [old r q, old w h1]; exact h3⟩
    · have nf : mks f 87 &&& F ≠ 0 := fun z => by
        obtain ⟨i, hi⟩ := lf_mem hff (nsl_iff.mpr ⟨r, sgn_lt hl (by decide), by omega⟩) z
        exact ((fr r).mp q).2.2 _ hi hl
      obtain ⟨w, h1, h2⟩ := and_ne nf
      rw [mk_test (by decide), decide_eq_true_eq] at h1
      exact ⟨w, (or w).mpr (.inl h2), h1, by simp only [new r q, old w h2]; exact I.tm w h2⟩
  · rcases (or r).mp h with q | q
    · simp only [old r q] at hp ⊢
      obtain ⟨f, h1, h2, h3⟩ := I.b r q hp
      refine ⟨f, h1, h2, fun w hw hs => ?_⟩
      rcases (or w).mp hw with z | z
      · simp only [old w z]; exact h3 w z hs
      · have := I.tm r q
        simp only [new w z]; omega
    · simp only [new r q] at hp ⊢
      obtain ⟨f, h1, h2, h3⟩ := I.c hp r ((fr r).mp q).1 ((fr r).mp q).2.1
      refine ⟨f, h1, h2, fun w hw hs => ?_⟩
      rcases (or w).mp hw with z | z
      · simp only [old w z]; exact h3 w z hs
      · simp only [new w z]; omega
  · have h1 : F.testBit r = false := by
      cases q : F.testBit r with
      | true => rw [(or r).mpr (.inl q)] at h; cases h
      | false => rfl
    have h2 : ¬ (fre n F fss).testBit r = true := fun q => by rw [(or r).mpr (.inr q)] at h; cases h
    rw [fr] at h2
    have h3 : ∃ p ∈ lf fss F, p.1.getD r 46 = 76 := by
      refine Classical.byContradiction fun z => h2 ⟨hr, h1, fun p hp e => z ⟨p, hp, e⟩⟩
    obtain ⟨p, hp, e⟩ := h3
    obtain ⟨h4, h5, h6⟩ := lf_in hp
    refine ⟨p.1, h4, e, fun w hw hs => ?_⟩
    rcases (or w).mp hw with z | z
    · have := and_test h6 (r := w) (by rw [mk_test (by decide), decide_eq_true_eq]; exact hs)
      rw [this] at z
      cases z
    · simp only [new w z]; omega
theorem LInv.done (I : LInv n fss F t ly P) (h : F = 2 ^ n - 1) : LEq n fss ly ∧ P.Perm (List.range n) := by
  subst h
  have w : ∀ r, (2 ^ n - 1).testBit r = true ↔ r < n := fun r => by rw [whole_test, decide_eq_true_eq]
  refine ⟨⟨fun r hr f hf hl => ?_, fun r hr hp => ?_⟩, ?_⟩
  · obtain ⟨w1, h1, h2, h3⟩ := I.a r ((w r).mpr hr) f hf hl
    exact ⟨w1, (w w1).mp h1, h2, h3⟩
  · obtain ⟨f, h1, h2, h3⟩ := I.b r ((w r).mpr hr) hp
    exact ⟨f, h1, h2, fun w1 hw hs => h3 w1 ((w w1).mpr hw) hs⟩
  · rw [List.perm_ext_iff_of_nodup I.nd List.nodup_range]
    intro r
    rw [I.mem, w, List.mem_range]
theorem LInv.bar (I : LInv n fss F t ly P) (hf : ∀ f ∈ fss, f.length = n) (h : F ≠ 2 ^ n - 1) (h0 : fre n F fss = 0) : Bar n ((lf fss F).map (·.1)) := by
  have fr := fre_test I.lt hf
  have cl : ∀ r, r < n → F.testBit r = false → ∃ p ∈ lf fss F, p.1.getD r 46 = 76 := fun r hr h1 => by
    refine Classical.byContradiction fun z => ?_
    have := (fr r).mpr ⟨hr, h1, fun p hp e => z ⟨p, hp, e⟩⟩
    rw [h0] at this
    simp at this
  have ex : ∃ r, r < n ∧ F.testBit r = false := by
    refine Classical.byContradiction fun z => h ?_
    refine Nat.eq_of_testBit_eq fun r => ?_
    rw [whole_test]
    by_cases hr : r < n
    · rw [decide_eq_true hr]
      cases q : F.testBit r with
      | true => rfl
      | false => exact absurd ⟨r, hr, q⟩ z
    · rw [decide_eq_false hr]
      cases q : F.testBit r with
      | true => exact absurd (I.lt r q) hr
      | false => rfl
  refine ⟨?_, fun f hf' => ?_, fun f hf' w hw hs => ?_⟩
  · obtain ⟨r, hr, h1⟩ := ex
    obtain ⟨p, hp, _⟩ := cl r hr h1
    exact List.ne_nil_of_mem (List.mem_map.mpr ⟨p, hp, rfl⟩)
  · obtain ⟨p, hp, rfl⟩ := List.mem_map.mp hf'
    obtain ⟨h4, h5, h6⟩ := lf_in hp
    obtain ⟨r, hr, e⟩ := nsl_iff.mp h5
    exact ⟨r, by rw [← hf _ h4]; exact hr, e⟩
  · obtain ⟨p, hp, rfl⟩ := List.mem_map.mp hf'
    obtain ⟨h4, h5, h6⟩ := lf_in hp
    have := and_test h6 (r := w) (by rw [mk_test (by decide), decide_eq_true_eq]; exact hs)
    obtain ⟨q, hq, e⟩ := cl w hw this
    exact ⟨q.1, List.mem_map.mpr ⟨q, hq, rfl⟩, e⟩
end
end Law_strictranks_k61_whole_orders_or_barring
namespace Law_strictranks_k61_whole_orders_or_barring
abbrev tupD (p : List Nat × Nat) : D := .tup [.int p.2, .int (mks p.1 87), .int (mks p.1 76)]
def pl (ly : Nat → Nat) (P : List Nat) : List (Int × Int) := P.map fun (k : Nat) => ((k : Int), ((ly k : Nat) : Int))
def lyL (n : Nat) (ly : Nat → Nat) : List Int := (List.range n).map fun (k : Nat) => ((ly k : Nat) : Int)
def LayRes (n : Nat) (fss : List (List Nat)) (d : D) : Prop :=
  (∃ ly : Nat → Nat, LEq n fss ly ∧ d = .tup [il (lyL n ly), .lst []]) ∨ ∃ F : Nat, Bar n ((lf fss F).map (·.1)) ∧ d = .tup [.lst [], il ((lf fss F).map fun p => ((p.2 : Nat) : Int))]
theorem rep_pt (n : Nat) : repS (Str.ofString ".") n = fs (List.replicate n 46) := by
  rw [str_P]
  unfold repS fs
  congr 2
  induction n with
  | zero => rfl
  | succ n ih => rw [List.replicate_succ, List.flatten_cons, ih, List.replicate_succ]; rfl
theorem sil_iff {n : Nat} {cs : List Nat} (hc : cs.length = n) : (!decide (fs cs = repS (Str.ofString ".") ((n : Int)).toNat)) = nsl cs := by
  rw [Int.toNat_natCast, rep_pt]
  have e : (fs cs = fs (List.replicate n 46)) ↔ cs = List.replicate n 46 := by
    constructor
    · intro h
      have := congrArg (fun s : Str => s.cps.toList) h
      simpa using this
    · rintro rfl; rfl
  rw [Bool.eq_iff_iff, Bool.not_eq_true', decide_eq_false_iff_not, e, List.eq_replicate_iff]
  unfold nsl
  rw [List.any_eq_true]
  constructor
  · intro h
    refine Classical.byContradiction fun z => h ⟨hc, fun b hb => ?_⟩
    refine Classical.byContradiction fun q => z ⟨b, hb, by simpa using q⟩
  · rintro ⟨c, hc1, hc2⟩ ⟨_, h⟩
    rw [h c hc1] at hc2
    simp at hc2
theorem sil_eq {n : Nat} {cs : List Nat} (hc : cs.length = n) : decide (fs cs = repS (Str.ofString ".") ((n : Int)).toNat) = !nsl cs := by rw [← sil_iff hc, Bool.not_not]
theorem LInv.len {n : Nat} {fss : List (List Nat)} {F t : Nat} {ly : Nat → Nat} {P : List Nat} (I : LInv n fss F t ly P) : P.length ≤ n := by
  have : P.Perm ((List.range n).filter fun r => F.testBit r) := by
    rw [List.perm_ext_iff_of_nodup I.nd (List.Pairwise.filter _ List.nodup_range)]
    intro r
    rw [I.mem, List.mem_filter, List.mem_range]
    exact ⟨fun h => ⟨I.lt r h, h⟩, fun h => h.2⟩
  rw [this.length_eq]
  refine Nat.le_trans (List.length_filter_le _ _) ?_
  simp
theorem LInv.ltF {n : Nat} {fss : List (List Nat)} {F t : Nat} {ly : Nat → Nat} {P : List Nat} (I : LInv n fss F t ly P) : F < 2 ^ n := Nat.lt_pow_two_of_testBit F fun r hr => by
  cases q : F.testBit r with
  | true => have := I.lt r q; omega
  | false => rfl
theorem add_xor : ∀ (a b : Nat), a + b = (a ^^^ b) + 2 * (a &&& b) := by
  intro a
  induction a using Nat.strongRecOn with
  | _ a ih =>
    intro b
    by_cases h : a = 0
    · subst h; simp
    · have i := ih (a / 2) (by omega) (b / 2)
      have e1 : (a ^^^ b) / 2 = (a / 2) ^^^ (b / 2) := Nat.xor_div_two
      have e2 : (a &&& b) / 2 = (a / 2) &&& (b / 2) := Nat.and_div_two
      have f1 : (a ^^^ b) % 2 = 1 ↔ ¬ (a % 2 = 1 ↔ b % 2 = 1) := Nat.xor_mod_two_eq_one
      have f2 : (a &&& b) % 2 = 1 ↔ a % 2 = 1 ∧ b % 2 = 1 := Nat.and_mod_two_eq_one
      rw [← e1, ← e2] at i
      omega
theorem or_gt {F G : Nat} (h : G ≠ 0) (hd : ∀ r, G.testBit r = true → F.testBit r = false) : F < F ||| G := by
  have e : F ||| G = F + G := by
    have z : F &&& G = 0 := by
      refine Nat.eq_of_testBit_eq fun r => ?_
      rw [Nat.testBit_and, Nat.zero_testBit]
      cases q : G.testBit r with
      | true => rw [hd r q]; rfl
      | false => simp
    have x := xor_add_and F G
    have y : F + G = (F ^^^ G) + 2 * (F &&& G) := add_xor F G
    omega
  omega
theorem sortP_len (ps : List (Int × Int)) : (sortP ps).length = ps.length := (List.mergeSort_perm ps lexLe).length_eq
theorem sort_pl {n : Nat} {ly : Nat → Nat} {P : List Nat} (h : P.Perm (List.range n)) : sortP (pl ly P) = (List.range n).map fun (k : Nat) => ((k : Int), ((ly k : Nat) : Int)) := by
  refine (sortP_unique ?_ ?_).symm
  · unfold pl
    exact h.symm.map _
  · rw [List.pairwise_map]
    refine List.Pairwise.imp ?_ List.pairwise_lt_range
    intro a b hab
    rw [lexLe_iff]
    left
    show (a : Int) < (b : Int)
    omega
end Law_strictranks_k61_whole_orders_or_barring
namespace Law_strictranks_k61_whole_orders_or_barring
theorem sp_layered {n : Nat} {fss : List (List Nat)} (hn : 1 ≤ n ∧ n ≤ 60) (hl : fss.length ≤ 1000) (hf : ∀ cs ∈ fss, FOk n cs) : FRes.pst (F_layered [⟨.int n, false⟩, ⟨fl fss, false⟩]) (fun d k o => LayRes n fss d ∧ k = false ∧ o = [some ⟨.int n, false, false⟩, some ⟨fl fss, false, false⟩]) (fun _ _ => False) := by
  have hlen : ∀ f ∈ fss, f.length = n := fun f h => (hf f h).1
  have lfl : ∀ F, (lf fss F).length ≤ fss.length := fun F => by
    unfold lf
    refine Nat.le_trans (List.length_filter_le _ _) ?_
    rw [List.length_zipIdx]
    omega
  rw [F_layered, w_run]
  walk_at "n"
  walk_at "v"
  rw [enum_map]
  refine w_p_forP fss.zipIdx (fun p => D.tup [.int p.2, .con (.str (fs p.1))]) (fun pre ρ => ρ = [some ⟨.int n, false, false⟩, some ⟨fl fss, false, false⟩, some ⟨.lst [], true, false⟩, some ⟨.lst ((pre.filter fun p => nsl p.1).map tupD), true, false⟩, none, none, none, none, none, none, none, none, none, none, none]) rfl ?_ ?_
  · rintro pre p post ρ e rfl
    have hp : FOk n p.1 := hf _ (by
      have : p ∈ fss.zipIdx := by rw [e]; simp
      rw [List.mem_zipIdx_iff_getElem?] at this
      exact List.mem_of_getElem? this)
    have l1 := List.length_filter_le (fun p : List Nat × Nat => nsl p.1) pre
    have l2 : pre.length ≤ fss.length := by
      have := congrArg List.length e
      simp at this
      omega
    walk_at "v"
    rw [sil_eq hp.1]
    walk_at "v"
    refine br_b (fun h1 => ?_) fun h1 => ?_
    · walk_at "v"
      rw [str_W]
      refine w_go (sp_maskof (cs := p.1) (c := 87) hn.2 hp.1) ?_
      rintro d k o ⟨rfl, rfl⟩
      walk_at "n"
      walk_at "v"
      rw [str_L]
      refine w_go (sp_maskof (cs := p.1) (c := 76) hn.2 hp.1) ?_
      rintro d k o ⟨rfl, rfl⟩
      walk_at "n"
      walk_at "v"
      walk_at "n"
      walk_at "v"
      rw [List.filter_append]
      simp [h1, tupD]
    · walk_at "n"
      walk_at "v"
      rw [List.filter_append]
      simp [h1]
  · rintro ρ rfl
    rw [← lf_zero]
    walk_at "v"
    have pw : 1 ≤ 2 ^ n := Nat.one_le_two_pow
    rw [show (((2 ^ n : Nat) : Int) - 1) = ((2 ^ n - 1 : Nat) : Int) by omega]
    refine w_p_while (fun m ρ => ∃ F t ly P, LInv n fss F t ly P ∧ m = 2 ^ n - F ∧ ρ = [some ⟨.int n, false, false⟩, some ⟨fl fss, false, false⟩, some ⟨.lst ((pl ly P).map pairD), true, false⟩, some ⟨.lst ((lf fss F).map tupD), true, false⟩, none, none, some ⟨.int F, false, false⟩, some ⟨.int t, false, false⟩, some ⟨.int (2 ^ n - 1 : Nat), false, false⟩, none, none, none, none, none, none]) (2 ^ n - 0) ⟨0, 0, fun _ => 0, [], LInv.start n fss, rfl, rfl⟩ ?_
    rintro m ρ ⟨F, t, ly, P, I, rfl, rfl⟩
    have hF := I.ltF
    have hP := I.len
    walk_at "v"
    rw [show decide ((F : Int) = ((2 ^ n - 1 : Nat) : Int)) = decide (F = 2 ^ n - 1) by rw [decide_eq_decide]; omega]
    refine br_d (fun h1 => ?_) fun h1 => ?_
    · obtain ⟨le, pm⟩ := I.done h1
      walk_at "v"
      refine x_sortP ?_
      walk_at "v"
      refine w_lc_mapW (sortP (pl ly P)) (fun p => D.int p.2) _ rfl (by rfl) (by rw [sortP_len]; simp [pl, cap]; omega) ?_ ?_
      · intro p hp
        walk_at "v"
        walk_at "n"
        walk_at "v"
      have e : (sortP (pl ly P)).map (fun p => D.int p.2) = (lyL n ly).map fun n => D.con (.int n) := by
        rw [sort_pl pm]
        unfold lyL
        rw [List.map_map, List.map_map]
        rfl
      rw [e]
      walk_at "n"
      walk_at "v"
      exact ⟨.inl ⟨ly, le, rfl⟩, rfl, rfl⟩
    · walk_at "v"
      walk_at "n"
      walk_at "v"
      refine w_p_forP (lf fss F) tupD (fun pre ρ => ρ = [some ⟨.int n, false, false⟩, some ⟨fl fss, false, false⟩, some ⟨.lst ((pl ly P).map pairD), true, false⟩, some ⟨.lst ((lf fss F).map tupD), false, false⟩, none, none, some ⟨.int F, false, false⟩, some ⟨.int t, false, false⟩, some ⟨.int (2 ^ n - 1 : Nat), false, false⟩, some ⟨.int (clo F pre), false, false⟩, none, none, none, none, none]) rfl ?_ ?_
      · rintro pre p post ρ e rfl
        walk_at "v"
        walk_at "n"
        walk_at "v"
        unfold clo
        rw [List.foldl_append]
        rfl
      · rintro ρ rfl
        walk_at "v"
        rw [show 2 ^ n - 1 ^^^ clo F (lf fss F) = fre n F fss from rfl]
        rw [show decide (((fre n F fss : Nat) : Int) = 0) = decide (fre n F fss = 0) by rw [decide_eq_decide]; omega]
        refine br_d (fun h2 => ?_) fun h2 => ?_
        · walk_at "v"
          refine w_lc_map (lf fss F) (fun p => D.int p.2) (by rfl) (by rfl) (by have := lfl F; simp only [cap]; omega) ?_ ?_
          · intro p hp
            walk_at "v"
            walk_at "n"
            walk_at "v"
          rw [show (lf fss F).map (fun p => D.int p.2) = ((lf fss F).map fun p => ((p.2 : Nat) : Int)).map fun n => D.con (.int n) by rw [List.map_map]; rfl]
          walk_at "v"
          walk_at "n"
          walk_at "v"
          exact ⟨.inr ⟨F, I.bar hlen h1 h2, rfl⟩, trivial, trivial⟩
        · walk_at "v"
          refine w_lc_flt (List.range n) (fun r => (fre n F fss).testBit r) (fun r => D.tup [.int r, .int t]) (rng0_map _) (by rfl) (by simp [cap]; omega) ?_ ?_
          · intro r hr
            walk_at "v"
            refine br_b (fun h3 => ?_) fun h3 => ?_
            · walk_at "v"
              walk_at "n"
              walk_at "v"
              walk_at "b"
            · walk_at "n"
              walk_at "v"
              walk_at "b"
          walk_at "v"
          have frT := fre_test I.lt hlen
          have nl : ((List.range n).filter fun r => (fre n F fss).testBit r).length ≤ n := by
            refine Nat.le_trans (List.length_filter_le _ _) ?_
            simp
          refine ⟨by simp only [List.length_map, pl, cap]; omega, ?_⟩
          have I2 := I.step hlen
          rw [show (pl ly P).map VL.pairD ++ ((List.range n).filter fun r => (fre n F fss).testBit r).map (fun (r : Nat) => D.tup [.int r, .int t]) = (pl (fun r => if F.testBit r = true then ly r else t) (P ++ (List.range n).filter fun r => (fre n F fss).testBit r)).map VL.pairD by
            unfold pl
            rw [List.map_append, List.map_append, List.map_map, List.map_map, List.map_map]
            congr 1
            · refine List.map_congr_left fun r hr => ?_
              simp [(I.mem r).mp hr]
            · refine List.map_congr_left fun r hr => ?_
              have := ((frT r).mp (List.mem_filter.mp hr).2).2.1
              simp [this]]
          walk_at "s"
          walk_at "v"
          refine w_lc_flt (lf fss F) (fun p => decide (mks p.1 87 &&& fre n F fss = 0)) tupD (by rfl) (by rfl) (by have := lfl F; simp only [cap]; omega) ?_ ?_
          · intro p hp
            walk_at "v"
            rw [show decide (((mks p.1 87 &&& fre n F fss : Nat) : Int) = 0) = decide (mks p.1 87 &&& fre n F fss = 0) by rw [decide_eq_decide]; omega]
            refine br_d (fun h3 => ?_) fun h3 => ?_
            · walk_at "v"
              walk_at "n"
              walk_at "v"
              clear frT I I2
              walk_at "b"
            · walk_at "n"
              walk_at "v"
              clear frT I I2
              walk_at "b"
          rw [← lf_or]
          walk_at "v"
          walk_at "n"
          walk_at "v"
          have gt := or_gt (F := F) h2 fun r hr => ((frT r).mp hr).2.1
          have lt2 := I2.ltF
          exact ⟨2 ^ n - (F ||| fre n F fss), by omega, _, t + 1, _, _, I2, rfl, by simp⟩
end Law_strictranks_k61_whole_orders_or_barring
namespace Law_strictranks_k61_whole_orders_or_barring
def LayRes0 (n : Nat) (fss : List (List Nat)) (d : D) : Prop :=
  (∃ ly : Nat → Nat, LEq n fss ly ∧ d = il (lyL n ly)) ∨ ∃ F : Nat, Bar n ((lf fss F).map (·.1)) ∧ d = .lst []
theorem sp_layered0 {n : Nat} {fss : List (List Nat)} (hn : 1 ≤ n ∧ n ≤ 60) (hl : fss.length ≤ 1000) (hf : ∀ cs ∈ fss, FOk n cs) : FRes.pst (F_layered_p0 [⟨.int n, false⟩, ⟨fl fss, false⟩]) (fun d k o => LayRes0 n fss d ∧ k = true ∧ o = [some ⟨.int n, false, false⟩, some ⟨fl fss, false, false⟩]) (fun _ _ => False) := by
  have hlen : ∀ f ∈ fss, f.length = n := fun f h => (hf f h).1
  have lfl : ∀ F, (lf fss F).length ≤ fss.length := fun F => by
    unfold lf
    refine Nat.le_trans (List.length_filter_le _ _) ?_
    rw [List.length_zipIdx]
    omega
  rw [F_layered_p0]
  refine w_runP (by rintro o ⟨h, _⟩; rcases h with ⟨_, _, e⟩ | ⟨_, _, e⟩ <;> cases e) ?_
  walk_at "n"
  walk_at "v"
  rw [enum_map]
  refine w_p_forP fss.zipIdx (fun p => D.tup [.int p.2, .con (.str (fs p.1))]) (fun pre ρ => ρ = [some ⟨.int n, false, false⟩, some ⟨fl fss, false, false⟩, some ⟨.lst [], true, false⟩, some ⟨.lst ((pre.filter fun p => nsl p.1).map tupD), true, false⟩, none, none, none, none, none, none, none, none, none, none, none]) rfl ?_ ?_
  · rintro pre p post ρ e rfl
    have hp : FOk n p.1 := hf _ (by
      have : p ∈ fss.zipIdx := by rw [e]; simp
      rw [List.mem_zipIdx_iff_getElem?] at this
      exact List.mem_of_getElem? this)
    have l1 := List.length_filter_le (fun p : List Nat × Nat => nsl p.1) pre
    have l2 : pre.length ≤ fss.length := by
      have := congrArg List.length e
      simp at this
      omega
    walk_at "v"
    rw [sil_eq hp.1]
    walk_at "v"
    refine br_b (fun h1 => ?_) fun h1 => ?_
    · walk_at "v"
      rw [str_W]
      refine w_go (sp_maskof (cs := p.1) (c := 87) hn.2 hp.1) ?_
      rintro d k o ⟨rfl, rfl⟩
      walk_at "n"
      walk_at "v"
      rw [str_L]
      refine w_go (sp_maskof (cs := p.1) (c := 76) hn.2 hp.1) ?_
      rintro d k o ⟨rfl, rfl⟩
      walk_at "n"
      walk_at "v"
      walk_at "n"
      walk_at "v"
      rw [List.filter_append]
      simp [h1, tupD]
    · walk_at "n"
      walk_at "v"
      rw [List.filter_append]
      simp [h1]
  · rintro ρ rfl
    rw [← lf_zero]
    walk_at "v"
    have pw : 1 ≤ 2 ^ n := Nat.one_le_two_pow
    rw [show (((2 ^ n : Nat) : Int) - 1) = ((2 ^ n - 1 : Nat) : Int) by omega]
    refine w_p_while (fun m ρ => ∃ F t ly P, LInv n fss F t ly P ∧ m = 2 ^ n - F ∧ ρ = [some ⟨.int n, false, false⟩, some ⟨fl fss, false, false⟩, some ⟨.lst ((pl ly P).map pairD), true, false⟩, some ⟨.lst ((lf fss F).map tupD), true, false⟩, none, none, some ⟨.int F, false, false⟩, some ⟨.int t, false, false⟩, some ⟨.int (2 ^ n - 1 : Nat), false, false⟩, none, none, none, none, none, none]) (2 ^ n - 0) ⟨0, 0, fun _ => 0, [], LInv.start n fss, rfl, rfl⟩ ?_
    rintro m ρ ⟨F, t, ly, P, I, rfl, rfl⟩
    have hF := I.ltF
    have hP := I.len
    walk_at "v"
    rw [show decide ((F : Int) = ((2 ^ n - 1 : Nat) : Int)) = decide (F = 2 ^ n - 1) by rw [decide_eq_decide]; omega]
    refine br_d (fun h1 => ?_) fun h1 => ?_
    · obtain ⟨le, pm⟩ := I.done h1
      walk_at "v"
      refine x_sortP ?_
      walk_at "v"
      refine w_lc_mapW (sortP (pl ly P)) (fun p => D.int p.2) _ rfl (by rfl) (by rw [sortP_len]; simp [pl, cap]; omega) ?_ ?_
      · intro p hp
        walk_at "v"
        walk_at "n"
        walk_at "v"
      have e : (sortP (pl ly P)).map (fun p => D.int p.2) = (lyL n ly).map fun n => D.con (.int n) := by
        rw [sort_pl pm]
        unfold lyL
        rw [List.map_map, List.map_map]
        rfl
      rw [e]
      walk_at "n"
      walk_at "v"
      exact ⟨.inl ⟨ly, le, rfl⟩, rfl, rfl⟩
    · walk_at "v"
      walk_at "n"
      walk_at "v"
      refine w_p_forP (lf fss F) tupD (fun pre ρ => ρ = [some ⟨.int n, false, false⟩, some ⟨fl fss, false, false⟩, some ⟨.lst ((pl ly P).map pairD), true, false⟩, some ⟨.lst ((lf fss F).map tupD), false, false⟩, none, none, some ⟨.int F, false, false⟩, some ⟨.int t, false, false⟩, some ⟨.int (2 ^ n - 1 : Nat), false, false⟩, some ⟨.int (clo F pre), false, false⟩, none, none, none, none, none]) rfl ?_ ?_
      · rintro pre p post ρ e rfl
        walk_at "v"
        walk_at "n"
        walk_at "v"
        unfold clo
        rw [List.foldl_append]
        rfl
      · rintro ρ rfl
        walk_at "v"
        rw [show 2 ^ n - 1 ^^^ clo F (lf fss F) = fre n F fss from rfl]
        rw [show decide (((fre n F fss : Nat) : Int) = 0) = decide (fre n F fss = 0) by rw [decide_eq_decide]; omega]
        refine br_d (fun h2 => ?_) fun h2 => ?_
        · walk_at "v"
          refine w_lc_map (lf fss F) (fun p => D.int p.2) (by rfl) (by rfl) (by have := lfl F; simp only [cap]; omega) ?_ ?_
          · intro p hp
            walk_at "v"
            walk_at "n"
            walk_at "v"
          rw [show (lf fss F).map (fun p => D.int p.2) = ((lf fss F).map fun p => ((p.2 : Nat) : Int)).map fun n => D.con (.int n) by rw [List.map_map]; rfl]
          walk_at "v"
          walk_at "n"
          walk_at "v"
          exact ⟨.inr ⟨F, I.bar hlen h1 h2, rfl⟩, trivial, trivial⟩
        · walk_at "v"
          refine w_lc_flt (List.range n) (fun r => (fre n F fss).testBit r) (fun r => D.tup [.int r, .int t]) (rng0_map _) (by rfl) (by simp [cap]; omega) ?_ ?_
          · intro r hr
            walk_at "v"
            refine br_b (fun h3 => ?_) fun h3 => ?_
            · walk_at "v"
              walk_at "n"
              walk_at "v"
              walk_at "b"
            · walk_at "n"
              walk_at "v"
              walk_at "b"
          walk_at "v"
          have frT := fre_test I.lt hlen
          have nl : ((List.range n).filter fun r => (fre n F fss).testBit r).length ≤ n := by
            refine Nat.le_trans (List.length_filter_le _ _) ?_
            simp
          refine ⟨by simp only [List.length_map, pl, cap]; omega, ?_⟩
          have I2 := I.step hlen
          rw [show (pl ly P).map VL.pairD ++ ((List.range n).filter fun r => (fre n F fss).testBit r).map (fun (r : Nat) => D.tup [.int r, .int t]) = (pl (fun r => if F.testBit r = true then ly r else t) (P ++ (List.range n).filter fun r => (fre n F fss).testBit r)).map VL.pairD by
            unfold pl
            rw [List.map_append, List.map_append, List.map_map, List.map_map, List.map_map]
            congr 1
            · refine List.map_congr_left fun r hr => ?_
              simp [(I.mem r).mp hr]
            · refine List.map_congr_left fun r hr => ?_
              have := ((frT r).mp (List.mem_filter.mp hr).2).2.1
              simp [this]]
          walk_at "s"
          walk_at "v"
          refine w_lc_flt (lf fss F) (fun p => decide (mks p.1 87 &&& fre n F fss = 0)) tupD (by rfl) (by rfl) (by have := lfl F; simp only [cap]; omega) ?_ ?_
          · intro p hp
            walk_at "v"
            rw [show decide (((mks p.1 87 &&& fre n F fss : Nat) : Int) = 0) = decide (mks p.1 87 &&& fre n F fss = 0) by rw [decide_eq_decide]; omega]
            refine br_d (fun h3 => ?_) fun h3 => ?_
            · walk_at "v"
              walk_at "n"
              walk_at "v"
              clear frT I I2
              walk_at "b"
            · walk_at "n"
              walk_at "v"
              clear frT I I2
              walk_at "b"
          rw [← lf_or]
          walk_at "v"
          walk_at "n"
          walk_at "v"
          have gt := or_gt (F := F) h2 fun r hr => ((frT r).mp hr).2.1
          have lt2 := I2.ltF
          exact ⟨2 ^ n - (F ||| fre n F fss), by omega, _, t + 1, _, _, I2, rfl, by simp⟩
end Law_strictranks_k61_whole_orders_or_barring
namespace Law_strictranks_k61_whole_orders_or_barring
theorem sp_needcount {n : Nat} (hn : 1 ≤ n ∧ n ≤ 60) : FRes.pst (F_need_count [⟨.int n, false⟩, ⟨.int 60, false⟩]) (fun d k o => k = false) (fun _ _ => False) := by
  rw [F_need_count, w_run]
  walk_at "n"
  walk_at "v"
  refine w_go (sp_isint (x := (n : Int)) (a := 1) (b := 60) ⟨by omega, by omega⟩) ?_
  rintro d k o ⟨rfl, rfl⟩
  walk_at "n"
  walk_at "v"
  walk_at "n"
  walk_at "v"
theorem sp_ncf {n : Nat} {fss : List (List Nat)} (hn : 1 ≤ n ∧ n ≤ 60) (hl : fss.length ≤ 200) (hf : ∀ cs ∈ fss, FOk n cs) : FRes.pst (F_need_count_and_facts [⟨.int n, false⟩, ⟨fl fss, false⟩, ⟨.int 60, false⟩]) (fun d k o => k = false ∧ o = [some ⟨.int n, false, false⟩, some ⟨fl fss, false, false⟩, some ⟨.int 60, false, false⟩]) (fun _ _ => False) := by
  rw [F_need_count_and_facts, w_run]
  walk_at "n"
  walk_at "v"
  refine w_go (sp_needcount hn) ?_
  rintro d k o rfl
  walk_at "n"
  walk_at "v"
  refine w_go (sp_needfacts hn.2 hl hf) ?_
  rintro d k o ⟨rfl, rfl⟩
  walk_at "n"
  walk_at "v"
  walk_at "n"
  walk_at "v"
end Law_strictranks_k61_whole_orders_or_barring
namespace Law_strictranks_k61_whole_orders_or_barring
/-! plain laws of layers -/
theorem first_at {n : Nat} {os : List Int} {f : List Nat} (ho : Ord n os) (hf : FOk n f) (h : fsgn os f ≠ 76) (hs : ∃ r, r < n ∧ f.getD r 46 ≠ 46) :
    ∃ k w : Nat, os[k]? = some (w : Int) ∧ w < n ∧ f.getD w 46 = 87 ∧ ∀ j u, j < k → os[j]? = some u → f.getD u.toNat 46 = 46 := by
  unfold fsgn at h
  have inb := ho.inb
  cases q : (os.map fun r => f.getD r.toNat 46).find? fun c => decide (c ≠ 46) with
  | none =>
    obtain ⟨r, hr, e⟩ := hs
    rw [List.find?_eq_none] at q
    have : (r : Int) ∈ os := ho.mem_iff.mpr (by unfold rg; exact List.mem_map.mpr ⟨r, List.mem_range.mpr hr, rfl⟩)
    have := q _ (List.mem_map.mpr ⟨(r : Int), this, rfl⟩)
    simp at this
    exact absurd this (by simpa using e)
  | some c =>
    rw [q] at h
    replace h : c ≠ 76 := h
    obtain ⟨h1, as, bs, e, h2⟩ := List.find?_eq_some_iff_append.mp q
    have hk : (os.map fun r => f.getD r.toNat 46)[as.length]? = some c := by rw [e]; simp
    rw [List.getElem?_map] at hk
    obtain ⟨u, hu, eu⟩ := Option.map_eq_some_iff.mp hk
    have hb := inb u (List.mem_of_getElem? hu)
    obtain ⟨w, rfl⟩ : ∃ w : Nat, u = w := ⟨u.toNat, by omega⟩
    have hw : w < n := by omega
    have hg : f.getD w 46 = c := eu
    have hc : c ∈ f := by
      rw [← hg, List.getD_eq_getElem?_getD, List.getElem?_eq_getElem (by rw [hf.1]; exact hw)]
      exact List.getElem_mem _
    refine ⟨as.length, w, hu, hw, ?_, fun j v hj hv => ?_⟩
    · rw [hg]
      rcases hf.2 c hc with q | q | q
      · exact q
      · exact absurd q h
      · rw [q] at h1; simp at h1
    · have hm : (os.map fun r => f.getD r.toNat 46)[j]? = some (f.getD v.toNat 46) := by rw [List.getElem?_map, hv]; rfl
      rw [e, List.getElem?_append_left hj] at hm
      have := h2 _ (List.mem_of_getElem? hm)
      simpa using this
theorem no_bar {n : Nat} {os : List Int} {gs : List (List Nat)} (ho : Ord n os) (hg : ∀ f ∈ gs, FOk n f ∧ fsgn os f ≠ 76) : ¬ Bar n gs := by
  rintro ⟨h0, h1, h2⟩
  have key : ∀ k : Nat, ∀ f ∈ gs, ∀ w : Nat, os[k]? = some (w : Int) → w < n → f.getD w 46 = 87 → False := by
    intro k
    induction k using Nat.strongRecOn with
    | _ k ih =>
      intro f hf w hk hw hs
      obtain ⟨g, hgm, hgl⟩ := h2 f hf w hw hs
      obtain ⟨k2, w2, a1, a2, a3, a4⟩ := first_at ho (hg g hgm).1 (hg g hgm).2 ⟨w, hw, by rw [hgl]; decide⟩
      rcases Nat.lt_trichotomy k2 k with z | z | z
      · exact ih k2 z g hgm w2 a1 a2 a3
      · subst z
        rw [a1] at hk
        have : w2 = w := by have := Option.some.inj hk; omega
        subst this
        rw [a3] at hgl
        cases hgl
      · have := a4 k w z hk
        rw [Int.toNat_natCast, hgl] at this
        cases this
  obtain ⟨f, hf⟩ := List.exists_mem_of_ne_nil _ h0
  obtain ⟨k, w, a1, a2, a3, a4⟩ := first_at ho (hg f hf).1 (hg f hf).2 (h1 f hf)
  exact key k f hf w a1 a2 a3
theorem LEq.mono {n : Nat} {fss gss : List (List Nat)} {la lb : Nat → Nat} (a : LEq n fss la) (b : LEq n gss lb) (h : ∀ f ∈ fss, f ∈ gss) : ∀ r, r < n → la r ≤ lb r := by
  have key : ∀ m, ∀ r, r < n → lb r = m → la r ≤ lb r := by
    intro m
    induction m using Nat.strongRecOn with
    | _ m ih =>
      intro r hr e
      by_cases h0 : 0 < la r
      · obtain ⟨f, f1, f2, f3⟩ := a.2 r hr h0
        obtain ⟨w, w1, w2, w3⟩ := b.1 r hr f (h f f1) f2
        have i := ih (lb w) (by omega) w w1 rfl
        have := f3 w w1 w2
        omega
      · omega
  exact fun r hr => key _ r hr rfl
theorem LEq.uniq {n : Nat} {fss gss : List (List Nat)} {la lb : Nat → Nat} (a : LEq n fss la) (b : LEq n gss lb) (h : ∀ f, f ∈ fss ↔ f ∈ gss) : lyL n la = lyL n lb := by
  unfold lyL
  refine List.map_congr_left fun r hr => ?_
  have hr := List.mem_range.mp hr
  have := a.mono b (fun f hf => (h f).mp hf) r hr
  have := b.mono a (fun f hf => (h f).mpr hf) r hr
  omega
theorem LEq.down {n : Nat} {fss : List (List Nat)} {ly : Nat → Nat} (a : LEq n fss ly) {r : Nat} (hr : r < n) (h : 0 < ly r) : ∃ w, w < n ∧ ly w + 1 = ly r := by
  obtain ⟨f, f1, f2, f3⟩ := a.2 r hr h
  obtain ⟨w, w1, w2, w3⟩ := a.1 r hr f f1 f2
  have := f3 w w1 w2
  exact ⟨w, w1, by omega⟩
theorem LEq.all {n : Nat} {fss : List (List Nat)} {ly : Nat → Nat} (a : LEq n fss ly) : ∀ m r, r < n → ly r = m → ∀ v, v ≤ m → ∃ w, w < n ∧ ly w = v := by
  intro m
  induction m with
  | zero => intro r hr e v hv; exact ⟨r, hr, by omega⟩
  | succ m ih =>
    intro r hr e v hv
    obtain ⟨w, w1, w2⟩ := a.down hr (by omega)
    by_cases q : v = m + 1
    · exact ⟨r, hr, by omega⟩
    · exact ih w w1 (by omega) v (by omega)
/-- the layers stay below the number of the rules -/
theorem LEq.lt {n : Nat} {fss : List (List Nat)} {ly : Nat → Nat} (a : LEq n fss ly) {r : Nat} (hr : r < n) : ly r < n := by
  refine Classical.byContradiction fun z => ?_
  have sub : (List.range (ly r + 1)).Subset ((List.range n).map ly) := fun v hv => by
    obtain ⟨w, w1, w2⟩ := a.all (ly r) r hr rfl v (by have := List.mem_range.mp hv; omega)
    exact List.mem_map.mpr ⟨w, List.mem_range.mpr w1, w2⟩
  have := List.Nodup.length_le_of_subset List.nodup_range sub
  simp at this
  omega
theorem LEq.lok {n : Nat} {fss : List (List Nat)} {ly : Nat → Nat} (hn : n ≤ 60) (a : LEq n fss ly) : LOk n (lyL n ly) := by
  refine ⟨by simp [lyL], fun x hx => ?_⟩
  unfold lyL at hx
  obtain ⟨r, hr, rfl⟩ := List.mem_map.mp hx
  have := a.lt (List.mem_range.mp hr)
  omega
theorem ly_at {n : Nat} (ly : Nat → Nat) {k : Nat} (hk : k < n) : (lyL n ly).getD k 0 = (ly k : Int) := by
  unfold lyL
  simp [hk]
theorem LEq.hb {n : Nat} {fss : List (List Nat)} {ly : Nat → Nat} (a : LEq n fss ly) {f : List Nat} (hf : f ∈ fss) (hl : f.length = n) : HB (lyL n ly) f = true := by
  rw [HB_iff]
  by_cases q : ∀ k, k < f.length → f.getD k 46 ≠ 76
  · exact .inl q
  · right
    have ⟨r, hr, e⟩ : ∃ r, r < n ∧ f.getD r 46 = 76 := by
      refine Classical.byContradiction fun z => q fun k hk e => z ⟨k, by omega, e⟩
    -- a W in the least layer
    have least : ∀ m, ∀ w, w < n → f.getD w 46 = 87 → ly w = m → ∃ u, u < n ∧ f.getD u 46 = 87 ∧ ∀ v, v < n → f.getD v 46 = 87 → ly u ≤ ly v := by
      intro m
      induction m using Nat.strongRecOn with
      | _ m ih =>
        intro w hw hs e
        by_cases z : ∀ v, v < n → f.getD v 46 = 87 → ly w ≤ ly v
        · exact ⟨w, hw, hs, z⟩
        · have ⟨v, hv, h1, h2⟩ : ∃ v, v < n ∧ f.getD v 46 = 87 ∧ ly v < ly w := by
            refine Classical.byContradiction fun y => z fun v hv h1 => ?_
            refine Classical.byContradiction fun x => y ⟨v, hv, h1, by omega⟩
          exact ih (ly v) (by omega) v hv h1 rfl
    obtain ⟨w, w1, w2, w3⟩ := a.1 r hr f hf e
    obtain ⟨u, u1, u2, u3⟩ := least _ w w1 w2 rfl
    refine ⟨u, by omega, u2, fun k hk hkl => ?_⟩
    rw [ly_at ly u1, ly_at ly (by omega)]
    obtain ⟨v, v1, v2, v3⟩ := a.1 k (by omega) f hf hkl
    have := u3 v v1 v2
    omega
end Law_strictranks_k61_whole_orders_or_barring
namespace Law_strictranks_k61_whole_orders_or_barring
/-- from the list's rule to the rising list's -/
theorem w_ss_of {own : List Nat} {t : Tg} {q : M Bool} {r : DE} {xs : List D} {ρ : Rho} {V1 : D × Kd → Rho → Prop} {E : Exn → Rho → Prop}
    (h : ((lcD own t q r xs) ρ).pst (LcK own fun x ρ' => ∃ ds z, x = (.lst ds, .fr) ∧ ssEnd ds = some z ∧ V1 z ρ') E) : ((lcD own t q r xs) ρ).pst (SsK own V1) E := by
  rw [pst_iff] at *
  refine Res.post_ok h fun ds ρ' z => ?_
  obtain ⟨_, ds2, w, e, e2, v⟩ := z
  cases e
  exact ⟨w, e2, v⟩
/-- the masks of a rule: what stands ahead of it, by each fact with L there -/
def mk0 (fss : List (List Nat)) (k : Nat) : List Int := (fss.filter fun f => decide (f.getD k 46 = 76)).map fun f => ((mks f 87 : Nat) : Int)
def msk (fss : List (List Nat)) (k : Nat) : List Int := sortU (mk0 fss k)
abbrev mskD (n : Nat) (fss : List (List Nat)) : D := .lst ((List.range n).map fun k => il (msk fss k))
theorem sp_masks {n : Nat} {fss : List (List Nat)} (hn : 1 ≤ n ∧ n ≤ 60) (hl : fss.length ≤ 1000) (hf : ∀ cs ∈ fss, FOk n cs) : FRes.pst (F_masks_of [⟨.int n, false⟩, ⟨fl fss, false⟩]) (fun d k o => d = mskD n fss ∧ k = true ∧ o = [some ⟨.int n, false, false⟩, some ⟨fl fss, false, false⟩]) (fun _ _ => False) := by
  rw [F_masks_of, w_run]
  walk_at "n"
  walk_at "v"
  refine w_lc_map fss (fun f => D.tup [.con (.str (fs f)), .int (mks f 87)]) (by rfl) (by rfl) (by simp only [cap]; omega) ?_ ?_
  · intro f hm
    walk_at "v"
    rw [str_W]
    refine w_go (sp_maskof (cs := f) (c := 87) hn.2 (hf f hm).1) ?_
    rintro d k o ⟨rfl, rfl⟩
    walk_at "n"
    walk_at "v"
    walk_at "n"
    walk_at "v"
  walk_at "v"
  rw [rng0_map]
  refine w_p_forP (List.range n) (fun (k : Nat) => D.int k) (fun pre ρ => ∃ b, ρ = [some ⟨.int n, false, false⟩, some ⟨fl fss, false, false⟩, some ⟨.lst (pre.map fun k => il (msk fss k)), true, false⟩, some ⟨.lst (fss.map fun f => D.tup [.con (.str (fs f)), .int (mks f 87)]), b, false⟩, none, none, none]) ⟨_, rfl⟩ ?_ ?_
  · rintro pre k post ρ e ⟨b, rfl⟩
    obtain ⟨k1, k2⟩ : pre.length = k ∧ k < n := by
      have l := congrArg List.length e
      simp at l
      have h : (List.range n)[pre.length]? = some k := by rw [e]; simp
      rw [List.getElem?_range (by omega)] at h
      have := Option.some.inj h
      omega
    cases b
    all_goals
      walk_at "v"
      refine w_ss_of ?_
      refine w_lc_flt fss (fun f => decide (f.getD k 46 = 76)) (fun f => D.int (mks f 87)) (by rfl) (by rfl) (by simp only [cap]; omega) ?_ ?_
      · intro f hm
        walk_at "v"
        refine x_ixS (cap_fs hn.2 (hf f hm).1) (chr_at (by rw [(hf f hm).1]; omega)) ?_
        walk_at "v"
        rw [str_L, str_eq1]
        refine br_d (fun h3 => ?_) fun h3 => ?_
        · walk_at "v"
          walk_at "n"
          walk_at "v"
          walk_at "b"
        · walk_at "n"
          walk_at "v"
          walk_at "b"
      refine ⟨_, _, rfl, by
        have e : (fss.filter fun f => decide (f.getD k 46 = 76)).map (fun f => D.int (mks f 87)) = (mk0 fss k).map fun n => D.con (.int n) := by
          unfold mk0
          rw [List.map_map]
          rfl
        rw [e]
        unfold ssEnd
        have z := intsD_map (fun n : Int => n) (mk0 fss k)
        rw [List.map_id'] at z
        rw [z]
        exact if_pos (by
          unfold mk0
          have := List.length_filter_le (fun f => decide (f.getD k 46 = 76)) fss
          rw [List.length_map]
          omega), ?_⟩
      walk_at "v"
      walk_at "n"
      walk_at "v"
      exact ⟨false, by simp [msk]⟩
  · rintro ρ ⟨b, rfl⟩
    walk_at "v"
    walk_at "n"
    walk_at "v"
end Law_strictranks_k61_whole_orders_or_barring
namespace Law_strictranks_k61_whole_orders_or_barring
/-- whether a rule can stand behind a front -/
def canS (fss : List (List Nat)) (F r : Nat) : Bool := fss.all fun f => !decide (f.getD r 46 = 76) || !decide (mks f 87 &&& F = 0)
def ne0 (F : Nat) (m : Int) : Bool := !decide (m.toNat &&& F = 0)
theorem mem_msk {fss : List (List Nat)} {r : Nat} {m : Int} : m ∈ msk fss r ↔ ∃ f ∈ fss, f.getD r 46 = 76 ∧ m = ((mks f 87 : Nat) : Int) := by
  unfold msk mk0
  rw [sortU_mem]
  simp only [List.mem_map, List.mem_filter, decide_eq_true_eq]
  constructor
  · rintro ⟨f, ⟨a, b⟩, c⟩; exact ⟨f, a, b, c.symm⟩
  · rintro ⟨f, a, b, c⟩; exact ⟨f, ⟨a, b⟩, c.symm⟩
theorem msk_all {fss : List (List Nat)} {F r : Nat} : (msk fss r).all (ne0 F) = canS fss F r := by
  rw [Bool.eq_iff_iff]
  unfold canS
  rw [List.all_eq_true, List.all_eq_true]
  constructor
  · intro h f hf
    by_cases z : f.getD r 46 = 76
    · have := h _ (mem_msk.mpr ⟨f, hf, z, rfl⟩)
      unfold ne0 at this
      rw [Int.toNat_natCast] at this
      rw [this, Bool.or_true]
    · rw [decide_eq_false z]; rfl
  · intro h m hm
    obtain ⟨f, hf, z, rfl⟩ := mem_msk.mp hm
    have := h f hf
    rw [decide_eq_true z] at this
    unfold ne0
    rw [Int.toNat_natCast]
    simpa using this
theorem msk_len {fss : List (List Nat)} (hl : fss.length ≤ 1000) (r : Nat) : (msk fss r).length ≤ 1000 := by
  unfold msk
  rw [sortU_len]
  refine Nat.le_trans (nubI_len _) ?_
  unfold mk0
  rw [List.length_map]
  exact Nat.le_trans (List.length_filter_le _ _) hl
theorem mskD_at {n : Nat} {fss : List (List Nat)} {r : Nat} (h : r < n) : atI ((List.range n).map fun k => il (msk fss k)) (r : Int) = some (il (msk fss r)) := by
  unfold atI ixN
  rw [if_pos (by omega), if_pos (by simp; omega)]
  simp [h]
theorem sp_canstand {n : Nat} {fss : List (List Nat)} {F r : Nat} (hl : fss.length ≤ 1000) (hr : r < n) : FRes.pst (F_can_stand [⟨mskD n fss, false⟩, ⟨.int F, false⟩, ⟨.int r, false⟩]) (fun d k o => d = .bl (canS fss F r) ∧ k = false) (fun _ _ => False) := by
  have ml := msk_len hl r
  rw [F_can_stand, w_run]
  walk_at "n"
  walk_at "v"
  refine x_ix (mskD_at hr) ?_
  walk_at "v"
  refine w_lc_map (msk fss r) (fun m => D.con (.bl (ne0 F m))) (by rfl) (by rfl) (by simp only [cap]; omega) ?_ ?_
  · intro m hm
    obtain ⟨f, _, _, rfl⟩ := mem_msk.mp hm
    walk_at "v"
    walk_at "n"
    walk_at "v"
    refine ⟨?_, trivial⟩
    unfold ne0
    rw [Int.toNat_natCast, show decide (((mks f 87 &&& F : Nat) : Int) = 0) = decide (mks f 87 &&& F = 0) by rw [decide_eq_decide]; omega]
  walk_at "v"
  refine ⟨_, by unfold allV; dsimp only; rw [blsD_map]; rfl, ?_⟩
  walk_at "v"
  exact ⟨by rw [← msk_all]; simp [List.all_map, Function.comp_def], rfl⟩
/-- the rules that can be the next -/
def plc (n : Nat) (fss : List (List Nat)) (F : Nat) : List Nat := (List.range n).filter fun r => !F.testBit r && canS fss F r
theorem sp_placeable {n : Nat} {fss : List (List Nat)} {F : Nat} (hn : 1 ≤ n ∧ n ≤ 60) (hl : fss.length ≤ 1000) : FRes.pst (F_placeable [⟨mskD n fss, false⟩, ⟨.int F, false⟩]) (fun d k o => d = .lst ((plc n fss F).map fun (r : Nat) => D.int r) ∧ k = true ∧ o = [some ⟨mskD n fss, false, false⟩, some ⟨.int F, false, false⟩]) (fun _ _ => False) := by
  rw [F_placeable, w_run]
  walk_at "n"
  walk_at "v"
  rw [List.length_range]
  walk_at "v"
  refine w_lc_flt (List.range n) (fun r => !F.testBit r) (fun (r : Nat) => D.int r) (rng0_map _) (by rfl) (by simp [cap]; omega) ?_ ?_
  · intro r hr
    walk_at "v"
    refine br_b (fun h3 => ?_) fun h3 => ?_
    · walk_at "v"
      walk_at "n"
      walk_at "v"
      walk_at "b"
    · walk_at "n"
      walk_at "v"
      walk_at "b"
  walk_at "v"
  refine w_lc_flt ((List.range n).filter fun r => !F.testBit r) (fun r => canS fss F r) (fun (r : Nat) => D.int r) (by rfl) (by rfl) (by
    have := List.length_filter_le (fun r => !F.testBit r) (List.range n)
    simp only [List.length_range] at this
    simp only [cap]; omega) ?_ ?_
  · intro r hr
    have hr := List.mem_range.mp (List.mem_filter.mp hr).1
    walk_at "v"
    refine w_go (sp_canstand hl hr) ?_
    rintro d k o ⟨rfl, rfl⟩
    walk_at "n"
    walk_at "v"
    refine br_b (fun h3 => ?_) fun h3 => ?_
    · walk_at "v"
      walk_at "n"
      walk_at "v"
      walk_at "b"
    · walk_at "n"
      walk_at "v"
      walk_at "b"
  walk_at "v"
  walk_at "n"
  walk_at "v"
  refine ⟨?_, trivial, trivial⟩
  unfold plc
  rw [List.filter_filter]
  simp only [Bool.and_comm]
end Law_strictranks_k61_whole_orders_or_barring
namespace Law_strictranks_k61_whole_orders_or_barring
/-- the rules of a list as bits -/
def bitsOf (os : List Nat) : Nat := os.foldl (fun F r => F ||| 2 ^ r) 0
/-- the least order, place by place -/
def lo (n : Nat) (fss : List (List Nat)) : Nat → List Nat
  | 0 => []
  | k + 1 => lo n fss k ++ [(plc n fss (bitsOf (lo n fss k))).headD 0]
theorem bitsOf_snoc (os : List Nat) (r : Nat) : bitsOf (os ++ [r]) = bitsOf os ||| 2 ^ r := by
  unfold bitsOf
  rw [List.foldl_append]
  rfl
theorem lo_len (n : Nat) (fss : List (List Nat)) : ∀ k, (lo n fss k).length = k
  | 0 => rfl
  | k + 1 => by unfold lo; rw [List.length_append, lo_len n fss k]; rfl
theorem head_at {xs : List Nat} (h : xs ≠ []) : atI (xs.map fun (r : Nat) => D.int r) 0 = some (.int (xs.headD 0)) ∧ xs.headD 0 ∈ xs := by
  cases xs with
  | nil => exact absurd rfl h
  | cons x xs => exact ⟨by unfold atI ixN; rw [if_pos (by omega), if_pos (by simp)]; rfl, List.mem_cons_self⟩
theorem sp_leastorder {n : Nat} {fss : List (List Nat)} (hn : 1 ≤ n ∧ n ≤ 60) (hl : fss.length ≤ 1000) (hf : ∀ cs ∈ fss, FOk n cs) (hp : ∀ k, k < n → plc n fss (bitsOf (lo n fss k)) ≠ []) : FRes.pst (F_least_order [⟨.int n, false⟩, ⟨fl fss, false⟩]) (fun d k o => d = .lst ((lo n fss n).map fun (r : Nat) => D.int r) ∧ k = true ∧ o = [some ⟨.int n, false, false⟩, some ⟨fl fss, false, false⟩]) (fun _ _ => False) := by
  rw [F_least_order, w_run]
  walk_at "n"
  walk_at "v"
  refine w_go (sp_masks hn hl hf) ?_
  rintro d k o ⟨rfl, rfl, rfl⟩
  walk_at "n"
  walk_at "v"
  rw [rng0_map]
  refine w_p_forP (List.range n) (fun (k : Nat) => D.int k) (fun pre ρ => ∃ b, ρ = [some ⟨.int n, false, false⟩, some ⟨fl fss, false, false⟩, some ⟨mskD n fss, b, false⟩, some ⟨.int (bitsOf (lo n fss pre.length)), false, false⟩, some ⟨.lst ((lo n fss pre.length).map fun (r : Nat) => D.int r), true, false⟩, none, none]) ⟨_, rfl⟩ ?_ ?_
  · rintro pre k post ρ e ⟨b, rfl⟩
    obtain ⟨k1, k2⟩ : pre.length = k ∧ k < n := by
      have l := congrArg List.length e
      simp at l
      have h : (List.range n)[pre.length]? = some k := by rw [e]; simp
      rw [List.getElem?_range (by omega)] at h
      have := Option.some.inj h
      omega
    obtain ⟨h1, h2⟩ := head_at (hp k k2)
    have hlo := lo_len n fss k
    have hr : (plc n fss (bitsOf (lo n fss k))).headD 0 < n := List.mem_range.mp (List.mem_filter.mp h2).1
    rw [List.length_append, k1, List.length_singleton]
    rw [show lo n fss (k + 1) = lo n fss k ++ [(plc n fss (bitsOf (lo n fss k))).headD 0] from rfl]
    rw [bitsOf_snoc]
    revert h1 hr
    generalize (plc n fss (bitsOf (lo n fss k))).headD 0 = r
    intro h1 hr
    cases b
    all_goals
      walk_at "v"
      refine w_go (sp_placeable (F := bitsOf (lo n fss k)) hn hl) ?_
      rintro d k o ⟨rfl, rfl, rfl⟩
      walk_at "n"
      walk_at "v"
      refine x_ix h1 ?_
      walk_at "v"
      walk_at "v"
      exact ⟨false, by rw [List.map_append]; rfl⟩
  · rintro ρ ⟨b, rfl⟩
    rw [List.length_range]
    walk_at "v"
    walk_at "n"
    walk_at "v"
end Law_strictranks_k61_whole_orders_or_barring
namespace Law_strictranks_k61_whole_orders_or_barring
/-! what stands in lo -/
theorem bits_mem (os : List Nat) (r : Nat) : (bitsOf os).testBit r = decide (r ∈ os) := by
  refine snoc_ind (P := fun os => (bitsOf os).testBit r = decide (r ∈ os)) (by simp [bitsOf]) (fun l a ih => ?_) os
  rw [bitsOf_snoc, Nat.testBit_or, ih, Nat.testBit_two_pow, Bool.eq_iff_iff]
  simp only [Bool.or_eq_true, decide_eq_true_eq, List.mem_append, List.mem_singleton]
  constructor
  · rintro (h | h)
    · exact .inl h
    · exact .inr h.symm
  · rintro (h | h)
    · exact .inl h
    · exact .inr h.symm
theorem canS_iff {fss : List (List Nat)} {os : List Nat} {r : Nat} : canS fss (bitsOf os) r = true ↔ ∀ f ∈ fss, f.getD r 46 = 76 → ∃ w ∈ os, f.getD w 46 = 87 := by
  unfold canS
  rw [List.all_eq_true]
  constructor
  · intro h f hf e
    have := h f hf
    rw [decide_eq_true e] at this
    simp only [Bool.not_true, Bool.false_or, Bool.not_eq_true', decide_eq_false_iff_not] at this
    obtain ⟨w, w1, w2⟩ := and_ne this
    rw [mk_test (by decide), decide_eq_true_eq] at w1
    rw [bits_mem, decide_eq_true_eq] at w2
    exact ⟨w, w2, w1⟩
  · intro h f hf
    by_cases e : f.getD r 46 = 76
    · obtain ⟨w, w1, w2⟩ := h f hf e
      rw [decide_eq_true e]
      simp only [Bool.not_true, Bool.false_or, Bool.not_eq_true', decide_eq_false_iff_not]
      intro z
      have := and_test z (r := w) (by rw [mk_test (by decide), decide_eq_true_eq]; exact w2)
      rw [bits_mem, decide_eq_false_iff_not] at this
      exact this w1
    · rw [decide_eq_false e]; rfl
theorem mem_plc {n : Nat} {fss : List (List Nat)} {os : List Nat} {r : Nat} : r ∈ plc n fss (bitsOf os) ↔ r < n ∧ r ∉ os ∧ ∀ f ∈ fss, f.getD r 46 = 76 → ∃ w ∈ os, f.getD w 46 = 87 := by
  unfold plc
  rw [List.mem_filter, List.mem_range, Bool.and_eq_true, canS_iff, bits_mem, Bool.not_eq_true', decide_eq_false_iff_not]
end Law_strictranks_k61_whole_orders_or_barring
namespace Law_strictranks_k61_whole_orders_or_barring
theorem least_nat {P : Nat → Prop} : ∀ m, P m → ∃ k, P k ∧ ∀ j, j < k → ¬ P j := by
  intro m
  induction m using Nat.strongRecOn with
  | _ m ih =>
    intro hm
    by_cases z : ∃ j, j < m ∧ P j
    · obtain ⟨j, h1, h2⟩ := z
      exact ih j h1 h2
    · exact ⟨m, hm, fun j hj hp => z ⟨j, hj, hp⟩⟩
abbrev NB (n : Nat) (os : List Int) (fss : List (List Nat)) : Prop := ∀ cs ∈ fss, FOk n cs ∧ fsgn os cs ≠ 76
theorem NB.bar {n : Nat} {os : List Int} {fss : List (List Nat)} (ho : Ord n os) (h : NB n os fss) (F : Nat) : ¬ Bar n ((lf fss F).map (·.1)) := no_bar ho fun f hf => by
  obtain ⟨p, hp, rfl⟩ := List.mem_map.mp hf
  exact h _ (lf_in hp).1
/-- the first rule of an order that is not in front can stand there -/
theorem first_plc {n : Nat} {os : List Int} {fss : List (List Nat)} {pre : List Nat} {i r : Nat} (ho : Ord n os) (h : NB n os fss) (hi : os[i]? = some (r : Int)) (hr : r ∉ pre) (hb : ∀ j u, j < i → os[j]? = some u → u.toNat ∈ pre) : r ∈ plc n fss (bitsOf pre) := by
  rw [mem_plc]
  have hrn := ho.inb _ (List.mem_of_getElem? hi)
  refine ⟨by omega, hr, fun f hf e => ?_⟩
  obtain ⟨k, w, a1, a2, a3, a4⟩ := first_at ho (h f hf).1 (h f hf).2 ⟨r, by omega, by rw [e]; decide⟩
  rcases Nat.lt_trichotomy k i with z | z | z
  · have := hb k w z a1
    rw [Int.toNat_natCast] at this
    exact ⟨w, this, a3⟩
  · subst z
    rw [a1] at hi
    have : w = r := by have := Option.some.inj hi; omega
    subst this
    rw [a3] at e
    cases e
  · have := a4 i r z hi
    rw [Int.toNat_natCast, e] at this
    cases this
theorem plc_ne {n : Nat} {os : List Int} {fss : List (List Nat)} {pre : List Nat} (ho : Ord n os) (h : NB n os fss) (hl : pre.length < n) : ∃ i r : Nat, os[i]? = some (r : Int) ∧ r ∈ plc n fss (bitsOf pre) ∧ ∀ j u, j < i → os[j]? = some u → u.toNat ∈ pre := by
  have ex : ∃ i : Nat, ∃ r : Nat, os[i]? = some (r : Int) ∧ r ∉ pre := by
    refine Classical.byContradiction fun z => ?_
    have sub : (List.range n).Subset pre := fun r hr => by
      have hr := List.mem_range.mp hr
      have : (r : Int) ∈ os := ho.mem_iff.mpr (by unfold rg; exact List.mem_map.mpr ⟨r, List.mem_range.mpr hr, rfl⟩)
      obtain ⟨i, hi, e⟩ := List.mem_iff_getElem.mp this
      refine Classical.byContradiction fun q => z ⟨i, r, by rw [List.getElem?_eq_getElem hi, e], q⟩
    have := List.Nodup.length_le_of_subset List.nodup_range sub
    simp at this
    omega
  obtain ⟨i0, h0⟩ := ex
  obtain ⟨i, ⟨r, h1, h2⟩, h3⟩ := least_nat (P := fun i : Nat => ∃ r : Nat, os[i]? = some (r : Int) ∧ r ∉ pre) i0 h0
  have hb : ∀ (j : Nat) u, j < i → os[j]? = some u → u.toNat ∈ pre := fun j u hj hu => by
    refine Classical.byContradiction fun q => h3 j hj ⟨u.toNat, ?_, q⟩
    have := ho.inb u (List.mem_of_getElem? hu)
    rw [hu]
    congr 1
    omega
  exact ⟨i, r, h1, first_plc ho h h1 h2 hb, hb⟩
theorem lo_next {n : Nat} {os : List Int} {fss : List (List Nat)} (ho : Ord n os) (h : NB n os fss) (k : Nat) (hk : k < n) : plc n fss (bitsOf (lo n fss k)) ≠ [] := by
  obtain ⟨i, r, _, h2, _⟩ := plc_ne (pre := lo n fss k) ho h (by rw [lo_len]; exact hk)
  exact List.ne_nil_of_mem h2
end Law_strictranks_k61_whole_orders_or_barring
namespace Law_strictranks_k61_whole_orders_or_barring
theorem lo_take (n : Nat) (fss : List (List Nat)) : ∀ m k, k ≤ m → (lo n fss m).take k = lo n fss k
  | 0, k, h => by
    have : k = 0 := by omega
    subst this
    rfl
  | m + 1, k, h => by
    by_cases e : k = m + 1
    · subst e
      rw [List.take_of_length_le (by rw [lo_len]; omega)]
    · show (lo n fss m ++ [_]).take k = lo n fss k
      rw [List.take_append_of_le_length (by rw [lo_len]; omega)]
      exact lo_take n fss m k (by omega)
theorem lo_at (n : Nat) (fss : List (List Nat)) {m k : Nat} (h : k < m) : (lo n fss m)[k]? = some ((plc n fss (bitsOf (lo n fss k))).headD 0) := by
  have e := lo_take n fss m (k + 1) h
  have : (lo n fss (k + 1))[k]? = some ((plc n fss (bitsOf (lo n fss k))).headD 0) := by
    show (lo n fss k ++ [_])[k]? = _
    rw [List.getElem?_append_right (by rw [lo_len]; omega), lo_len]
    simp
  rw [← e, List.getElem?_take_of_lt (by omega)] at this
  exact this
theorem head_le {n : Nat} {p : Nat → Bool} {r : Nat} (h : r ∈ (List.range n).filter p) : ((List.range n).filter p).headD 0 ≤ r ∧ ((List.range n).filter p).headD 0 ∈ (List.range n).filter p := by
  have s : ((List.range n).filter p).Pairwise (· < ·) := List.Pairwise.filter _ List.pairwise_lt_range
  cases e : (List.range n).filter p with
  | nil => rw [e] at h; cases h
  | cons x xs =>
    rw [e] at h s
    refine ⟨?_, List.mem_cons_self⟩
    rcases List.mem_cons.mp h with z | z
    · rw [z]; exact Nat.le_refl _
    · exact Nat.le_of_lt ((List.pairwise_cons.mp s).1 r z)
section
variable {n : Nat} {os : List Int} {fss : List (List Nat)}
theorem lo_ok (ho : Ord n os) (h : NB n os fss) : ∀ k, k ≤ n → (lo n fss k).Nodup ∧ ∀ r ∈ lo n fss k, r < n
  | 0, _ => ⟨List.nodup_nil, fun r hr => by cases hr⟩
  | k + 1, hk => by
    obtain ⟨i1, i2⟩ := lo_ok ho h k (by omega)
    obtain ⟨x, hx⟩ := List.exists_mem_of_ne_nil _ (lo_next ho h k (by omega))
    have hh := mem_plc.mp (head_le hx).2
    unfold lo
    refine ⟨?_, fun r hr => ?_⟩
    · rw [List.nodup_append]
      refine ⟨i1, by simp, fun a ha b hb e => ?_⟩
      rw [List.mem_singleton] at hb
      subst hb; subst e
      exact hh.2.1 ha
    · rcases List.mem_append.mp hr with z | z
      · exact i2 r z
      · rw [List.mem_singleton.mp z]; exact hh.1
def lI (n : Nat) (fss : List (List Nat)) : List Int := (lo n fss n).map fun (r : Nat) => (r : Int)
theorem lI_ord (ho : Ord n os) (h : NB n os fss) : Ord n (lI n fss) := by
  obtain ⟨i1, i2⟩ := lo_ok ho h n (Nat.le_refl _)
  unfold Ord lI rg
  refine List.Perm.map _ ?_
  rw [List.perm_ext_iff_of_nodup i1 List.nodup_range]
  intro r
  rw [List.mem_range]
  refine ⟨i2 r, fun hr => Classical.byContradiction fun z => ?_⟩
  have nd : (r :: lo n fss n).Nodup := List.nodup_cons.mpr ⟨z, i1⟩
  have sub : (r :: lo n fss n).Subset (List.range n) := fun x hx => by
    rcases List.mem_cons.mp hx with q | q
    · rw [q]; exact List.mem_range.mpr hr
    · exact List.mem_range.mpr (i2 x q)
  have := List.Nodup.length_le_of_subset nd sub
  simp [lo_len] at this
  omega
theorem lI_at {k : Nat} (hk : k < n) : (lI n fss)[k]? = some (((plc n fss (bitsOf (lo n fss k))).headD 0 : Nat) : Int) := by
  unfold lI
  rw [List.getElem?_map, lo_at n fss hk]
  rfl
theorem lI_holds (ho : Ord n os) (h : NB n os fss) : NB n (lI n fss) fss := fun f hf => ⟨(h f hf).1, fun z => by
  unfold fsgn at z
  cases q : ((lI n fss).map fun r => f.getD r.toNat 46).find? fun c => decide (c ≠ 46) with
  | none => rw [q] at z; cases z
  | some c =>
    rw [q] at z
    replace z : c = 76 := z
    subst z
    obtain ⟨_, as, bs, e, h2⟩ := List.find?_eq_some_iff_append.mp q
    have hk : ((lI n fss).map fun r => f.getD r.toNat 46)[as.length]? = some 76 := by rw [e]; simp
    have hl : as.length < n := by
      have := (List.getElem?_eq_some_iff.mp hk).1
      simpa [lI, lo_len] using this
    rw [List.getElem?_map, lI_at hl] at hk
    have hr : f.getD ((plc n fss (bitsOf (lo n fss as.length))).headD 0) 46 = 76 := by simpa using hk
    obtain ⟨x, hx⟩ := List.exists_mem_of_ne_nil _ (lo_next ho h as.length hl)
    obtain ⟨w, w1, w2⟩ := (mem_plc.mp (head_le hx).2).2.2 f hf hr
    rw [← lo_take n fss n as.length (by omega)] at w1
    obtain ⟨j, hj, ej⟩ := List.mem_iff_getElem.mp w1
    have jl : j < as.length := by
      have := hj
      rw [List.length_take] at this
      omega
    have hj2 : (lI n fss)[j]? = some (w : Int) := by
      unfold lI
      rw [List.getElem?_map]
      have : ((lo n fss n).take as.length)[j]? = some w := by rw [List.getElem?_eq_getElem hj, ej]
      rw [List.getElem?_take_of_lt jl] at this
      rw [this]
      rfl
    have hm : ((lI n fss).map fun r => f.getD r.toNat 46)[j]? = some 87 := by
      rw [List.getElem?_map, hj2]
      show some (f.getD ((w : Int)).toNat 46) = _
      rw [Int.toNat_natCast, w2]
    rw [e, List.getElem?_append_left jl] at hm
    have := h2 _ (List.mem_of_getElem? hm)
    simp at this⟩
end
end Law_strictranks_k61_whole_orders_or_barring
namespace Law_strictranks_k61_whole_orders_or_barring
/-- the rules by their layers -/
def lp (ls : List Int) : List (Int × Int) := ls.zipIdx.map fun p => (p.1, (p.2 : Int))
def by_ (ls : List Int) : List Int := (sortP (lp ls)).map (·.2)
end Law_strictranks_k61_whole_orders_or_barring
namespace Law_strictranks_k61_whole_orders_or_barring
/-! the order of the layers -/
theorem by_ord {n : Nat} {ls : List Int} (h : ls.length = n) : Ord n (by_ ls) := by
  have p := (List.mergeSort_perm (lp ls) lexLe).map (·.2)
  refine List.Perm.trans p ?_
  have e : (lp ls).map (·.2) = rg n := by
    unfold lp rg
    rw [List.map_map, List.range_eq_range', ← h, ← List.zipIdx_map_snd 0 ls, List.map_map]
    rfl
  rw [e]
theorem lp_at {ls : List Int} {p : Int × Int} (h : p ∈ lp ls) : p.1 = ls.getD p.2.toNat 0 ∧ 0 ≤ p.2 ∧ p.2 < ls.length := by
  unfold lp at h
  obtain ⟨⟨a, k⟩, h1, rfl⟩ := List.mem_map.mp h
  have h3 := List.mem_zipIdx h1
  have h2 := h3.2.2
  have hk : k < ls.length := by omega
  refine ⟨?_, by show (0 : Int) ≤ (k : Int); omega, by show (k : Int) < _; omega⟩
  show a = ls.getD ((k : Int)).toNat 0
  simp at h2
  rw [Int.toNat_natCast, h2]
  simp [hk]
theorem by_pw (ls : List Int) : (by_ ls).Pairwise fun a b => lexLe (ls.getD a.toNat 0, a) (ls.getD b.toNat 0, b) = true := by
  unfold by_
  rw [List.pairwise_map]
  have tr : ∀ a b c : Int × Int, lexLe a b = true → lexLe b c = true → lexLe a c = true := by
    intro a b c h1 h2
    rw [lexLe_iff] at *
    omega
  have to : ∀ a b : Int × Int, (lexLe a b || lexLe b a) = true := by
    intro a b
    rw [Bool.or_eq_true, lexLe_iff, lexLe_iff]
    omega
  have h := List.pairwise_mergeSort tr to (lp ls)
  refine List.Pairwise.imp_of_mem (fun {a b} ha hb hab => ?_) h
  have ma : a ∈ lp ls := (List.mergeSort_perm (lp ls) lexLe).mem_iff.mp ha
  have mb : b ∈ lp ls := (List.mergeSort_perm (lp ls) lexLe).mem_iff.mp hb
  rw [← (lp_at ma).1, ← (lp_at mb).1]
  exact hab
/-- a fact that holds in the layers holds in their order -/
theorem by_fsgn {n : Nat} {ls : List Int} {cs : List Nat} (h : ls.length = n) (hf : FOk n cs) (hb : HB ls cs = true) : fsgn (by_ ls) cs ≠ 76 := fun z => by
  have ho := by_ord h
  unfold fsgn at z
  cases q : ((by_ ls).map fun r => cs.getD r.toNat 46).find? fun c => decide (c ≠ 46) with
  | none => rw [q] at z; cases z
  | some c =>
    rw [q] at z
    replace z : c = 76 := z
    subst z
    obtain ⟨_, as, bs, e, h2⟩ := List.find?_eq_some_iff_append.mp q
    have hk : ((by_ ls).map fun r => cs.getD r.toNat 46)[as.length]? = some 76 := by rw [e]; simp
    rw [List.getElem?_map] at hk
    obtain ⟨r, hr, er⟩ := Option.map_eq_some_iff.mp hk
    obtain ⟨hrl, hre⟩ := List.getElem?_eq_some_iff.mp hr
    have br := ho.inb r (List.mem_of_getElem? hr)
    rcases HB_iff.mp hb with q | ⟨w, w1, w2, w3⟩
    · exact q r.toNat (by rw [hf.1]; omega) er
    · have hw : (w : Int) ∈ by_ ls := ho.mem_iff.mpr (by unfold rg; exact List.mem_map.mpr ⟨w, List.mem_range.mpr (by have := hf.1; omega), rfl⟩)
      obtain ⟨j, hj, ej⟩ := List.mem_iff_getElem.mp hw
      have lt := w3 r.toNat (by rw [hf.1]; omega) er
      rcases Nat.lt_trichotomy j as.length with y | y | y
      · have hm : ((by_ ls).map fun r => cs.getD r.toNat 46)[j]? = some 87 := by
          rw [List.getElem?_map, List.getElem?_eq_getElem hj, ej]
          show some (cs.getD ((w : Int)).toNat 46) = _
          rw [Int.toNat_natCast, w2]
        rw [e, List.getElem?_append_left y] at hm
        have := h2 _ (List.mem_of_getElem? hm)
        simp at this
      · subst y
        rw [hre] at ej
        rw [ej] at er
        rw [Int.toNat_natCast, w2] at er
        cases er
      · have := List.pairwise_iff_getElem.mp (by_pw ls) as.length j hrl hj y
        rw [hre, ej, lexLe_iff, Int.toNat_natCast] at this
        omega
end Law_strictranks_k61_whole_orders_or_barring
namespace Law_strictranks_k61_whole_orders_or_barring
/-! is_barred, whatever the facts -/
/-- no order in which all facts hold -/
def BarF (n : Nat) (fss : List (List Nat)) : Prop := ∀ os, Ord n os → ¬ ∀ f ∈ fss, fsgn os f ≠ 76
theorem barF_of {n : Nat} {fss : List (List Nat)} {F : Nat} (hf : ∀ f ∈ fss, FOk n f) (h : Bar n ((lf fss F).map (·.1))) : BarF n fss := fun os ho hN => no_bar ho (fun f hf2 => by
  obtain ⟨p, hp, rfl⟩ := List.mem_map.mp hf2
  exact ⟨hf _ (lf_in hp).1, hN _ (lf_in hp).1⟩) h
theorem LEq.ord {n : Nat} {fss : List (List Nat)} {ly : Nat → Nat} (a : LEq n fss ly) (hf : ∀ f ∈ fss, FOk n f) : Ord n (by_ (lyL n ly)) ∧ ∀ f ∈ fss, fsgn (by_ (lyL n ly)) f ≠ 76 := by
  have hl : (lyL n ly).length = n := by simp [lyL]
  exact ⟨by_ord hl, fun f h => by_fsgn hl (hf f h) (a.hb h (hf f h).1)⟩
theorem sp_barredG {n : Nat} {fss : List (List Nat)} (hn : 1 ≤ n ∧ n ≤ 60) (hl : fss.length ≤ 1000) (hf : ∀ cs ∈ fss, FOk n cs) : FRes.pst (F_is_barred [⟨.int n, false⟩, ⟨fl fss, false⟩]) (fun d k o => (∃ b, d = .bl b ∧ (b = true ↔ BarF n fss)) ∧ k = false ∧ o = [some ⟨.int n, false, false⟩, some ⟨fl fss, false, false⟩]) (fun _ _ => False) := by
  rw [F_is_barred, w_run]
  walk_at "n"
  walk_at "v"
  refine w_go (sp_layered hn hl hf) ?_
  rintro d k o ⟨h, rfl, rfl⟩
  walk_at "n"
  walk_at "v"
  rcases h with ⟨ly, le, rfl⟩ | ⟨F, h1, rfl⟩
  · walk_at "v"
    refine ⟨⟨false, rfl, ?_⟩, rfl, rfl⟩
    obtain ⟨a, b⟩ := le.ord hf
    exact ⟨(fun z => nomatch z), fun z => absurd b (z _ a)⟩
  · walk_at "v"
    refine x_neE (okL_map _ 59 fun _ _ => rfl) ?_
    rw [il_empty, decide_eq_false (fun z => h1.1 (by
      rw [List.map_eq_nil_iff] at z
      rw [z]
      rfl))]
    walk_at "v"
    exact ⟨⟨true, rfl, (fun _ => barF_of hf h1), fun _ => rfl⟩, rfl, rfl⟩
end Law_strictranks_k61_whole_orders_or_barring
namespace Law_strictranks_k61_whole_orders_or_barring
def LayRes1 (n : Nat) (fss : List (List Nat)) (d : D) : Prop :=
  (∃ ly : Nat → Nat, LEq n fss ly ∧ d = .lst []) ∨ ∃ F : Nat, Bar n ((lf fss F).map (·.1)) ∧ d = il ((lf fss F).map fun p => ((p.2 : Nat) : Int))
theorem sp_layered1 {n : Nat} {fss : List (List Nat)} {b : Bool} (hn : 1 ≤ n ∧ n ≤ 60) (hl : fss.length ≤ 1000) (hf : ∀ cs ∈ fss, FOk n cs) : FRes.pst (F_layered_p1 [⟨.int n, false⟩, ⟨fl fss, b⟩]) (fun d k o => LayRes1 n fss d ∧ k = true ∧ o = [some ⟨.int n, false, false⟩, some ⟨fl fss, false, b⟩]) (fun _ _ => False) := by
  have hlen : ∀ f ∈ fss, f.length = n := fun f h => (hf f h).1
  have lfl : ∀ F, (lf fss F).length ≤ fss.length := fun F => by
    unfold lf
    refine Nat.le_trans (List.length_filter_le _ _) ?_
    rw [List.length_zipIdx]
    omega
  rw [F_layered_p1]
  refine w_runP (by rintro o ⟨h, _⟩; rcases h with ⟨_, _, e⟩ | ⟨_, _, e⟩ <;> cases e) ?_
  walk_at "n"
  walk_at "v"
  rw [enum_map]
  refine w_p_forP fss.zipIdx (fun p => D.tup [.int p.2, .con (.str (fs p.1))]) (fun pre ρ => ρ = [some ⟨.int n, false, false⟩, some ⟨fl fss, false, b⟩, some ⟨.lst [], true, false⟩, some ⟨.lst ((pre.filter fun p => nsl p.1).map tupD), true, false⟩, none, none, none, none, none, none, none, none, none, none, none]) rfl ?_ ?_
  · rintro pre p post ρ e rfl
    have hp : FOk n p.1 := hf _ (by
      have : p ∈ fss.zipIdx := by rw [e]; simp
      rw [List.mem_zipIdx_iff_getElem?] at this
      exact List.mem_of_getElem? this)
    have l1 := List.length_filter_le (fun p : List Nat × Nat => nsl p.1) pre
    have l2 : pre.length ≤ fss.length := by
      have := congrArg List.length e
      simp at this
      omega
    walk_at "v"
    rw [sil_eq hp.1]
    walk_at "v"
    refine br_b (fun h1 => ?_) fun h1 => ?_
    · walk_at "v"
      rw [str_W]
      refine w_go (sp_maskof (cs := p.1) (c := 87) hn.2 hp.1) ?_
      rintro d k o ⟨rfl, rfl⟩
      walk_at "n"
      walk_at "v"
      rw [str_L]
      refine w_go (sp_maskof (cs := p.1) (c := 76) hn.2 hp.1) ?_
      rintro d k o ⟨rfl, rfl⟩
      walk_at "n"
      walk_at "v"
      walk_at "n"
      walk_at "v"
      rw [List.filter_append]
      simp [h1, tupD]
    · walk_at "n"
      walk_at "v"
      rw [List.filter_append]
      simp [h1]
  · rintro ρ rfl
    rw [← lf_zero]
    walk_at "v"
    have pw : 1 ≤ 2 ^ n := Nat.one_le_two_pow
    rw [show (((2 ^ n : Nat) : Int) - 1) = ((2 ^ n - 1 : Nat) : Int) by omega]
    refine w_p_while (fun m ρ => ∃ F t ly P, LInv n fss F t ly P ∧ m = 2 ^ n - F ∧ ρ = [some ⟨.int n, false, false⟩, some ⟨fl fss, false, b⟩, some ⟨.lst ((pl ly P).map pairD), true, false⟩, some ⟨.lst ((lf fss F).map tupD), true, false⟩, none, none, some ⟨.int F, false, false⟩, some ⟨.int t, false, false⟩, some ⟨.int (2 ^ n - 1 : Nat), false, false⟩, none, none, none, none, none, none]) (2 ^ n - 0) ⟨0, 0, fun _ => 0, [], LInv.start n fss, rfl, rfl⟩ ?_
    rintro m ρ ⟨F, t, ly, P, I, rfl, rfl⟩
    have hF := I.ltF
    have hP := I.len
    walk_at "v"
    rw [show decide ((F : Int) = ((2 ^ n - 1 : Nat) : Int)) = decide (F = 2 ^ n - 1) by rw [decide_eq_decide]; omega]
    refine br_d (fun h1 => ?_) fun h1 => ?_
    · obtain ⟨le, pm⟩ := I.done h1
      walk_at "v"
      refine x_sortP ?_
      walk_at "v"
      refine w_lc_mapW (sortP (pl ly P)) (fun p => D.int p.2) _ rfl (by rfl) (by rw [sortP_len]; simp [pl, cap]; omega) ?_ ?_
      · intro p hp
        walk_at "v"
        walk_at "n"
        walk_at "v"
      have e : (sortP (pl ly P)).map (fun p => D.int p.2) = (lyL n ly).map fun n => D.con (.int n) := by
        rw [sort_pl pm]
        unfold lyL
        rw [List.map_map, List.map_map]
        rfl
      rw [e]
      walk_at "n"
      walk_at "v"
      exact ⟨.inl ⟨ly, le, rfl⟩, rfl, rfl⟩
    · walk_at "v"
      walk_at "n"
      walk_at "v"
      refine w_p_forP (lf fss F) tupD (fun pre ρ => ρ = [some ⟨.int n, false, false⟩, some ⟨fl fss, false, b⟩, some ⟨.lst ((pl ly P).map pairD), true, false⟩, some ⟨.lst ((lf fss F).map tupD), false, false⟩, none, none, some ⟨.int F, false, false⟩, some ⟨.int t, false, false⟩, some ⟨.int (2 ^ n - 1 : Nat), false, false⟩, some ⟨.int (clo F pre), false, false⟩, none, none, none, none, none]) rfl ?_ ?_
      · rintro pre p post ρ e rfl
        walk_at "v"
        walk_at "n"
        walk_at "v"
        unfold clo
        rw [List.foldl_append]
        rfl
      · rintro ρ rfl
        walk_at "v"
        rw [show 2 ^ n - 1 ^^^ clo F (lf fss F) = fre n F fss from rfl]
        rw [show decide (((fre n F fss : Nat) : Int) = 0) = decide (fre n F fss = 0) by rw [decide_eq_decide]; omega]
        refine br_d (fun h2 => ?_) fun h2 => ?_
        · walk_at "v"
          refine w_lc_map (lf fss F) (fun p => D.int p.2) (by rfl) (by rfl) (by have := lfl F; simp only [cap]; omega) ?_ ?_
          · intro p hp
            walk_at "v"
            walk_at "n"
            walk_at "v"
          rw [show (lf fss F).map (fun p => D.int p.2) = ((lf fss F).map fun p => ((p.2 : Nat) : Int)).map fun n => D.con (.int n) by rw [List.map_map]; rfl]
          walk_at "v"
          walk_at "n"
          walk_at "v"
          exact ⟨.inr ⟨F, I.bar hlen h1 h2, rfl⟩, trivial, trivial⟩
        · walk_at "v"
          refine w_lc_flt (List.range n) (fun r => (fre n F fss).testBit r) (fun r => D.tup [.int r, .int t]) (rng0_map _) (by rfl) (by simp [cap]; omega) ?_ ?_
          · intro r hr
            walk_at "v"
            refine br_b (fun h3 => ?_) fun h3 => ?_
            · walk_at "v"
              walk_at "n"
              walk_at "v"
              walk_at "b"
            · walk_at "n"
              walk_at "v"
              walk_at "b"
          walk_at "v"
          have frT := fre_test I.lt hlen
          have nl : ((List.range n).filter fun r => (fre n F fss).testBit r).length ≤ n := by
            refine Nat.le_trans (List.length_filter_le _ _) ?_
            simp
          refine ⟨by simp only [List.length_map, pl, cap]; omega, ?_⟩
          have I2 := I.step hlen
          rw [show (pl ly P).map VL.pairD ++ ((List.range n).filter fun r => (fre n F fss).testBit r).map (fun (r : Nat) => D.tup [.int r, .int t]) = (pl (fun r => if F.testBit r = true then ly r else t) (P ++ (List.range n).filter fun r => (fre n F fss).testBit r)).map VL.pairD by
            unfold pl
            rw [List.map_append, List.map_append, List.map_map, List.map_map, List.map_map]
            congr 1
            · refine List.map_congr_left fun r hr => ?_
              simp [(I.mem r).mp hr]
            · refine List.map_congr_left fun r hr => ?_
              have := ((frT r).mp (List.mem_filter.mp hr).2).2.1
              simp [this]]
          walk_at "s"
          walk_at "v"
          refine w_lc_flt (lf fss F) (fun p => decide (mks p.1 87 &&& fre n F fss = 0)) tupD (by rfl) (by rfl) (by have := lfl F; simp only [cap]; omega) ?_ ?_
          · intro p hp
            walk_at "v"
            rw [show decide (((mks p.1 87 &&& fre n F fss : Nat) : Int) = 0) = decide (mks p.1 87 &&& fre n F fss = 0) by rw [decide_eq_decide]; omega]
            refine br_d (fun h3 => ?_) fun h3 => ?_
            · walk_at "v"
              walk_at "n"
              walk_at "v"
              clear frT I I2
              walk_at "b"
            · walk_at "n"
              walk_at "v"
              clear frT I I2
              walk_at "b"
          rw [← lf_or]
          walk_at "v"
          walk_at "n"
          walk_at "v"
          have gt := or_gt (F := F) h2 fun r hr => ((frT r).mp hr).2.1
          have lt2 := I2.ltF
          exact ⟨2 ^ n - (F ||| fre n F fss), by omega, _, t + 1, _, _, I2, rfl, by simp⟩
end Law_strictranks_k61_whole_orders_or_barring
namespace Law_strictranks_k61_whole_orders_or_barring
/-! facts by their indices -/
def fat (fss : List (List Nat)) (ks : List Nat) : List (List Nat) := ks.map fun i => fss.getD i []
abbrev toO (pre : List Nat) : List Int := pre.map fun (r : Nat) => (r : Int)
abbrev olD (o : List Nat) : D := il (toO o)
/-- rising indices -/
def Asc (m : Nat) (ks : List Nat) : Prop := ks.Pairwise (· < ·) ∧ ∀ i ∈ ks, i < m
theorem Asc.nodup {m : Nat} {ks : List Nat} (h : Asc m ks) : ks.Nodup := h.1.imp fun h => Nat.ne_of_lt h
theorem Asc.len {m : Nat} {ks : List Nat} (h : Asc m ks) : ks.length ≤ m := by
  have := List.Nodup.length_le_of_subset h.nodup (l₂ := List.range m) fun r hr => List.mem_range.mpr (h.2 r hr)
  simpa using this
theorem Asc.flt {m : Nat} {ks : List Nat} (h : Asc m ks) (p : Nat → Bool) : Asc m (ks.filter p) := ⟨h.1.filter _, fun i hi => h.2 i (List.mem_filter.mp hi).1⟩
theorem fat_at {fss : List (List Nat)} {i : Nat} (h : i < fss.length) : fss.getD i [] ∈ fss := by
  rw [List.getD_eq_getElem?_getD, List.getElem?_eq_getElem h]
  exact List.getElem_mem _
theorem fat_mem {fss : List (List Nat)} {ks : List Nat} (h : ∀ i ∈ ks, i < fss.length) {f : List Nat} (hf : f ∈ fat fss ks) : f ∈ fss := by
  obtain ⟨i, hi, rfl⟩ := List.mem_map.mp hf
  exact fat_at (h i hi)
theorem fl_at {fss : List (List Nat)} {i : Nat} (h : i < fss.length) : atI (fss.map fun cs => D.con (.str (fs cs))) (i : Int) = some (.con (.str (fs (fss.getD i [])))) := by
  unfold atI ixN
  rw [if_pos (by omega), if_pos (by simp; omega)]
  simp [h]
theorem lf_asc (fss : List (List Nat)) (F : Nat) : Asc fss.length ((lf fss F).map (·.2)) := by
  unfold lf
  constructor
  · have h : (fss.zipIdx.map (·.2)).Pairwise (· < ·) := by
      rw [List.zipIdx_map_snd]
      exact List.pairwise_lt_range'
    exact List.Pairwise.sublist (List.Sublist.map _ List.filter_sublist) h
  · intro i hi
    obtain ⟨p, hp, rfl⟩ := List.mem_map.mp hi
    have := List.mem_zipIdx (List.mem_filter.mp hp).1
    omega
theorem lf_fat (fss : List (List Nat)) (F : Nat) : fat fss ((lf fss F).map (·.2)) = (lf fss F).map (·.1) := by
  unfold fat
  rw [List.map_map]
  refine List.map_congr_left fun p hp => ?_
  have h := (List.mem_filter.mp hp).1
  rw [List.mem_zipIdx_iff_getElem?] at h
  show fss.getD p.2 [] = p.1
  rw [List.getD_eq_getElem?_getD, h]
  rfl
theorem lf_il (fss : List (List Nat)) (F : Nat) : il ((lf fss F).map fun p => ((p.2 : Nat) : Int)) = olD ((lf fss F).map (·.2)) := by
  show D.lst _ = D.lst _
  rw [List.map_map, List.map_map, List.map_map]
  rfl
/-- fewer facts bar less -/
theorem BarF.mono {n : Nat} {fss gss : List (List Nat)} (h : BarF n fss) (hs : ∀ f ∈ fss, f ∈ gss) : BarF n gss := fun os ho hN => h os ho fun f hf => hN f (hs f hf)
theorem Bar.barF {n : Nat} {gs : List (List Nat)} (hf : ∀ f ∈ gs, FOk n f) (h : Bar n gs) : BarF n gs := fun os ho hN => no_bar ho (fun f h2 => ⟨hf f h2, hN f h2⟩) h
theorem LEq.nbar {n : Nat} {fss : List (List Nat)} {ly : Nat → Nat} (a : LEq n fss ly) (hf : ∀ f ∈ fss, FOk n f) : ¬ BarF n fss := fun z => by
  obtain ⟨h1, h2⟩ := a.ord hf
  exact z _ h1 h2
/-- a rule for a fact and against none -/
def Lack (n : Nat) (gs : List (List Nat)) (d : D) : Prop := (d = .non ∧ ∀ r, r < n → (∃ f ∈ gs, f.getD r 46 = 87) → ∃ g ∈ gs, g.getD r 46 = 76) ∨
  ∃ r : Nat, d = .int r ∧ r < n ∧ (∃ f ∈ gs, f.getD r 46 = 87) ∧ ∀ g ∈ gs, g.getD r 46 ≠ 76
theorem sp_lacking {n : Nat} {gs : List (List Nat)} {b : Bool} (hn : 1 ≤ n ∧ n ≤ 60) (hl : gs.length ≤ 1000) (hf : ∀ cs ∈ gs, FOk n cs) : FRes.pst (F_lacking_rule [⟨.int n, false⟩, ⟨fl gs, b⟩]) (fun d k o => Lack n gs d ∧ k = false) (fun _ _ => False) := by
  rw [F_lacking_rule, w_run]
  walk_at "n"
  walk_at "v"
  rw [rng0_map]
  refine w_p_forP (List.range n) (fun (k : Nat) => D.int k) (fun pre ρ => (∀ r ∈ pre, (∃ f ∈ gs, f.getD r 46 = 87) → ∃ g ∈ gs, g.getD r 46 = 76) ∧ ∃ b', ρ = [some ⟨.int n, false, false⟩, some ⟨fl gs, b', b⟩, none, none, none]) ⟨(fun r hr => by cases hr), _, rfl⟩ ?_ ?_
  · rintro pre r post ρ e ⟨hp, b', rfl⟩
    have hr : r < n := by
      have : r ∈ List.range n := by rw [e]; simp
      exact List.mem_range.mp this
    cases b'
    all_goals
      walk_at "v"
      refine w_lc_map gs (fun f => chD (f.getD r 46)) (by rfl) (by rfl) (by simp only [cap]; omega) ?_ ?_
      · intro f hm
        have hp := hf f hm
        walk_at "v"
        refine x_ixS (cap_fs hn.2 hp.1) (chr_at (by rw [hp.1]; omega)) ?_
        walk_at "v"
        walk_at "n"
        walk_at "v"
      rw [show gs.map (fun f => chD (f.getD r 46)) = (gs.map fun f => f.getD r 46).map fun c => D.con (.str ⟨#[c]⟩) by rw [List.map_map]; rfl]
      walk_at "v"
      rw [str_W]
      refine y_inL (in_chars _ _) ?_
      walk_at "v"
      refine br_d (fun h1 => ?_) fun h1 => ?_
      · walk_at "v"
        rw [str_L]
        refine y_ninL (in_chars _ _) ?_
        walk_at "v"
        refine br_d (fun h2 => ?_) fun h2 => ?_
        · walk_at "v"
          walk_at "n"
          walk_at "v"
          refine ⟨fun x hx => ?_, _, rfl⟩
          rcases List.mem_append.mp hx with z | z
          · exact hp x z
          · rw [List.mem_singleton.mp z]
            intro _
            obtain ⟨g, g1, g2⟩ := List.mem_map.mp h2
            exact ⟨g, g1, g2⟩
        · walk_at "v"
          refine ⟨.inr ⟨r, rfl, hr, ?_, fun g hg e => h2 (List.mem_map.mpr ⟨g, hg, e⟩)⟩, by trivial⟩
          obtain ⟨g, g1, g2⟩ := List.mem_map.mp h1
          exact ⟨g, g1, g2⟩
      · walk_at "n"
        walk_at "v"
        refine ⟨fun x hx => ?_, _, rfl⟩
        rcases List.mem_append.mp hx with z | z
        · exact hp x z
        · rw [List.mem_singleton.mp z]
          rintro ⟨f, f1, f2⟩
          exact absurd (List.mem_map.mpr ⟨f, f1, f2⟩) h1
  · rintro ρ ⟨hp, b', rfl⟩
    walk_at "v"
    exact ⟨.inl ⟨rfl, fun r hr => hp r (List.mem_range.mpr hr)⟩, by trivial⟩
end Law_strictranks_k61_whole_orders_or_barring
namespace Law_strictranks_k61_whole_orders_or_barring
theorem ol_map (ks : List Nat) : (toO ks).map (fun n => D.con (.int n)) = ks.map fun (i : Nat) => D.int i := by
  simp [Function.comp_def]
theorem Bar.nsil {n : Nat} {gs : List (List Nat)} (h : Bar n gs) : ∀ f ∈ gs, ∃ r, r < n ∧ f.getD r 46 ≠ 46 := h.2.1
theorem head_filt {ks : List Nat} {p : Nat → Bool} (h : ∃ i ∈ ks, p i = true) : (ks.filter p).headD 0 ∈ ks.filter p := by
  obtain ⟨i, h1, h2⟩ := h
  cases e : ks.filter p with
  | nil =>
    have : i ∈ ks.filter p := List.mem_filter.mpr ⟨h1, h2⟩
    rw [e] at this
    cases this
  | cons x xs => exact List.mem_cons_self
theorem toO_nat {os : List Int} (h : ∀ x ∈ os, 0 ≤ x) : toO (os.map Int.toNat) = os := by
  show (os.map Int.toNat).map _ = os
  rw [List.map_map]
  conv => rhs; rw [← List.map_id os]
  refine List.map_congr_left fun x hx => ?_
  have := h x hx
  show ((x.toNat : Nat) : Int) = x
  omega
theorem sortI_perm (ns : List Int) : (sortI ns).Perm ns := List.mergeSort_perm _ _
theorem sortI_pw (ns : List Int) : (sortI ns).Pairwise (· ≤ ·) := by
  have := List.pairwise_mergeSort (le := fun a b : Int => decide (a ≤ b)) (fun a b c h1 h2 => by
    simp only [decide_eq_true_eq] at *; omega) (fun a b => by
    simp only [Bool.or_eq_true, decide_eq_true_eq]; omega) ns
  exact this.imp fun h => of_decide_eq_true h
/-- sorted: a list of numbers without a repetition -/
theorem sort_asc {m : Nat} {ks : List Nat} (nd : ks.Nodup) (hb : ∀ i ∈ ks, i < m) : ∃ us, sortI (toO ks) = toO us ∧ Asc m us ∧ ∀ i, i ∈ us ↔ i ∈ ks := by
  have pm : (sortI (toO ks)).Perm (toO ks) := sortI_perm _
  have h0 : ∀ x ∈ sortI (toO ks), 0 ≤ x := fun x hx => by
    obtain ⟨i, _, rfl⟩ := List.mem_map.mp (pm.mem_iff.mp hx)
    omega
  have e := toO_nat h0
  have mem : ∀ i, i ∈ (sortI (toO ks)).map Int.toNat ↔ i ∈ ks := fun i => by
    constructor
    · intro h
      obtain ⟨x, hx, rfl⟩ := List.mem_map.mp h
      obtain ⟨j, hj, rfl⟩ := List.mem_map.mp (pm.mem_iff.mp hx)
      rw [Int.toNat_natCast]; exact hj
    · intro h
      refine List.mem_map.mpr ⟨(i : Int), pm.mem_iff.mpr (List.mem_map.mpr ⟨i, h, rfl⟩), by omega⟩
  refine ⟨(sortI (toO ks)).map Int.toNat, e.symm, ⟨?_, fun i hi => hb i ((mem i).mp hi)⟩, mem⟩
  have nd2 : (toO ks).Nodup := List.Pairwise.map _ (fun a b h z => h (by exact_mod_cast z)) nd
  have h1 : (sortI (toO ks)).Pairwise (· ≤ ·) := sortI_pw _
  have h2 : (sortI (toO ks)).Nodup := pm.nodup_iff.mpr nd2
  rw [List.pairwise_map]
  refine List.Pairwise.imp_of_mem (fun {a b} ha hb h => ?_) (h1.and h2)
  have ha := h0 a ha
  have hb := h0 b hb
  obtain ⟨q1, q2⟩ := h
  have q2 : a ≠ b := q2
  omega
theorem sp_covering {n : Nat} {fss : List (List Nat)} {ix : List Nat} (hn : 1 ≤ n ∧ n ≤ 60) (hl : fss.length ≤ 1000) (hf : ∀ cs ∈ fss, FOk n cs) (ha : Asc fss.length ix) (hb : Bar n (fat fss ix)) : FRes.pst (F_covering [⟨.int n, false⟩, ⟨fl fss, false⟩, ⟨olD ix, false⟩]) (fun d k o => (∃ ks, d = olD ks ∧ Asc fss.length ks ∧ (∀ i ∈ ks, i ∈ ix) ∧ Bar n (fat fss ks)) ∧ k = true ∧ o = [some ⟨.int n, false, false⟩, some ⟨fl fss, false, false⟩, some ⟨olD ix, false, false⟩]) (fun _ _ => False) := by
  have hix : ix ≠ [] := fun z => by
    have := hb.1
    rw [z] at this
    exact this rfl
  have hil := ha.len
  have hff : ∀ ks : List Nat, (∀ i ∈ ks, i ∈ ix) → ∀ f ∈ fat fss ks, FOk n f := fun ks h f hf2 => hf f (fat_mem (fun i hi => ha.2 i (h i hi)) hf2)
  obtain ⟨x0, hx0⟩ : ∃ x0, ix.headD 0 = x0 := ⟨_, rfl⟩
  have hm0 : x0 ∈ ix := by
    cases ix with
    | nil => exact absurd rfl hix
    | cons x xs => rw [← hx0]; exact List.mem_cons_self
  have a0 : atI ((toO ix).map fun n => D.con (.int n)) 0 = some (.int x0) := by
    cases ix with
    | nil => exact absurd rfl hix
    | cons x xs =>
      rw [← hx0]
      unfold atI ixN
      rw [if_pos (by omega), if_pos (by simp)]
      rfl
  have lk : ∀ (found : List Nat), (∀ i ∈ found, i ∈ ix) → found.length ≤ 1000 → FRes.pst (F_lacking_rule [⟨.int n, false⟩, ⟨fl (fat fss found), true⟩]) (fun d k o => Lack n (fat fss found) d ∧ k = false) (fun _ _ => False) := fun found h1 h2 => sp_lacking hn (by unfold fat; rw [List.length_map]; exact h2) (hff found h1)
  have em : ∀ found : List Nat, found.map (fun i => D.con (.str (fs (fss.getD i [])))) = (fat fss found).map fun cs => D.con (.str (fs cs)) := fun found => by unfold fat; rw [List.map_map]; rfl
  have hle : ∀ found : List Nat, found.Nodup → (∀ i ∈ found, i ∈ ix) → found.length ≤ ix.length := fun found h1 h2 => List.Nodup.length_le_of_subset h1 fun i hi => h2 i hi
  rw [F_covering, w_run]
  walk_at "n"
  walk_at "v"
  refine x_ix a0 ?_
  walk_at "v"
  walk_at "v"
  walk_at "n"
  walk_at "v"
  refine w_lc_map (f := fun (i : Nat) => D.int i) [x0] (fun i => D.con (.str (fs (fss.getD i [])))) (by rfl) (by rfl) (by simp [cap]) ?_ ?_
  · intro i hi
    rw [List.mem_singleton] at hi
    subst hi
    walk_at "v"
    refine x_ix (fl_at (ha.2 _ hm0)) ?_
    walk_at "v"
    walk_at "n"
    walk_at "v"
  rw [em]
  walk_at "v"
  refine w_go (lk [x0] (fun i hi => by rw [List.mem_singleton.mp hi]; exact hm0) (by simp)) ?_
  rintro d k o ⟨hlk, rfl⟩
  walk_at "n"
  walk_at "v"
  walk_at "v"
  refine w_p_while (fun m ρ => ∃ found d, found.Nodup ∧ (∀ i ∈ found, i ∈ ix) ∧ found ≠ [] ∧ Lack n (fat fss found) d ∧ m = ix.length - found.length ∧ ρ = [some ⟨.int n, false, false⟩, some ⟨fl fss, false, false⟩, some ⟨olD ix, false, false⟩, some ⟨olD found, true, false⟩, some ⟨d, false, false⟩, none]) _ ⟨[x0], d, by simp, (fun i hi => by rw [List.mem_singleton.mp hi]; exact hm0), by simp, hlk, rfl, rfl⟩ ?_
  rintro m ρ ⟨found, d, f1, f2, f3, f4, rfl, rfl⟩
  have hfl := hle found f1 f2
  rcases f4 with ⟨rfl, f4⟩ | ⟨r, rfl, r1, ⟨g, g1, g2⟩, r3⟩
  · walk_at "v"
    refine ⟨false, rfl, ?_⟩
    walk_at "v"
    refine x_sortI ?_
    walk_at "v"
    obtain ⟨us, u1, u2, u3⟩ := sort_asc f1 (fun i hi => ha.2 i (f2 i hi))
    refine ⟨⟨us, by rw [u1], u2, fun i hi => f2 i ((u3 i).mp hi), ?_, fun f hf2 => ?_, fun f hf2 w hw hs => ?_⟩, rfl, rfl⟩
    · intro z
      obtain ⟨i, hi⟩ := List.exists_mem_of_ne_nil _ f3
      have : fss.getD i [] ∈ fat fss us := List.mem_map.mpr ⟨i, (u3 i).mpr hi, rfl⟩
      rw [z] at this
      cases this
    · obtain ⟨i, hi, rfl⟩ := List.mem_map.mp hf2
      exact hb.2.1 _ (List.mem_map.mpr ⟨i, f2 i ((u3 i).mp hi), rfl⟩)
    · obtain ⟨i, hi, rfl⟩ := List.mem_map.mp hf2
      obtain ⟨g, h1, h2⟩ := f4 w hw ⟨_, List.mem_map.mpr ⟨i, (u3 i).mp hi, rfl⟩, hs⟩
      obtain ⟨j, hj, rfl⟩ := List.mem_map.mp h1
      exact ⟨_, List.mem_map.mpr ⟨j, (u3 j).mpr hj, rfl⟩, h2⟩
  · obtain ⟨g', h1, h2⟩ := hb.2.2 g (by
      obtain ⟨i, hi, rfl⟩ := List.mem_map.mp g1
      exact List.mem_map.mpr ⟨i, f2 i hi, rfl⟩) r r1 g2
    obtain ⟨j, hj, rfl⟩ := List.mem_map.mp h1
    have hhd := head_filt (ks := ix) (p := fun i => decide ((fss.getD i []).getD r 46 = 76)) ⟨j, hj, decide_eq_true h2⟩
    obtain ⟨x, hx⟩ : ∃ x, (ix.filter fun i => decide ((fss.getD i []).getD r 46 = 76)).headD 0 = x := ⟨_, rfl⟩
    have hat := (head_at (List.ne_nil_of_mem hhd)).1
    rw [hx] at hhd hat
    obtain ⟨x1, x2⟩ := List.mem_filter.mp hhd
    have x2 := of_decide_eq_true x2
    have x3 : x ∉ found := fun z => r3 _ (List.mem_map.mpr ⟨x, z, rfl⟩) x2
    have nd2 : (found ++ [x]).Nodup := by
      rw [List.nodup_append]
      refine ⟨f1, by simp, fun a ha b hb e => ?_⟩
      rw [List.mem_singleton] at hb
      subst hb; subst e
      exact x3 ha
    have sub2 : ∀ i ∈ found ++ [x], i ∈ ix := fun i hi => by
      rcases List.mem_append.mp hi with z | z
      · exact f2 i z
      · rw [List.mem_singleton.mp z]; exact x1
    have hl2 := hle _ nd2 sub2
    rw [List.length_append, List.length_singleton] at hl2
    walk_at "v"
    refine ⟨true, rfl, ?_⟩
    walk_at "v"
    refine w_lc_flt ix (fun i => decide ((fss.getD i []).getD r 46 = 76)) (fun (i : Nat) => D.int i) (ol_map ix) (by rfl) (by simp only [cap]; omega) ?_ ?_
    · intro i hi
      have hi2 := ha.2 i hi
      have hp := hf _ (fat_at hi2)
      walk_at "v"
      refine x_ix (fl_at hi2) ?_
      walk_at "v"
      refine x_ixS (cap_fs hn.2 hp.1) (chr_at (by rw [hp.1]; omega)) ?_
      walk_at "v"
      rw [str_L, str_eq1]
      refine br_d (fun h3 => ?_) fun h3 => ?_
      · walk_at "v"
        walk_at "n"
        walk_at "v"
        exact ⟨by rw [if_pos (decide_eq_true h3)], by trivial⟩
      · walk_at "n"
        walk_at "v"
        exact ⟨by rw [if_neg (by simpa using h3)], by trivial⟩
    walk_at "v"
    refine x_ix hat ?_
    walk_at "v"
    rw [show D.lst ((toO found).map (fun n => D.con (.int n)) ++ [D.int x]) = olD (found ++ [x]) by simp]
    walk_at "v"
    walk_at "n"
    walk_at "v"
    refine w_lc_map (f := fun (i : Nat) => D.int i) (found ++ [x]) (fun i => D.con (.str (fs (fss.getD i [])))) (by rw [ol_map, List.map_append]; rfl) (by rfl) (by rw [List.length_append, List.length_singleton]; simp only [cap]; omega) ?_ ?_
    · intro i hi
      walk_at "v"
      refine x_ix (fl_at (ha.2 _ (sub2 i hi))) ?_
      walk_at "v"
      walk_at "n"
      walk_at "v"
    rw [em]
    walk_at "v"
    refine w_go (lk (found ++ [x]) sub2 (by rw [List.length_append, List.length_singleton]; omega)) ?_
    rintro d k o ⟨hlk, rfl⟩
    walk_at "n"
    walk_at "v"
    exact ⟨ix.length - (found ++ [x]).length, by rw [List.length_append, List.length_singleton]; omega, found ++ [x], d, nd2, sub2, by simp, hlk, rfl, rfl⟩
end Law_strictranks_k61_whole_orders_or_barring
namespace Law_strictranks_k61_whole_orders_or_barring
/-! a least barring set -/
def LB (n : Nat) (fss : List (List Nat)) (ks : List Nat) : Prop := Asc fss.length ks ∧ Bar n (fat fss ks) ∧ ∀ i ∈ ks, ¬ BarF n (fat fss (ks.filter fun j => !decide (j = i)))
def LBarQ (n : Nat) (fss : List (List Nat)) (d : D) : Prop := (d = .non ∧ ¬ BarF n fss) ∨ ∃ ks, d = olD ks ∧ LB n fss ks
theorem ol_at {ks : List Nat} {i : Nat} (h : i < ks.length) : atI ((toO ks).map fun n => D.con (.int n)) (i : Int) = some (.int ((ks.getD i 0 : Nat) : Int)) := by
  unfold atI ixN
  rw [if_pos (by omega), if_pos (by simp; omega)]
  simp [h]
theorem fat_sub {fss : List (List Nat)} {ks us : List Nat} (h : ∀ i ∈ ks, i ∈ us) {f : List Nat} (hf : f ∈ fat fss ks) : f ∈ fat fss us := by
  obtain ⟨i, hi, rfl⟩ := List.mem_map.mp hf
  exact List.mem_map.mpr ⟨i, h i hi, rfl⟩
/-- indices of indices -/
theorem asc_at {m : Nat} {ks us : List Nat} (h : Asc m ks) (hu : Asc ks.length us) : Asc m (us.map fun i => ks.getD i 0) := by
  constructor
  · rw [List.pairwise_map]
    refine List.Pairwise.imp_of_mem (fun {a b} ha hb hab => ?_) hu.1
    have h1 := hu.2 a ha
    have h2 := hu.2 b hb
    have := List.pairwise_iff_getElem.mp h.1 a b h1 h2 hab
    simpa [h1, h2] using this
  · intro i hi
    obtain ⟨j, hj, rfl⟩ := List.mem_map.mp hi
    have h1 := hu.2 j hj
    refine h.2 _ ?_
    simp [h1]
theorem fat_fat {fss : List (List Nat)} {ks us : List Nat} (hu : ∀ i ∈ us, i < ks.length) : fat (fat fss ks) us = fat fss (us.map fun i => ks.getD i 0) := by
  unfold fat
  rw [List.map_map]
  refine List.map_congr_left fun i hi => ?_
  have := hu i hi
  simp [this]
theorem sp_leastbarring {n : Nat} {fss : List (List Nat)} (hn : 1 ≤ n ∧ n ≤ 60) (hl : fss.length ≤ 1000) (hf : ∀ cs ∈ fss, FOk n cs) : FRes.pst (F_least_barring [⟨.int n, false⟩, ⟨fl fss, false⟩]) (fun d k o => LBarQ n fss d ∧ o = [some ⟨.int n, false, false⟩, some ⟨fl fss, false, false⟩]) (fun _ _ => False) := by
  have em : ∀ ks : List Nat, ks.map (fun i => D.con (.str (fs (fss.getD i [])))) = (fat fss ks).map fun cs => D.con (.str (fs cs)) := fun ks => by unfold fat; rw [List.map_map]; rfl
  have hff : ∀ ks : List Nat, (∀ i ∈ ks, i < fss.length) → ∀ f ∈ fat fss ks, FOk n f := fun ks h f hf2 => hf f (fat_mem h hf2)
  rw [F_least_barring, w_run]
  walk_at "n"
  walk_at "v"
  refine w_go (sp_layered1 hn hl hf) ?_
  rintro d k o ⟨h, rfl, rfl⟩
  walk_at "n"
  walk_at "v"
  rcases h with ⟨ly, le, rfl⟩ | ⟨F, hb, rfl⟩
  · walk_at "v"
    walk_at "n"
    walk_at "v"
    exact ⟨.inl ⟨rfl, le.nbar hf⟩, by trivial⟩
  · rw [lf_il]
    have hasc := lf_asc fss F
    rw [← lf_fat] at hb
    revert hasc hb
    generalize (lf fss F).map (·.2) = ix
    intro hb hasc
    have hix : ix ≠ [] := fun z => hb.1 (by rw [z]; rfl)
    walk_at "v"
    refine x_eqE (okL_map (toO ix) 59 fun _ _ => rfl) ?_
    rw [show ((toO ix).map fun n => D.con (.int n)).isEmpty = false by
      cases ix with
      | nil => exact absurd rfl hix
      | cons x xs => rfl]
    walk_at "v"
    refine w_go (sp_covering hn hl hf hasc hb) ?_
    rintro d k o ⟨⟨ks, rfl, ka, _, kb⟩, rfl, rfl⟩
    walk_at "n"
    walk_at "v"
    walk_at "v"
    rw [ol_map ks]
    refine w_p_forP ks (fun (i : Nat) => D.int i) (fun done ρ => ∃ us b b2, Asc fss.length us ∧ (∀ i ∈ us, i ∈ ks) ∧ Bar n (fat fss us) ∧ (∀ i ∈ done, i ∈ us → ¬ BarF n (fat fss (us.filter fun j => !decide (j = i)))) ∧ ρ = [some ⟨.int n, false, false⟩, some ⟨fl fss, false, false⟩, some ⟨olD ix, b2, false⟩, some ⟨olD us, b, false⟩, none, none, none, none, none]) ?_ ?_ ?_
    · exact ⟨ks, _, _, ka, fun i hi => hi, kb, (fun i hi => by cases hi), rfl⟩
    · rintro done i post ρ e ⟨us, b, b2, u1, u2, u3, u4, rfl⟩
      have hul : us.length ≤ 1000 := Nat.le_trans u1.len hl
      have hfw := u1.flt fun j => !decide (j = i)
      have hfe : ∀ j ∈ us.filter (fun j => !decide (j = i)), j ∈ us := fun j hj => (List.mem_filter.mp hj).1
      walk_at "v"
      rw [show decide ((i : Int) ∈ toO us) = decide (i ∈ us) by
        rw [decide_eq_decide, List.mem_map]
        constructor
        · rintro ⟨s, h1, h2⟩
          have : s = i := by omega
          rw [← this]; exact h1
        · exact fun h => ⟨i, h, rfl⟩]
      refine br_d (fun h1 => ?_) fun h1 => ?_
      · cases b <;> cases b2
        all_goals
          walk_at "v"
          refine w_lc_flt us (fun j => !decide (j = i)) (fun (j : Nat) => D.int j) (ol_map us) (by rfl) (by simp only [cap]; omega) ?_ ?_
          · intro j hj
            walk_at "v"
            rw [show decide ((j : Int) = i) = decide (j = i) by rw [decide_eq_decide]; omega]
            refine br_d (fun h3 => ?_) fun h3 => ?_
            · walk_at "n"
              walk_at "v"
              walk_at "b"
            · walk_at "v"
              walk_at "n"
              walk_at "v"
              walk_at "b"
          walk_at "v"
          revert hfw hfe
          obtain ⟨vs, hvs⟩ : ∃ vs, us.filter (fun j => !decide (j = i)) = vs := ⟨_, rfl⟩
          rw [hvs]
          intro hfw hfe
          have hvl : vs.length ≤ 1000 := Nat.le_trans hfw.len hl
          walk_at "n"
          walk_at "v"
          refine w_lc_map (f := fun (j : Nat) => D.int j) vs (fun j => D.con (.str (fs (fss.getD j [])))) (by rfl) (by rfl) (by simp only [cap]; omega) ?_ ?_
          · intro j hj
            walk_at "v"
            refine x_ix (fl_at (hfw.2 j hj)) ?_
            walk_at "v"
            walk_at "n"
            walk_at "v"
          rw [em]
          walk_at "v"
          have hfv : ∀ f ∈ fat fss vs, FOk n f := hff vs hfw.2
          refine w_go (sp_layered1 (b := true) hn (by unfold fat; rw [List.length_map]; exact hvl) hfv) ?_
          rintro d k o ⟨h, rfl, rfl⟩
          walk_at "n"
          walk_at "v"
          have keep_ : ∀ i' ∈ done, i' ∈ vs → ¬ BarF n (fat fss (vs.filter fun j => !decide (j = i'))) := fun i' h2 h3 z => u4 i' h2 (hfe i' h3) (z.mono fun f hf2 => fat_sub (fun j hj => by
            obtain ⟨q1, q2⟩ := List.mem_filter.mp hj
            exact List.mem_filter.mpr ⟨hfe j q1, q2⟩) hf2)
          rcases h with ⟨ly, le, rfl⟩ | ⟨F, hb2, rfl⟩
          · walk_at "v"
            walk_at "n"
            walk_at "v"
            refine ⟨us, _, _, u1, u2, u3, fun j hj hj2 => ?_, rfl⟩
            rcases List.mem_append.mp hj with z | z
            · exact u4 j z hj2
            · rw [List.mem_singleton.mp z, hvs]
              exact le.nbar hfv
          · rw [lf_il]
            have hasc2 := lf_asc (fat fss vs) F
            rw [← lf_fat] at hb2
            revert hasc2 hb2
            generalize (lf (fat fss vs) F).map (·.2) = ps
            intro hb2 hasc2
            have hps : ps ≠ [] := fun z => hb2.1 (by rw [z]; rfl)
            have hpl : ∀ p ∈ ps, p < vs.length := fun p hp => by
              have := hasc2.2 p hp
              unfold fat at this
              rw [List.length_map] at this
              exact this
            have hasc3 : Asc vs.length ps := ⟨hasc2.1, hpl⟩
            have hpn : ps.length ≤ 1000 := Nat.le_trans hasc3.len hvl
            walk_at "v"
            refine x_neE (okL_map (toO ps) 59 fun _ _ => rfl) ?_
            rw [show ((toO ps).map fun n => D.con (.int n)).isEmpty = false by
              cases ps with
              | nil => exact absurd rfl hps
              | cons x xs => rfl]
            walk_at "v"
            refine w_lc_map (f := fun (j : Nat) => D.int j) ps (fun p => D.int ((vs.getD p 0 : Nat) : Int)) (ol_map ps) (by rfl) (by simp only [cap]; omega) ?_ ?_
            · intro p hp
              walk_at "v"
              rw [← ol_map vs]
              refine x_ix (ol_at (hpl p hp)) ?_
              walk_at "v"
              walk_at "n"
              walk_at "v"
            rw [show ps.map (fun p => D.int ((vs.getD p 0 : Nat) : Int)) = (toO (ps.map fun p => vs.getD p 0)).map fun n => D.con (.int n) by rw [ol_map, List.map_map]; rfl]
            walk_at "v"
            walk_at "n"
            walk_at "v"
            have hu' := asc_at hfw hasc3
            rw [fat_fat hpl] at hb2
            have hsub : ∀ j ∈ ps.map (fun p => vs.getD p 0), j ∈ vs := fun j hj => by
              obtain ⟨p, hp, rfl⟩ := List.mem_map.mp hj
              have := hpl p hp
              simp [this]
            refine ⟨ps.map fun p => vs.getD p 0, _, _, hu', fun j hj => u2 j (hfe j (hsub j hj)), hb2, fun j hj hj2 => ?_, rfl⟩
            rcases List.mem_append.mp hj with z | z
            · exact fun y => keep_ j z (hsub j hj2) (y.mono fun f hf2 => fat_sub (fun q hq => by
                obtain ⟨q1, q2⟩ := List.mem_filter.mp hq
                exact List.mem_filter.mpr ⟨hsub q q1, q2⟩) hf2)
            · rw [List.mem_singleton.mp z] at hj2
              have := hsub i hj2
              rw [← hvs] at this
              have := (List.mem_filter.mp this).2
              simp at this
      · walk_at "n"
        walk_at "v"
        refine ⟨us, _, _, u1, u2, u3, fun j hj hj2 => ?_, rfl⟩
        rcases List.mem_append.mp hj with z | z
        · exact u4 j z hj2
        · rw [List.mem_singleton.mp z] at hj2
          exact absurd hj2 h1
    · rintro ρ ⟨us, b, b2, u1, u2, u3, u4, rfl⟩
      cases b
      all_goals
        walk_at "v"
        exact ⟨.inr ⟨us, rfl, u1, u3, fun i hi => u4 i (u2 i hi) hi⟩, rfl⟩
end Law_strictranks_k61_whole_orders_or_barring
namespace Law_strictranks_k61_whole_orders_or_barring
/-- together, or Barred -/
def barX (ks : List Nat) : Exn := ⟨"Barred", some [("indices", olD ks)]⟩
theorem sp_togetherG {n : Nat} {fss : List (List Nat)} (hn : 1 ≤ n ∧ n ≤ 60) (hl : fss.length ≤ 1000) (hf : ∀ cs ∈ fss, FOk n cs) : FRes.pst (F_need_together [⟨.int n, false⟩, ⟨fl fss, false⟩]) (fun d k o => ¬ BarF n fss ∧ k = false ∧ o = [some ⟨.int n, false, false⟩, some ⟨fl fss, false, false⟩]) (fun x o => ∃ ks, x = barX ks ∧ LB n fss ks ∧ o = [some ⟨.int n, false, false⟩, some ⟨fl fss, false, false⟩]) := by
  rw [F_need_together, w_run]
  walk_at "n"
  walk_at "v"
  refine w_go (sp_barredG hn hl hf) ?_
  rintro d k o ⟨⟨b, rfl, hb⟩, rfl, rfl⟩
  walk_at "n"
  walk_at "v"
  cases b with
  | false =>
    walk_at "v"
    exact ⟨(fun z => nomatch hb.mpr z), rfl, rfl⟩
  | true =>
    have hb := hb.mp rfl
    walk_at "v"
    refine w_go (sp_leastbarring hn hl hf) ?_
    rintro d k o ⟨h, rfl⟩
    walk_at "n"
    walk_at "v"
    rcases h with ⟨rfl, h⟩ | ⟨ks, rfl, h⟩
    · exact absurd hb h
    · cases k
      all_goals
        walk_at "v"
        exact ⟨ks, rfl, h, rfl⟩
theorem nbar_ex {n : Nat} {fss : List (List Nat)} (h : ¬ BarF n fss) : ∃ os, Ord n os ∧ ∀ f ∈ fss, fsgn os f ≠ 76 := by
  refine Classical.byContradiction fun z => h fun os ho hN => z ⟨os, ho, hN⟩
theorem sp_layersG {n : Nat} {fss : List (List Nat)} (hn : 1 ≤ n ∧ n ≤ 60) (hl : fss.length ≤ 200) (hf : ∀ cs ∈ fss, FOk n cs) : FRes.pst (F_layers_of [⟨.int n, false⟩, ⟨fl fss, false⟩]) (fun d k o => ¬ BarF n fss ∧ (∃ ly : Nat → Nat, LEq n fss ly ∧ d = il (lyL n ly)) ∧ k = true ∧ o = [some ⟨.int n, false, false⟩, some ⟨fl fss, false, false⟩]) (fun x o => ∃ ks, x = barX ks ∧ LB n fss ks ∧ o = [some ⟨.int n, false, false⟩, some ⟨fl fss, false, false⟩]) := by
  rw [F_layers_of, w_run]
  walk_at "n"
  walk_at "v"
  refine w_go (sp_ncf hn hl hf) ?_
  rintro d k o ⟨rfl, rfl⟩
  walk_at "n"
  walk_at "v"
  refine w_mono (sp_togetherG hn (by omega) hf) ?_ (by rintro x o ⟨ks, rfl, h, rfl⟩; walk_at "n"; exact ⟨ks, rfl, h, by trivial⟩)
  rintro d k o ⟨hb, rfl, rfl⟩
  walk_at "n"
  walk_at "v"
  refine w_go (sp_layered0 hn (by omega) hf) ?_
  rintro d k o ⟨h, rfl, rfl⟩
  walk_at "n"
  walk_at "v"
  rcases h with ⟨ly, le, rfl⟩ | ⟨F, h1, rfl⟩
  · exact ⟨hb, ⟨ly, le, rfl⟩, rfl, rfl⟩
  · exact absurd (barF_of hf h1) hb
theorem sp_orderG {n : Nat} {fss : List (List Nat)} (hn : 1 ≤ n ∧ n ≤ 60) (hl : fss.length ≤ 200) (hf : ∀ cs ∈ fss, FOk n cs) : FRes.pst (F_order_of [⟨.int n, false⟩, ⟨fl fss, false⟩]) (fun d k o => ¬ BarF n fss ∧ Ord n (lI n fss) ∧ (∀ f ∈ fss, fsgn (lI n fss) f ≠ 76) ∧ d = il (lI n fss) ∧ k = true ∧ o = [some ⟨.int n, false, false⟩, some ⟨fl fss, false, false⟩]) (fun x o => ∃ ks, x = barX ks ∧ LB n fss ks ∧ o = [some ⟨.int n, false, false⟩, some ⟨fl fss, false, false⟩]) := by
  rw [F_order_of, w_run]
  walk_at "n"
  walk_at "v"
  refine w_go (sp_ncf hn hl hf) ?_
  rintro d k o ⟨rfl, rfl⟩
  walk_at "n"
  walk_at "v"
  refine w_mono (sp_togetherG hn (by omega) hf) ?_ (by rintro x o ⟨ks, rfl, h, rfl⟩; walk_at "n"; exact ⟨ks, rfl, h, by trivial⟩)
  rintro d k o ⟨hb, rfl, rfl⟩
  obtain ⟨os, ho, hN⟩ := nbar_ex hb
  have hNB : NB n os fss := fun g hg => ⟨hf g hg, hN g hg⟩
  have e0 : D.lst ((lo n fss n).map fun (r : Nat) => D.int r) = il (lI n fss) := by
    unfold lI
    show _ = D.lst (((lo n fss n).map fun (r : Nat) => (r : Int)).map fun n => D.con (.int n))
    rw [List.map_map]
    rfl
  walk_at "n"
  walk_at "v"
  refine w_go (sp_leastorder hn (by omega) hf (fun k hk => lo_next ho hNB k hk)) ?_
  rintro d k o ⟨rfl, rfl, rfl⟩
  walk_at "n"
  walk_at "v"
  rw [e0]
  exact ⟨hb, lI_ord ho hNB, fun f hf2 => (lI_holds ho hNB f hf2).2, rfl, rfl, rfl⟩
theorem sp_barringset {n : Nat} {fss : List (List Nat)} (hn : 1 ≤ n ∧ n ≤ 60) (hl : fss.length ≤ 200) (hf : ∀ cs ∈ fss, FOk n cs) : FRes.pst (F_barring_set [⟨.int n, false⟩, ⟨fl fss, false⟩]) (fun d k o => LBarQ n fss d ∧ o = [some ⟨.int n, false, false⟩, some ⟨fl fss, false, false⟩]) (fun _ _ => False) := by
  rw [F_barring_set, w_run]
  walk_at "n"
  walk_at "v"
  refine w_go (sp_ncf hn hl hf) ?_
  rintro d k o ⟨rfl, rfl⟩
  walk_at "n"
  walk_at "v"
  refine w_go (sp_leastbarring hn (by omega) hf) ?_
  rintro d k o ⟨h, rfl⟩
  walk_at "n"
  walk_at "v"
  cases k
  all_goals
    walk_at "v"
    exact ⟨h, rfl⟩
end Law_strictranks_k61_whole_orders_or_barring
namespace Law_strictranks_k61_whole_orders_or_barring
theorem sp_by {ls : List Int} (hl : ls.length ≤ 60) : FRes.pst (F_by_layers [⟨il ls, false⟩]) (fun d k o => d = il (by_ ls) ∧ k = true ∧ o = [some ⟨il ls, false, false⟩]) (fun _ _ => False) := by
  rw [F_by_layers, w_run]
  walk_at "n"
  walk_at "v"
  refine w_lc_inv (fun i acc ρ => acc = ((lp ls).take i).map VL.pairD ∧ ρ = [some ⟨il ls, false, false⟩, none, none]) ⟨rfl, rfl⟩ ?_ ?_
  · rintro i x acc ρ hx ⟨rfl, rfl⟩
    have hi : i < ls.length := by
      have := (List.getElem?_eq_some_iff.mp hx).1
      simpa using this
    have hx2 : x = .tup [.int i, .con (.int ls[i])] := by
      rw [List.getElem?_map, List.getElem?_zipIdx, List.getElem?_map, List.getElem?_eq_getElem hi] at hx
      have := (Option.some.inj hx).symm
      simpa using this
    subst hx2
    have e : (lp ls).take (i + 1) = (lp ls).take i ++ [(ls[i], (i : Int))] := by
      unfold lp
      rw [List.take_add_one, List.getElem?_map, List.getElem?_zipIdx, List.getElem?_eq_getElem hi]
      simp
    walk_at "v"
    walk_at "n"
    rw [e, List.map_append]
    simp
  · rintro acc ρ ⟨rfl, hw⟩
    dsimp only [LcK]
    rw [hw]
    have hz : ((ls.map fun n => D.con (.int n)).zipIdx.map fun p => D.tup [.int p.2, p.1]).length = (lp ls).length := by simp [lp]
    rw [hz, List.take_length]
    refine ⟨by simp [lp, cap]; omega, ?_⟩
    walk_at "v"
    refine x_sortP ?_
    walk_at "v"
    refine w_lc_inv (fun i acc ρ => acc = (((sortP (lp ls)).take i).map fun p => D.con (.int p.2)) ∧ ρ = [some ⟨il ls, false, false⟩, none, none]) ⟨rfl, rfl⟩ ?_ ?_
    · rintro i x acc ρ hx ⟨rfl, rfl⟩
      rw [List.getElem?_map] at hx
      obtain ⟨p, hp, rfl⟩ := Option.map_eq_some_iff.mp hx
      walk_at "v"
      walk_at "n"
      rw [List.take_add_one, hp]
      simp
    · rintro acc ρ ⟨rfl, hw⟩
      dsimp only [LcK]
      rw [hw]
      simp only [List.length_map, List.take_length]
      refine ⟨?_, ?_⟩
      · have := (List.mergeSort_perm (lp ls) lexLe).length_eq
        unfold sortP
        rw [this]
        simp only [lp, List.length_map, List.length_zipIdx, cap]
        omega
      · walk_at "v"
        exact ⟨by unfold by_ il; rw [List.map_map]; rfl, rfl, rfl⟩
theorem sp_orderby {n : Nat} {ls : List Int} (hn : 1 ≤ n ∧ n ≤ 60) (h : LOk n ls) : FRes.pst (F_order_by_layers [⟨il ls, false⟩]) (fun d k o => d = il (by_ ls) ∧ k = true) (fun _ _ => False) := by
  rw [F_order_by_layers, w_run]
  walk_at "n"
  walk_at "v"
  refine w_go (sp_needlayers hn h) ?_
  rintro d k o ⟨rfl, rfl⟩
  walk_at "n"
  walk_at "v"
  walk_at "v"
  refine w_go (sp_by (by rw [h.1]; omega)) ?_
  rintro d k o ⟨rfl, rfl, rfl⟩
  walk_at "n"
  walk_at "v"
  rfl
end Law_strictranks_k61_whole_orders_or_barring
namespace Law_strictranks_k61_whole_orders_or_barring
/-! the law's own looks -/
abbrev isL (n : Nat) (fss : List (List Nat)) (os : List Int) : Prop := Ord n os ∧ ∀ f ∈ fss, fsgn os f ≠ 76
theorem sp_isorderL {n : Nat} {fss : List (List Nat)} {os : List Int} {b : Bool} (hn : 1 ≤ n ∧ n ≤ 60) (hl : fss.length ≤ 1000) (hf : ∀ cs ∈ fss, FOk n cs) (h : isL n fss os) : FRes.pst (F__law_is_order [⟨.int n, false⟩, ⟨fl fss, false⟩, ⟨il os, b⟩]) (fun d k o => d = .bl true ∧ k = false) (fun _ _ => False) := by
  have hol := h.1.len
  cases b
  all_goals
    rw [F__law_is_order, w_run]
    walk_at "n"
    walk_at "v"
    refine w_lc_none (f := fun n => D.con (.int n)) os (by rfl) (by rfl) ?_ ?_
    · intro x hx
      walk_at "v"
      walk_at "n"
      walk_at "v"
    walk_at "v"
    refine w_lc_none (List.range n) (rng0_map _) (by rfl) ?_ ?_
    · intro r hr
      have hr := List.mem_range.mp hr
      walk_at "v"
      rw [decide_eq_true (show (r : Int) ∈ os from h.1.mem_iff.mpr (by unfold rg; exact List.mem_map.mpr ⟨r, List.mem_range.mpr hr, rfl⟩))]
      walk_at "v"
      walk_at "n"
      walk_at "v"
    walk_at "v"
    refine w_lc_none (f := fun f => D.con (.str (fs f))) fss (by rfl) (by rfl) ?_ ?_
    · intro f hm
      walk_at "v"
      refine w_go (sp_first hn.2 h.1.inb (hf f hm).1) ?_
      rintro d k o ⟨rfl, rfl⟩
      walk_at "n"
      walk_at "v"
      rw [str_L, str_eq1, decide_eq_false (h.2 f hm)]
      walk_at "v"
      walk_at "n"
      walk_at "v"
      exact ⟨trivial, trivial⟩
    walk_at "v"
    first | exact ⟨rfl, rfl⟩ | rfl | trivial
theorem sp_goodlayers {n : Nat} {fss : List (List Nat)} {ly : Nat → Nat} (hn : 1 ≤ n ∧ n ≤ 60) (hl : fss.length ≤ 200) (hf : ∀ cs ∈ fss, FOk n cs) (le : LEq n fss ly) : FRes.pst (F__law_good_layers [⟨.int n, false⟩, ⟨fl fss, false⟩, ⟨il (lyL n ly), false⟩]) (fun d k o => d = .bl true ∧ k = false) (fun _ _ => False) := by
  have hlen : (lyL n ly).length = n := by simp [lyL]
  have lok := le.lok hn.2
  have hhb : ∀ f ∈ fss, HB (lyL n ly) f = true := fun f h => le.hb h (hf f h).1
  have hat : ∀ k, k < n → atI ((lyL n ly).map fun n => D.con (.int n)) (k : Int) = some (.con (.int ((lyL n ly).getD k 0))) := fun k hk => lay_at (by omega)
  have eLW : ∀ f, f.length = n → ∀ c, ((List.range n).filter fun k => decide (f.getD k 46 = c)).map (fun (k : Nat) => D.int ((lyL n ly).getD k 0)) = (LW (lyL n ly) f c).map fun n => D.con (.int n) := fun f h c => by
    unfold LW
    rw [rw_range, List.map_map, List.map_map, h]
    rfl
  rw [F__law_good_layers, w_run]
  walk_at "n"
  walk_at "v"
  refine w_lc_none (f := fun n => D.con (.int n)) (lyL n ly) (by rfl) (by rfl) ?_ ?_
  · intro x hx
    walk_at "v"
    walk_at "n"
    walk_at "v"
  walk_at "v"
  refine w_lc_none (f := fun n => D.con (.int n)) (lyL n ly) (by rfl) (by rfl) ?_ ?_
  · intro x hx
    have := lok.2 x hx
    walk_at "v"
    walk_at "n"
    walk_at "v"
  walk_at "v"
  refine w_go (sp_hold hn lok hl hf) ?_
  rintro d k o ⟨rfl, rfl⟩
  walk_at "n"
  walk_at "v"
  rw [show fss.all (HB (lyL n ly)) = true from List.all_eq_true.mpr hhb]
  walk_at "v"
  refine w_p_forP fss (fun f => D.con (.str (fs f))) (fun pre ρ => ρ = [some ⟨.int n, false, false⟩, some ⟨fl fss, false, false⟩, some ⟨il (lyL n ly), false, false⟩, none, none, none, none, none]) rfl ?_ ?_
  · rintro pre f post ρ e rfl
    have hm : f ∈ fss := by rw [e]; simp
    have hp := hf f hm
    walk_at "v"
    refine w_lc_flt (List.range n) (fun k => decide (f.getD k 46 = 76)) (fun (k : Nat) => D.int ((lyL n ly).getD k 0)) (rng0_map _) (by rfl) (by simp [cap]; omega) ?_ ?_
    · intro k hk
      have hk := List.mem_range.mp hk
      walk_at "v"
      refine x_ixS (cap_fs hn.2 hp.1) (chr_at (by rw [hp.1]; omega)) ?_
      walk_at "v"
      rw [str_L, str_eq1]
      refine br_d (fun h3 => ?_) fun h3 => ?_
      · walk_at "v"
        refine x_ix (hat k hk) ?_
        walk_at "v"
        walk_at "n"
        walk_at "v"
        walk_at "b"
      · walk_at "n"
        walk_at "v"
        walk_at "b"
    rw [eLW f hp.1 76]
    walk_at "v"
    refine w_lc_flt (List.range n) (fun k => decide (f.getD k 46 = 87)) (fun (k : Nat) => D.int ((lyL n ly).getD k 0)) (rng0_map _) (by rfl) (by simp [cap]; omega) ?_ ?_
    · intro k hk
      have hk := List.mem_range.mp hk
      walk_at "v"
      refine x_ixS (cap_fs hn.2 hp.1) (chr_at (by rw [hp.1]; omega)) ?_
      walk_at "v"
      rw [str_W, str_eq1]
      refine br_d (fun h3 => ?_) fun h3 => ?_
      · walk_at "v"
        refine x_ix (hat k hk) ?_
        walk_at "v"
        walk_at "n"
        walk_at "v"
        walk_at "b"
      · walk_at "n"
        walk_at "v"
        walk_at "b"
    rw [eLW f hp.1 87]
    have ok : ∀ c, okD 60 (il (LW (lyL n ly) f c)) = true := fun c => okL_map _ 59 fun _ _ => rfl
    walk_at "v"
    refine x_neE (ok 76) ?_
    rw [il_empty]
    walk_at "v"
    have hb := hhb f hm
    unfold HB at hb
    refine br_d (fun h1 => ?_) fun h1 => ?_
    · walk_at "v"
      walk_at "n"
      walk_at "v"
    · rw [decide_eq_false h1, Bool.false_or, Bool.and_eq_true] at hb
      obtain ⟨hb1, hb2⟩ := hb
      have hb1 : LW (lyL n ly) f 87 ≠ [] := by simpa using hb1
      have hb2 := of_decide_eq_true hb2
      walk_at "v"
      refine x_eqE (ok 87) ?_
      rw [il_empty, decide_eq_false hb1]
      walk_at "v"
      refine x_minL (minL_mn hb1) ?_
      walk_at "v"
      walk_at "v"
      refine x_minL (minL_mn h1) ?_
      walk_at "v"
      walk_at "v"
      walk_at "n"
      walk_at "v"
  · rintro ρ rfl
    walk_at "v"
    refine w_go (sp_orderby hn lok) ?_
    rintro d k o ⟨rfl, rfl⟩
    walk_at "n"
    walk_at "v"
    refine w_go (sp_isorderL hn (by omega) hf ⟨by_ord hlen, fun f h => by_fsgn hlen (hf f h) (hhb f h)⟩) ?_
    rintro d k o ⟨rfl, rfl⟩
    walk_at "n"
    walk_at "v"
    first | exact ⟨rfl, rfl⟩ | rfl | trivial
end Law_strictranks_k61_whole_orders_or_barring
namespace Law_strictranks_k61_whole_orders_or_barring
theorem sp_indices {m : Nat} {ks : List Nat} (h : Asc m ks) (hm : m ≤ 1000) : FRes.pst (F__law_indices [⟨olD ks, false⟩, ⟨.int m, false⟩]) (fun d k o => d = .bl true ∧ k = false) (fun _ _ => False) := by
  have hl := h.len
  rw [F__law_indices, w_run]
  walk_at "n"
  walk_at "v"
  refine w_lc_none (f := fun (i : Nat) => D.int i) ks (ol_map ks) (by rfl) ?_ ?_
  · intro i hi
    walk_at "v"
    walk_at "n"
    walk_at "v"
  walk_at "v"
  refine w_lc_none (f := fun (i : Nat) => D.int i) ks (ol_map ks) (by rfl) ?_ ?_
  · intro i hi
    have := h.2 i hi
    walk_at "v"
    walk_at "n"
    walk_at "v"
  walk_at "v"
  rw [List.length_map]
  walk_at "v"
  refine w_lc_none (List.range ((ks.length : Int) - 1).toNat) (rng_map 1 _) (by rfl) ?_ ?_
  · intro k hk
    have hk := List.mem_range.mp hk
    have h1 : k + 1 < ks.length := by omega
    have lt := List.pairwise_iff_getElem.mp h.1 k (k + 1) (by omega) h1 (by omega)
    have e1 : (1 : Int) + k - 1 = (k : Nat) := by omega
    have e2 : (1 : Int) + k = ((k + 1 : Nat) : Int) := by omega
    walk_at "v"
    rw [e1]
    refine x_ix (ol_at (show k < ks.length by omega)) ?_
    walk_at "v"
    walk_at "v"
    rw [e2]
    refine x_ix (ol_at h1) ?_
    walk_at "v"
    walk_at "v"
    rw [show ks.getD k 0 = ks[k] by simp [show k < ks.length by omega], show ks.getD (k + 1) 0 = ks[k + 1] by simp [h1]]
    walk_at "v"
    walk_at "n"
    walk_at "v"
  walk_at "v"
  first | exact ⟨rfl, rfl⟩ | rfl | trivial
theorem bar_tests {n : Nat} {gs : List (List Nat)} (h : Bar n gs) (r : Nat) (hr : r < n) (h1 : 87 ∈ gs.map fun f => f.getD r 46) : 76 ∈ gs.map fun f => f.getD r 46 := by
  obtain ⟨f, f1, f2⟩ := List.mem_map.mp h1
  obtain ⟨g, g1, g2⟩ := h.2.2 f f1 r hr f2
  exact List.mem_map.mpr ⟨g, g1, g2⟩
/-- the silent fact is not among them -/
theorem sil_in {n : Nat} {gs : List (List Nat)} (hf : ∀ f ∈ gs, FOk n f) (h : ∀ f ∈ gs, ∃ r, r < n ∧ f.getD r 46 ≠ 46) : inD (.con (.str (repS (Str.ofString ".") ((n : Int)).toNat))) (.lst (gs.map fun f => .con (.str (fs f)))) = some false := by
  have e : ∀ gs : List (List Nat), flatDs (gs.map fun f => D.con (.str (fs f))) = some (gs.map fun f => V.str (fs f)) := by
    intro gs
    induction gs with
    | nil => rfl
    | cons a r ih =>
      rw [List.map_cons]
      unfold flatDs
      rw [show flatD (D.con (.str (fs a))) = some (V.str (fs a)) from rfl, ih]
      rfl
  unfold inD
  dsimp only
  rw [show flatD (D.con (.str (repS (Str.ofString ".") ((n : Int)).toNat))) = some (V.str (repS (Str.ofString ".") ((n : Int)).toNat)) from rfl, e]
  dsimp only
  congr 1
  induction gs with
  | nil => rfl
  | cons f r ih =>
    show (eqV (V.str (fs f)) (V.str (repS (Str.ofString ".") ((n : Int)).toNat)) || ((r.map fun f => V.str (fs f)).any fun y => eqV y (V.str (repS (Str.ofString ".") ((n : Int)).toNat)))) = false
    rw [show ((r.map fun f => V.str (fs f)).any fun y => eqV y (V.str (repS (Str.ofString ".") ((n : Int)).toNat))) = false from ih (fun f h2 => hf f (List.mem_cons_of_mem _ h2)) (fun f h2 => h f (List.mem_cons_of_mem _ h2))]
    rw [Bool.or_false]
    have h1 := sil_eq (n := n) (hf f List.mem_cons_self).1
    rw [nsl_iff.mpr (by
      obtain ⟨r, r1, r2⟩ := h f List.mem_cons_self
      exact ⟨r, by rw [(hf f List.mem_cons_self).1]; exact r1, r2⟩)] at h1
    have h1 : fs f ≠ repS (Str.ofString ".") ((n : Int)).toNat := by simpa using h1
    show ((fs f) == repS (Str.ofString ".") ((n : Int)).toNat) = false
    simpa using h1
theorem sp_lawbars {n : Nat} {gs : List (List Nat)} {b : Bool} (hn : 1 ≤ n ∧ n ≤ 60) (hl : gs.length ≤ 1000) (hf : ∀ cs ∈ gs, FOk n cs) (h : Bar n gs) : FRes.pst (F__law_bars [⟨.int n, false⟩, ⟨fl gs, b⟩]) (fun d k o => d = .bl true ∧ k = false) (fun _ _ => False) := by
  have hne : (gs.map fun cs => D.con (.str (fs cs))).isEmpty = false := by
    cases gs with
    | nil => exact absurd rfl h.1
    | cons g gs => rfl
  rw [F__law_bars, w_run]
  walk_at "n"
  walk_at "v"
  refine x_eqE (okL_map gs 59 fun x hx => (hf x hx).ok _) ?_
  rw [hne]
  walk_at "v"
  refine y_inL (sil_in hf h.2.1) ?_
  walk_at "v"
  rw [rng0_map]
  refine w_p_forP (List.range n) (fun (k : Nat) => D.int k) (fun pre ρ => ∃ b', ρ = [some ⟨.int n, false, false⟩, some ⟨fl gs, b', b⟩, none, none, none]) ⟨_, rfl⟩ ?_ ?_
  · rintro pre r post ρ e ⟨b', rfl⟩
    have hr : r < n := by
      have : r ∈ List.range n := by rw [e]; simp
      exact List.mem_range.mp this
    cases b'
    all_goals
      walk_at "v"
      refine w_lc_map gs (fun f => chD (f.getD r 46)) (by rfl) (by rfl) (by simp only [cap]; omega) ?_ ?_
      · intro f hm
        have hp := hf f hm
        walk_at "v"
        refine x_ixS (cap_fs hn.2 hp.1) (chr_at (by rw [hp.1]; omega)) ?_
        walk_at "v"
        walk_at "n"
        walk_at "v"
      rw [show gs.map (fun f => chD (f.getD r 46)) = (gs.map fun f => f.getD r 46).map fun c => D.con (.str ⟨#[c]⟩) by rw [List.map_map]; rfl]
      walk_at "v"
      rw [str_W]
      refine y_inL (in_chars _ _) ?_
      walk_at "v"
      refine br_d (fun h1 => ?_) fun h1 => ?_
      · walk_at "v"
        rw [str_L]
        refine y_ninL (in_chars _ _) ?_
        rw [decide_eq_true (bar_tests h r hr h1)]
        walk_at "v"
        walk_at "n"
        walk_at "v"
        exact ⟨_, rfl⟩
      · walk_at "n"
        walk_at "v"
        exact ⟨_, rfl⟩
  · rintro ρ ⟨b', rfl⟩
    walk_at "v"
    rfl
end Law_strictranks_k61_whole_orders_or_barring
namespace Law_strictranks_k61_whole_orders_or_barring
theorem sp_isint2 {x : Int} {b : Int} (h : 0 ≤ x ∧ x ≤ b) : FRes.pst (F_is_integer [⟨.int x, false⟩, ⟨.int 0, false⟩, ⟨.int b, false⟩]) (fun d k o => d = .bl true ∧ k = false) (fun _ _ => False) := sp_isint (x := x) (a := 0) (b := b) h
theorem cutL_drop {α : Type} (as : List α) (j : Nat) : cutL as (some (j : Int)) none = as.drop j := by
  unfold cutL
  rw [HT.sIx_nat, HT.sIx_none]
  by_cases h : j ≤ as.length
  · rw [Nat.min_eq_left h, List.take_of_length_le (by simp)]
  · rw [Nat.min_eq_right (by omega), List.drop_of_length_le (Nat.le_refl _), List.drop_of_length_le (by omega)]
    simp
theorem cutL_take {α : Type} (as : List α) (j : Nat) : cutL as none (some (j : Int)) = as.take j := by
  unfold cutL
  rw [HT.sIx_nat, HT.sIx_none, List.drop_zero, Nat.sub_zero]
  by_cases h : j ≤ as.length
  · rw [Nat.min_eq_left h]
  · rw [Nat.min_eq_right (by omega), List.take_of_length_le (Nat.le_refl _), List.take_of_length_le (by omega)]
theorem asc_zip {m : Nat} {ks : List Nat} (h : Asc m ks) : ∀ p ∈ ks.zip (ks.drop 1), p.1 < p.2 := fun p hp => by
  obtain ⟨i, hi, rfl⟩ := List.mem_iff_getElem.mp hp
  rw [List.length_zip, List.length_drop] at hi
  rw [List.getElem_zip]
  show ks[i] < (ks.drop 1)[i]'(by rw [List.length_drop]; omega)
  rw [List.getElem_drop]
  exact List.pairwise_iff_getElem.mp h.1 i (1 + i) (by omega) (by omega) (by omega)
theorem x_allM {α : Type} {f : α → Bool} {as : List α} {W : V → Prop} (h : W (.bl (as.all f))) : ∃ v, allV [.lst (as.map fun a => D.con (.bl (f a)))] = some v ∧ W v := by
  refine ⟨_, ?_, h⟩
  unfold allV
  dsimp only
  rw [blsD_map]
  show some (V.bl ((as.map f).all id)) = _
  rw [List.all_map]
  rfl
theorem sp_areindices {m : Nat} {ks : List Nat} (h : Asc m ks) (hm : m ≤ 1000) : FRes.pst (F_are_indices [⟨olD ks, false⟩, ⟨.int m, false⟩]) (fun d k o => d = .bl true ∧ k = false) (fun _ _ => False) := by
  have hl := h.len
  rw [F_are_indices, w_run]
  walk_at "n"
  walk_at "v"
  refine w_lc_map (f := fun (i : Nat) => D.int i) ks (fun _ => D.con (.bl true)) (ol_map ks) (by rfl) (by simp only [cap]; omega) ?_ ?_
  · intro i hi
    have := h.2 i hi
    walk_at "v"
    refine w_go (sp_isint2 (x := (i : Int)) (b := (m : Int) - 1) ⟨by omega, by omega⟩) ?_
    rintro d k o ⟨rfl, rfl⟩
    walk_at "n"
    walk_at "v"
    walk_at "n"
    walk_at "v"
  walk_at "v"
  refine x_allM (f := fun _ => true) ?_
  rw [show (ks.all fun _ => true) = true by simp]
  walk_at "v"
  rw [cutD_map, show cutL (toO ks) (some 1) none = toO (ks.drop 1) from (cutL_drop (toO ks) 1).trans (List.map_drop).symm, ol_map ks, ol_map (ks.drop 1), zip_map]
  refine w_lc_map (f := fun p : Nat × Nat => D.tup [.int p.1, .int p.2]) (ks.zip (ks.drop 1)) (fun _ => D.con (.bl true)) (by rfl) (by rfl) (by rw [List.length_zip, List.length_drop]; simp only [cap]; omega) ?_ ?_
  · intro p hp
    have := asc_zip h p hp
    walk_at "v"
    rw [decide_eq_true (show (p.1 : Int) < p.2 by omega)]
    walk_at "n"
    walk_at "v"
    exact ⟨trivial, trivial⟩
  walk_at "v"
  refine x_allM (f := fun _ => true) ?_
  rw [show ((ks.zip (ks.drop 1)).all fun _ => true) = true by simp]
  walk_at "v"
  first | exact ⟨rfl, rfl⟩ | rfl | trivial
theorem sp_barsall {n : Nat} {gs : List (List Nat)} {b : Bool} (hn : 1 ≤ n ∧ n ≤ 60) (hl : gs.length ≤ 1000) (hf : ∀ cs ∈ gs, FOk n cs) (h : Bar n gs) : FRes.pst (F_bars_all [⟨.int n, false⟩, ⟨fl gs, b⟩]) (fun d k o => d = .bl true ∧ k = false) (fun _ _ => False) := by
  have hne : (gs.map fun cs => D.con (.str (fs cs))).isEmpty = false := by
    cases gs with
    | nil => exact absurd rfl h.1
    | cons g gs => rfl
  cases b
  all_goals
    rw [F_bars_all, w_run]
    walk_at "n"
    walk_at "v"
    refine x_neE (okL_map gs 59 fun x hx => (hf x hx).ok _) ?_
    rw [hne]
    walk_at "v"
    refine y_ninL (sil_in hf h.2.1) ?_
    walk_at "v"
    refine w_go (sp_lacking hn hl hf) ?_
    rintro d k o ⟨hq, rfl⟩
    walk_at "n"
    walk_at "v"
    rcases hq with ⟨rfl, _⟩ | ⟨r, rfl, r1, r2, r3⟩
    · walk_at "v"
      first | exact ⟨rfl, rfl⟩ | rfl | trivial
    · obtain ⟨f, f1, f2⟩ := r2
      obtain ⟨g, g1, g2⟩ := h.2.2 f f1 r r1 f2
      exact absurd g2 (r3 g g1)
theorem sp_isbarring {n : Nat} {fss : List (List Nat)} {ks : List Nat} (hn : 1 ≤ n ∧ n ≤ 60) (hl : fss.length ≤ 200) (hf : ∀ cs ∈ fss, FOk n cs) (ha : Asc fss.length ks) (h : Bar n (fat fss ks)) : FRes.pst (F_is_barring_set [⟨.int n, false⟩, ⟨fl fss, false⟩, ⟨olD ks, false⟩]) (fun d k o => d = .bl true ∧ k = false) (fun _ _ => False) := by
  have hkl := ha.len
  rw [F_is_barring_set, w_run]
  walk_at "n"
  walk_at "v"
  refine w_go (sp_ncf hn hl hf) ?_
  rintro d k o ⟨rfl, rfl⟩
  walk_at "n"
  walk_at "v"
  refine w_go (sp_areindices ha (by omega)) ?_
  rintro d k o ⟨rfl, rfl⟩
  walk_at "n"
  walk_at "v"
  refine w_lc_map (f := fun (i : Nat) => D.int i) ks (fun i => D.con (.str (fs (fss.getD i [])))) (ol_map ks) (by rfl) (by simp only [cap]; omega) ?_ ?_
  · intro i hi
    walk_at "v"
    refine x_ix (fl_at (ha.2 i hi)) ?_
    walk_at "v"
    walk_at "n"
    walk_at "v"
  rw [show ks.map (fun i => D.con (.str (fs (fss.getD i [])))) = (fat fss ks).map fun cs => D.con (.str (fs cs)) by unfold fat; rw [List.map_map]; rfl]
  walk_at "v"
  refine w_go (sp_barsall (gs := fat fss ks) hn (by unfold fat; rw [List.length_map]; omega) (fun f hf2 => hf f (fat_mem ha.2 hf2)) h) ?_
  rintro d k o ⟨rfl, rfl⟩
  walk_at "n"
  walk_at "v"
  first | exact ⟨rfl, rfl⟩ | rfl | trivial
theorem sp_bad {n : Nat} {fss : List (List Nat)} {ks : List Nat} (hn : 1 ≤ n ∧ n ≤ 60) (hl : fss.length ≤ 200) (hf : ∀ cs ∈ fss, FOk n cs) (ha : Asc fss.length ks) (h : Bar n (fat fss ks)) : FRes.pst (F__law_bad [⟨.int n, false⟩, ⟨fl fss, false⟩, ⟨olD ks, false⟩]) (fun d k o => d = .bl true ∧ k = false) (fun _ _ => False) := by
  have hkl := ha.len
  rw [F__law_bad, w_run]
  walk_at "n"
  walk_at "v"
  refine w_go (sp_indices ha (by omega)) ?_
  rintro d k o ⟨rfl, rfl⟩
  walk_at "n"
  walk_at "v"
  refine w_lc_map (f := fun (i : Nat) => D.int i) ks (fun i => D.con (.str (fs (fss.getD i [])))) (ol_map ks) (by rfl) (by simp only [cap]; omega) ?_ ?_
  · intro i hi
    walk_at "v"
    refine x_ix (fl_at (ha.2 i hi)) ?_
    walk_at "v"
    walk_at "n"
    walk_at "v"
  rw [show ks.map (fun i => D.con (.str (fs (fss.getD i [])))) = (fat fss ks).map fun cs => D.con (.str (fs cs)) by unfold fat; rw [List.map_map]; rfl]
  walk_at "v"
  refine w_go (sp_lawbars (gs := fat fss ks) hn (by unfold fat; rw [List.length_map]; omega) (fun f hf2 => hf f (fat_mem ha.2 hf2)) h) ?_
  rintro d k o ⟨rfl, rfl⟩
  walk_at "n"
  walk_at "v"
  refine w_go (sp_isbarring hn hl hf ha h) ?_
  rintro d k o ⟨rfl, rfl⟩
  walk_at "n"
  walk_at "v"
  first | exact ⟨rfl, rfl⟩ | rfl | trivial
end Law_strictranks_k61_whole_orders_or_barring
namespace Law_strictranks_k61_whole_orders_or_barring
def AskQ (n : Nat) (fss : List (List Nat)) (lst : Bool) (d : D) : Prop :=
  (¬ BarF n fss ∧ lst = true ∧ isL n fss (lI n fss) ∧ d = .tup [il (lI n fss), .non]) ∨ (¬ BarF n fss ∧ lst = false ∧ (∃ ly : Nat → Nat, LEq n fss ly ∧ d = .tup [il (lyL n ly), .non])) ∨ ∃ ks, LB n fss ks ∧ d = .tup [.non, olD ks]
theorem sp_asked {n : Nat} {fss : List (List Nat)} {lst : Bool} (hn : 1 ≤ n ∧ n ≤ 60) (hl : fss.length ≤ 200) (hf : ∀ cs ∈ fss, FOk n cs) : FRes.pst (F__law_asked [⟨.int n, false⟩, ⟨fl fss, false⟩, ⟨.bl lst, false⟩]) (fun d k o => AskQ n fss lst d ∧ k = false ∧ o = [some ⟨.int n, false, false⟩, some ⟨fl fss, false, false⟩, some ⟨.bl lst, false, false⟩]) (fun _ _ => False) := by
  rw [F__law_asked, w_run]
  walk_at "n"
  walk_at "v"
  cases lst with
  | true =>
    walk_at "v"
    refine w_mono (sp_orderG hn hl hf) ?_ ?_
    · rintro d k o ⟨h1, h2, h3, rfl, rfl, rfl⟩
      walk_at "n"
      walk_at "v"
      exact ⟨.inl ⟨h1, rfl, ⟨h2, h3⟩, rfl⟩, by trivial, by trivial⟩
    · rintro x o ⟨ks, rfl, h, rfl⟩
      walk_at "n"
      walk_at "v"
      refine .inl ⟨rfl, rfl, ?_⟩
      refine w_p_set (w_p_xf ⟨_, xf_one, ?_⟩)
      walk_at "v"
      exact ⟨.inr (.inr ⟨ks, h, rfl⟩), by trivial, by trivial⟩
  | false =>
    walk_at "v"
    refine w_mono (sp_layersG hn hl hf) ?_ ?_
    · rintro d k o ⟨h1, ⟨ly, le, rfl⟩, rfl, rfl⟩
      walk_at "n"
      walk_at "v"
      exact ⟨.inr (.inl ⟨h1, rfl, ly, le, rfl⟩), by trivial, by trivial⟩
    · rintro x o ⟨ks, rfl, h, rfl⟩
      walk_at "n"
      walk_at "v"
      refine .inl ⟨rfl, rfl, ?_⟩
      refine w_p_set (w_p_xf ⟨_, xf_one, ?_⟩)
      walk_at "v"
      exact ⟨.inr (.inr ⟨ks, h, rfl⟩), by trivial, by trivial⟩
def TolQ (n : Nat) (fss : List (List Nat)) (d : D) : Prop := (¬ BarF n fss ∧ d = .lst []) ∨ ∃ ks, LB n fss ks ∧ d = olD ks
theorem sp_told {n : Nat} {fss : List (List Nat)} {b : Bool} (hn : 1 ≤ n ∧ n ≤ 60) (hl : fss.length ≤ 200) (hf : ∀ cs ∈ fss, FOk n cs) : FRes.pst (F__law_told [⟨.int n, false⟩, ⟨fl fss, false⟩]) (fun d k o => TolQ n fss d ∧ o = [some ⟨.int n, false, false⟩, some ⟨fl fss, false, false⟩]) (fun _ _ => False) := by
  rw [F__law_told, w_run]
  walk_at "n"
  walk_at "v"
  refine w_go (sp_asked (lst := false) hn hl hf) ?_
  rintro d k o ⟨h1, rfl, rfl⟩
  walk_at "n"
  walk_at "v"
  rcases h1 with ⟨_, h1, _⟩ | ⟨h1, _, ly, le, rfl⟩ | ⟨ks, lb, rfl⟩
  · cases h1
  · walk_at "v"
    refine w_go (sp_asked (lst := true) hn hl hf) ?_
    rintro d k o ⟨h2, rfl, rfl⟩
    walk_at "n"
    walk_at "v"
    rcases h2 with ⟨_, _, h2, rfl⟩ | ⟨_, h2, _⟩ | ⟨ks, lb, rfl⟩
    · walk_at "v"
      refine w_go (sp_barringset hn hl hf) ?_
      rintro d k o ⟨h3, rfl⟩
      walk_at "n"
      walk_at "v"
      rcases h3 with ⟨rfl, _⟩ | ⟨ks, rfl, lb⟩
      · cases k
        all_goals
          walk_at "v"
          refine ⟨true, rfl, ?_⟩
          walk_at "v"
          refine ⟨false, rfl, ?_⟩
          walk_at "v"
          refine ⟨false, rfl, ?_⟩
          walk_at "v"
          refine ⟨false, rfl, ?_⟩
          walk_at "v"
          refine w_go (sp_goodlayers hn hl hf le) ?_
          rintro d k o ⟨rfl, rfl⟩
          walk_at "n"
          walk_at "v"
          refine w_go (sp_isorderL hn (by omega) hf h2) ?_
          rintro d k o ⟨rfl, rfl⟩
          walk_at "n"
          walk_at "v"
          exact ⟨.inl ⟨h1, rfl⟩, rfl⟩
      · exact absurd (Bar.barF (fun f hf2 => hf f (fat_mem lb.1.2 hf2)) lb.2.1 |>.mono fun f hf2 => fat_mem lb.1.2 hf2) h1
    · cases h2
    · exact absurd (Bar.barF (fun f hf2 => hf f (fat_mem lb.1.2 hf2)) lb.2.1 |>.mono fun f hf2 => fat_mem lb.1.2 hf2) h1
  · have hb : BarF n fss := (Bar.barF (fun f hf2 => hf f (fat_mem lb.1.2 hf2)) lb.2.1).mono fun f hf2 => fat_mem lb.1.2 hf2
    walk_at "v"
    refine w_go (sp_asked (lst := true) hn hl hf) ?_
    rintro d k o ⟨h2, rfl, rfl⟩
    walk_at "n"
    walk_at "v"
    rcases h2 with ⟨h2, _⟩ | ⟨h2, _⟩ | ⟨ks2, lb2, rfl⟩
    · exact absurd hb h2
    · exact absurd hb h2
    · walk_at "v"
      refine w_go (sp_barringset hn hl hf) ?_
      rintro d k o ⟨h3, rfl⟩
      walk_at "n"
      walk_at "v"
      rcases h3 with ⟨rfl, h3⟩ | ⟨ks3, rfl, lb3⟩
      · exact absurd hb h3
      · cases k
        all_goals
          walk_at "v"
          refine ⟨false, rfl, ?_⟩
          walk_at "v"
          refine ⟨false, rfl, ?_⟩
          walk_at "v"
          refine w_p_forC (f := olD) [ks, ks2, ks3] (by rfl) ?_ ?_
          · intro us hus
            have lbu : LB n fss us := by
              simp only [List.mem_cons, List.not_mem_nil, or_false] at hus
              rcases hus with rfl | rfl | rfl <;> assumption
            walk_at "v"
            refine w_go (sp_bad hn hl hf lbu.1 lbu.2.1) ?_
            rintro d k o ⟨rfl, rfl⟩
            walk_at "n"
            walk_at "v"
          walk_at "v"
          rw [ol_map ks3]
          refine w_p_forC (f := fun (i : Nat) => D.int i) ks3 (by rfl) ?_ ?_
          · intro i hi
            have h5 := lb3.2.2 i hi
            have h6 := lb3.1.flt fun j => !decide (j = i)
            have h7 := lb3.1.len
            walk_at "v"
            refine w_lc_flt (f := fun (j : Nat) => D.int j) ks3 (fun j => !decide (j = i)) (fun j => D.con (.str (fs (fss.getD j [])))) (ol_map ks3) (by rfl) (by simp only [cap]; omega) ?_ ?_
            · intro j hj
              walk_at "v"
              rw [show decide ((j : Int) = i) = decide (j = i) by rw [decide_eq_decide]; omega]
              refine br_d (fun h3 => ?_) fun h3 => ?_
              · walk_at "n"
                walk_at "v"
                walk_at "b"
              · walk_at "v"
                refine x_ix (fl_at (lb3.1.2 j hj)) ?_
                walk_at "v"
                walk_at "n"
                walk_at "v"
                walk_at "b"
            rw [show (ks3.filter fun j => !decide (j = i)).map (fun j => D.con (.str (fs (fss.getD j [])))) = (fat fss (ks3.filter fun j => !decide (j = i))).map fun cs => D.con (.str (fs cs)) by unfold fat; rw [List.map_map]; rfl]
            revert h5 h6
            generalize ks3.filter (fun j => !decide (j = i)) = us
            intro h5 h6
            have hfu : ∀ f ∈ fat fss us, FOk n f := fun f hf2 => hf f (fat_mem h6.2 hf2)
            have hlu : (fat fss us).length ≤ 200 := by unfold fat; rw [List.length_map]; have := h6.len; omega
            walk_at "v"
            refine w_go (sp_asked (lst := true) hn hlu hfu) ?_
            rintro d k o ⟨h8, rfl, rfl⟩
            walk_at "n"
            walk_at "v"
            rcases h8 with ⟨_, _, h8, rfl⟩ | ⟨_, h8, _⟩ | ⟨ks4, lb4, rfl⟩
            · walk_at "v"
              refine w_go (sp_isorderL hn (by omega) hfu h8) ?_
              rintro d k o ⟨rfl, rfl⟩
              walk_at "n"
              walk_at "v"
            · cases h8
            · exact absurd (Bar.barF (fun f hf2 => hfu f (fat_mem lb4.1.2 hf2)) lb4.2.1 |>.mono fun f hf2 => fat_mem lb4.1.2 hf2) h5
          walk_at "v"
          exact ⟨.inr ⟨ks3, lb3, rfl⟩, rfl⟩
end Law_strictranks_k61_whole_orders_or_barring
namespace Law_strictranks_k61_whole_orders_or_barring
/-! the ring, the list -/
def RingQ (n : Nat) (d : D) (k : Bool) (outs : Rho) : Prop := ∃ fss t, d = fl fss ∧ k = true ∧ fss.length ≤ n ∧ (∀ cs ∈ fss, FOk n cs) ∧ Tap t ∧ outs = [some ⟨t, true, true⟩, some ⟨.int n, false, false⟩]
/-- a place of a list of rules, as an index; the place ahead of the first is the last -/
theorem at_rule {n : Nat} {os : List Int} (ho : InB n os) {p : Nat} (hp : p < os.length) : (∃ j : Nat, atI (os.map fun n => D.con (.int n)) (p : Int) = some (.con (.int j)) ∧ j < n) ∧ ∃ j : Nat, atI (os.map fun n => D.con (.int n)) ((p : Int) - 1) = some (.con (.int j)) ∧ j < n := by
  have one : ∀ q, q < os.length → ∃ j : Nat, atI (os.map fun n => D.con (.int n)) (q : Int) = some (.con (.int j)) ∧ j < n := fun q hq => by
    have hy := ho _ (List.getElem_mem hq)
    exact ⟨os[q].toNat, by rw [at_map (f := fun n : Int => D.con (.int n)) hq, show ((os[q].toNat : Nat) : Int) = os[q] by omega], by omega⟩
  refine ⟨one p hp, ?_⟩
  by_cases h0 : p = 0
  · subst h0
    have hz : os.length - 1 < os.length := by omega
    obtain ⟨j, e, hj⟩ := one _ hz
    refine ⟨j, ?_, hj⟩
    rw [← e]
    unfold atI ixN
    rw [if_neg (by omega), if_pos (by rw [List.length_map]; omega), if_pos (by omega), if_pos (by rw [List.length_map]; omega), List.length_map]
    show ((os.map fun n => D.con (.int n))[((0 : Nat) - 1 + os.length : Int).toNat]?) = ((os.map fun n => D.con (.int n))[((os.length - 1 : Nat) : Int).toNat]?)
    rw [show ((0 : Nat) - 1 + os.length : Int).toNat = os.length - 1 by omega, Int.toNat_natCast]
  · obtain ⟨j, e, hj⟩ := one (p - 1) (by omega)
    exact ⟨j, by rw [show (p : Int) - 1 = ((p - 1 : Nat) : Int) by omega]; exact e, hj⟩
theorem setOk {n : Nat} {cs : List Nat} {k c : Nat} (h : FOk n cs) (hc : Sg c) : FOk n (cs.set k c) := ⟨by rw [List.length_set]; exact h.1, fun x hx => by
  rcases List.mem_or_eq_of_mem_set hx with z | z
  · exact h.2 x z
  · rw [z]; exact hc⟩
theorem lw_at (p : Bool) : ∃ c, Sg c ∧ atI [D.con (.str (Str.ofString "L")), D.con (.str (Str.ofString "W"))] (if p = true then 1 else 0) = some (chD c) := by
  rw [str_L, str_W]
  cases p
  · exact ⟨76, .inr (.inl rfl), rfl⟩
  · exact ⟨87, .inl rfl, rfl⟩
theorem reps_pts (n : Nat) : (List.replicate n [D.con (.str (Str.ofString "."))]).flatten = (List.replicate n 46).map chD := by
  rw [str_P]
  induction n with
  | zero => rfl
  | succ n ih => rw [List.replicate_succ, List.flatten_cons, ih]; rfl
theorem pts_ok (n : Nat) : FOk n (List.replicate n 46) := ⟨by simp, fun c hc => by rw [List.eq_of_mem_replicate hc]; exact .inr (.inr rfl)⟩
theorem sp_ring {t : D} (ht : Tap t) {n : Nat} (hn : 1 ≤ n ∧ n ≤ 60) : FRes.pst (F__law_ring [⟨t, true⟩, ⟨.int n, false⟩]) (RingQ n) (fun _ _ => False) := by
  rw [F__law_ring, w_run]
  walk_at "n"
  walk_at "v"
  refine w_go (sp_order ht hn) ?_
  rintro d k o ⟨os, t1, rfl, rfl, hos, ht1, rfl⟩
  walk_at "n"
  walk_at "v"
  refine w_go (sp_draw ht1 (n := 4) ⟨by decide, by decide⟩) ?_
  rintro d k o ⟨r1, t2, rfl, rfl, hr1, ht2, rfl⟩
  walk_at "n"
  walk_at "v"
  obtain ⟨m, hm, em⟩ : ∃ m : Nat, (1 ≤ m ∧ m ≤ n) ∧ atI [D.con (.int (if 5 < (n : Int) then 5 else n)), D.int n] (r1 / 3) = some (.con (.int m)) := by
    have : r1 / 3 = 0 ∨ r1 / 3 = 1 := by omega
    rcases this with e | e <;> rw [e]
    · by_cases h : 5 < (n : Int)
      · exact ⟨5, by omega, by rw [if_pos h]; rfl⟩
      · exact ⟨n, by omega, by rw [if_neg h]; rfl⟩
    · exact ⟨n, by omega, rfl⟩
  refine x_ix em ?_
  walk_at "v"
  refine w_go (sp_draw ht2 (n := (m : Int)) ⟨by omega, by omega⟩) ?_
  rintro d k o ⟨r2, t3, rfl, rfl, hr2, ht3, rfl⟩
  walk_at "n"
  walk_at "v"
  obtain ⟨j, hj⟩ : ∃ j : Nat, (1 : Int) + r2 = j := ⟨(1 + r2).toNat, by omega⟩
  rw [hj, cutD_map, cutL_take]
  have hol := hos.len
  have hrl : (os.take j).length ≤ n := by rw [List.length_take]; omega
  have hrb : InB n (os.take j) := fun x hx => hos.inb x (List.mem_of_mem_take hx)
  revert hrl hrb
  generalize os.take j = rs
  intro hrl hrb
  walk_at "v"
  refine w_p_forI (fun i ρ => ∃ fss t, fss.length = i ∧ (∀ cs ∈ fss, FOk n cs) ∧ Tap t ∧ ρ = [some ⟨t, true, true⟩, some ⟨.int n, false, false⟩, some ⟨il rs, true, false⟩, some ⟨fl fss, true, false⟩, none, none, none]) ⟨[], t3, rfl, (fun _ h => nomatch h), ht3, rfl⟩ ?_ ?_
  · rintro i x ρ hx ⟨fss, t, hfl, hfb, ht, rfl⟩
    obtain ⟨hi, rfl⟩ := rngD_at hx
    have hi : i < rs.length := by simpa using hi
    obtain ⟨⟨j1, e1, hj1⟩, j2, e2, hj2⟩ := at_rule hrb hi
    walk_at "v"
    · exact ⟨by omega, by simp [cap]; omega⟩
    rw [reps_pts]
    have f0 := pts_ok n
    revert f0
    rw [Int.toNat_natCast]
    generalize List.replicate n 46 = cs0
    intro f0
    walk_at "v"
    rw [str_W]
    refine x_ix e2 ?_
    walk_at "v"
    refine x_setG (k := j2) (xs := cs0.map chD) (ix_nat (by simpa [f0.1] using hj2)) ?_
    rw [show (cs0.map chD).set j2 (D.con (.str ⟨#[87]⟩)) = (cs0.set j2 87).map chD by rw [List.map_set]]
    have f1 : FOk n (cs0.set j2 87) := setOk f0 (.inl rfl)
    revert f1
    generalize cs0.set j2 87 = cs1
    intro f1
    walk_at "s"
    walk_at "v"
    walk_at "v"
    rw [str_L]
    refine x_ix e1 ?_
    walk_at "v"
    refine x_setG (k := j1) (xs := cs1.map chD) (ix_nat (by simpa [f1.1] using hj1)) ?_
    rw [show (cs1.map chD).set j1 (D.con (.str ⟨#[76]⟩)) = (cs1.set j1 76).map chD by rw [List.map_set]]
    have f2 : FOk n (cs1.set j1 76) := setOk f1 (.inr (.inl rfl))
    revert f2
    generalize cs1.set j1 76 = cs2
    intro f2
    walk_at "s"
    walk_at "v"
    walk_at "v"
    refine w_go (sp_draw ht (n := n) ⟨by omega, by omega⟩) ?_
    rintro d k o ⟨r, t4, rfl, rfl, hr, ht4, rfl⟩
    walk_at "n"
    walk_at "v"
    obtain ⟨q, rfl⟩ : ∃ q : Nat, r = q := ⟨r.toNat, by omega⟩
    have hq : q < cs2.length := by rw [f2.1]; omega
    refine x_ix (at_map (f := chD) hq) ?_
    walk_at "v"
    have done : ∀ cs t', FOk n cs → Tap t' → ∃ (fss' : List (List Nat)) (t2 : D), fss'.length = i + 1 ∧ (∀ cs ∈ fss', FOk n cs) ∧ Tap t2 ∧ ([some ⟨t', true, true⟩, some ⟨.int n, false, false⟩, some ⟨il rs, true, false⟩, some ⟨.lst (fss.map (fun cs => D.con (.str (fs cs))) ++ [D.con (.str (fs cs))]), true, false⟩, none, none, none] : Rho) = [some ⟨t2, true, true⟩, some ⟨.int n, false, false⟩, some ⟨il rs, true, false⟩, some ⟨fl fss', true, false⟩, none, none, none] := fun cs t' h1 h2 => by
      refine ⟨fss ++ [cs], t', by simp [hfl], fun x hx => ?_, h2, by simp⟩
      rcases List.mem_append.mp hx with z | z
      · exact hfb x z
      · rw [List.mem_singleton.mp z]; exact h1
    have hset : ∀ c, (cs2.map chD).set q (chD c) = (cs2.set q c).map chD := fun c => by rw [List.map_set]
    refine br_d (fun h => ?_) fun h => ?_
    · walk_at "v"
      refine br_d (fun h2 => ?_) fun h2 => ?_
      · walk_at "v"
        refine w_go (sp_draw ht4 (n := 2) ⟨by decide, by decide⟩) ?_
        rintro d k o ⟨r5, t5, rfl, rfl, hr5, ht5, rfl⟩
        walk_at "n"
        walk_at "v"
        generalize decide (r5 = 1) = p
        obtain ⟨c, sc, ec⟩ := lw_at p
        refine x_ix ec ?_
        walk_at "v"
        walk_at "v"
        refine x_setG (k := q) (xs := cs2.map chD) (ix_nat (by simpa using hq)) ?_
        rw [hset]
        have f3 : FOk n (cs2.set q c) := setOk f2 sc
        walk_at "s"
        walk_at "v"
        walk_at "v"
        refine x_joinC (by rw [f3.1]; omega) ?_
        walk_at "v"
        walk_at "n"
        walk_at "v"
        exact done _ _ f3 ht5
      · walk_at "v"
        rw [str_L]
        refine x_setG (k := q) (xs := cs2.map chD) (ix_nat (by simpa using hq)) ?_
        rw [hset]
        have f3 : FOk n (cs2.set q 76) := setOk f2 (.inr (.inl rfl))
        walk_at "s"
        walk_at "v"
        walk_at "v"
        refine x_joinC (by rw [f3.1]; omega) ?_
        walk_at "v"
        walk_at "n"
        walk_at "v"
        exact done _ _ f3 ht4
    · walk_at "v"
      refine x_joinC (by rw [f2.1]; omega) ?_
      walk_at "v"
      walk_at "n"
      walk_at "v"
      exact done _ _ f2 ht4
  · rintro ρ ⟨fss, t, hfl, hfb, ht, rfl⟩
    rw [rngD_len] at hfl
    have hfl : fss.length = rs.length := by simpa using hfl
    walk_at "v"
    exact ⟨fss, t, rfl, rfl, by omega, hfb, ht, rfl⟩
end Law_strictranks_k61_whole_orders_or_barring
namespace Law_strictranks_k61_whole_orders_or_barring
theorem x_insG (xs : List D) {q : Nat} {d : D} {M2 : List D × D → Prop} (hl : xs.length ≤ 1000) (hq : q ≤ 1000) (h : M2 (xs.take q ++ [d] ++ xs.drop q, .non)) : ∃ w, insG xs [.con (.int q), d] = some w ∧ M2 w := by
  refine ⟨_, ?_, h⟩
  unfold insG
  dsimp only
  rw [if_pos ⟨by simp only [cap]; omega, by omega, by omega⟩, Int.toNat_natCast]
theorem sp_putin {t : D} (ht : Tap t) {n : Nat} {fss gss : List (List Nat)} {b : Bool} (hl : fss.length + gss.length ≤ 1000) (hf : ∀ cs ∈ fss, FOk n cs) (hg : ∀ cs ∈ gss, FOk n cs) : FRes.pst (F__law_put_in [⟨t, true⟩, ⟨fl fss, false⟩, ⟨fl gss, b⟩]) (fun d k o => ∃ uss t, d = fl uss ∧ k = true ∧ uss.length = fss.length + gss.length ∧ (∀ cs ∈ uss, FOk n cs) ∧ Tap t ∧ ∃ s, o = [some ⟨t, true, true⟩, some ⟨fl fss, false, false⟩, s]) (fun _ _ => False) := by
  rw [F__law_put_in, w_run]
  walk_at "n"
  walk_at "v"
  refine w_p_forP gss (fun f => D.con (.str (fs f))) (fun pre ρ => ∃ uss t b', uss.length = fss.length + pre.length ∧ (∀ cs ∈ uss, FOk n cs) ∧ Tap t ∧ ρ = [some ⟨t, true, true⟩, some ⟨fl fss, false, false⟩, some ⟨fl gss, b', b⟩, some ⟨fl uss, true, false⟩, none]) ⟨fss, t, _, rfl, hf, ht, rfl⟩ ?_ ?_
  · rintro pre f post ρ e ⟨uss, t, b', h1, h2, ht, rfl⟩
    have hpl : pre.length < gss.length := by
      have := congrArg List.length e
      simp at this
      omega
    cases b'
    all_goals
      walk_at "v"
      refine w_go (sp_draw ht (n := (uss.length : Int) + 1) ⟨by omega, by omega⟩) ?_
      rintro d k o ⟨r, t4, rfl, rfl, hr, ht4, rfl⟩
      walk_at "n"
      walk_at "v"
      obtain ⟨q, rfl⟩ : ∃ q : Nat, r = q := ⟨r.toNat, by omega⟩
      refine x_insG (uss.map fun cs => D.con (.str (fs cs))) (by rw [List.length_map]; omega) (by omega) ?_
      walk_at "n"
      walk_at "v"
      rw [show D.lst ((uss.map fun cs => D.con (.str (fs cs))).take q ++ [D.con (.str (fs f))] ++ (uss.map fun cs => D.con (.str (fs cs))).drop q) = fl (uss.take q ++ [f] ++ uss.drop q) by simp]
      refine ⟨uss.take q ++ [f] ++ uss.drop q, t4, _, ?_, fun cs hcs => ?_, ht4, rfl⟩
      · simp only [List.length_append, List.length_take, List.length_drop, List.length_singleton]
        omega
      · rcases List.mem_append.mp hcs with z | z
        · rcases List.mem_append.mp z with z | z
          · exact h2 cs (List.mem_of_mem_take z)
          · rw [List.mem_singleton.mp z]
            exact hg f (by rw [e]; simp)
        · exact h2 cs (List.mem_of_mem_drop z)
  · rintro ρ ⟨uss, t, b', h1, h2, ht, rfl⟩
    walk_at "v"
    exact ⟨uss, t, rfl, rfl, h1, h2, ht, _, rfl⟩
def ListQ (n most : Nat) (os : List Int) (d : D) (k : Bool) (outs : Rho) : Prop := ∃ fss t, d = fl fss ∧ k = true ∧ fss.length ≤ most + n ∧ (∀ cs ∈ fss, FOk n cs) ∧ Tap t ∧ ∃ s, outs = [some ⟨t, true, true⟩, s, some ⟨.int most, false, false⟩]
theorem sp_list {t : D} (ht : Tap t) {os : List Int} {n most : Nat} (hn : 1 ≤ n ∧ n ≤ 60) (hl : os.length = n) (ho : InB n os) (hm : most ≤ 200) : FRes.pst (F__law_list [⟨t, true⟩, ⟨il os, false⟩, ⟨.int most, false⟩]) (ListQ n most os) (fun _ _ => False) := by
  rw [F__law_list, w_run]
  walk_at "n"
  walk_at "v"
  refine w_go (sp_draw ht (n := 5) ⟨by decide, by decide⟩) ?_
  rintro d k o ⟨kd, t1, rfl, rfl, hkd, ht1, rfl⟩
  walk_at "n"
  walk_at "v"
  rw [hl]
  walk_at "v"
  refine w_go (sp_draw ht1 (n := (most : Int) + 1) ⟨by omega, by omega⟩) ?_
  rintro d k o ⟨r2, t2, rfl, rfl, hr2, ht2, rfl⟩
  walk_at "n"
  walk_at "v"
  obtain ⟨many, rfl⟩ : ∃ k : Nat, r2 = k := ⟨r2.toNat, by omega⟩
  generalize hk0 : decide ((0 : Int) < kd) = tr
  refine w_go (sp_facts ht2 (tr := tr) (many := many) hn hl ho (by omega)) ?_
  rintro d k o ⟨fss, t3, rfl, rfl, hfl, hfb, ht3, rfl⟩
  walk_at "n"
  walk_at "v"
  have hFO : ∀ f ∈ fss, FOk n f := fun f h => (hfb f h).1
  refine br_d (fun h => ?_) fun h => ?_
  · walk_at "v"
    refine w_go (sp_ring ht3 hn) ?_
    rintro d k o ⟨gss, t4, rfl, rfl, hgl, hgb, ht4, rfl⟩
    walk_at "n"
    walk_at "v"
    refine w_go (sp_putin ht4 (fss := fss) (gss := gss) (by omega) hFO hgb) ?_
    rintro d k o ⟨uss, t5, rfl, rfl, hul, hub, ht5, s, rfl⟩
    walk_at "n"
    walk_at "v"
    exact ⟨uss, t5, rfl, rfl, by omega, hub, ht5, _, rfl⟩
  · walk_at "v"
    exact ⟨fss, t3, rfl, rfl, by omega, hFO, ht3, _, rfl⟩
end Law_strictranks_k61_whole_orders_or_barring
namespace Law_strictranks_k61_whole_orders_or_barring
theorem two_at {a b : Int} (p : Bool) : ∃ m : Int, (m = a ∨ m = b) ∧ atI [D.con (.int a), D.con (.int b)] (if p then 1 else 0) = some (.con (.int m)) := by
  cases p
  · exact ⟨a, .inl rfl, rfl⟩
  · exact ⟨b, .inr rfl, rfl⟩
/-- a def's answer is one -/
theorem det {r : Option FRes} {Q : D → Bool → Rho → Prop} (h : FRes.pst r Q fun _ _ => False) : ∃ d k o, Q d k o ∧ FRes.pst r (fun d' k' o' => d' = d ∧ k' = k ∧ o' = o) fun _ _ => False := by
  rw [fpst_iff] at h
  cases r with
  | none => exact h.elim
  | some x =>
    cases x with
    | ret d k o => exact ⟨d, k, o, h, by rw [fpst_iff]; exact ⟨rfl, rfl, rfl⟩⟩
    | exc x o => exact h.elim
theorem right_loop {n : Nat} {fss : List (List Nat)} {us0 : List Nat} {lg k0 : Bool} {os : List Int} {t : D} (hn' : 1 ≤ n ∧ n ≤ 60) (hl2 : fss.length ≤ 200) (hFO : ∀ f ∈ fss, FOk n f) (hus0 : us0 = [] ∨ Asc fss.length us0) (ht : Tap t) (hdet : FRes.pst (F__law_told [⟨.int n, false⟩, ⟨fl fss, false⟩]) (fun d k o => d = olD us0 ∧ k = k0 ∧ o = [some ⟨.int n, false, false⟩, some ⟨fl fss, false, false⟩]) fun _ _ => False) :
    (forD (Tg.one 9) (dFgE [9, 10] r__law_right_8_l_1) (rngD 0 (Int.toNat 4)) [some ⟨t, true, true⟩, some ⟨.bl lg, false, false⟩, some ⟨il os, false, false⟩, some ⟨.int n, false, false⟩, some ⟨fl fss, true, false⟩, some ⟨fl fss, false, false⟩, some ⟨olD us0, false, false⟩, some ⟨olD us0, false, false⟩, some ⟨fl fss, true, false⟩, none, none]).pst (SeqK r__law_right_9 (RunK 1 fun d k _ => d = D.bl true ∧ k = false) fun _ _ => False) fun _ _ => False := by
  have okU : ∀ us : List Nat, okD 60 (olD us) = true := fun us => okL_map _ 59 fun _ _ => rfl
  refine w_p_forI (fun i ρ => ∃ us gs t b1 b3, (us = [] ∨ Asc gs.length us) ∧ (∀ f ∈ gs, FOk n f) ∧ gs.length ≤ 200 ∧ Tap t ∧ ρ = [some ⟨t, true, true⟩, some ⟨.bl lg, false, false⟩, some ⟨il os, false, false⟩, some ⟨.int n, false, false⟩, some ⟨fl fss, true, false⟩, some ⟨fl fss, false, false⟩, some ⟨olD us, b1, false⟩, some ⟨olD us0, false, false⟩, some ⟨fl gs, b3, false⟩, none, none]) ⟨us0, fss, t, _, _, hus0, hFO, hl2, ht, rfl⟩ ?_ ?_
  · rintro i x ρ hx ⟨us, gs, t, b1, b3, hus, hgs, hgl, ht, rfl⟩
    obtain ⟨hi, rfl⟩ := rng_at hx
    walk_at "v"
    refine ⟨false, rfl, ?_⟩
    walk_at "v"
    refine x_neE (okU us) ?_
    cases us with
    | nil =>
      walk_at "v"
      refine br_t ?_
      walk_at "v"
      walk_at "n"
      walk_at "v"
      exact ⟨[], gs, t, b1, b3, .inl rfl, hgs, hgl, ht, rfl⟩
    | cons u us' =>
      have ha : Asc gs.length (u :: us') := hus.resolve_left (by simp)
      walk_at "v"
      refine br_f ?_
      have hul := ha.len
      revert ha hul
      have hne : 0 < (u :: us').length := by simp
      revert hne
      generalize u :: us' = ws
      intro hne ha hul
      cases b1 <;> cases b3
      all_goals
        walk_at "v"
        rw [show (toO ws).length = ws.length by simp [toO]]
        refine w_go (sp_draw ht (n := (ws.length : Int)) ⟨by omega, by omega⟩) ?_
        rintro d k o ⟨r7, t7, rfl, rfl, hr7, ht7, rfl⟩
        walk_at "n"
        walk_at "v"
        obtain ⟨j, rfl⟩ : ∃ k : Nat, r7 = k := ⟨r7.toNat, by omega⟩
        have hat : atI ((toO ws).map fun n => D.con (.int n)) (j : Int) = some (.int ((ws.getD j 0 : Nat) : Int)) := ol_at (by omega)
        have ho : ws.getD j 0 < gs.length := ha.2 _ (by rw [List.getD_eq_getElem?_getD, List.getElem?_eq_getElem (by omega)]; exact List.getElem_mem _)
        revert hat ho
        generalize ws.getD j 0 = w
        intro hat ho
        refine x_ix hat ?_
        walk_at "v"
        · rw [show ((w : Int) + 1) = ((w + 1 : Nat) : Int) by omega, cutD_map, cutD_map, cutL_drop, cutL_take]
          simp only [List.length_map, List.length_drop, List.length_take, cap]; omega
        rw [show ((w : Int) + 1) = ((w + 1 : Nat) : Int) by omega, cutD_map, cutD_map, cutL_drop, cutL_take, ← List.map_append]
        have hmem : ∀ f ∈ gs.take w ++ gs.drop (w + 1), FOk n f := fun f h => by
          rcases List.mem_append.mp h with h | h
          · exact hgs f (List.mem_of_mem_take h)
          · exact hgs f (List.mem_of_mem_drop h)
        have hlen : (gs.take w ++ gs.drop (w + 1)).length ≤ 200 := by
          simp only [List.length_append, List.length_drop, List.length_take]; omega
        revert hmem hlen
        generalize gs.take w ++ gs.drop (w + 1) = hs
        intro hmem hlen
        refine w_go (sp_told (b := false) hn' hlen hmem) ?_
        rintro d k o ⟨h1, rfl⟩
        walk_at "n"
        walk_at "v"
        rcases h1 with ⟨_, rfl⟩ | ⟨ks, lb, rfl⟩
        · cases k
          all_goals
            walk_at "n"
            walk_at "v"
            exact ⟨[], hs, t7, _, _, .inl rfl, hmem, hlen, ht7, rfl⟩
        · cases k
          all_goals
            walk_at "n"
            walk_at "v"
            exact ⟨ks, hs, t7, _, _, .inr lb.1, hmem, hlen, ht7, rfl⟩
  · rintro ρ ⟨us, gs, t, b1, b3, hus, hgs, hgl, ht, rfl⟩
    walk_at "v"
    refine ⟨true, rfl, ?_⟩
    walk_at "v"
    refine x_eqLL (okL_map fss 59 fun x hx => (hFO x hx).ok _) ?_
    walk_at "v"
    cases k0 <;> cases b1 <;> cases b3
    all_goals
      refine w_go (hdet) ?_
      rintro d k o ⟨rfl, rfl, rfl⟩
      walk_at "n"
      walk_at "v"
      walk_at "v"
      refine x_eqLL (okU us0) ?_
      walk_at "v"
      first | exact ⟨rfl, rfl⟩ | rfl | trivial
theorem sp_right {t : D} (ht : Tap t) : FRes.pst (F__law_right [⟨t, true⟩]) (fun d k o => d = .bl true ∧ k = false) (fun _ _ => False) := by
  rw [F__law_right, w_run]
  walk_at "n"
  walk_at "v"
  refine w_go (sp_draw ht ⟨by decide, by decide⟩) ?_
  rintro d k o ⟨r, t1, rfl, rfl, hr, ht1, rfl⟩
  walk_at "n"
  walk_at "v"
  generalize decide (r = 2) = lg
  obtain ⟨m1, hm1, e1⟩ := two_at (a := 8) (b := 60) lg
  refine x_ix e1 ?_
  walk_at "v"
  refine w_go (sp_draw ht1 (n := m1) ⟨by omega, by omega⟩) ?_
  rintro d k o ⟨r2, t2, rfl, rfl, hr2, ht2, rfl⟩
  walk_at "n"
  walk_at "v"
  obtain ⟨n, hn⟩ : ∃ n : Nat, 1 + r2 = n := ⟨(1 + r2).toNat, by omega⟩
  have hn' : 1 ≤ n ∧ n ≤ 60 := by omega
  rw [hn]
  refine w_go (sp_order ht2 hn') ?_
  rintro d k o ⟨os, t3, rfl, rfl, hos, ht3, rfl⟩
  walk_at "n"
  walk_at "v"
  have hlo : os.length = n := hos.len
  rw [hlo]
  walk_at "v"
  obtain ⟨m2, hm2, e2⟩ := two_at (a := 12) (b := 130) lg
  refine x_ix e2 ?_
  walk_at "v"
  obtain ⟨most, rfl⟩ : ∃ k : Nat, m2 = k := ⟨m2.toNat, by omega⟩
  refine w_go (sp_list ht3 (most := most) hn' hlo hos.inb (by omega)) ?_
  rintro d k o ⟨fss, t4, rfl, rfl, hfl, hFO, ht4, s, rfl⟩
  walk_at "n"
  walk_at "v"
  have hl2 : fss.length ≤ 200 := by omega
  obtain ⟨d0, k0, o0, ⟨h0, ho0⟩, hdet⟩ := det (sp_told (b := false) hn' hl2 hFO)
  subst ho0
  obtain ⟨us0, rfl, hus0⟩ : ∃ us, d0 = olD us ∧ (us = [] ∨ Asc fss.length us) := by
    rcases h0 with ⟨_, rfl⟩ | ⟨ks, lb, rfl⟩
    · exact ⟨[], rfl, .inl rfl⟩
    · exact ⟨ks, rfl, .inr lb.1⟩
  have okU : ∀ us : List Nat, okD 60 (olD us) = true := fun us => okL_map _ 59 fun _ _ => rfl
  refine w_go (hdet) ?_
  rintro d k o ⟨rfl, rfl, rfl⟩
  walk_at "n"
  walk_at "v"
  cases k
  all_goals
    walk_at "v"
    exact right_loop hn' hl2 hFO hus0 ht4 hdet
theorem law_spec' (ns : List Int) (hn : ns.length ≤ 63) : FRes.post (F_law [shA (.lst (ns.map fun n => .con (.int n)))]) (fun d _ _ => d = .bl true) fun _ _ => False := by
  rw [← fpst_iff]
  show FRes.pst (F_law [⟨il ns, false⟩]) _ _
  rw [F_law, w_run]
  walk_at "n"
  walk_at "v"
  refine w_go (sp_cells (m := 4) ⟨by decide, by decide⟩ hn) ?_
  rintro d k o ⟨ms, rfl, rfl, hm⟩
  walk_at "n"
  walk_at "v"
  refine w_lc_none (List.range ms.length) (rng0_map _) (by rfl) ?_ ?_
  · intro k hk
    have hk : k < ms.length := by simpa using hk
    walk_at "v"
    refine x_ix (lay_at hk) ?_
    walk_at "v"
    refine w_go (sp_tap _ _ (by omega)) ?_
    rintro d k o ⟨ht, rfl⟩
    walk_at "n"
    walk_at "v"
    refine w_go (sp_right ht) ?_
    rintro d k o ⟨rfl, rfl⟩
    walk_at "n"
    walk_at "v"
    walk_at "n"
    walk_at "v"
    exact ⟨trivial, trivial⟩
  walk_at "v"
  rfl
end Law_strictranks_k61_whole_orders_or_barring
end
section
set_option Elab.async false
set_option linter.all false
set_option maxRecDepth 100000

set_option maxHeartbeats 4000000
namespace Law_strictranks_k61_whole_orders_or_barring
open PySem PySem.Spec PyProof.Rows L2 L2.VL
/-- what the top has written -/
structure Txt (K : PySem.W.Frag) (mg : Str → Option Value) : Prop where
  n_abs : mg "abs" = none
  n_all : mg "all" = none
  n_bool : mg "bool" = none
  n_enumerate : mg "enumerate" = none
  n_int : mg "int" = none
  n_isinstance : mg "isinstance" = none
  n_len : mg "len" = none
  n_list : mg "list" = none
  n_max : mg "max" = none
  n_min : mg "min" = none
  n_range : mg "range" = none
  n_sorted : mg "sorted" = none
  n_str : mg "str" = none
  n_sum : mg "sum" = none
  n_zip : mg "zip" = none
  c_AGAINST : ∃ t, mg "AGAINST" = some (.str "L" t)
  c_FOR : ∃ t, mg "FOR" = some (.str "W" t)
  c_MOST_FACTS : ∃ t, mg "MOST_FACTS" = some (.int 200 t)
  c_MOST_RULES : ∃ t, mg "MOST_RULES" = some (.int 60 t)
  c_SILENT : ∃ t, mg "SILENT" = some (.str "." t)
  f__law_cells : FnAt K mg "_law_cells" s__law_cells [] []
  f__law_draw : FnAt K mg "_law_draw" s__law_draw [] []
  f__law_order : FnAt K mg "_law_order" s__law_order [] []
  f__law_fact : FnAt K mg "_law_fact" s__law_fact [] []
  f__law_first : FnAt K mg "_law_first" s__law_first [] []
  f__law_turned : FnAt K mg "_law_turned" s__law_turned [] []
  f__law_facts : FnAt K mg "_law_facts" s__law_facts [] []
  f__law_put_in : FnAt K mg "_law_put_in" s__law_put_in [] []
  f__law_ring : FnAt K mg "_law_ring" s__law_ring [] []
  f__law_list : FnAt K mg "_law_list" s__law_list [] []
  f_is_integer : FnAt K mg "is_integer" s_is_integer [.non] []
  f_need_count : FnAt K mg "need_count" s_need_count [.int 60] []
  f_fits_fact : FnAt K mg "fits_fact" s_fits_fact [] []
  f_need_facts : FnAt K mg "need_facts" s_need_facts [] []
  f_need_count_and_facts : FnAt K mg "need_count_and_facts" s_need_count_and_facts [.int 60] []
  f_rules_with : FnAt K mg "rules_with" s_rules_with [] []
  f_mask_of : FnAt K mg "mask_of" s_mask_of [.str "W"] []
  f_layered : FnAt K mg "layered" s_layered [] []
  f_is_barred : FnAt K mg "is_barred" s_is_barred [] []
  f_lacking_rule : FnAt K mg "lacking_rule" s_lacking_rule [] []
  f_covering : FnAt K mg "covering" s_covering [] []
  f_least_barring : FnAt K mg "least_barring" s_least_barring [] []
  f_need_together : FnAt K mg "need_together" s_need_together [] []
  f_masks_of : FnAt K mg "masks_of" s_masks_of [] []
  f_can_stand : FnAt K mg "can_stand" s_can_stand [] []
  f_placeable : FnAt K mg "placeable" s_placeable [] []
  f_least_order : FnAt K mg "least_order" s_least_order [] []
  f_order_of : FnAt K mg "order_of" s_order_of [] []
  f_layers_of : FnAt K mg "layers_of" s_layers_of [] []
  f__law_asked : FnAt K mg "_law_asked" s__law_asked [] []
  f_barring_set : FnAt K mg "barring_set" s_barring_set [] []
  f_need_layers : FnAt K mg "need_layers" s_need_layers [] []
  f_holds_by_layers : FnAt K mg "holds_by_layers" s_holds_by_layers [] []
  f_hold_in_layers : FnAt K mg "hold_in_layers" s_hold_in_layers [] []
  f__law_is_order : FnAt K mg "_law_is_order" s__law_is_order [] []
  f_by_layers : FnAt K mg "by_layers" s_by_layers [] []
  f_order_by_layers : FnAt K mg "order_by_layers" s_order_by_layers [] []
  f__law_good_layers : FnAt K mg "_law_good_layers" s__law_good_layers [] []
  f__law_indices : FnAt K mg "_law_indices" s__law_indices [] []
  f__law_bars : FnAt K mg "_law_bars" s__law_bars [] []
  f_are_indices : FnAt K mg "are_indices" s_are_indices [] []
  f_bars_all : FnAt K mg "bars_all" s_bars_all [] []
  f_is_barring_set : FnAt K mg "is_barring_set" s_is_barring_set [] []
  f__law_bad : FnAt K mg "_law_bad" s__law_bad [] []
  f__law_told : FnAt K mg "_law_told" s__law_told [] []
  f__law_right : FnAt K mg "_law_right" s__law_right [] []
  f__law_tap : FnAt K mg "_law_tap" s__law_tap [] []
  f_law : FnAt K mg "law" s_law [] []
  rk_RankError : RkT K mg "RankError"
  i_Barred : InitT K mg "Barred" "indices" "Barred.__init__" (clsAt (topS 2) 0)
  m_Barred_Barred : PySem.W.exmOne K (.ref (He.ga K "Barred")) (.ref (He.ga K "Barred")) = some true
section
variable {P : Program} {w : World} {K : PySem.W.Frag} {mg : Str → Option Value} {base : Heap}
theorem mk_Barred (T : Txt K mg) : MkT P w K mg base "Barred" "indices" := init_ok (fp := "indices") (m := "the facts hold together in no order") T.i_Barred ⟨rfl, rfl, rfl, by decide +kernel, rfl, by decide +kernel, by decide +kernel⟩ (fun _ _ _ _ _ _ us hl => match us, hl with | [_, _], _ => rfl)
  (fun fI cdv A outer s H E => pss_cons (ps_expr (pe_rkinit rfl T.rk_RankError.g T.rk_RankError.sg T.rk_RankError.rd T.rk_RankError.v (pa_cons (pv 0) (pa_cons pe_str pa_nil)))) (pss_cons (ps_ost (pv 0) (pv 1)) pss_nil))
theorem sc__law_cells : FnScope ["_law_script", "_law_most"] ["_law_script", "_law_most"] (defScope s__law_cells) := ⟨rfl, rfl, rfl, by decide +kernel, rfl, by decide +kernel, by decide +kernel⟩
theorem b__law_cells (T : Txt K mg) (f : Addr) (cdv : Value) (A : Around) (outer : List Env) (s : Shared) (H : Hp) (E : XK) (c : FnCx (cxOf (L2.CX P w) P w K mg base ["_law_script", "_law_most"] "_law_cells" (defScope s__law_cells) f cdv A outer s H E) 0) :
  SSs (cxOf (L2.CX P w) P w K mg base ["_law_script", "_law_most"] "_law_cells" (defScope s__law_cells) f cdv A outer s H E) (defBody s__law_cells) r__law_cells_1 :=
  ss_one (ss_ret (se_slL (se_op op_addA os_add (se_var 0) (se_lst (sa_cons (b := false) (se_int) (sa_nil)))) (sp_none) (sp_some (se_callB (call_max2 c.g.calm) os_max T.n_max (sa_cons (b := true) (se_int) (sa_cons (b := true) (se_callB (call_min2 c.g.calm) os_min T.n_min (sa_cons (b := true) (se_var 1) (sa_cons (b := true) (se_callB (call_len) os_len T.n_len (sa_cons (b := true) (se_var 0) (sa_nil))) (sa_nil)))) (sa_nil)))))))
theorem ok__law_cells (T : Txt K mg) : Def P w K mg base "_law_cells" 1 F__law_cells 2 [] :=
  def_ok T.f__law_cells sc__law_cells rfl (fun _ _ _ _ _ _ us hl => match us, hl with | [_, _], _ => rfl) (b__law_cells T)
theorem sc__law_draw : FnScope ["_law_tap_here", "_law_bound", "_law_found"] ["_law_tap_here", "_law_bound"] (defScope s__law_draw) := ⟨rfl, rfl, rfl, by decide +kernel, rfl, by decide +kernel, by decide +kernel⟩
theorem b__law_draw (T : Txt K mg) (f : Addr) (cdv : Value) (A : Around) (outer : List Env) (s : Shared) (H : Hp) (E : XK) (c : FnCx (cxOf (L2.CX P w) P w K mg base ["_law_tap_here", "_law_bound", "_law_found"] "_law_draw" (defScope s__law_draw) f cdv A outer s H E) 0) :
  SSs (cxOf (L2.CX P w) P w K mg base ["_law_tap_here", "_law_bound", "_law_found"] "_law_draw" (defScope s__law_draw) f cdv A outer s H E) (defBody s__law_draw) r__law_draw_1 :=
  ss_cons (ss_if (st_cmp (op_geA c.room) cs_geA.os (se_ix ix_seq os_ix (se_var 0) (se_int) (fun _ _ => rfl)) (se_op op_pow os_pow (se_int) (se_int)) (nomark _)) (ss_cons (ss_set 2 c.g (se_op op_mod os_mod (se_callTy (call_int1) os_int T.n_int (sa_cons (b := true) (se_ix ix_seq os_ix (se_var 0) (se_int) (fun _ _ => rfl)) (sa_nil))) (se_var 1)))
    (ss_cons (ss_setIx 0 (se_op op_fdivW os_div (se_ix ix_seq os_ix (se_var 0) (se_int) (fun _ _ => rfl)) (se_var 1)) (se_int))
    (ss_one (ss_ret (se_var 2))))) (ss_nil))
    (ss_cons (ss_setIx 0 (se_op op_mod os_mod (se_callTy (call_int1) os_int T.n_int (sa_cons (b := true) (se_op op_addA os_add (se_op op_mulT os_mulT (se_ix ix_seq os_ix (se_var 0) (se_int) (fun _ _ => rfl)) (se_int)) (se_int)) (sa_nil))) (se_int)) (se_int))
    (ss_cons (ss_setIx 0 (se_op op_mod os_mod (se_callTy (call_int1) os_int T.n_int (sa_cons (b := true) (se_op op_addA os_add (se_op op_mulT os_mulT (se_ix ix_seq os_ix (se_var 0) (se_int) (fun _ _ => rfl)) (se_ix ix_seq os_ix (se_var 0) (se_int) (fun _ _ => rfl))) (se_ix ix_seq os_ix (se_var 0) (se_int) (fun _ _ => rfl))) (sa_nil))) (se_int)) (se_int))
    (ss_one (ss_ret (se_op op_mod os_mod (se_callTy (call_int1) os_int T.n_int (sa_cons (b := true) (se_op op_addA os_add (se_op op_fdivW os_div (se_ix ix_seq os_ix (se_var 0) (se_int) (fun _ _ => rfl)) (se_int)) (se_op op_fdivW os_div (se_ix ix_seq os_ix (se_var 0) (se_int) (fun _ _ => rfl)) (se_int))) (sa_nil))) (se_var 1))))))
theorem ok__law_draw (T : Txt K mg) : Def P w K mg base "_law_draw" 1 F__law_draw 2 [] :=
  def_ok T.f__law_draw sc__law_draw rfl (fun _ _ _ _ _ _ us hl => match us, hl with | [_, _], _ => rfl) (b__law_draw T)
theorem sc__law_order : FnScope ["_law_tap_here", "_law_count", "_law_left", "_law_found", "_law_turn"] ["_law_tap_here", "_law_count"] (defScope s__law_order) := ⟨rfl, rfl, rfl, by decide +kernel, rfl, by decide +kernel, by decide +kernel⟩
theorem b__law_order (T : Txt K mg) (f : Addr) (cdv : Value) (A : Around) (outer : List Env) (s : Shared) (H : Hp) (E : XK) (c : FnCx (cxOf (L2.CX P w) P w K mg base ["_law_tap_here", "_law_count", "_law_left", "_law_found", "_law_turn"] "_law_order" (defScope s__law_order) f cdv A outer s H E) 1) :
  SSs (cxOf (L2.CX P w) P w K mg base ["_law_tap_here", "_law_count", "_law_left", "_law_found", "_law_turn"] "_law_order" (defScope s__law_order) f cdv A outer s H E) (defBody s__law_order) r__law_order_1 :=
  ss_cons (ss_set 2 c.g (se_lrg c.g.calm T.n_list T.n_range (se_var 1)))
    (ss_cons (ss_set 3 c.g (se_lst (sa_nil)))
    (ss_cons (ss_fgB [4] (ss_for c.g (si_rng1 T.n_range (sa_cons (b := true) (se_var 1) (sa_nil))) (sg_name 4 c.g) (sss_fgE [4] (ss_one (ss_expr (se_mut 3 PySem.F.slot_list_append PySem.F.type_list_append mt_append ms_append (sa_cons (b := false) (se_mut 2 PySem.F.slot_list_pop PySem.F.type_list_pop mt_popAt ms_pop (sa_cons (b := false) (se_call (ok__law_draw T) (c.room.mono (by decide)) (sa_cons (b := true) (se_var 0) (sa_cons (b := true) (se_callB (call_len) os_len T.n_len (sa_cons (b := true) (se_var 2) (sa_nil))) (sa_nil)))) (sa_nil))) (sa_nil))))))))
    (ss_one (ss_ret (se_var 3)))))
theorem ok__law_order (T : Txt K mg) : Def P w K mg base "_law_order" 2 F__law_order 2 [] :=
  def_ok T.f__law_order sc__law_order rfl (fun _ _ _ _ _ _ us hl => match us, hl with | [_, _], _ => rfl) (b__law_order T)
theorem sc__law_fact : FnScope ["_law_tap_here", "_law_order_here", "_law_kind", "_law_count", "_law_signs", "_law_sign", "_law_turn", "_law_place", "_law_rule"] ["_law_tap_here", "_law_order_here", "_law_kind"] (defScope s__law_fact) := ⟨rfl, rfl, rfl, by decide +kernel, rfl, by decide +kernel, by decide +kernel⟩
theorem b__law_fact (T : Txt K mg) (f : Addr) (cdv : Value) (A : Around) (outer : List Env) (s : Shared) (H : Hp) (E : XK) (c : FnCx (cxOf (L2.CX P w) P w K mg base ["_law_tap_here", "_law_order_here", "_law_kind", "_law_count", "_law_signs", "_law_sign", "_law_turn", "_law_place", "_law_rule"] "_law_fact" (defScope s__law_fact) f cdv A outer s H E) 1) :
  SSs (cxOf (L2.CX P w) P w K mg base ["_law_tap_here", "_law_order_here", "_law_kind", "_law_count", "_law_signs", "_law_sign", "_law_turn", "_law_place", "_law_rule"] "_law_fact" (defScope s__law_fact) f cdv A outer s H E) (defBody s__law_fact) r__law_fact_1 :=
  ss_cons (ss_set 3 c.g (se_callB (call_len) os_len T.n_len (sa_cons (b := true) (se_var 1) (sa_nil))))
    (ss_cons (ss_if (st_cmp (op_eqA c.room) cs_eq.os (se_var 2) (se_int) (nomark _)) (ss_one (ss_ret (se_mt PySem.F.plainAttrs_str PySem.F.slot_str_join PySem.F.type_str_join mt_join om_join (se_str) (sa_cons (b := true) (se_lc [("_law_rule", 8)] c.g (si_rng1 T.n_range (sa_cons (b := true) (se_var 3) (sa_nil))) (by kernel_rfl) (fun s1 H1 C1 cl1 fp1 => sg_name 8 (cxg_blk c.g s1 H1 _ _ fp1)) (fun s1 H1 C1 cl1 fp1 => sts_nil) (fun s1 H1 C1 cl1 fp1 => se_ix ix_seq os_ix (se_lst (sa_cons (b := false) (se_str) (sa_cons (b := false) (se_str) (sa_cons (b := false) (se_str) (sa_nil))))) (se_call (ok__law_draw T) (c.room.mono (by decide)) (sa_cons (b := true) (se_var 0) (sa_cons (b := true) (se_int) (sa_nil)))) (fun _ _ => rfl))) (sa_nil))))) (ss_nil))
    (ss_cons (ss_set 4 c.g (se_op op_mulT os_mulT (se_lst (sa_cons (b := false) (se_str) (sa_nil))) (se_var 3)))
    (ss_cons (ss_if (st_cmp (op_eqA c.room) cs_eq.os (se_var 2) (se_int) (nomark _)) (ss_cons (ss_fgB [5, 6] (ss_for c.g (si_lst (se_lst (sa_cons (b := false) (se_str) (sa_cons (b := false) (se_str) (sa_nil))))) (sg_name 5 c.g) (sss_fgE [5, 6] (ss_one (ss_fgB [6] (ss_for c.g (si_rng1 T.n_range (sa_cons (b := true) (se_ix ix_seq os_ix (se_lst (sa_cons (b := false) (se_int) (sa_cons (b := false) (se_int) (sa_cons (b := false) (se_int) (sa_cons (b := false) (se_int) (sa_nil)))))) (se_call (ok__law_draw T) (c.room.mono (by decide)) (sa_cons (b := true) (se_var 0) (sa_cons (b := true) (se_int) (sa_nil)))) (fun _ _ => rfl)) (sa_nil))) (sg_name 6 c.g) (sss_fgE [6] (ss_one (ss_setIx 4 (se_var 5) (se_call (ok__law_draw T) (c.room.mono (by decide)) (sa_cons (b := true) (se_var 0) (sa_cons (b := false) (se_var 3) (sa_nil)))))))))))))
    (ss_one (ss_ret (se_mt PySem.F.plainAttrs_str PySem.F.slot_str_join PySem.F.type_str_join mt_join om_join (se_str) (sa_cons (b := true) (se_var 4) (sa_nil)))))) (ss_nil))
    (ss_cons (ss_set 7 c.g (se_call (ok__law_draw T) (c.room.mono (by decide)) (sa_cons (b := true) (se_var 0) (sa_cons (b := false) (se_var 3) (sa_nil)))))
    (ss_cons (ss_setIx 4 (se_str) (se_ix ix_seq os_ix (se_var 1) (se_var 7) (fun _ _ => rfl)))
    (ss_cons (ss_setIx 4 (se_str) (se_ix ix_seq os_ix (se_var 1) (se_op op_sub os_sub (se_var 7) (se_int)) (fun _ _ => rfl)))
    (ss_cons (ss_setIx 4 (se_ix ix_seq os_ix (se_lst (sa_cons (b := false) (se_str) (sa_cons (b := false) (se_str) (sa_cons (b := false) (se_str) (sa_nil))))) (se_call (ok__law_draw T) (c.room.mono (by decide)) (sa_cons (b := true) (se_var 0) (sa_cons (b := true) (se_int) (sa_nil)))) (fun _ _ => rfl)) (se_call (ok__law_draw T) (c.room.mono (by decide)) (sa_cons (b := true) (se_var 0) (sa_cons (b := false) (se_var 3) (sa_nil)))))
    (ss_one (ss_ret (se_mt PySem.F.plainAttrs_str PySem.F.slot_str_join PySem.F.type_str_join mt_join om_join (se_str) (sa_cons (b := true) (se_var 4) (sa_nil))))))))))))
theorem ok__law_fact (T : Txt K mg) : Def P w K mg base "_law_fact" 2 F__law_fact 3 [] :=
  def_ok T.f__law_fact sc__law_fact rfl (fun _ _ _ _ _ _ us hl => match us, hl with | [_, _, _], _ => rfl) (b__law_fact T)
theorem sc__law_first : FnScope ["_law_order_here", "_law_fact_here", "_law_rule"] ["_law_order_here", "_law_fact_here"] (defScope s__law_first) := ⟨rfl, rfl, rfl, by decide +kernel, rfl, by decide +kernel, by decide +kernel⟩
theorem b__law_first (T : Txt K mg) (f : Addr) (cdv : Value) (A : Around) (outer : List Env) (s : Shared) (H : Hp) (E : XK) (c : FnCx (cxOf (L2.CX P w) P w K mg base ["_law_order_here", "_law_fact_here", "_law_rule"] "_law_first" (defScope s__law_first) f cdv A outer s H E) 0) :
  SSs (cxOf (L2.CX P w) P w K mg base ["_law_order_here", "_law_fact_here", "_law_rule"] "_law_first" (defScope s__law_first) f cdv A outer s H E) (defBody s__law_first) r__law_first_1 :=
  ss_cons (ss_fgB [2] (ss_for c.g (si_any (se_var 0)) (sg_name 2 c.g) (sss_fgE [2] (ss_one (ss_if (st_cmp (op_neA c.room) cs_ne.os (se_ix ix_seq os_ix (se_var 1) (se_var 2) (fun _ _ => rfl)) (se_str) (nomark _)) (ss_one (ss_ret (se_ix ix_seq os_ix (se_var 1) (se_var 2) (fun _ _ => rfl)))) (ss_nil))))))
    (ss_one (ss_ret (se_str)))
theorem ok__law_first (T : Txt K mg) : Def P w K mg base "_law_first" 1 F__law_first 2 [] :=
  def_ok T.f__law_first sc__law_first rfl (fun _ _ _ _ _ _ us hl => match us, hl with | [_, _], _ => rfl) (b__law_first T)
theorem sc__law_turned : FnScope ["_law_fact_here", "_law_sign"] ["_law_fact_here"] (defScope s__law_turned) := ⟨rfl, rfl, rfl, by decide +kernel, rfl, by decide +kernel, by decide +kernel⟩
theorem b__law_turned (T : Txt K mg) (f : Addr) (cdv : Value) (A : Around) (outer : List Env) (s : Shared) (H : Hp) (E : XK) (c : FnCx (cxOf (L2.CX P w) P w K mg base ["_law_fact_here", "_law_sign"] "_law_turned" (defScope s__law_turned) f cdv A outer s H E) 0) :
  SSs (cxOf (L2.CX P w) P w K mg base ["_law_fact_here", "_law_sign"] "_law_turned" (defScope s__law_turned) f cdv A outer s H E) (defBody s__law_turned) r__law_turned_1 :=
  ss_one (ss_ret (se_mt PySem.F.plainAttrs_str PySem.F.slot_str_join PySem.F.type_str_join mt_join om_join (se_str) (sa_cons (b := true) (se_lc [("_law_sign", 1)] c.g (si_any (se_var 0)) (by kernel_rfl) (fun s1 H1 C1 cl1 fp1 => sg_name 1 (cxg_blk c.g s1 H1 _ _ fp1)) (fun s1 H1 C1 cl1 fp1 => sts_nil) (fun s1 H1 C1 cl1 fp1 => se_ix (ix_dget (units_of c.room)) os_dget (se_dis [(.inr "W", .str "L"), (.inr "L", .str "W"), (.inr ".", .str ".")] (pps_cons pe_str pe_str (pps_cons pe_str pe_str (pps_cons pe_str pe_str (pps_nil))))) (se_var 1) (fun _ _ => rfl))) (sa_nil))))
theorem ok__law_turned (T : Txt K mg) : Def P w K mg base "_law_turned" 1 F__law_turned 1 [] :=
  def_ok T.f__law_turned sc__law_turned rfl (fun _ _ _ _ _ _ us hl => match us, hl with | [_], _ => rfl) (b__law_turned T)
theorem sc__law_facts : FnScope ["_law_tap_here", "_law_order_here", "_law_many", "_law_is_true", "_law_kind", "_law_found", "_law_turn", "_law_fact_here"] ["_law_tap_here", "_law_order_here", "_law_many", "_law_is_true"] (defScope s__law_facts) := ⟨rfl, rfl, rfl, by decide +kernel, rfl, by decide +kernel, by decide +kernel⟩
theorem b__law_facts (T : Txt K mg) (f : Addr) (cdv : Value) (A : Around) (outer : List Env) (s : Shared) (H : Hp) (E : XK) (c : FnCx (cxOf (L2.CX P w) P w K mg base ["_law_tap_here", "_law_order_here", "_law_many", "_law_is_true", "_law_kind", "_law_found", "_law_turn", "_law_fact_here"] "_law_facts" (defScope s__law_facts) f cdv A outer s H E) 2) :
  SSs (cxOf (L2.CX P w) P w K mg base ["_law_tap_here", "_law_order_here", "_law_many", "_law_is_true", "_law_kind", "_law_found", "_law_turn", "_law_fact_here"] "_law_facts" (defScope s__law_facts) f cdv A outer s H E) (defBody s__law_facts) r__law_facts_1 :=
  ss_cons (ss_set 4 c.g (se_call (ok__law_draw T) (c.room.mono (by decide)) (sa_cons (b := true) (se_var 0) (sa_cons (b := true) (se_int) (sa_nil)))))
    (ss_cons (ss_set 5 c.g (se_lst (sa_nil)))
    (ss_cons (ss_fgB [6, 7] (ss_for c.g (si_rng1 T.n_range (sa_cons (b := true) (se_var 2) (sa_nil))) (sg_name 6 c.g) (sss_fgE [6, 7] (ss_cons (ss_set 7 c.g (se_call (ok__law_fact T) (c.room.mono (by decide)) (sa_cons (b := true) (se_var 0) (sa_cons (b := false) (se_var 1) (sa_cons (b := false) (se_var 4) (sa_nil))))))
    (ss_cons (ss_if (SW.st (sw_and (st_val (se_var 3)) (sw_and1 (st_cmp (op_eqA c.room) cs_eq.os (se_call (ok__law_first T) (c.room.mono (by decide)) (sa_cons (b := false) (se_var 1) (sa_cons (b := false) (se_var 7) (sa_nil)))) (se_str) (nomark _))))) (ss_one (ss_set 7 c.g (se_bor (se_call (ok__law_turned T) (c.room.mono (by decide)) (sa_cons (b := false) (se_var 7) (sa_nil)))))) (ss_nil))
    (ss_cons (ss_if (SW.st (sw_and (st_cmp (op_neA c.room) cs_ne.os (se_var 5) (se_lst (sa_nil)) (nomark _)) (sw_and1 (st_cmp (op_eqA c.room) cs_eq.os (se_call (ok__law_draw T) (c.room.mono (by decide)) (sa_cons (b := true) (se_var 0) (sa_cons (b := true) (se_int) (sa_nil)))) (se_int) (nomark _))))) (ss_one (ss_set 7 c.g (se_ix ix_seq os_ix (se_var 5) (se_call (ok__law_draw T) (c.room.mono (by decide)) (sa_cons (b := true) (se_var 0) (sa_cons (b := true) (se_callB (call_len) os_len T.n_len (sa_cons (b := true) (se_var 5) (sa_nil))) (sa_nil)))) (fun _ _ => rfl)))) (ss_nil))
    (ss_one (ss_expr (se_mut 5 PySem.F.slot_list_append PySem.F.type_list_append mt_append ms_append (sa_cons (b := false) (se_var 7) (sa_nil)))))))))))
    (ss_one (ss_ret (se_var 5)))))
theorem ok__law_facts (T : Txt K mg) : Def P w K mg base "_law_facts" 3 F__law_facts 4 [] :=
  def_ok T.f__law_facts sc__law_facts rfl (fun _ _ _ _ _ _ us hl => match us, hl with | [_, _, _, _], _ => rfl) (b__law_facts T)
theorem sc__law_put_in : FnScope ["_law_tap_here", "_law_facts_here", "_law_more", "_law_found", "_law_fact_here"] ["_law_tap_here", "_law_facts_here", "_law_more"] (defScope s__law_put_in) := ⟨rfl, rfl, rfl, by decide +kernel, rfl, by decide +kernel, by decide +kernel⟩
theorem b__law_put_in (T : Txt K mg) (f : Addr) (cdv : Value) (A : Around) (outer : List Env) (s : Shared) (H : Hp) (E : XK) (c : FnCx (cxOf (L2.CX P w) P w K mg base ["_law_tap_here", "_law_facts_here", "_law_more", "_law_found", "_law_fact_here"] "_law_put_in" (defScope s__law_put_in) f cdv A outer s H E) 1) :
  SSs (cxOf (L2.CX P w) P w K mg base ["_law_tap_here", "_law_facts_here", "_law_more", "_law_found", "_law_fact_here"] "_law_put_in" (defScope s__law_put_in) f cdv A outer s H E) (defBody s__law_put_in) r__law_put_in_1 :=
  ss_cons (ss_set 3 c.g (se_callTy (call_list_of) os_list T.n_list (sa_cons (b := true) (se_var 1) (sa_nil))))
    (ss_cons (ss_fgB [4] (ss_for c.g (si_any (se_var 2)) (sg_name 4 c.g) (sss_fgE [4] (ss_one (ss_expr (se_mut 3 PySem.F.slot_list_insert PySem.F.type_list_insert mt_insert ms_ins (sa_cons (b := false) (se_call (ok__law_draw T) (c.room.mono (by decide)) (sa_cons (b := true) (se_var 0) (sa_cons (b := true) (se_op op_addA os_add (se_callB (call_len) os_len T.n_len (sa_cons (b := true) (se_var 3) (sa_nil))) (se_int)) (sa_nil)))) (sa_cons (b := false) (se_var 4) (sa_nil)))))))))
    (ss_one (ss_ret (se_var 3))))
theorem ok__law_put_in (T : Txt K mg) : Def P w K mg base "_law_put_in" 2 F__law_put_in 3 [] :=
  def_ok T.f__law_put_in sc__law_put_in rfl (fun _ _ _ _ _ _ us hl => match us, hl with | [_, _, _], _ => rfl) (b__law_put_in T)
theorem sc__law_ring : FnScope ["_law_tap_here", "_law_count", "_law_rules", "_law_found", "_law_place", "_law_signs", "_law_more"] ["_law_tap_here", "_law_count"] (defScope s__law_ring) := ⟨rfl, rfl, rfl, by decide +kernel, rfl, by decide +kernel, by decide +kernel⟩
theorem b__law_ring (T : Txt K mg) (f : Addr) (cdv : Value) (A : Around) (outer : List Env) (s : Shared) (H : Hp) (E : XK) (c : FnCx (cxOf (L2.CX P w) P w K mg base ["_law_tap_here", "_law_count", "_law_rules", "_law_found", "_law_place", "_law_signs", "_law_more"] "_law_ring" (defScope s__law_ring) f cdv A outer s H E) 2) :
  SSs (cxOf (L2.CX P w) P w K mg base ["_law_tap_here", "_law_count", "_law_rules", "_law_found", "_law_place", "_law_signs", "_law_more"] "_law_ring" (defScope s__law_ring) f cdv A outer s H E) (defBody s__law_ring) r__law_ring_1 :=
  ss_cons (ss_set 2 c.g (se_slL (se_call (ok__law_order T) (c.room.mono (by decide)) (sa_cons (b := true) (se_var 0) (sa_cons (b := false) (se_var 1) (sa_nil)))) (sp_none) (sp_some (se_op op_addA os_add (se_int) (se_call (ok__law_draw T) (c.room.mono (by decide)) (sa_cons (b := true) (se_var 0) (sa_cons (b := true) (se_ix ix_seq os_ix (se_lst (sa_cons (b := false) (se_callB (call_min2 c.g.calm) os_min T.n_min (sa_cons (b := true) (se_var 1) (sa_cons (b := true) (se_int) (sa_nil)))) (sa_cons (b := false) (se_var 1) (sa_nil)))) (se_op op_fdivW os_div (se_call (ok__law_draw T) (c.room.mono (by decide)) (sa_cons (b := true) (se_var 0) (sa_cons (b := true) (se_int) (sa_nil)))) (se_int)) (fun _ _ => rfl)) (sa_nil))))))))
    (ss_cons (ss_set 3 c.g (se_lst (sa_nil)))
    (ss_cons (ss_fgB [4, 5, 6] (ss_for c.g (si_rng1 T.n_range (sa_cons (b := true) (se_callB (call_len) os_len T.n_len (sa_cons (b := true) (se_var 2) (sa_nil))) (sa_nil))) (sg_name 4 c.g) (sss_fgE [4, 5, 6] (ss_cons (ss_set 5 c.g (se_op op_mulT os_mulT (se_lst (sa_cons (b := false) (se_str) (sa_nil))) (se_var 1)))
    (ss_cons (ss_setIx 5 (se_str) (se_ix ix_seq os_ix (se_var 2) (se_op op_sub os_sub (se_var 4) (se_int)) (fun _ _ => rfl)))
    (ss_cons (ss_setIx 5 (se_str) (se_ix ix_seq os_ix (se_var 2) (se_var 4) (fun _ _ => rfl)))
    (ss_cons (ss_set 6 c.g (se_call (ok__law_draw T) (c.room.mono (by decide)) (sa_cons (b := true) (se_var 0) (sa_cons (b := false) (se_var 1) (sa_nil)))))
    (ss_cons (ss_if (st_cmp (op_eqA c.room) cs_eq.os (se_ix ix_seq os_ix (se_var 5) (se_var 6) (fun _ _ => rfl)) (se_str) (nomark _)) (ss_one (ss_setIx 5 (se_ix ix_seq os_ix (se_lst (sa_cons (b := false) (se_str) (sa_cons (b := false) (se_str) (sa_nil)))) (se_callTy (call_int1) os_int T.n_int (sa_cons (b := true) (se_and (se_cmp (op_inB c.room) cs_inB.os (se_var 6) (se_var 2) rfl) (se_one (se_cmp (op_eqA c.room) cs_eq.os (se_call (ok__law_draw T) (c.room.mono (by decide)) (sa_cons (b := true) (se_var 0) (sa_cons (b := true) (se_int) (sa_nil)))) (se_int) (nomark _)))) (sa_nil))) (fun _ _ => rfl)) (se_var 6))) (ss_nil))
    (ss_one (ss_expr (se_mut 3 PySem.F.slot_list_append PySem.F.type_list_append mt_append ms_append (sa_cons (b := false) (se_mt PySem.F.plainAttrs_str PySem.F.slot_str_join PySem.F.type_str_join mt_join om_join (se_str) (sa_cons (b := true) (se_var 5) (sa_nil))) (sa_nil)))))))))))))
    (ss_one (ss_ret (se_var 3)))))
theorem ok__law_ring (T : Txt K mg) : Def P w K mg base "_law_ring" 3 F__law_ring 2 [] :=
  def_ok T.f__law_ring sc__law_ring rfl (fun _ _ _ _ _ _ us hl => match us, hl with | [_, _], _ => rfl) (b__law_ring T)
theorem sc__law_list : FnScope ["_law_tap_here", "_law_order_here", "_law_most", "_law_count", "_law_kind", "_law_facts_here"] ["_law_tap_here", "_law_order_here", "_law_most"] (defScope s__law_list) := ⟨rfl, rfl, rfl, by decide +kernel, rfl, by decide +kernel, by decide +kernel⟩
theorem b__law_list (T : Txt K mg) (f : Addr) (cdv : Value) (A : Around) (outer : List Env) (s : Shared) (H : Hp) (E : XK) (c : FnCx (cxOf (L2.CX P w) P w K mg base ["_law_tap_here", "_law_order_here", "_law_most", "_law_count", "_law_kind", "_law_facts_here"] "_law_list" (defScope s__law_list) f cdv A outer s H E) 3) :
  SSs (cxOf (L2.CX P w) P w K mg base ["_law_tap_here", "_law_order_here", "_law_most", "_law_count", "_law_kind", "_law_facts_here"] "_law_list" (defScope s__law_list) f cdv A outer s H E) (defBody s__law_list) r__law_list_1 :=
  ss_cons (ss_par 3 4 true true c.g (se_callB (call_len) os_len T.n_len (sa_cons (b := true) (se_var 1) (sa_nil))) (se_call (ok__law_draw T) (c.room.mono (by decide)) (sa_cons (b := true) (se_var 0) (sa_cons (b := true) (se_int) (sa_nil)))))
    (ss_cons (ss_set 5 c.g (se_call (ok__law_facts T) (c.room.mono (by decide)) (sa_cons (b := true) (se_var 0) (sa_cons (b := false) (se_var 1) (sa_cons (b := true) (se_call (ok__law_draw T) (c.room.mono (by decide)) (sa_cons (b := true) (se_var 0) (sa_cons (b := true) (se_op op_addA os_add (se_var 2) (se_int)) (sa_nil)))) (sa_cons (b := true) (se_cmp (op_gtA c.room) cs_gtA.os (se_var 4) (se_int) (nomark _)) (sa_nil)))))))
    (ss_cons (ss_if (st_cmp (op_gtA c.room) cs_gtA.os (se_var 4) (se_int) (nomark _)) (ss_one (ss_set 5 c.g (se_call (ok__law_put_in T) (c.room.mono (by decide)) (sa_cons (b := true) (se_var 0) (sa_cons (b := false) (se_var 5) (sa_cons (b := true) (se_call (ok__law_ring T) (c.room.mono (by decide)) (sa_cons (b := true) (se_var 0) (sa_cons (b := false) (se_var 3) (sa_nil)))) (sa_nil))))))) (ss_nil))
    (ss_one (ss_ret (se_var 5)))))
theorem ok__law_list (T : Txt K mg) : Def P w K mg base "_law_list" 4 F__law_list 3 [] :=
  def_ok T.f__law_list sc__law_list rfl (fun _ _ _ _ _ _ us hl => match us, hl with | [_, _, _], _ => rfl) (b__law_list T)
theorem sc_is_integer : FnScope ["value", "low", "high"] ["value", "low", "high"] (defScope s_is_integer) := ⟨rfl, rfl, rfl, by decide +kernel, rfl, by decide +kernel, by decide +kernel⟩
theorem b_is_integer (T : Txt K mg) (f : Addr) (cdv : Value) (A : Around) (outer : List Env) (s : Shared) (H : Hp) (E : XK) (c : FnCx (cxOf (L2.CX P w) P w K mg base ["value", "low", "high"] "is_integer" (defScope s_is_integer) f cdv A outer s H E) 0) :
  SSs (cxOf (L2.CX P w) P w K mg base ["value", "low", "high"] "is_integer" (defScope s_is_integer) f cdv A outer s H E) (defBody s_is_integer) r_is_integer_1 :=
  ss_cons (ss_if (SW.st (sw_or (st_not (st_val (se_isi .int (se_var 0) T.n_isinstance T.n_int))) (sw_or1 (st_val (se_isi .bool (se_var 0) T.n_isinstance T.n_bool))))) (ss_one (ss_ret (se_bl))) (ss_nil))
    (ss_one (ss_ret (se_and (se_cmp op_le cs_int.os (se_var 1) (se_var 0) (nomark _)) (se_one (se_or (se_cmp op_isN cs_isN.os (se_var 2) (se_non) (nomark _)) (se_one (se_cmp op_le cs_int.os (se_var 0) (se_var 2) (nomark _))))))))
theorem ok_is_integer (T : Txt K mg) : Def P w K mg base "is_integer" 1 F_is_integer 3 ([]) :=
  def_okD 3 1 T.f_is_integer sc_is_integer rfl (by simp) rfl (fun _ _ _ _ _ _ _ us its h1 h2 => match us, h1, its, h2 with | [_, _, _], _, [_], _ => ⟨_, rfl, rfl⟩) (b_is_integer T)
theorem sc_need_count : FnScope ["count", "most"] ["count", "most"] (defScope s_need_count) := ⟨rfl, rfl, rfl, by decide +kernel, rfl, by decide +kernel, by decide +kernel⟩
theorem b_need_count (T : Txt K mg) (f : Addr) (cdv : Value) (A : Around) (outer : List Env) (s : Shared) (H : Hp) (E : XK) (c : FnCx (cxOf (L2.CX P w) P w K mg base ["count", "most"] "need_count" (defScope s_need_count) f cdv A outer s H E) 1) :
  SSs (cxOf (L2.CX P w) P w K mg base ["count", "most"] "need_count" (defScope s_need_count) f cdv A outer s H E) (defBody s_need_count) r_need_count_1 :=
  ss_one (ss_if (st_not (st_val (se_bor (se_call (ok_is_integer T) (c.room.mono (by decide)) (sa_cons (b := false) (se_var 0) (sa_cons (b := true) (se_int) (sa_cons (b := false) (se_var 1) (sa_nil)))))))) (ss_one (ss_never)) (ss_nil))
theorem ok_need_count (T : Txt K mg) : Def P w K mg base "need_count" 2 F_need_count 2 ([]) :=
  def_okD 2 1 T.f_need_count sc_need_count rfl (by simp) rfl (fun _ _ _ _ _ _ _ us its h1 h2 => match us, h1, its, h2 with | [_, _], _, [_], _ => ⟨_, rfl, rfl⟩) (b_need_count T)
theorem sc_fits_fact : FnScope ["count", "value", "sign"] ["count", "value"] (defScope s_fits_fact) := ⟨rfl, rfl, rfl, by decide +kernel, rfl, by decide +kernel, by decide +kernel⟩
theorem b_fits_fact (T : Txt K mg) (f : Addr) (cdv : Value) (A : Around) (outer : List Env) (s : Shared) (H : Hp) (E : XK) (c : FnCx (cxOf (L2.CX P w) P w K mg base ["count", "value", "sign"] "fits_fact" (defScope s_fits_fact) f cdv A outer s H E) 0) :
  SSs (cxOf (L2.CX P w) P w K mg base ["count", "value", "sign"] "fits_fact" (defScope s_fits_fact) f cdv A outer s H E) (defBody s_fits_fact) r_fits_fact_1 :=
  ss_cons (ss_if (SW.st (sw_or (st_not (st_val (se_isi .str (se_var 1) T.n_isinstance T.n_str))) (sw_or1 (st_cmp (op_neA c.room) cs_ne.os (se_callB (call_len) os_len T.n_len (sa_cons (b := true) (se_var 1) (sa_nil))) (se_var 0) (nomark _))))) (ss_one (ss_ret (se_bl))) (ss_nil))
    (ss_one (ss_ret (se_callB (cr_all c.g.calm) os_all T.n_all (sa_cons (b := true) (se_lc [("sign", 2)] c.g (si_any (se_var 1)) (by kernel_rfl) (fun s1 H1 C1 cl1 fp1 => sg_name 2 (cxg_blk c.g s1 H1 _ _ fp1)) (fun s1 H1 C1 cl1 fp1 => sts_nil) (fun s1 H1 C1 cl1 fp1 => se_cmp (op_inB c.room) cs_inB.os (se_var 2) (se_tup (sa_cons (b := false) (se_gstr T.c_FOR) (sa_cons (b := false) (se_gstr T.c_AGAINST) (sa_cons (b := false) (se_gstr T.c_SILENT) (sa_nil))))) rfl)) (sa_nil)))))
theorem ok_fits_fact (T : Txt K mg) : Def P w K mg base "fits_fact" 1 F_fits_fact 2 [] :=
  def_ok T.f_fits_fact sc_fits_fact rfl (fun _ _ _ _ _ _ us hl => match us, hl with | [_, _], _ => rfl) (b_fits_fact T)
theorem sc_need_facts : FnScope ["count", "facts", "fact"] ["count", "facts"] (defScope s_need_facts) := ⟨rfl, rfl, rfl, by decide +kernel, rfl, by decide +kernel, by decide +kernel⟩
theorem b_need_facts (T : Txt K mg) (f : Addr) (cdv : Value) (A : Around) (outer : List Env) (s : Shared) (H : Hp) (E : XK) (c : FnCx (cxOf (L2.CX P w) P w K mg base ["count", "facts", "fact"] "need_facts" (defScope s_need_facts) f cdv A outer s H E) 1) :
  SSs (cxOf (L2.CX P w) P w K mg base ["count", "facts", "fact"] "need_facts" (defScope s_need_facts) f cdv A outer s H E) (defBody s_need_facts) r_need_facts_1 :=
  ss_one (ss_if (SW.st (sw_or (st_not (st_val (se_isi .list (se_var 1) T.n_isinstance T.n_list))) (sw_or (st_cmp (op_gtA c.room) cs_gtA.os (se_callB (call_len) os_len T.n_len (sa_cons (b := true) (se_var 1) (sa_nil))) (se_gint T.c_MOST_FACTS) (nomark _)) (sw_or1 (st_not (st_val (se_callB (cr_all c.g.calm) os_all T.n_all (sa_cons (b := true) (se_lc [("fact", 2)] c.g (si_any (se_var 1)) (by kernel_rfl) (fun s1 H1 C1 cl1 fp1 => sg_name 2 (cxg_blk c.g s1 H1 _ _ fp1)) (fun s1 H1 C1 cl1 fp1 => sts_nil) (fun s1 H1 C1 cl1 fp1 => se_bor (se_call (ok_fits_fact T) (c.room.mono (by decide)) (sa_cons (b := false) (se_var 0) (sa_cons (b := false) (se_var 2) (sa_nil)))))) (sa_nil))))))))) (ss_one (ss_never)) (ss_nil))
theorem ok_need_facts (T : Txt K mg) : Def P w K mg base "need_facts" 2 F_need_facts 2 [] :=
  def_ok T.f_need_facts sc_need_facts rfl (fun _ _ _ _ _ _ us hl => match us, hl with | [_, _], _ => rfl) (b_need_facts T)
theorem sc_need_count_and_facts : FnScope ["count", "facts", "most"] ["count", "facts", "most"] (defScope s_need_count_and_facts) := ⟨rfl, rfl, rfl, by decide +kernel, rfl, by decide +kernel, by decide +kernel⟩
theorem b_need_count_and_facts (T : Txt K mg) (f : Addr) (cdv : Value) (A : Around) (outer : List Env) (s : Shared) (H : Hp) (E : XK) (c : FnCx (cxOf (L2.CX P w) P w K mg base ["count", "facts", "most"] "need_count_and_facts" (defScope s_need_count_and_facts) f cdv A outer s H E) 2) :
  SSs (cxOf (L2.CX P w) P w K mg base ["count", "facts", "most"] "need_count_and_facts" (defScope s_need_count_and_facts) f cdv A outer s H E) (defBody s_need_count_and_facts) r_need_count_and_facts_1 :=
  ss_cons (ss_expr (se_call (ok_need_count T) (c.room.mono (by decide)) (sa_cons (b := false) (se_var 0) (sa_cons (b := false) (se_var 2) (sa_nil)))))
    (ss_one (ss_expr (se_call (ok_need_facts T) (c.room.mono (by decide)) (sa_cons (b := false) (se_var 0) (sa_cons (b := false) (se_var 1) (sa_nil))))))
theorem ok_need_count_and_facts_2 (T : Txt K mg) : Def P w K mg base "need_count_and_facts" 3 F_need_count_and_facts 3 ([.int 60]) :=
  def_okD 2 0 T.f_need_count_and_facts sc_need_count_and_facts rfl (by simp) rfl (fun _ _ _ _ _ _ _ us its h1 h2 => match us, h1, its, h2 with | [_, _], _, [_], _ => ⟨_, rfl, rfl⟩) (b_need_count_and_facts T)
theorem sc_rules_with : FnScope ["fact", "sign", "rule", "there"] ["fact", "sign"] (defScope s_rules_with) := ⟨rfl, rfl, rfl, by decide +kernel, rfl, by decide +kernel, by decide +kernel⟩
theorem b_rules_with (T : Txt K mg) (f : Addr) (cdv : Value) (A : Around) (outer : List Env) (s : Shared) (H : Hp) (E : XK) (c : FnCx (cxOf (L2.CX P w) P w K mg base ["fact", "sign", "rule", "there"] "rules_with" (defScope s_rules_with) f cdv A outer s H E) 0) :
  SSs (cxOf (L2.CX P w) P w K mg base ["fact", "sign", "rule", "there"] "rules_with" (defScope s_rules_with) f cdv A outer s H E) (defBody s_rules_with) r_rules_with_1 :=
  ss_one (ss_ret (se_lc [("rule", 2), ("there", 3)] c.g (si_enumA T.n_enumerate (sa_cons (b := false) (se_var 0) (sa_nil))) (by kernel_rfl) (fun s1 H1 C1 cl1 fp1 => sg_tup (cxg_blk c.g s1 H1 _ _ fp1) (sgs_cons 2 (cxg_blk c.g s1 H1 _ _ fp1) (sgs_cons 3 (cxg_blk c.g s1 H1 _ _ fp1) (sgs_nil)))) (fun s1 H1 C1 cl1 fp1 => sts_one (st_cmp (op_eqA c.room) cs_eq.os (se_var 3) (se_var 1) (nomark _))) (fun s1 H1 C1 cl1 fp1 => se_var 2)))
theorem ok_rules_with (T : Txt K mg) : Def P w K mg base "rules_with" 1 F_rules_with 2 [] :=
  def_ok T.f_rules_with sc_rules_with rfl (fun _ _ _ _ _ _ us hl => match us, hl with | [_, _], _ => rfl) (b_rules_with T)
theorem sc_mask_of : FnScope ["fact", "sign", "rule"] ["fact", "sign"] (defScope s_mask_of) := ⟨rfl, rfl, rfl, by decide +kernel, rfl, by decide +kernel, by decide +kernel⟩
theorem b_mask_of (T : Txt K mg) (f : Addr) (cdv : Value) (A : Around) (outer : List Env) (s : Shared) (H : Hp) (E : XK) (c : FnCx (cxOf (L2.CX P w) P w K mg base ["fact", "sign", "rule"] "mask_of" (defScope s_mask_of) f cdv A outer s H E) 1) :
  SSs (cxOf (L2.CX P w) P w K mg base ["fact", "sign", "rule"] "mask_of" (defScope s_mask_of) f cdv A outer s H E) (defBody s_mask_of) r_mask_of_1 :=
  ss_one (ss_ret (se_callB (cr_sum c.g.calm) os_sum T.n_sum (sa_cons (b := true) (se_lc [("rule", 2)] c.g (si_lst (se_call (ok_rules_with T) (c.room.mono (by decide)) (sa_cons (b := false) (se_var 0) (sa_cons (b := false) (se_var 1) (sa_nil))))) (by kernel_rfl) (fun s1 H1 C1 cl1 fp1 => sg_name 2 (cxg_blk c.g s1 H1 _ _ fp1)) (fun s1 H1 C1 cl1 fp1 => sts_nil) (fun s1 H1 C1 cl1 fp1 => se_op op_shl os_shl (se_int) (se_var 2))) (sa_nil))))
theorem ok_mask_of_1 (T : Txt K mg) : Def P w K mg base "mask_of" 2 F_mask_of 2 ([.str "W"]) :=
  def_okD 1 0 T.f_mask_of sc_mask_of rfl (by simp) rfl (fun _ _ _ _ _ _ _ us its h1 h2 => match us, h1, its, h2 with | [_], _, [_], _ => ⟨_, rfl, rfl⟩) (b_mask_of T)
theorem ok_mask_of (T : Txt K mg) : Def P w K mg base "mask_of" 2 F_mask_of 2 ([]) :=
  def_okD 2 1 T.f_mask_of sc_mask_of rfl (by simp) rfl (fun _ _ _ _ _ _ _ us its h1 h2 => match us, h1, its, h2 with | [_, _], _, [_], _ => ⟨_, rfl, rfl⟩) (b_mask_of T)
theorem sc_layered : FnScope ["count", "facts", "placed", "left", "index", "fact", "front", "layer", "whole", "closed", "wins", "losses", "free", "rule", "one"] ["count", "facts"] (defScope s_layered) := ⟨rfl, rfl, rfl, by decide +kernel, rfl, by decide +kernel, by decide +kernel⟩
theorem b_layered (T : Txt K mg) (f : Addr) (cdv : Value) (A : Around) (outer : List Env) (s : Shared) (H : Hp) (E : XK) (c : FnCx (cxOf (L2.CX P w) P w K mg base ["count", "facts", "placed", "left", "index", "fact", "front", "layer", "whole", "closed", "wins", "losses", "free", "rule", "one"] "layered" (defScope s_layered) f cdv A outer s H E) 2) :
  SSs (cxOf (L2.CX P w) P w K mg base ["count", "facts", "placed", "left", "index", "fact", "front", "layer", "whole", "closed", "wins", "losses", "free", "rule", "one"] "layered" (defScope s_layered) f cdv A outer s H E) (defBody s_layered) r_layered_1 :=
  ss_cons (ss_set 2 c.g (se_lst (sa_nil)))
    (ss_cons (ss_set 3 c.g (se_lst (sa_nil)))
    (ss_cons (ss_fgB [4, 5] (ss_for c.g (si_enumA T.n_enumerate (sa_cons (b := false) (se_var 1) (sa_nil))) (sg_tup c.g (sgs_cons 4 c.g (sgs_cons 5 c.g (sgs_nil)))) (sss_fgE [4, 5] (ss_one (ss_if (st_cmp (op_neA c.room) cs_ne.os (se_var 5) (se_op op_mulT os_mulT (se_gstr T.c_SILENT) (se_var 0)) (nomark _)) (ss_one (ss_expr (se_mut 3 PySem.F.slot_list_append PySem.F.type_list_append mt_append ms_append (sa_cons (b := false) (se_tup (sa_cons (b := false) (se_var 4) (sa_cons (b := false) (se_bor (se_call (ok_mask_of_1 T) (c.room.mono (by decide)) (sa_cons (b := false) (se_var 5) (sa_nil)))) (sa_cons (b := false) (se_bor (se_call (ok_mask_of T) (c.room.mono (by decide)) (sa_cons (b := false) (se_var 5) (sa_cons (b := false) (se_gstr T.c_AGAINST) (sa_nil))))) (sa_nil))))) (sa_nil))))) (ss_nil))))))
    (ss_cons (ss_unp (se_tup (sa_cons (b := false) (se_int) (sa_cons (b := false) (se_int) (sa_cons (b := false) (se_op op_sub os_sub (se_op op_shl os_shl (se_int) (se_var 0)) (se_int)) (sa_nil))))) (sg_tup c.g (sgs_cons 6 c.g (sgs_cons 7 c.g (sgs_cons 8 c.g (sgs_nil))))))
    (ss_cons (ss_fgB [4, 9, 10, 11, 12] (ss_while c.g (st_cmp (op_neA c.room) cs_ne.os (se_var 6) (se_var 8) (nomark _)) (sss_fgE [4, 9, 10, 11, 12] (ss_cons (ss_set 9 c.g (se_var 6))
    (ss_cons (ss_fgB [4, 10, 11] (ss_for c.g (si_any (se_var 3)) (sg_tup c.g (sgs_cons 4 c.g (sgs_cons 10 c.g (sgs_cons 11 c.g (sgs_nil))))) (sss_fgE [4, 10, 11] (ss_one (ss_set 9 c.g (se_op op_or os_or (se_var 9) (se_var 11)))))))
    (ss_cons (ss_set 12 c.g (se_op op_xor os_xor (se_var 8) (se_var 9)))
    (ss_cons (ss_if (st_cmp (op_eqA c.room) cs_eq.os (se_var 12) (se_int) (nomark _)) (ss_one (ss_ret (se_tup (sa_cons (b := false) (se_lst (sa_nil)) (sa_cons (b := false) (se_lc [("index", 4), ("wins", 10), ("losses", 11)] c.g (si_any (se_var 3)) (by kernel_rfl) (fun s1 H1 C1 cl1 fp1 => sg_tup (cxg_blk c.g s1 H1 _ _ fp1) (sgs_cons 4 (cxg_blk c.g s1 H1 _ _ fp1) (sgs_cons 10 (cxg_blk c.g s1 H1 _ _ fp1) (sgs_cons 11 (cxg_blk c.g s1 H1 _ _ fp1) (sgs_nil))))) (fun s1 H1 C1 cl1 fp1 => sts_nil) (fun s1 H1 C1 cl1 fp1 => se_var 4)) (sa_nil)))))) (ss_nil))
    (ss_cons (ss_expr (se_ext 2 (se_lc [("rule", 13)] c.g (si_rng1 T.n_range (sa_cons (b := true) (se_var 0) (sa_nil))) (by kernel_rfl) (fun s1 H1 C1 cl1 fp1 => sg_name 13 (cxg_blk c.g s1 H1 _ _ fp1)) (fun s1 H1 C1 cl1 fp1 => sts_one (st_cmp (op_eqA c.room) cs_eq.os (se_op op_and os_and (se_op op_shr os_shr (se_var 12) (se_var 13)) (se_int)) (se_int) (nomark _))) (fun s1 H1 C1 cl1 fp1 => se_tup (sa_cons (b := false) (se_var 13) (sa_cons (b := false) (se_var 7) (sa_nil)))))))
    (ss_cons (ss_setLc [("one", 14)] 3 c.g (si_any (se_var 3)) (by kernel_rfl) (fun s1 H1 C1 cl1 fp1 => sg_name 14 (cxg_blk c.g s1 H1 _ _ fp1)) (fun s1 H1 C1 cl1 fp1 => sts_one (st_cmp (op_eqA c.room) cs_eq.os (se_op op_and os_and (se_ix ix_seq os_ix (se_var 14) (se_int) (fun _ _ => rfl)) (se_var 12)) (se_int) (nomark _))) (fun s1 H1 C1 cl1 fp1 => se_var 14) (sw_true rfl rfl rfl (by decide +kernel)))
    (ss_cons (ss_set 6 c.g (se_op op_or os_or (se_var 6) (se_var 12)))
    (ss_one (ss_set 7 c.g (se_op op_addA os_add (se_var 7) (se_int))))))))))))))
    (ss_one (ss_ret (se_tup (sa_cons (b := false) (se_lc [("rule", 13), ("layer", 7)] c.g (si_lst (se_callB (cr_sortA) os_sortA T.n_sorted (sa_cons (b := true) (se_var 2) (sa_nil)))) (by kernel_rfl) (fun s1 H1 C1 cl1 fp1 => sg_tup (cxg_blk c.g s1 H1 _ _ fp1) (sgs_cons 13 (cxg_blk c.g s1 H1 _ _ fp1) (sgs_cons 7 (cxg_blk c.g s1 H1 _ _ fp1) (sgs_nil)))) (fun s1 H1 C1 cl1 fp1 => sts_nil) (fun s1 H1 C1 cl1 fp1 => se_var 7)) (sa_cons (b := false) (se_lst (sa_nil)) (sa_nil))))))))))
theorem ok_layered (T : Txt K mg) : Def P w K mg base "layered" 3 F_layered 2 [] :=
  def_ok T.f_layered sc_layered rfl (fun _ _ _ _ _ _ us hl => match us, hl with | [_, _], _ => rfl) (b_layered T)
theorem b_layered_p0 (T : Txt K mg) (f : Addr) (cdv : Value) (A : Around) (outer : List Env) (s : Shared) (H : Hp) (E : XK) (c : FnCx (cxOf (L2.CX P w) P w K mg base ["count", "facts", "placed", "left", "index", "fact", "front", "layer", "whole", "closed", "wins", "losses", "free", "rule", "one"] "layered" (defScope s_layered) f cdv A outer s H E) 2) :
  SSsf (prj 0) (cxOf (L2.CX P w) P w K mg base ["count", "facts", "placed", "left", "index", "fact", "front", "layer", "whole", "closed", "wins", "losses", "free", "rule", "one"] "layered" (defScope s_layered) f cdv A outer s H E) (defBody s_layered) r_layered_p0_1 :=
  ss_cons (ss_set 2 c.g (se_lst (sa_nil)))
    (ss_cons (ss_set 3 c.g (se_lst (sa_nil)))
    (ss_cons (ss_fgB [4, 5] (ss_for c.g (si_enumA T.n_enumerate (sa_cons (b := false) (se_var 1) (sa_nil))) (sg_tup c.g (sgs_cons 4 c.g (sgs_cons 5 c.g (sgs_nil)))) (sss_fgE [4, 5] (ss_one (ss_if (st_cmp (op_neA c.room) cs_ne.os (se_var 5) (se_op op_mulT os_mulT (se_gstr T.c_SILENT) (se_var 0)) (nomark _)) (ss_one (ss_expr (se_mut 3 PySem.F.slot_list_append PySem.F.type_list_append mt_append ms_append (sa_cons (b := false) (se_tup (sa_cons (b := false) (se_var 4) (sa_cons (b := false) (se_bor (se_call (ok_mask_of_1 T) (c.room.mono (by decide)) (sa_cons (b := false) (se_var 5) (sa_nil)))) (sa_cons (b := false) (se_bor (se_call (ok_mask_of T) (c.room.mono (by decide)) (sa_cons (b := false) (se_var 5) (sa_cons (b := false) (se_gstr T.c_AGAINST) (sa_nil))))) (sa_nil))))) (sa_nil))))) (ss_nil))))))
    (ss_cons (ss_unp (se_tup (sa_cons (b := false) (se_int) (sa_cons (b := false) (se_int) (sa_cons (b := false) (se_op op_sub os_sub (se_op op_shl os_shl (se_int) (se_var 0)) (se_int)) (sa_nil))))) (sg_tup c.g (sgs_cons 6 c.g (sgs_cons 7 c.g (sgs_cons 8 c.g (sgs_nil))))))
    (ss_cons (ss_fgB [4, 9, 10, 11, 12] (ss_while c.g (st_cmp (op_neA c.room) cs_ne.os (se_var 6) (se_var 8) (nomark _)) (sss_fgE [4, 9, 10, 11, 12] (ss_cons (ss_set 9 c.g (se_var 6))
    (ss_cons (ss_fgB [4, 10, 11] (ss_for c.g (si_any (se_var 3)) (sg_tup c.g (sgs_cons 4 c.g (sgs_cons 10 c.g (sgs_cons 11 c.g (sgs_nil))))) (sss_fgE [4, 10, 11] (ss_one (ss_set 9 c.g (se_op op_or os_or (se_var 9) (se_var 11)))))))
    (ss_cons (ss_set 12 c.g (se_op op_xor os_xor (se_var 8) (se_var 9)))
    (ss_cons (ss_if (st_cmp (op_eqA c.room) cs_eq.os (se_var 12) (se_int) (nomark _)) (ss_one (ss_ret0 (sa_cons (b := true) (se_lst (sa_nil)) (sa_cons (b := true) (se_lc [("index", 4), ("wins", 10), ("losses", 11)] c.g (si_any (se_var 3)) (by kernel_rfl) (fun s1 H1 C1 cl1 fp1 => sg_tup (cxg_blk c.g s1 H1 _ _ fp1) (sgs_cons 4 (cxg_blk c.g s1 H1 _ _ fp1) (sgs_cons 10 (cxg_blk c.g s1 H1 _ _ fp1) (sgs_cons 11 (cxg_blk c.g s1 H1 _ _ fp1) (sgs_nil))))) (fun s1 H1 C1 cl1 fp1 => sts_nil) (fun s1 H1 C1 cl1 fp1 => se_var 4)) (sa_nil))))) (ss_nil))
    (ss_cons (ss_expr (se_ext 2 (se_lc [("rule", 13)] c.g (si_rng1 T.n_range (sa_cons (b := true) (se_var 0) (sa_nil))) (by kernel_rfl) (fun s1 H1 C1 cl1 fp1 => sg_name 13 (cxg_blk c.g s1 H1 _ _ fp1)) (fun s1 H1 C1 cl1 fp1 => sts_one (st_cmp (op_eqA c.room) cs_eq.os (se_op op_and os_and (se_op op_shr os_shr (se_var 12) (se_var 13)) (se_int)) (se_int) (nomark _))) (fun s1 H1 C1 cl1 fp1 => se_tup (sa_cons (b := false) (se_var 13) (sa_cons (b := false) (se_var 7) (sa_nil)))))))
    (ss_cons (ss_setLc [("one", 14)] 3 c.g (si_any (se_var 3)) (by kernel_rfl) (fun s1 H1 C1 cl1 fp1 => sg_name 14 (cxg_blk c.g s1 H1 _ _ fp1)) (fun s1 H1 C1 cl1 fp1 => sts_one (st_cmp (op_eqA c.room) cs_eq.os (se_op op_and os_and (se_ix ix_seq os_ix (se_var 14) (se_int) (fun _ _ => rfl)) (se_var 12)) (se_int) (nomark _))) (fun s1 H1 C1 cl1 fp1 => se_var 14) (sw_true rfl rfl rfl (by decide +kernel)))
    (ss_cons (ss_set 6 c.g (se_op op_or os_or (se_var 6) (se_var 12)))
    (ss_one (ss_set 7 c.g (se_op op_addA os_add (se_var 7) (se_int))))))))))))))
    (ss_one (ss_ret0 (sa_cons (b := true) (se_lc [("rule", 13), ("layer", 7)] c.g (si_lst (se_callB (cr_sortA) os_sortA T.n_sorted (sa_cons (b := true) (se_var 2) (sa_nil)))) (by kernel_rfl) (fun s1 H1 C1 cl1 fp1 => sg_tup (cxg_blk c.g s1 H1 _ _ fp1) (sgs_cons 13 (cxg_blk c.g s1 H1 _ _ fp1) (sgs_cons 7 (cxg_blk c.g s1 H1 _ _ fp1) (sgs_nil)))) (fun s1 H1 C1 cl1 fp1 => sts_nil) (fun s1 H1 C1 cl1 fp1 => se_var 7)) (sa_cons (b := true) (se_lst (sa_nil)) (sa_nil)))))))))
theorem ok_layered_p0 (T : Txt K mg) : DefP 0 P w K mg base "layered" 3 F_layered_p0 2 [] :=
  defP_ok T.f_layered sc_layered rfl (fun _ _ _ _ _ _ us hl => match us, hl with | [_, _], _ => rfl) (b_layered_p0 T)
theorem b_layered_p1 (T : Txt K mg) (f : Addr) (cdv : Value) (A : Around) (outer : List Env) (s : Shared) (H : Hp) (E : XK) (c : FnCx (cxOf (L2.CX P w) P w K mg base ["count", "facts", "placed", "left", "index", "fact", "front", "layer", "whole", "closed", "wins", "losses", "free", "rule", "one"] "layered" (defScope s_layered) f cdv A outer s H E) 2) :
  SSsf (prj 1) (cxOf (L2.CX P w) P w K mg base ["count", "facts", "placed", "left", "index", "fact", "front", "layer", "whole", "closed", "wins", "losses", "free", "rule", "one"] "layered" (defScope s_layered) f cdv A outer s H E) (defBody s_layered) r_layered_p1_1 :=
  ss_cons (ss_set 2 c.g (se_lst (sa_nil)))
    (ss_cons (ss_set 3 c.g (se_lst (sa_nil)))
    (ss_cons (ss_fgB [4, 5] (ss_for c.g (si_enumA T.n_enumerate (sa_cons (b := false) (se_var 1) (sa_nil))) (sg_tup c.g (sgs_cons 4 c.g (sgs_cons 5 c.g (sgs_nil)))) (sss_fgE [4, 5] (ss_one (ss_if (st_cmp (op_neA c.room) cs_ne.os (se_var 5) (se_op op_mulT os_mulT (se_gstr T.c_SILENT) (se_var 0)) (nomark _)) (ss_one (ss_expr (se_mut 3 PySem.F.slot_list_append PySem.F.type_list_append mt_append ms_append (sa_cons (b := false) (se_tup (sa_cons (b := false) (se_var 4) (sa_cons (b := false) (se_bor (se_call (ok_mask_of_1 T) (c.room.mono (by decide)) (sa_cons (b := false) (se_var 5) (sa_nil)))) (sa_cons (b := false) (se_bor (se_call (ok_mask_of T) (c.room.mono (by decide)) (sa_cons (b := false) (se_var 5) (sa_cons (b := false) (se_gstr T.c_AGAINST) (sa_nil))))) (sa_nil))))) (sa_nil))))) (ss_nil))))))
    (ss_cons (ss_unp (se_tup (sa_cons (b := false) (se_int) (sa_cons (b := false) (se_int) (sa_cons (b := false) (se_op op_sub os_sub (se_op op_shl os_shl (se_int) (se_var 0)) (se_int)) (sa_nil))))) (sg_tup c.g (sgs_cons 6 c.g (sgs_cons 7 c.g (sgs_cons 8 c.g (sgs_nil))))))
    (ss_cons (ss_fgB [4, 9, 10, 11, 12] (ss_while c.g (st_cmp (op_neA c.room) cs_ne.os (se_var 6) (se_var 8) (nomark _)) (sss_fgE [4, 9, 10, 11, 12] (ss_cons (ss_set 9 c.g (se_var 6))
    (ss_cons (ss_fgB [4, 10, 11] (ss_for c.g (si_any (se_var 3)) (sg_tup c.g (sgs_cons 4 c.g (sgs_cons 10 c.g (sgs_cons 11 c.g (sgs_nil))))) (sss_fgE [4, 10, 11] (ss_one (ss_set 9 c.g (se_op op_or os_or (se_var 9) (se_var 11)))))))
    (ss_cons (ss_set 12 c.g (se_op op_xor os_xor (se_var 8) (se_var 9)))
    (ss_cons (ss_if (st_cmp (op_eqA c.room) cs_eq.os (se_var 12) (se_int) (nomark _)) (ss_one (ss_ret1 (sa_cons (b := true) (se_lst (sa_nil)) (sa_cons (b := true) (se_lc [("index", 4), ("wins", 10), ("losses", 11)] c.g (si_any (se_var 3)) (by kernel_rfl) (fun s1 H1 C1 cl1 fp1 => sg_tup (cxg_blk c.g s1 H1 _ _ fp1) (sgs_cons 4 (cxg_blk c.g s1 H1 _ _ fp1) (sgs_cons 10 (cxg_blk c.g s1 H1 _ _ fp1) (sgs_cons 11 (cxg_blk c.g s1 H1 _ _ fp1) (sgs_nil))))) (fun s1 H1 C1 cl1 fp1 => sts_nil) (fun s1 H1 C1 cl1 fp1 => se_var 4)) (sa_nil))))) (ss_nil))
    (ss_cons (ss_expr (se_ext 2 (se_lc [("rule", 13)] c.g (si_rng1 T.n_range (sa_cons (b := true) (se_var 0) (sa_nil))) (by kernel_rfl) (fun s1 H1 C1 cl1 fp1 => sg_name 13 (cxg_blk c.g s1 H1 _ _ fp1)) (fun s1 H1 C1 cl1 fp1 => sts_one (st_cmp (op_eqA c.room) cs_eq.os (se_op op_and os_and (se_op op_shr os_shr (se_var 12) (se_var 13)) (se_int)) (se_int) (nomark _))) (fun s1 H1 C1 cl1 fp1 => se_tup (sa_cons (b := false) (se_var 13) (sa_cons (b := false) (se_var 7) (sa_nil)))))))
    (ss_cons (ss_setLc [("one", 14)] 3 c.g (si_any (se_var 3)) (by kernel_rfl) (fun s1 H1 C1 cl1 fp1 => sg_name 14 (cxg_blk c.g s1 H1 _ _ fp1)) (fun s1 H1 C1 cl1 fp1 => sts_one (st_cmp (op_eqA c.room) cs_eq.os (se_op op_and os_and (se_ix ix_seq os_ix (se_var 14) (se_int) (fun _ _ => rfl)) (se_var 12)) (se_int) (nomark _))) (fun s1 H1 C1 cl1 fp1 => se_var 14) (sw_true rfl rfl rfl (by decide +kernel)))
    (ss_cons (ss_set 6 c.g (se_op op_or os_or (se_var 6) (se_var 12)))
    (ss_one (ss_set 7 c.g (se_op op_addA os_add (se_var 7) (se_int))))))))))))))
    (ss_one (ss_ret1 (sa_cons (b := true) (se_lc [("rule", 13), ("layer", 7)] c.g (si_lst (se_callB (cr_sortA) os_sortA T.n_sorted (sa_cons (b := true) (se_var 2) (sa_nil)))) (by kernel_rfl) (fun s1 H1 C1 cl1 fp1 => sg_tup (cxg_blk c.g s1 H1 _ _ fp1) (sgs_cons 13 (cxg_blk c.g s1 H1 _ _ fp1) (sgs_cons 7 (cxg_blk c.g s1 H1 _ _ fp1) (sgs_nil)))) (fun s1 H1 C1 cl1 fp1 => sts_nil) (fun s1 H1 C1 cl1 fp1 => se_var 7)) (sa_cons (b := true) (se_lst (sa_nil)) (sa_nil)))))))))
theorem ok_layered_p1 (T : Txt K mg) : DefP 1 P w K mg base "layered" 3 F_layered_p1 2 [] :=
  defP_ok T.f_layered sc_layered rfl (fun _ _ _ _ _ _ us hl => match us, hl with | [_, _], _ => rfl) (b_layered_p1 T)
theorem sc_is_barred : FnScope ["count", "facts"] ["count", "facts"] (defScope s_is_barred) := ⟨rfl, rfl, rfl, by decide +kernel, rfl, by decide +kernel, by decide +kernel⟩
theorem b_is_barred (T : Txt K mg) (f : Addr) (cdv : Value) (A : Around) (outer : List Env) (s : Shared) (H : Hp) (E : XK) (c : FnCx (cxOf (L2.CX P w) P w K mg base ["count", "facts"] "is_barred" (defScope s_is_barred) f cdv A outer s H E) 3) :
  SSs (cxOf (L2.CX P w) P w K mg base ["count", "facts"] "is_barred" (defScope s_is_barred) f cdv A outer s H E) (defBody s_is_barred) r_is_barred_1 :=
  ss_one (ss_ret (se_cmp (op_neA c.room) cs_ne.os (se_ix ix_seq os_ix (se_call (ok_layered T) (c.room.mono (by decide)) (sa_cons (b := false) (se_var 0) (sa_cons (b := false) (se_var 1) (sa_nil)))) (se_int) (fun _ _ => rfl)) (se_lst (sa_nil)) (nomark _)))
theorem ok_is_barred (T : Txt K mg) : Def P w K mg base "is_barred" 4 F_is_barred 2 [] :=
  def_ok T.f_is_barred sc_is_barred rfl (fun _ _ _ _ _ _ us hl => match us, hl with | [_, _], _ => rfl) (b_is_barred T)
theorem sc_lacking_rule : FnScope ["count", "facts", "rule", "signs", "fact"] ["count", "facts"] (defScope s_lacking_rule) := ⟨rfl, rfl, rfl, by decide +kernel, rfl, by decide +kernel, by decide +kernel⟩
theorem b_lacking_rule (T : Txt K mg) (f : Addr) (cdv : Value) (A : Around) (outer : List Env) (s : Shared) (H : Hp) (E : XK) (c : FnCx (cxOf (L2.CX P w) P w K mg base ["count", "facts", "rule", "signs", "fact"] "lacking_rule" (defScope s_lacking_rule) f cdv A outer s H E) 0) :
  SSs (cxOf (L2.CX P w) P w K mg base ["count", "facts", "rule", "signs", "fact"] "lacking_rule" (defScope s_lacking_rule) f cdv A outer s H E) (defBody s_lacking_rule) r_lacking_rule_1 :=
  ss_cons (ss_fgB [2, 3] (ss_for c.g (si_rng1 T.n_range (sa_cons (b := true) (se_var 0) (sa_nil))) (sg_name 2 c.g) (sss_fgE [2, 3] (ss_cons (ss_setLc [("fact", 4)] 3 c.g (si_any (se_var 1)) (by kernel_rfl) (fun s1 H1 C1 cl1 fp1 => sg_name 4 (cxg_blk c.g s1 H1 _ _ fp1)) (fun s1 H1 C1 cl1 fp1 => sts_nil) (fun s1 H1 C1 cl1 fp1 => se_ix ix_seq os_ix (se_var 4) (se_var 2) (fun _ _ => rfl)) (sw_true rfl rfl rfl (by decide +kernel)))
    (ss_one (ss_if (SW.st (sw_and (st_cmp (op_inB c.room) cs_inB.os (se_gstr T.c_FOR) (se_var 3) rfl) (sw_and1 (st_cmp (op_notInB c.room) cs_notInB.os (se_gstr T.c_AGAINST) (se_var 3) rfl)))) (ss_one (ss_ret (se_var 2))) (ss_nil)))))))
    (ss_one (ss_ret (se_non)))
theorem ok_lacking_rule (T : Txt K mg) : Def P w K mg base "lacking_rule" 1 F_lacking_rule 2 [] :=
  def_ok T.f_lacking_rule sc_lacking_rule rfl (fun _ _ _ _ _ _ us hl => match us, hl with | [_, _], _ => rfl) (b_lacking_rule T)
theorem sc_covering : FnScope ["count", "facts", "indices", "found", "rule", "index"] ["count", "facts", "indices"] (defScope s_covering) := ⟨rfl, rfl, rfl, by decide +kernel, rfl, by decide +kernel, by decide +kernel⟩
theorem b_covering (T : Txt K mg) (f : Addr) (cdv : Value) (A : Around) (outer : List Env) (s : Shared) (H : Hp) (E : XK) (c : FnCx (cxOf (L2.CX P w) P w K mg base ["count", "facts", "indices", "found", "rule", "index"] "covering" (defScope s_covering) f cdv A outer s H E) 1) :
  SSs (cxOf (L2.CX P w) P w K mg base ["count", "facts", "indices", "found", "rule", "index"] "covering" (defScope s_covering) f cdv A outer s H E) (defBody s_covering) r_covering_1 :=
  ss_cons (ss_set 3 c.g (se_lst (sa_cons (b := false) (se_ix ix_seq os_ix (se_var 2) (se_int) (fun _ _ => rfl)) (sa_nil))))
    (ss_cons (ss_set 4 c.g (se_call (ok_lacking_rule T) (c.room.mono (by decide)) (sa_cons (b := false) (se_var 0) (sa_cons (b := true) (se_lnd (se_lc [("index", 5)] c.g (si_any (se_var 3)) (by kernel_rfl) (fun s1 H1 C1 cl1 fp1 => sg_name 5 (cxg_blk c.g s1 H1 _ _ fp1)) (fun s1 H1 C1 cl1 fp1 => sts_nil) (fun s1 H1 C1 cl1 fp1 => se_ix ix_seq os_ix (se_var 1) (se_var 5) (fun _ _ => rfl)))) (sa_nil)))))
    (ss_cons (ss_fgB [] (ss_while c.g (st_cmp op_notN cs_notN.os (se_var 4) (se_non) (nomark _)) (sss_fgE [] (ss_cons (ss_expr (se_mut 3 PySem.F.slot_list_append PySem.F.type_list_append mt_append ms_append (sa_cons (b := false) (se_ix ix_seq os_ix (se_lc [("index", 5)] c.g (si_any (se_var 2)) (by kernel_rfl) (fun s1 H1 C1 cl1 fp1 => sg_name 5 (cxg_blk c.g s1 H1 _ _ fp1)) (fun s1 H1 C1 cl1 fp1 => sts_one (st_cmp (op_eqA c.room) cs_eq.os (se_ix ix_seq os_ix (se_ix ix_seq os_ix (se_var 1) (se_var 5) (fun _ _ => rfl)) (se_var 4) (fun _ _ => rfl)) (se_gstr T.c_AGAINST) (nomark _))) (fun s1 H1 C1 cl1 fp1 => se_var 5)) (se_int) (fun _ _ => rfl)) (sa_nil))))
    (ss_one (ss_set 4 c.g (se_call (ok_lacking_rule T) (c.room.mono (by decide)) (sa_cons (b := false) (se_var 0) (sa_cons (b := true) (se_lnd (se_lc [("index", 5)] c.g (si_any (se_var 3)) (by kernel_rfl) (fun s1 H1 C1 cl1 fp1 => sg_name 5 (cxg_blk c.g s1 H1 _ _ fp1)) (fun s1 H1 C1 cl1 fp1 => sts_nil) (fun s1 H1 C1 cl1 fp1 => se_ix ix_seq os_ix (se_var 1) (se_var 5) (fun _ _ => rfl)))) (sa_nil))))))))))
    (ss_one (ss_ret (se_callB (cr_sortA) os_sortA T.n_sorted (sa_cons (b := true) (se_var 3) (sa_nil)))))))
theorem ok_covering (T : Txt K mg) : Def P w K mg base "covering" 2 F_covering 3 [] :=
  def_ok T.f_covering sc_covering rfl (fun _ _ _ _ _ _ us hl => match us, hl with | [_, _, _], _ => rfl) (b_covering T)
theorem sc_least_barring : FnScope ["count", "facts", "left", "kept", "index", "fewer", "rest", "other", "place"] ["count", "facts"] (defScope s_least_barring) := ⟨rfl, rfl, rfl, by decide +kernel, rfl, by decide +kernel, by decide +kernel⟩
theorem b_least_barring (T : Txt K mg) (f : Addr) (cdv : Value) (A : Around) (outer : List Env) (s : Shared) (H : Hp) (E : XK) (c : FnCx (cxOf (L2.CX P w) P w K mg base ["count", "facts", "left", "kept", "index", "fewer", "rest", "other", "place"] "least_barring" (defScope s_least_barring) f cdv A outer s H E) 3) :
  SSs (cxOf (L2.CX P w) P w K mg base ["count", "facts", "left", "kept", "index", "fewer", "rest", "other", "place"] "least_barring" (defScope s_least_barring) f cdv A outer s H E) (defBody s_least_barring) r_least_barring_1 :=
  ss_cons (ss_set 2 c.g (se_callP (j := 1) (ok_layered_p1 T) (c.room.mono (by decide)) (sa_cons (b := false) (se_var 0) (sa_cons (b := false) (se_var 1) (sa_nil)))))
    (ss_cons (ss_if (st_cmp (op_eqA c.room) cs_eq.os (se_var 2) (se_lst (sa_nil)) (nomark _)) (ss_one (ss_ret (se_non))) (ss_nil))
    (ss_cons (ss_set 3 c.g (se_call (ok_covering T) (c.room.mono (by decide)) (sa_cons (b := false) (se_var 0) (sa_cons (b := false) (se_var 1) (sa_cons (b := false) (se_var 2) (sa_nil))))))
    (ss_cons (ss_fgB [4, 5, 6] (ss_for c.g (si_lst (se_callTy (call_list_of) os_list T.n_list (sa_cons (b := true) (se_var 3) (sa_nil)))) (sg_name 4 c.g) (sss_fgE [4, 5, 6] (ss_one (ss_if (st_cmp (op_inB c.room) cs_inB.os (se_var 4) (se_var 3) rfl) (ss_cons (ss_set 5 c.g (se_lc [("other", 7)] c.g (si_any (se_var 3)) (by kernel_rfl) (fun s1 H1 C1 cl1 fp1 => sg_name 7 (cxg_blk c.g s1 H1 _ _ fp1)) (fun s1 H1 C1 cl1 fp1 => sts_one (st_cmp (op_neA c.room) cs_ne.os (se_var 7) (se_var 4) (nomark _))) (fun s1 H1 C1 cl1 fp1 => se_var 7)))
    (ss_cons (ss_set 6 c.g (se_callP (j := 1) (ok_layered_p1 T) (c.room.mono (by decide)) (sa_cons (b := false) (se_var 0) (sa_cons (b := true) (se_lc [("other", 7)] c.g (si_any (se_var 5)) (by kernel_rfl) (fun s1 H1 C1 cl1 fp1 => sg_name 7 (cxg_blk c.g s1 H1 _ _ fp1)) (fun s1 H1 C1 cl1 fp1 => sts_nil) (fun s1 H1 C1 cl1 fp1 => se_ix ix_seq os_ix (se_var 1) (se_var 7) (fun _ _ => rfl))) (sa_nil)))))
    (ss_one (ss_if (st_cmp (op_neA c.room) cs_ne.os (se_var 6) (se_lst (sa_nil)) (nomark _)) (ss_one (ss_setLc [("place", 8)] 3 c.g (si_any (se_var 6)) (by kernel_rfl) (fun s1 H1 C1 cl1 fp1 => sg_name 8 (cxg_blk c.g s1 H1 _ _ fp1)) (fun s1 H1 C1 cl1 fp1 => sts_nil) (fun s1 H1 C1 cl1 fp1 => se_ix ix_seq os_ix (se_var 5) (se_var 8) (fun _ _ => rfl)) (sw_true rfl rfl rfl (by decide +kernel)))) (ss_nil))))) (ss_nil))))))
    (ss_one (ss_ret (se_var 3))))))
theorem ok_least_barring (T : Txt K mg) : Def P w K mg base "least_barring" 4 F_least_barring 2 [] :=
  def_ok T.f_least_barring sc_least_barring rfl (fun _ _ _ _ _ _ us hl => match us, hl with | [_, _], _ => rfl) (b_least_barring T)
theorem sc_need_together : FnScope ["count", "facts"] ["count", "facts"] (defScope s_need_together) := ⟨rfl, rfl, rfl, by decide +kernel, rfl, by decide +kernel, by decide +kernel⟩
theorem b_need_together (T : Txt K mg) (f : Addr) (cdv : Value) (A : Around) (outer : List Env) (s : Shared) (H : Hp) (E : XK) (c : FnCx (cxOf (L2.CX P w) P w K mg base ["count", "facts"] "need_together" (defScope s_need_together) f cdv A outer s H E) 4) :
  SSs (cxOf (L2.CX P w) P w K mg base ["count", "facts"] "need_together" (defScope s_need_together) f cdv A outer s H E) (defBody s_need_together) r_need_together_1 :=
  ss_one (ss_if (st_val (se_bor (se_call (ok_is_barred T) (c.room.mono (by decide)) (sa_cons (b := false) (se_var 0) (sa_cons (b := false) (se_var 1) (sa_nil)))))) (ss_one (ss_raiseF c.g (mk_Barred T) (c.room.mono (by decide)) (se_call (ok_least_barring T) (c.room.mono (by decide)) (sa_cons (b := false) (se_var 0) (sa_cons (b := false) (se_var 1) (sa_nil)))))) (ss_nil))
theorem ok_need_together (T : Txt K mg) : Def P w K mg base "need_together" 5 F_need_together 2 [] :=
  def_ok T.f_need_together sc_need_together rfl (fun _ _ _ _ _ _ us hl => match us, hl with | [_, _], _ => rfl) (b_need_together T)
theorem sc_masks_of : FnScope ["count", "facts", "found", "pairs", "rule", "fact", "mask"] ["count", "facts"] (defScope s_masks_of) := ⟨rfl, rfl, rfl, by decide +kernel, rfl, by decide +kernel, by decide +kernel⟩
theorem b_masks_of (T : Txt K mg) (f : Addr) (cdv : Value) (A : Around) (outer : List Env) (s : Shared) (H : Hp) (E : XK) (c : FnCx (cxOf (L2.CX P w) P w K mg base ["count", "facts", "found", "pairs", "rule", "fact", "mask"] "masks_of" (defScope s_masks_of) f cdv A outer s H E) 2) :
  SSs (cxOf (L2.CX P w) P w K mg base ["count", "facts", "found", "pairs", "rule", "fact", "mask"] "masks_of" (defScope s_masks_of) f cdv A outer s H E) (defBody s_masks_of) r_masks_of_1 :=
  ss_cons (ss_set 2 c.g (se_lst (sa_nil)))
    (ss_cons (ss_setLc [("fact", 5)] 3 c.g (si_any (se_var 1)) (by kernel_rfl) (fun s1 H1 C1 cl1 fp1 => sg_name 5 (cxg_blk c.g s1 H1 _ _ fp1)) (fun s1 H1 C1 cl1 fp1 => sts_nil) (fun s1 H1 C1 cl1 fp1 => se_tup (sa_cons (b := false) (se_var 5) (sa_cons (b := false) (se_bor (se_call (ok_mask_of_1 T) (c.room.mono (by decide)) (sa_cons (b := false) (se_var 5) (sa_nil)))) (sa_nil)))) (sw_true rfl rfl rfl (by decide +kernel)))
    (ss_cons (ss_fgB [4] (ss_for c.g (si_rng1 T.n_range (sa_cons (b := true) (se_var 0) (sa_nil))) (sg_name 4 c.g) (sss_fgE [4] (ss_one (ss_expr (se_mut 2 PySem.F.slot_list_append PySem.F.type_list_append mt_append ms_append (sa_cons (b := false) (se_ss [("fact", 5), ("mask", 6)] c.g T.n_sorted (si_any (se_var 3)) (by kernel_rfl) (fun s1 H1 C1 cl1 fp1 => sg_tup (cxg_blk c.g s1 H1 _ _ fp1) (sgs_cons 5 (cxg_blk c.g s1 H1 _ _ fp1) (sgs_cons 6 (cxg_blk c.g s1 H1 _ _ fp1) (sgs_nil)))) (fun s1 H1 C1 cl1 fp1 => sts_one (st_cmp (op_eqA c.room) cs_eq.os (se_ix ix_seq os_ix (se_var 5) (se_var 4) (fun _ _ => rfl)) (se_gstr T.c_AGAINST) (nomark _))) (fun s1 H1 C1 cl1 fp1 => se_var 6)) (sa_nil))))))))
    (ss_one (ss_ret (se_var 2)))))
theorem ok_masks_of (T : Txt K mg) : Def P w K mg base "masks_of" 3 F_masks_of 2 [] :=
  def_ok T.f_masks_of sc_masks_of rfl (fun _ _ _ _ _ _ us hl => match us, hl with | [_, _], _ => rfl) (b_masks_of T)
theorem sc_can_stand : FnScope ["masks", "front", "rule", "mask"] ["masks", "front", "rule"] (defScope s_can_stand) := ⟨rfl, rfl, rfl, by decide +kernel, rfl, by decide +kernel, by decide +kernel⟩
theorem b_can_stand (T : Txt K mg) (f : Addr) (cdv : Value) (A : Around) (outer : List Env) (s : Shared) (H : Hp) (E : XK) (c : FnCx (cxOf (L2.CX P w) P w K mg base ["masks", "front", "rule", "mask"] "can_stand" (defScope s_can_stand) f cdv A outer s H E) 0) :
  SSs (cxOf (L2.CX P w) P w K mg base ["masks", "front", "rule", "mask"] "can_stand" (defScope s_can_stand) f cdv A outer s H E) (defBody s_can_stand) r_can_stand_1 :=
  ss_one (ss_ret (se_callB (cr_all c.g.calm) os_all T.n_all (sa_cons (b := true) (se_lc [("mask", 3)] c.g (si_any (se_ix ix_seq os_ix (se_var 0) (se_var 2) (fun _ _ => rfl))) (by kernel_rfl) (fun s1 H1 C1 cl1 fp1 => sg_name 3 (cxg_blk c.g s1 H1 _ _ fp1)) (fun s1 H1 C1 cl1 fp1 => sts_nil) (fun s1 H1 C1 cl1 fp1 => se_cmp (op_neA c.room) cs_ne.os (se_op op_and os_and (se_var 3) (se_var 1)) (se_int) (nomark _))) (sa_nil))))
theorem ok_can_stand (T : Txt K mg) : Def P w K mg base "can_stand" 1 F_can_stand 3 [] :=
  def_ok T.f_can_stand sc_can_stand rfl (fun _ _ _ _ _ _ us hl => match us, hl with | [_, _, _], _ => rfl) (b_can_stand T)
theorem sc_placeable : FnScope ["masks", "front", "outside", "rule"] ["masks", "front"] (defScope s_placeable) := ⟨rfl, rfl, rfl, by decide +kernel, rfl, by decide +kernel, by decide +kernel⟩
theorem b_placeable (T : Txt K mg) (f : Addr) (cdv : Value) (A : Around) (outer : List Env) (s : Shared) (H : Hp) (E : XK) (c : FnCx (cxOf (L2.CX P w) P w K mg base ["masks", "front", "outside", "rule"] "placeable" (defScope s_placeable) f cdv A outer s H E) 1) :
  SSs (cxOf (L2.CX P w) P w K mg base ["masks", "front", "outside", "rule"] "placeable" (defScope s_placeable) f cdv A outer s H E) (defBody s_placeable) r_placeable_1 :=
  ss_cons (ss_setLc [("rule", 3)] 2 c.g (si_rng1 T.n_range (sa_cons (b := true) (se_callB (call_len) os_len T.n_len (sa_cons (b := true) (se_var 0) (sa_nil))) (sa_nil))) (by kernel_rfl) (fun s1 H1 C1 cl1 fp1 => sg_name 3 (cxg_blk c.g s1 H1 _ _ fp1)) (fun s1 H1 C1 cl1 fp1 => sts_one (st_cmp (op_eqA c.room) cs_eq.os (se_op op_and os_and (se_op op_shr os_shr (se_var 1) (se_var 3)) (se_int)) (se_int) (nomark _))) (fun s1 H1 C1 cl1 fp1 => se_var 3) (sw_true rfl rfl rfl (by decide +kernel)))
    (ss_one (ss_ret (se_lc [("rule", 3)] c.g (si_any (se_var 2)) (by kernel_rfl) (fun s1 H1 C1 cl1 fp1 => sg_name 3 (cxg_blk c.g s1 H1 _ _ fp1)) (fun s1 H1 C1 cl1 fp1 => sts_one (st_val (se_bor (se_call (ok_can_stand T) (c.room.mono (by decide)) (sa_cons (b := false) (se_var 0) (sa_cons (b := false) (se_var 1) (sa_cons (b := false) (se_var 3) (sa_nil)))))))) (fun s1 H1 C1 cl1 fp1 => se_var 3))))
theorem ok_placeable (T : Txt K mg) : Def P w K mg base "placeable" 2 F_placeable 2 [] :=
  def_ok T.f_placeable sc_placeable rfl (fun _ _ _ _ _ _ us hl => match us, hl with | [_, _], _ => rfl) (b_placeable T)
theorem sc_least_order : FnScope ["count", "facts", "masks", "front", "found", "place", "rule"] ["count", "facts"] (defScope s_least_order) := ⟨rfl, rfl, rfl, by decide +kernel, rfl, by decide +kernel, by decide +kernel⟩
theorem b_least_order (T : Txt K mg) (f : Addr) (cdv : Value) (A : Around) (outer : List Env) (s : Shared) (H : Hp) (E : XK) (c : FnCx (cxOf (L2.CX P w) P w K mg base ["count", "facts", "masks", "front", "found", "place", "rule"] "least_order" (defScope s_least_order) f cdv A outer s H E) 3) :
  SSs (cxOf (L2.CX P w) P w K mg base ["count", "facts", "masks", "front", "found", "place", "rule"] "least_order" (defScope s_least_order) f cdv A outer s H E) (defBody s_least_order) r_least_order_1 :=
  ss_cons (ss_par3 2 3 4 true true true c.g (se_call (ok_masks_of T) (c.room.mono (by decide)) (sa_cons (b := false) (se_var 0) (sa_cons (b := false) (se_var 1) (sa_nil)))) (se_int) (se_lst (sa_nil)))
    (ss_cons (ss_fgB [5, 6] (ss_for c.g (si_rng1 T.n_range (sa_cons (b := true) (se_var 0) (sa_nil))) (sg_name 5 c.g) (sss_fgE [5, 6] (ss_cons (ss_set 6 c.g (se_ix ix_seq os_ix (se_call (ok_placeable T) (c.room.mono (by decide)) (sa_cons (b := false) (se_var 2) (sa_cons (b := false) (se_var 3) (sa_nil)))) (se_int) (fun _ _ => rfl)))
    (ss_cons (ss_expr (se_mut 4 PySem.F.slot_list_append PySem.F.type_list_append mt_append ms_append (sa_cons (b := false) (se_var 6) (sa_nil))))
    (ss_one (ss_set 3 c.g (se_op op_or os_or (se_var 3) (se_op op_shl os_shl (se_int) (se_var 6))))))))))
    (ss_one (ss_ret (se_var 4))))
theorem ok_least_order (T : Txt K mg) : Def P w K mg base "least_order" 4 F_least_order 2 [] :=
  def_ok T.f_least_order sc_least_order rfl (fun _ _ _ _ _ _ us hl => match us, hl with | [_, _], _ => rfl) (b_least_order T)
theorem sc_order_of : FnScope ["count", "facts"] ["count", "facts"] (defScope s_order_of) := ⟨rfl, rfl, rfl, by decide +kernel, rfl, by decide +kernel, by decide +kernel⟩
theorem b_order_of (T : Txt K mg) (f : Addr) (cdv : Value) (A : Around) (outer : List Env) (s : Shared) (H : Hp) (E : XK) (c : FnCx (cxOf (L2.CX P w) P w K mg base ["count", "facts"] "order_of" (defScope s_order_of) f cdv A outer s H E) 5) :
  SSs (cxOf (L2.CX P w) P w K mg base ["count", "facts"] "order_of" (defScope s_order_of) f cdv A outer s H E) (defBody s_order_of) r_order_of_1 :=
  ss_cons (ss_expr (se_call (ok_need_count_and_facts_2 T) (c.room.mono (by decide)) (sa_cons (b := false) (se_var 0) (sa_cons (b := false) (se_var 1) (sa_nil)))))
    (ss_cons (ss_expr (se_call (ok_need_together T) (c.room.mono (by decide)) (sa_cons (b := false) (se_var 0) (sa_cons (b := false) (se_var 1) (sa_nil)))))
    (ss_one (ss_ret (se_call (ok_least_order T) (c.room.mono (by decide)) (sa_cons (b := false) (se_var 0) (sa_cons (b := false) (se_var 1) (sa_nil)))))))
theorem ok_order_of (T : Txt K mg) : Def P w K mg base "order_of" 6 F_order_of 2 [] :=
  def_ok T.f_order_of sc_order_of rfl (fun _ _ _ _ _ _ us hl => match us, hl with | [_, _], _ => rfl) (b_order_of T)
theorem sc_layers_of : FnScope ["count", "facts"] ["count", "facts"] (defScope s_layers_of) := ⟨rfl, rfl, rfl, by decide +kernel, rfl, by decide +kernel, by decide +kernel⟩
theorem b_layers_of (T : Txt K mg) (f : Addr) (cdv : Value) (A : Around) (outer : List Env) (s : Shared) (H : Hp) (E : XK) (c : FnCx (cxOf (L2.CX P w) P w K mg base ["count", "facts"] "layers_of" (defScope s_layers_of) f cdv A outer s H E) 5) :
  SSs (cxOf (L2.CX P w) P w K mg base ["count", "facts"] "layers_of" (defScope s_layers_of) f cdv A outer s H E) (defBody s_layers_of) r_layers_of_1 :=
  ss_cons (ss_expr (se_call (ok_need_count_and_facts_2 T) (c.room.mono (by decide)) (sa_cons (b := false) (se_var 0) (sa_cons (b := false) (se_var 1) (sa_nil)))))
    (ss_cons (ss_expr (se_call (ok_need_together T) (c.room.mono (by decide)) (sa_cons (b := false) (se_var 0) (sa_cons (b := false) (se_var 1) (sa_nil)))))
    (ss_one (ss_ret (se_callP (j := 0) (ok_layered_p0 T) (c.room.mono (by decide)) (sa_cons (b := false) (se_var 0) (sa_cons (b := false) (se_var 1) (sa_nil)))))))
theorem ok_layers_of (T : Txt K mg) : Def P w K mg base "layers_of" 6 F_layers_of 2 [] :=
  def_ok T.f_layers_of sc_layers_of rfl (fun _ _ _ _ _ _ us hl => match us, hl with | [_, _], _ => rfl) (b_layers_of T)
theorem sc__law_asked : FnScope ["_law_count", "_law_facts_here", "_law_is_least", "_law_found", "_law_indices_here", "e"] ["_law_count", "_law_facts_here", "_law_is_least"] (defScope s__law_asked) := ⟨rfl, rfl, rfl, by decide +kernel, rfl, by decide +kernel, by decide +kernel⟩
theorem b__law_asked (T : Txt K mg) (f : Addr) (cdv : Value) (A : Around) (outer : List Env) (s : Shared) (H : Hp) (E : XK) (c : FnCx (cxOf (L2.CX P w) P w K mg base ["_law_count", "_law_facts_here", "_law_is_least", "_law_found", "_law_indices_here", "e"] "_law_asked" (defScope s__law_asked) f cdv A outer s H E) 6) :
  SSs (cxOf (L2.CX P w) P w K mg base ["_law_count", "_law_facts_here", "_law_is_least", "_law_found", "_law_indices_here", "e"] "_law_asked" (defScope s__law_asked) f cdv A outer s H E) (defBody s__law_asked) r__law_asked_1 :=
  ss_cons (ss_unp (se_tup (sa_cons (b := false) (se_non) (sa_cons (b := false) (se_non) (sa_nil)))) (sg_tup c.g (sgs_cons 3 c.g (sgs_cons 4 c.g (sgs_nil)))))
    (ss_cons (ss_try1 (tab := [("Barred", true)]) (C := "Barred") (i := 5) (j := 4) c.g rfl rfl rfl rfl (by first | exact Or.inl rfl | exact Or.inr (Or.inl rfl) | exact Or.inr (Or.inr rfl)) ⟨rfl, by decide, .inl T.i_Barred.g⟩ (by intro p hp; simp only [List.mem_cons, List.not_mem_nil, or_false] at hp; rcases hp with rfl <;> first | exact T.m_Barred_Barred) T.i_Barred.xf T.i_Barred.nf (fun pn xe po => (fun (c : FnCx _ _) => ss_one (ss_set 3 c.g (se_ifx (st_val (se_var 2)) (se_call (ok_order_of T) (c.room.mono (by decide)) (sa_cons (b := false) (se_var 0) (sa_cons (b := false) (se_var 1) (sa_nil)))) (se_call (ok_layers_of T) (c.room.mono (by decide)) (sa_cons (b := false) (se_var 0) (sa_cons (b := false) (se_var 1) (sa_nil))))))) (FnCx.tr c po)) rfl (by first | exact Or.inl rfl | exact Or.inr rfl) (by first | exact .inl rfl | exact .inr rfl) (by decide))
    (ss_one (ss_ret (se_tup (sa_cons (b := false) (se_var 3) (sa_cons (b := false) (se_var 4) (sa_nil)))))))
theorem ok__law_asked (T : Txt K mg) : Def P w K mg base "_law_asked" 7 F__law_asked 3 [] :=
  def_ok T.f__law_asked sc__law_asked rfl (fun _ _ _ _ _ _ us hl => match us, hl with | [_, _, _], _ => rfl) (b__law_asked T)
theorem sc_barring_set : FnScope ["count", "facts"] ["count", "facts"] (defScope s_barring_set) := ⟨rfl, rfl, rfl, by decide +kernel, rfl, by decide +kernel, by decide +kernel⟩
theorem b_barring_set (T : Txt K mg) (f : Addr) (cdv : Value) (A : Around) (outer : List Env) (s : Shared) (H : Hp) (E : XK) (c : FnCx (cxOf (L2.CX P w) P w K mg base ["count", "facts"] "barring_set" (defScope s_barring_set) f cdv A outer s H E) 4) :
  SSs (cxOf (L2.CX P w) P w K mg base ["count", "facts"] "barring_set" (defScope s_barring_set) f cdv A outer s H E) (defBody s_barring_set) r_barring_set_1 :=
  ss_cons (ss_expr (se_call (ok_need_count_and_facts_2 T) (c.room.mono (by decide)) (sa_cons (b := false) (se_var 0) (sa_cons (b := false) (se_var 1) (sa_nil)))))
    (ss_one (ss_ret (se_call (ok_least_barring T) (c.room.mono (by decide)) (sa_cons (b := false) (se_var 0) (sa_cons (b := false) (se_var 1) (sa_nil))))))
theorem ok_barring_set (T : Txt K mg) : Def P w K mg base "barring_set" 5 F_barring_set 2 [] :=
  def_ok T.f_barring_set sc_barring_set rfl (fun _ _ _ _ _ _ us hl => match us, hl with | [_, _], _ => rfl) (b_barring_set T)
theorem sc_need_layers : FnScope ["layers", "is_list", "layer"] ["layers"] (defScope s_need_layers) := ⟨rfl, rfl, rfl, by decide +kernel, rfl, by decide +kernel, by decide +kernel⟩
theorem b_need_layers (T : Txt K mg) (f : Addr) (cdv : Value) (A : Around) (outer : List Env) (s : Shared) (H : Hp) (E : XK) (c : FnCx (cxOf (L2.CX P w) P w K mg base ["layers", "is_list", "layer"] "need_layers" (defScope s_need_layers) f cdv A outer s H E) 1) :
  SSs (cxOf (L2.CX P w) P w K mg base ["layers", "is_list", "layer"] "need_layers" (defScope s_need_layers) f cdv A outer s H E) (defBody s_need_layers) r_need_layers_1 :=
  ss_cons (ss_set 1 c.g (se_and (se_isi .list (se_var 0) T.n_isinstance T.n_list) (se_one (se_chain op_le op_le cs_int cs_int (se_int) (se_callB (call_len) os_len T.n_len (sa_cons (b := true) (se_var 0) (sa_nil))) (se_gint T.c_MOST_RULES)))))
    (ss_one (ss_if (SW.st (sw_or (st_not (st_val (se_var 1))) (sw_or1 (st_not (st_val (se_callB (cr_all c.g.calm) os_all T.n_all (sa_cons (b := true) (se_lc [("layer", 2)] c.g (si_any (se_var 0)) (by kernel_rfl) (fun s1 H1 C1 cl1 fp1 => sg_name 2 (cxg_blk c.g s1 H1 _ _ fp1)) (fun s1 H1 C1 cl1 fp1 => sts_nil) (fun s1 H1 C1 cl1 fp1 => se_bor (se_call (ok_is_integer T) (c.room.mono (by decide)) (sa_cons (b := false) (se_var 2) (sa_cons (b := true) (se_int) (sa_cons (b := true) (se_op op_sub os_sub (se_gint T.c_MOST_RULES) (se_int)) (sa_nil))))))) (sa_nil)))))))) (ss_one (ss_never)) (ss_nil)))
theorem ok_need_layers (T : Txt K mg) : Def P w K mg base "need_layers" 2 F_need_layers 1 [] :=
  def_ok T.f_need_layers sc_need_layers rfl (fun _ _ _ _ _ _ us hl => match us, hl with | [_], _ => rfl) (b_need_layers T)
theorem sc_holds_by_layers : FnScope ["layers", "fact", "losers", "winners", "rule"] ["layers", "fact"] (defScope s_holds_by_layers) := ⟨rfl, rfl, rfl, by decide +kernel, rfl, by decide +kernel, by decide +kernel⟩
theorem b_holds_by_layers (T : Txt K mg) (f : Addr) (cdv : Value) (A : Around) (outer : List Env) (s : Shared) (H : Hp) (E : XK) (c : FnCx (cxOf (L2.CX P w) P w K mg base ["layers", "fact", "losers", "winners", "rule"] "holds_by_layers" (defScope s_holds_by_layers) f cdv A outer s H E) 1) :
  SSs (cxOf (L2.CX P w) P w K mg base ["layers", "fact", "losers", "winners", "rule"] "holds_by_layers" (defScope s_holds_by_layers) f cdv A outer s H E) (defBody s_holds_by_layers) r_holds_by_layers_1 :=
  ss_cons (ss_setLc [("rule", 4)] 2 c.g (si_lst (se_call (ok_rules_with T) (c.room.mono (by decide)) (sa_cons (b := false) (se_var 1) (sa_cons (b := false) (se_gstr T.c_AGAINST) (sa_nil))))) (by kernel_rfl) (fun s1 H1 C1 cl1 fp1 => sg_name 4 (cxg_blk c.g s1 H1 _ _ fp1)) (fun s1 H1 C1 cl1 fp1 => sts_nil) (fun s1 H1 C1 cl1 fp1 => se_ix ix_seq os_ix (se_var 0) (se_var 4) (fun _ _ => rfl)) (sw_true rfl rfl rfl (by decide +kernel)))
    (ss_cons (ss_setLc [("rule", 4)] 3 c.g (si_lst (se_call (ok_rules_with T) (c.room.mono (by decide)) (sa_cons (b := false) (se_var 1) (sa_cons (b := false) (se_gstr T.c_FOR) (sa_nil))))) (by kernel_rfl) (fun s1 H1 C1 cl1 fp1 => sg_name 4 (cxg_blk c.g s1 H1 _ _ fp1)) (fun s1 H1 C1 cl1 fp1 => sts_nil) (fun s1 H1 C1 cl1 fp1 => se_ix ix_seq os_ix (se_var 0) (se_var 4) (fun _ _ => rfl)) (sw_true rfl rfl rfl (by decide +kernel)))
    (ss_one (ss_ret (se_or (se_cmp (op_eqA c.room) cs_eq.os (se_var 2) (se_lst (sa_nil)) (nomark _)) (se_one (se_and (se_cmp (op_neA c.room) cs_ne.os (se_var 3) (se_lst (sa_nil)) (nomark _)) (se_one (se_cmp op_lt cs_int.os (se_callB (cr_min c.g.calm) os_minL T.n_min (sa_cons (b := true) (se_var 3) (sa_nil))) (se_callB (cr_min c.g.calm) os_minL T.n_min (sa_cons (b := true) (se_var 2) (sa_nil))) (nomark _)))))))))
theorem ok_holds_by_layers (T : Txt K mg) : Def P w K mg base "holds_by_layers" 2 F_holds_by_layers 2 [] :=
  def_ok T.f_holds_by_layers sc_holds_by_layers rfl (fun _ _ _ _ _ _ us hl => match us, hl with | [_, _], _ => rfl) (b_holds_by_layers T)
theorem sc_hold_in_layers : FnScope ["layers", "facts", "fact"] ["layers", "facts"] (defScope s_hold_in_layers) := ⟨rfl, rfl, rfl, by decide +kernel, rfl, by decide +kernel, by decide +kernel⟩
theorem b_hold_in_layers (T : Txt K mg) (f : Addr) (cdv : Value) (A : Around) (outer : List Env) (s : Shared) (H : Hp) (E : XK) (c : FnCx (cxOf (L2.CX P w) P w K mg base ["layers", "facts", "fact"] "hold_in_layers" (defScope s_hold_in_layers) f cdv A outer s H E) 2) :
  SSs (cxOf (L2.CX P w) P w K mg base ["layers", "facts", "fact"] "hold_in_layers" (defScope s_hold_in_layers) f cdv A outer s H E) (defBody s_hold_in_layers) r_hold_in_layers_1 :=
  ss_cons (ss_expr (se_call (ok_need_layers T) (c.room.mono (by decide)) (sa_cons (b := false) (se_var 0) (sa_nil))))
    (ss_cons (ss_expr (se_call (ok_need_facts T) (c.room.mono (by decide)) (sa_cons (b := true) (se_callB (call_len) os_len T.n_len (sa_cons (b := true) (se_var 0) (sa_nil))) (sa_cons (b := false) (se_var 1) (sa_nil)))))
    (ss_one (ss_ret (se_callB (cr_all c.g.calm) os_all T.n_all (sa_cons (b := true) (se_lc [("fact", 2)] c.g (si_any (se_var 1)) (by kernel_rfl) (fun s1 H1 C1 cl1 fp1 => sg_name 2 (cxg_blk c.g s1 H1 _ _ fp1)) (fun s1 H1 C1 cl1 fp1 => sts_nil) (fun s1 H1 C1 cl1 fp1 => se_bor (se_call (ok_holds_by_layers T) (c.room.mono (by decide)) (sa_cons (b := false) (se_var 0) (sa_cons (b := false) (se_var 2) (sa_nil)))))) (sa_nil))))))
theorem ok_hold_in_layers (T : Txt K mg) : Def P w K mg base "hold_in_layers" 3 F_hold_in_layers 2 [] :=
  def_ok T.f_hold_in_layers sc_hold_in_layers rfl (fun _ _ _ _ _ _ us hl => match us, hl with | [_, _], _ => rfl) (b_hold_in_layers T)
theorem sc__law_is_order : FnScope ["_law_count", "_law_facts_here", "_law_found", "_law_rule", "_law_fact_here"] ["_law_count", "_law_facts_here", "_law_found"] (defScope s__law_is_order) := ⟨rfl, rfl, rfl, by decide +kernel, rfl, by decide +kernel, by decide +kernel⟩
theorem b__law_is_order (T : Txt K mg) (f : Addr) (cdv : Value) (A : Around) (outer : List Env) (s : Shared) (H : Hp) (E : XK) (c : FnCx (cxOf (L2.CX P w) P w K mg base ["_law_count", "_law_facts_here", "_law_found", "_law_rule", "_law_fact_here"] "_law_is_order" (defScope s__law_is_order) f cdv A outer s H E) 1) :
  SSs (cxOf (L2.CX P w) P w K mg base ["_law_count", "_law_facts_here", "_law_found", "_law_rule", "_law_fact_here"] "_law_is_order" (defScope s__law_is_order) f cdv A outer s H E) (defBody s__law_is_order) r__law_is_order_1 :=
  ss_cons (ss_if (SW.st (sw_or (st_not (st_val (se_isi .list (se_var 2) T.n_isinstance T.n_list))) (sw_or1 (st_cmp (op_neA c.room) cs_ne.os (se_callB (call_len) os_len T.n_len (sa_cons (b := true) (se_var 2) (sa_nil))) (se_var 0) (nomark _))))) (ss_one (ss_ret (se_bl))) (ss_nil))
    (ss_cons (ss_if (st_cmp (op_neA c.room) cs_ne.os (se_lc [("_law_rule", 3)] c.g (si_any (se_var 2)) (by kernel_rfl) (fun s1 H1 C1 cl1 fp1 => sg_name 3 (cxg_blk c.g s1 H1 _ _ fp1)) (fun s1 H1 C1 cl1 fp1 => sts_one (SW.st (sw_or (st_not (st_val (se_isi .int (se_var 3) T.n_isinstance T.n_int))) (sw_or1 (st_val (se_isi .bool (se_var 3) T.n_isinstance T.n_bool)))))) (fun s1 H1 C1 cl1 fp1 => se_var 3)) (se_lst (sa_nil)) (nomark _)) (ss_one (ss_ret (se_bl))) (ss_nil))
    (ss_cons (ss_if (st_cmp (op_neA c.room) cs_ne.os (se_lc [("_law_rule", 3)] c.g (si_rng1 T.n_range (sa_cons (b := true) (se_var 0) (sa_nil))) (by kernel_rfl) (fun s1 H1 C1 cl1 fp1 => sg_name 3 (cxg_blk c.g s1 H1 _ _ fp1)) (fun s1 H1 C1 cl1 fp1 => sts_one (st_cmp (op_notInB c.room) cs_notInB.os (se_var 3) (se_var 2) rfl)) (fun s1 H1 C1 cl1 fp1 => se_var 3)) (se_lst (sa_nil)) (nomark _)) (ss_one (ss_ret (se_bl))) (ss_nil))
    (ss_one (ss_ret (se_cmp (op_eqA c.room) cs_eq.os (se_lc [("_law_fact_here", 4)] c.g (si_any (se_var 1)) (by kernel_rfl) (fun s1 H1 C1 cl1 fp1 => sg_name 4 (cxg_blk c.g s1 H1 _ _ fp1)) (fun s1 H1 C1 cl1 fp1 => sts_one (st_cmp (op_eqA c.room) cs_eq.os (se_call (ok__law_first T) (c.room.mono (by decide)) (sa_cons (b := false) (se_var 2) (sa_cons (b := false) (se_var 4) (sa_nil)))) (se_str) (nomark _))) (fun s1 H1 C1 cl1 fp1 => se_var 4)) (se_lst (sa_nil)) (nomark _))))))
theorem ok__law_is_order (T : Txt K mg) : Def P w K mg base "_law_is_order" 2 F__law_is_order 3 [] :=
  def_ok T.f__law_is_order sc__law_is_order rfl (fun _ _ _ _ _ _ us hl => match us, hl with | [_, _, _], _ => rfl) (b__law_is_order T)
theorem sc_by_layers : FnScope ["layers", "layer", "rule"] ["layers"] (defScope s_by_layers) := ⟨rfl, rfl, rfl, by decide +kernel, rfl, by decide +kernel, by decide +kernel⟩
theorem b_by_layers (T : Txt K mg) (f : Addr) (cdv : Value) (A : Around) (outer : List Env) (s : Shared) (H : Hp) (E : XK) (c : FnCx (cxOf (L2.CX P w) P w K mg base ["layers", "layer", "rule"] "by_layers" (defScope s_by_layers) f cdv A outer s H E) 0) :
  SSs (cxOf (L2.CX P w) P w K mg base ["layers", "layer", "rule"] "by_layers" (defScope s_by_layers) f cdv A outer s H E) (defBody s_by_layers) r_by_layers_1 :=
  ss_one (ss_ret (se_lc [("layer", 1), ("rule", 2)] c.g (si_lst (se_callB (cr_sortA) os_sortA T.n_sorted (sa_cons (b := true) (se_lc [("rule", 2), ("layer", 1)] c.g (si_enumA T.n_enumerate (sa_cons (b := false) (se_var 0) (sa_nil))) (by kernel_rfl) (fun s1 H1 C1 cl1 fp1 => sg_tup (cxg_blk c.g s1 H1 _ _ fp1) (sgs_cons 2 (cxg_blk c.g s1 H1 _ _ fp1) (sgs_cons 1 (cxg_blk c.g s1 H1 _ _ fp1) (sgs_nil)))) (fun s1 H1 C1 cl1 fp1 => sts_nil) (fun s1 H1 C1 cl1 fp1 => se_tup (sa_cons (b := false) (se_var 1) (sa_cons (b := false) (se_var 2) (sa_nil))))) (sa_nil)))) (by kernel_rfl) (fun s1 H1 C1 cl1 fp1 => sg_tup (cxg_blk c.g s1 H1 _ _ fp1) (sgs_cons 1 (cxg_blk c.g s1 H1 _ _ fp1) (sgs_cons 2 (cxg_blk c.g s1 H1 _ _ fp1) (sgs_nil)))) (fun s1 H1 C1 cl1 fp1 => sts_nil) (fun s1 H1 C1 cl1 fp1 => se_var 2)))
theorem ok_by_layers (T : Txt K mg) : Def P w K mg base "by_layers" 1 F_by_layers 1 [] :=
  def_ok T.f_by_layers sc_by_layers rfl (fun _ _ _ _ _ _ us hl => match us, hl with | [_], _ => rfl) (b_by_layers T)
theorem sc_order_by_layers : FnScope ["layers"] ["layers"] (defScope s_order_by_layers) := ⟨rfl, rfl, rfl, by decide +kernel, rfl, by decide +kernel, by decide +kernel⟩
theorem b_order_by_layers (T : Txt K mg) (f : Addr) (cdv : Value) (A : Around) (outer : List Env) (s : Shared) (H : Hp) (E : XK) (c : FnCx (cxOf (L2.CX P w) P w K mg base ["layers"] "order_by_layers" (defScope s_order_by_layers) f cdv A outer s H E) 2) :
  SSs (cxOf (L2.CX P w) P w K mg base ["layers"] "order_by_layers" (defScope s_order_by_layers) f cdv A outer s H E) (defBody s_order_by_layers) r_order_by_layers_1 :=
  ss_cons (ss_expr (se_call (ok_need_layers T) (c.room.mono (by decide)) (sa_cons (b := false) (se_var 0) (sa_nil))))
    (ss_one (ss_ret (se_call (ok_by_layers T) (c.room.mono (by decide)) (sa_cons (b := false) (se_var 0) (sa_nil)))))
theorem ok_order_by_layers (T : Txt K mg) : Def P w K mg base "order_by_layers" 3 F_order_by_layers 1 [] :=
  def_ok T.f_order_by_layers sc_order_by_layers rfl (fun _ _ _ _ _ _ us hl => match us, hl with | [_], _ => rfl) (b_order_by_layers T)
theorem sc__law_good_layers : FnScope ["_law_count", "_law_facts_here", "_law_layers", "_law_fact_here", "_law_lower", "_law_upper", "_law_layer", "_law_k"] ["_law_count", "_law_facts_here", "_law_layers"] (defScope s__law_good_layers) := ⟨rfl, rfl, rfl, by decide +kernel, rfl, by decide +kernel, by decide +kernel⟩
theorem b__law_good_layers (T : Txt K mg) (f : Addr) (cdv : Value) (A : Around) (outer : List Env) (s : Shared) (H : Hp) (E : XK) (c : FnCx (cxOf (L2.CX P w) P w K mg base ["_law_count", "_law_facts_here", "_law_layers", "_law_fact_here", "_law_lower", "_law_upper", "_law_layer", "_law_k"] "_law_good_layers" (defScope s__law_good_layers) f cdv A outer s H E) 3) :
  SSs (cxOf (L2.CX P w) P w K mg base ["_law_count", "_law_facts_here", "_law_layers", "_law_fact_here", "_law_lower", "_law_upper", "_law_layer", "_law_k"] "_law_good_layers" (defScope s__law_good_layers) f cdv A outer s H E) (defBody s__law_good_layers) r__law_good_layers_1 :=
  ss_cons (ss_if (SW.st (sw_or (st_not (st_val (se_isi .list (se_var 2) T.n_isinstance T.n_list))) (sw_or1 (st_cmp (op_neA c.room) cs_ne.os (se_callB (call_len) os_len T.n_len (sa_cons (b := true) (se_var 2) (sa_nil))) (se_var 0) (nomark _))))) (ss_one (ss_ret (se_bl))) (ss_nil))
    (ss_cons (ss_if (st_cmp (op_neA c.room) cs_ne.os (se_lc [("_law_layer", 6)] c.g (si_any (se_var 2)) (by kernel_rfl) (fun s1 H1 C1 cl1 fp1 => sg_name 6 (cxg_blk c.g s1 H1 _ _ fp1)) (fun s1 H1 C1 cl1 fp1 => sts_one (SW.st (sw_or (st_not (st_val (se_isi .int (se_var 6) T.n_isinstance T.n_int))) (sw_or1 (st_val (se_isi .bool (se_var 6) T.n_isinstance T.n_bool)))))) (fun s1 H1 C1 cl1 fp1 => se_var 6)) (se_lst (sa_nil)) (nomark _)) (ss_one (ss_ret (se_bl))) (ss_nil))
    (ss_cons (ss_if (SW.st (sw_or (st_cmp (op_neA c.room) cs_ne.os (se_lc [("_law_layer", 6)] c.g (si_any (se_var 2)) (by kernel_rfl) (fun s1 H1 C1 cl1 fp1 => sg_name 6 (cxg_blk c.g s1 H1 _ _ fp1)) (fun s1 H1 C1 cl1 fp1 => sts_one (st_not (st_chain op_le op_lt cs_int cs_int (se_int) (se_var 6) (se_int)))) (fun s1 H1 C1 cl1 fp1 => se_var 6)) (se_lst (sa_nil)) (nomark _)) (sw_or1 (st_cmp op_notBl cs_notB.os (se_bor (se_call (ok_hold_in_layers T) (c.room.mono (by decide)) (sa_cons (b := false) (se_var 2) (sa_cons (b := false) (se_var 1) (sa_nil))))) (se_bl) (nomark _))))) (ss_one (ss_ret (se_bl))) (ss_nil))
    (ss_cons (ss_fgB [3, 4, 5] (ss_for c.g (si_any (se_var 1)) (sg_name 3 c.g) (sss_fgE [3, 4, 5] (ss_cons (ss_setLc [("_law_k", 7)] 4 c.g (si_rng1 T.n_range (sa_cons (b := true) (se_var 0) (sa_nil))) (by kernel_rfl) (fun s1 H1 C1 cl1 fp1 => sg_name 7 (cxg_blk c.g s1 H1 _ _ fp1)) (fun s1 H1 C1 cl1 fp1 => sts_one (st_cmp (op_eqA c.room) cs_eq.os (se_ix ix_seq os_ix (se_var 3) (se_var 7) (fun _ _ => rfl)) (se_str) (nomark _))) (fun s1 H1 C1 cl1 fp1 => se_ix ix_seq os_ix (se_var 2) (se_var 7) (fun _ _ => rfl)) (sw_true rfl rfl rfl (by decide +kernel)))
    (ss_cons (ss_setLc [("_law_k", 7)] 5 c.g (si_rng1 T.n_range (sa_cons (b := true) (se_var 0) (sa_nil))) (by kernel_rfl) (fun s1 H1 C1 cl1 fp1 => sg_name 7 (cxg_blk c.g s1 H1 _ _ fp1)) (fun s1 H1 C1 cl1 fp1 => sts_one (st_cmp (op_eqA c.room) cs_eq.os (se_ix ix_seq os_ix (se_var 3) (se_var 7) (fun _ _ => rfl)) (se_str) (nomark _))) (fun s1 H1 C1 cl1 fp1 => se_ix ix_seq os_ix (se_var 2) (se_var 7) (fun _ _ => rfl)) (sw_true rfl rfl rfl (by decide +kernel)))
    (ss_one (ss_if (SW.st (sw_and (st_cmp (op_neA c.room) cs_ne.os (se_var 4) (se_lst (sa_nil)) (nomark _)) (sw_and1 (SW.st (sw_or (st_cmp (op_eqA c.room) cs_eq.os (se_var 5) (se_lst (sa_nil)) (nomark _)) (sw_or1 (st_cmp (op_geA c.room) cs_geA.os (se_callB (cr_min c.g.calm) os_minL T.n_min (sa_cons (b := true) (se_var 5) (sa_nil))) (se_callB (cr_min c.g.calm) os_minL T.n_min (sa_cons (b := true) (se_var 4) (sa_nil))) (nomark _)))))))) (ss_one (ss_ret (se_bl))) (ss_nil))))))))
    (ss_one (ss_ret (se_bor (se_call (ok__law_is_order T) (c.room.mono (by decide)) (sa_cons (b := false) (se_var 0) (sa_cons (b := false) (se_var 1) (sa_cons (b := true) (se_call (ok_order_by_layers T) (c.room.mono (by decide)) (sa_cons (b := false) (se_var 2) (sa_nil))) (sa_nil)))))))))))
theorem ok__law_good_layers (T : Txt K mg) : Def P w K mg base "_law_good_layers" 4 F__law_good_layers 3 [] :=
  def_ok T.f__law_good_layers sc__law_good_layers rfl (fun _ _ _ _ _ _ us hl => match us, hl with | [_, _, _], _ => rfl) (b__law_good_layers T)
theorem sc__law_indices : FnScope ["_law_found", "_law_many", "_law_k"] ["_law_found", "_law_many"] (defScope s__law_indices) := ⟨rfl, rfl, rfl, by decide +kernel, rfl, by decide +kernel, by decide +kernel⟩
theorem b__law_indices (T : Txt K mg) (f : Addr) (cdv : Value) (A : Around) (outer : List Env) (s : Shared) (H : Hp) (E : XK) (c : FnCx (cxOf (L2.CX P w) P w K mg base ["_law_found", "_law_many", "_law_k"] "_law_indices" (defScope s__law_indices) f cdv A outer s H E) 0) :
  SSs (cxOf (L2.CX P w) P w K mg base ["_law_found", "_law_many", "_law_k"] "_law_indices" (defScope s__law_indices) f cdv A outer s H E) (defBody s__law_indices) r__law_indices_1 :=
  ss_cons (ss_if (SW.st (sw_or (st_not (st_val (se_isi .list (se_var 0) T.n_isinstance T.n_list))) (sw_or1 (st_cmp (op_neA c.room) cs_ne.os (se_lc [("_law_k", 2)] c.g (si_any (se_var 0)) (by kernel_rfl) (fun s1 H1 C1 cl1 fp1 => sg_name 2 (cxg_blk c.g s1 H1 _ _ fp1)) (fun s1 H1 C1 cl1 fp1 => sts_one (SW.st (sw_or (st_not (st_val (se_isi .int (se_var 2) T.n_isinstance T.n_int))) (sw_or1 (st_val (se_isi .bool (se_var 2) T.n_isinstance T.n_bool)))))) (fun s1 H1 C1 cl1 fp1 => se_var 2)) (se_lst (sa_nil)) (nomark _))))) (ss_one (ss_ret (se_bl))) (ss_nil))
    (ss_cons (ss_if (st_cmp (op_neA c.room) cs_ne.os (se_lc [("_law_k", 2)] c.g (si_any (se_var 0)) (by kernel_rfl) (fun s1 H1 C1 cl1 fp1 => sg_name 2 (cxg_blk c.g s1 H1 _ _ fp1)) (fun s1 H1 C1 cl1 fp1 => sts_one (st_not (st_chain op_le op_lt cs_int cs_int (se_int) (se_var 2) (se_var 1)))) (fun s1 H1 C1 cl1 fp1 => se_var 2)) (se_lst (sa_nil)) (nomark _)) (ss_one (ss_ret (se_bl))) (ss_nil))
    (ss_one (ss_ret (se_cmp (op_eqA c.room) cs_eq.os (se_lc [("_law_k", 2)] c.g (si_rng2 T.n_range (sa_cons (b := true) (se_int) (sa_cons (b := true) (se_callB (call_len) os_len T.n_len (sa_cons (b := true) (se_var 0) (sa_nil))) (sa_nil)))) (by kernel_rfl) (fun s1 H1 C1 cl1 fp1 => sg_name 2 (cxg_blk c.g s1 H1 _ _ fp1)) (fun s1 H1 C1 cl1 fp1 => sts_one (st_cmp (op_geA c.room) cs_geA.os (se_ix ix_seq os_ix (se_var 0) (se_op op_sub os_sub (se_var 2) (se_int)) (fun _ _ => rfl)) (se_ix ix_seq os_ix (se_var 0) (se_var 2) (fun _ _ => rfl)) (nomark _))) (fun s1 H1 C1 cl1 fp1 => se_var 2)) (se_lst (sa_nil)) (nomark _)))))
theorem ok__law_indices (T : Txt K mg) : Def P w K mg base "_law_indices" 1 F__law_indices 2 [] :=
  def_ok T.f__law_indices sc__law_indices rfl (fun _ _ _ _ _ _ us hl => match us, hl with | [_, _], _ => rfl) (b__law_indices T)
theorem sc__law_bars : FnScope ["_law_count", "_law_some", "_law_rule", "_law_signs", "_law_fact_here"] ["_law_count", "_law_some"] (defScope s__law_bars) := ⟨rfl, rfl, rfl, by decide +kernel, rfl, by decide +kernel, by decide +kernel⟩
theorem b__law_bars (T : Txt K mg) (f : Addr) (cdv : Value) (A : Around) (outer : List Env) (s : Shared) (H : Hp) (E : XK) (c : FnCx (cxOf (L2.CX P w) P w K mg base ["_law_count", "_law_some", "_law_rule", "_law_signs", "_law_fact_here"] "_law_bars" (defScope s__law_bars) f cdv A outer s H E) 0) :
  SSs (cxOf (L2.CX P w) P w K mg base ["_law_count", "_law_some", "_law_rule", "_law_signs", "_law_fact_here"] "_law_bars" (defScope s__law_bars) f cdv A outer s H E) (defBody s__law_bars) r__law_bars_1 :=
  ss_cons (ss_if (SW.st (sw_or (st_cmp (op_eqA c.room) cs_eq.os (se_var 1) (se_lst (sa_nil)) (nomark _)) (sw_or1 (st_cmp (op_inB c.room) cs_inB.os (se_op op_mulT os_mulT (se_str) (se_var 0)) (se_var 1) rfl)))) (ss_one (ss_ret (se_bl))) (ss_nil))
    (ss_cons (ss_fgB [2, 3] (ss_for c.g (si_rng1 T.n_range (sa_cons (b := true) (se_var 0) (sa_nil))) (sg_name 2 c.g) (sss_fgE [2, 3] (ss_cons (ss_setLc [("_law_fact_here", 4)] 3 c.g (si_any (se_var 1)) (by kernel_rfl) (fun s1 H1 C1 cl1 fp1 => sg_name 4 (cxg_blk c.g s1 H1 _ _ fp1)) (fun s1 H1 C1 cl1 fp1 => sts_nil) (fun s1 H1 C1 cl1 fp1 => se_ix ix_seq os_ix (se_var 4) (se_var 2) (fun _ _ => rfl)) (sw_true rfl rfl rfl (by decide +kernel)))
    (ss_one (ss_if (SW.st (sw_and (st_cmp (op_inB c.room) cs_inB.os (se_str) (se_var 3) rfl) (sw_and1 (st_cmp (op_notInB c.room) cs_notInB.os (se_str) (se_var 3) rfl)))) (ss_one (ss_ret (se_bl))) (ss_nil)))))))
    (ss_one (ss_ret (se_bl))))
theorem ok__law_bars (T : Txt K mg) : Def P w K mg base "_law_bars" 1 F__law_bars 2 [] :=
  def_ok T.f__law_bars sc__law_bars rfl (fun _ _ _ _ _ _ us hl => match us, hl with | [_, _], _ => rfl) (b__law_bars T)
theorem sc_are_indices : FnScope ["value", "many", "index", "one", "other"] ["value", "many"] (defScope s_are_indices) := ⟨rfl, rfl, rfl, by decide +kernel, rfl, by decide +kernel, by decide +kernel⟩
theorem b_are_indices (T : Txt K mg) (f : Addr) (cdv : Value) (A : Around) (outer : List Env) (s : Shared) (H : Hp) (E : XK) (c : FnCx (cxOf (L2.CX P w) P w K mg base ["value", "many", "index", "one", "other"] "are_indices" (defScope s_are_indices) f cdv A outer s H E) 1) :
  SSs (cxOf (L2.CX P w) P w K mg base ["value", "many", "index", "one", "other"] "are_indices" (defScope s_are_indices) f cdv A outer s H E) (defBody s_are_indices) r_are_indices_1 :=
  ss_cons (ss_if (SW.st (sw_or (st_not (st_val (se_isi .list (se_var 0) T.n_isinstance T.n_list))) (sw_or1 (st_not (st_val (se_callB (cr_all c.g.calm) os_all T.n_all (sa_cons (b := true) (se_lc [("index", 2)] c.g (si_any (se_var 0)) (by kernel_rfl) (fun s1 H1 C1 cl1 fp1 => sg_name 2 (cxg_blk c.g s1 H1 _ _ fp1)) (fun s1 H1 C1 cl1 fp1 => sts_nil) (fun s1 H1 C1 cl1 fp1 => se_bor (se_call (ok_is_integer T) (c.room.mono (by decide)) (sa_cons (b := false) (se_var 2) (sa_cons (b := true) (se_int) (sa_cons (b := true) (se_op op_sub os_sub (se_var 1) (se_int)) (sa_nil))))))) (sa_nil)))))))) (ss_one (ss_ret (se_bl))) (ss_nil))
    (ss_one (ss_ret (se_callB (cr_all c.g.calm) os_all T.n_all (sa_cons (b := true) (se_lc [("one", 3), ("other", 4)] c.g (si_zip T.n_zip (sa_cons (b := false) (se_var 0) (sa_cons (b := false) (se_slL (se_var 0) (sp_some (se_int)) (sp_none)) (sa_nil)))) (by kernel_rfl) (fun s1 H1 C1 cl1 fp1 => sg_tup (cxg_blk c.g s1 H1 _ _ fp1) (sgs_cons 3 (cxg_blk c.g s1 H1 _ _ fp1) (sgs_cons 4 (cxg_blk c.g s1 H1 _ _ fp1) (sgs_nil)))) (fun s1 H1 C1 cl1 fp1 => sts_nil) (fun s1 H1 C1 cl1 fp1 => se_cmp op_lt cs_int.os (se_var 3) (se_var 4) (nomark _))) (sa_nil)))))
theorem ok_are_indices (T : Txt K mg) : Def P w K mg base "are_indices" 2 F_are_indices 2 [] :=
  def_ok T.f_are_indices sc_are_indices rfl (fun _ _ _ _ _ _ us hl => match us, hl with | [_, _], _ => rfl) (b_are_indices T)
theorem sc_bars_all : FnScope ["count", "facts"] ["count", "facts"] (defScope s_bars_all) := ⟨rfl, rfl, rfl, by decide +kernel, rfl, by decide +kernel, by decide +kernel⟩
theorem b_bars_all (T : Txt K mg) (f : Addr) (cdv : Value) (A : Around) (outer : List Env) (s : Shared) (H : Hp) (E : XK) (c : FnCx (cxOf (L2.CX P w) P w K mg base ["count", "facts"] "bars_all" (defScope s_bars_all) f cdv A outer s H E) 1) :
  SSs (cxOf (L2.CX P w) P w K mg base ["count", "facts"] "bars_all" (defScope s_bars_all) f cdv A outer s H E) (defBody s_bars_all) r_bars_all_1 :=
  ss_one (ss_ret (se_and (se_cmp (op_neA c.room) cs_ne.os (se_var 1) (se_lst (sa_nil)) (nomark _)) (se_and (se_cmp (op_notInB c.room) cs_notInB.os (se_op op_mulT os_mulT (se_gstr T.c_SILENT) (se_var 0)) (se_var 1) rfl) (se_one (se_cmp op_isN cs_isN.os (se_call (ok_lacking_rule T) (c.room.mono (by decide)) (sa_cons (b := false) (se_var 0) (sa_cons (b := false) (se_var 1) (sa_nil)))) (se_non) (nomark _))))))
theorem ok_bars_all (T : Txt K mg) : Def P w K mg base "bars_all" 2 F_bars_all 2 [] :=
  def_ok T.f_bars_all sc_bars_all rfl (fun _ _ _ _ _ _ us hl => match us, hl with | [_, _], _ => rfl) (b_bars_all T)
theorem sc_is_barring_set : FnScope ["count", "facts", "value", "index"] ["count", "facts", "value"] (defScope s_is_barring_set) := ⟨rfl, rfl, rfl, by decide +kernel, rfl, by decide +kernel, by decide +kernel⟩
theorem b_is_barring_set (T : Txt K mg) (f : Addr) (cdv : Value) (A : Around) (outer : List Env) (s : Shared) (H : Hp) (E : XK) (c : FnCx (cxOf (L2.CX P w) P w K mg base ["count", "facts", "value", "index"] "is_barring_set" (defScope s_is_barring_set) f cdv A outer s H E) 3) :
  SSs (cxOf (L2.CX P w) P w K mg base ["count", "facts", "value", "index"] "is_barring_set" (defScope s_is_barring_set) f cdv A outer s H E) (defBody s_is_barring_set) r_is_barring_set_1 :=
  ss_cons (ss_expr (se_call (ok_need_count_and_facts_2 T) (c.room.mono (by decide)) (sa_cons (b := false) (se_var 0) (sa_cons (b := false) (se_var 1) (sa_nil)))))
    (ss_one (ss_ret (se_and (se_bor (se_call (ok_are_indices T) (c.room.mono (by decide)) (sa_cons (b := false) (se_var 2) (sa_cons (b := true) (se_callB (call_len) os_len T.n_len (sa_cons (b := true) (se_var 1) (sa_nil))) (sa_nil))))) (se_one (se_bor (se_call (ok_bars_all T) (c.room.mono (by decide)) (sa_cons (b := false) (se_var 0) (sa_cons (b := true) (se_lc [("index", 3)] c.g (si_any (se_var 2)) (by kernel_rfl) (fun s1 H1 C1 cl1 fp1 => sg_name 3 (cxg_blk c.g s1 H1 _ _ fp1)) (fun s1 H1 C1 cl1 fp1 => sts_nil) (fun s1 H1 C1 cl1 fp1 => se_ix ix_seq os_ix (se_var 1) (se_var 3) (fun _ _ => rfl))) (sa_nil)))))))))
theorem ok_is_barring_set (T : Txt K mg) : Def P w K mg base "is_barring_set" 4 F_is_barring_set 3 [] :=
  def_ok T.f_is_barring_set sc_is_barring_set rfl (fun _ _ _ _ _ _ us hl => match us, hl with | [_, _, _], _ => rfl) (b_is_barring_set T)
theorem sc__law_bad : FnScope ["_law_count", "_law_facts_here", "_law_found", "_law_k"] ["_law_count", "_law_facts_here", "_law_found"] (defScope s__law_bad) := ⟨rfl, rfl, rfl, by decide +kernel, rfl, by decide +kernel, by decide +kernel⟩
theorem b__law_bad (T : Txt K mg) (f : Addr) (cdv : Value) (A : Around) (outer : List Env) (s : Shared) (H : Hp) (E : XK) (c : FnCx (cxOf (L2.CX P w) P w K mg base ["_law_count", "_law_facts_here", "_law_found", "_law_k"] "_law_bad" (defScope s__law_bad) f cdv A outer s H E) 4) :
  SSs (cxOf (L2.CX P w) P w K mg base ["_law_count", "_law_facts_here", "_law_found", "_law_k"] "_law_bad" (defScope s__law_bad) f cdv A outer s H E) (defBody s__law_bad) r__law_bad_1 :=
  ss_cons (ss_if (SW.st (sw_or (st_not (st_val (se_bor (se_call (ok__law_indices T) (c.room.mono (by decide)) (sa_cons (b := false) (se_var 2) (sa_cons (b := true) (se_callB (call_len) os_len T.n_len (sa_cons (b := true) (se_var 1) (sa_nil))) (sa_nil))))))) (sw_or1 (st_not (st_val (se_bor (se_call (ok__law_bars T) (c.room.mono (by decide)) (sa_cons (b := false) (se_var 0) (sa_cons (b := true) (se_lc [("_law_k", 3)] c.g (si_any (se_var 2)) (by kernel_rfl) (fun s1 H1 C1 cl1 fp1 => sg_name 3 (cxg_blk c.g s1 H1 _ _ fp1)) (fun s1 H1 C1 cl1 fp1 => sts_nil) (fun s1 H1 C1 cl1 fp1 => se_ix ix_seq os_ix (se_var 1) (se_var 3) (fun _ _ => rfl))) (sa_nil)))))))))) (ss_one (ss_ret (se_bl))) (ss_nil))
    (ss_one (ss_ret (se_cmp op_isBl cs_isB.os (se_bor (se_call (ok_is_barring_set T) (c.room.mono (by decide)) (sa_cons (b := false) (se_var 0) (sa_cons (b := false) (se_var 1) (sa_cons (b := false) (se_var 2) (sa_nil)))))) (se_bl) (nomark _))))
theorem ok__law_bad (T : Txt K mg) : Def P w K mg base "_law_bad" 5 F__law_bad 3 [] :=
  def_ok T.f__law_bad sc__law_bad rfl (fun _ _ _ _ _ _ us hl => match us, hl with | [_, _, _], _ => rfl) (b__law_bad T)
theorem sc__law_told : FnScope ["_law_count", "_law_facts_here", "_law_layers", "_law_first_here", "_law_order_here", "_law_second", "_law_found", "_law_good", "_law_indices_here", "_law_one", "_law_some", "_law_k"] ["_law_count", "_law_facts_here"] (defScope s__law_told) := ⟨rfl, rfl, rfl, by decide +kernel, rfl, by decide +kernel, by decide +kernel⟩
theorem b__law_told (T : Txt K mg) (f : Addr) (cdv : Value) (A : Around) (outer : List Env) (s : Shared) (H : Hp) (E : XK) (c : FnCx (cxOf (L2.CX P w) P w K mg base ["_law_count", "_law_facts_here", "_law_layers", "_law_first_here", "_law_order_here", "_law_second", "_law_found", "_law_good", "_law_indices_here", "_law_one", "_law_some", "_law_k"] "_law_told" (defScope s__law_told) f cdv A outer s H E) 7) :
  SSs (cxOf (L2.CX P w) P w K mg base ["_law_count", "_law_facts_here", "_law_layers", "_law_first_here", "_law_order_here", "_law_second", "_law_found", "_law_good", "_law_indices_here", "_law_one", "_law_some", "_law_k"] "_law_told" (defScope s__law_told) f cdv A outer s H E) (defBody s__law_told) r__law_told_1 :=
  ss_cons (ss_unp (se_call (ok__law_asked T) (c.room.mono (by decide)) (sa_cons (b := false) (se_var 0) (sa_cons (b := false) (se_var 1) (sa_cons (b := true) (se_bl) (sa_nil))))) (sg_tup c.g (sgs_cons 2 c.g (sgs_cons 3 c.g (sgs_nil)))))
    (ss_cons (ss_unp (se_call (ok__law_asked T) (c.room.mono (by decide)) (sa_cons (b := false) (se_var 0) (sa_cons (b := false) (se_var 1) (sa_cons (b := true) (se_bl) (sa_nil))))) (sg_tup c.g (sgs_cons 4 c.g (sgs_cons 5 c.g (sgs_nil)))))
    (ss_cons (ss_set 6 c.g (se_call (ok_barring_set T) (c.room.mono (by decide)) (sa_cons (b := false) (se_var 0) (sa_cons (b := false) (se_var 1) (sa_nil)))))
    (ss_cons (ss_if (st_cmp op_notN cs_notN.os (se_var 2) (se_non) (nomark _)) (ss_cons (ss_if (SW.st (sw_or (st_cmp op_notN cs_notN.os (se_var 3) (se_non) (nomark _)) (sw_or (st_cmp op_notN cs_notN.os (se_var 5) (se_non) (nomark _)) (sw_or1 (st_cmp op_notN cs_notN.os (se_var 6) (se_non) (nomark _)))))) (ss_one (ss_ret (se_non))) (ss_nil))
    (ss_cons (ss_set 7 c.g (se_and (se_bor (se_call (ok__law_good_layers T) (c.room.mono (by decide)) (sa_cons (b := false) (se_var 0) (sa_cons (b := false) (se_var 1) (sa_cons (b := false) (se_var 2) (sa_nil)))))) (se_one (se_bor (se_call (ok__law_is_order T) (c.room.mono (by decide)) (sa_cons (b := false) (se_var 0) (sa_cons (b := false) (se_var 1) (sa_cons (b := false) (se_var 4) (sa_nil)))))))))
    (ss_one (ss_ret (se_ifx (st_val (se_var 7)) (se_lst (sa_nil)) (se_non)))))) (ss_nil))
    (ss_cons (ss_if (st_cmp op_notN cs_notN.os (se_var 4) (se_non) (nomark _)) (ss_one (ss_ret (se_non))) (ss_nil))
    (ss_cons (ss_fgB [8] (ss_for c.g (si_lst (se_lst (sa_cons (b := false) (se_var 3) (sa_cons (b := false) (se_var 5) (sa_cons (b := false) (se_var 6) (sa_nil)))))) (sg_name 8 c.g) (sss_fgE [8] (ss_one (ss_if (st_not (st_val (se_bor (se_call (ok__law_bad T) (c.room.mono (by decide)) (sa_cons (b := false) (se_var 0) (sa_cons (b := false) (se_var 1) (sa_cons (b := false) (se_var 8) (sa_nil)))))))) (ss_one (ss_ret (se_non))) (ss_nil))))))
    (ss_cons (ss_fgB [9, 10] (ss_for c.g (si_any (se_var 6)) (sg_name 9 c.g) (sss_fgE [9, 10] (ss_cons (ss_setLc [("_law_k", 11)] 10 c.g (si_any (se_var 6)) (by kernel_rfl) (fun s1 H1 C1 cl1 fp1 => sg_name 11 (cxg_blk c.g s1 H1 _ _ fp1)) (fun s1 H1 C1 cl1 fp1 => sts_one (st_cmp (op_neA c.room) cs_ne.os (se_var 11) (se_var 9) (nomark _))) (fun s1 H1 C1 cl1 fp1 => se_ix ix_seq os_ix (se_var 1) (se_var 11) (fun _ _ => rfl)) (sw_true rfl rfl rfl (by decide +kernel)))
    (ss_one (ss_if (st_not (st_val (se_bor (se_call (ok__law_is_order T) (c.room.mono (by decide)) (sa_cons (b := false) (se_var 0) (sa_cons (b := false) (se_var 10) (sa_cons (b := true) (se_ix ix_seq os_ix (se_call (ok__law_asked T) (c.room.mono (by decide)) (sa_cons (b := false) (se_var 0) (sa_cons (b := false) (se_var 10) (sa_cons (b := true) (se_bl) (sa_nil))))) (se_int) (fun _ _ => rfl)) (sa_nil)))))))) (ss_one (ss_ret (se_non))) (ss_nil)))))))
    (ss_one (ss_ret (se_var 6)))))))))
theorem ok__law_told (T : Txt K mg) : Def P w K mg base "_law_told" 8 F__law_told 2 [] :=
  def_ok T.f__law_told sc__law_told rfl (fun _ _ _ _ _ _ us hl => match us, hl with | [_, _], _ => rfl) (b__law_told T)
theorem sc__law_right : FnScope ["_law_tap_here", "_law_is_large", "_law_order_here", "_law_count", "_law_facts_here", "_law_passed", "_law_found", "_law_first_here", "_law_left", "_law_turn", "_law_out"] ["_law_tap_here"] (defScope s__law_right) := ⟨rfl, rfl, rfl, by decide +kernel, rfl, by decide +kernel, by decide +kernel⟩
theorem b__law_right (T : Txt K mg) (f : Addr) (cdv : Value) (A : Around) (outer : List Env) (s : Shared) (H : Hp) (E : XK) (c : FnCx (cxOf (L2.CX P w) P w K mg base ["_law_tap_here", "_law_is_large", "_law_order_here", "_law_count", "_law_facts_here", "_law_passed", "_law_found", "_law_first_here", "_law_left", "_law_turn", "_law_out"] "_law_right" (defScope s__law_right) f cdv A outer s H E) 8) :
  SSs (cxOf (L2.CX P w) P w K mg base ["_law_tap_here", "_law_is_large", "_law_order_here", "_law_count", "_law_facts_here", "_law_passed", "_law_found", "_law_first_here", "_law_left", "_law_turn", "_law_out"] "_law_right" (defScope s__law_right) f cdv A outer s H E) (defBody s__law_right) r__law_right_1 :=
  ss_cons (ss_set 1 c.g (se_cmp (op_eqA c.room) cs_eq.os (se_call (ok__law_draw T) (c.room.mono (by decide)) (sa_cons (b := true) (se_var 0) (sa_cons (b := true) (se_int) (sa_nil)))) (se_int) (nomark _)))
    (ss_cons (ss_set 2 c.g (se_call (ok__law_order T) (c.room.mono (by decide)) (sa_cons (b := true) (se_var 0) (sa_cons (b := true) (se_op op_addA os_add (se_int) (se_call (ok__law_draw T) (c.room.mono (by decide)) (sa_cons (b := true) (se_var 0) (sa_cons (b := true) (se_ix ix_seq os_ix (se_lst (sa_cons (b := false) (se_int) (sa_cons (b := false) (se_int) (sa_nil)))) (se_callTy (call_int1) os_int T.n_int (sa_cons (b := true) (se_var 1) (sa_nil))) (fun _ _ => rfl)) (sa_nil))))) (sa_nil)))))
    (ss_cons (ss_set 3 c.g (se_callB (call_len) os_len T.n_len (sa_cons (b := true) (se_var 2) (sa_nil))))
    (ss_cons (ss_set 4 c.g (se_call (ok__law_list T) (c.room.mono (by decide)) (sa_cons (b := true) (se_var 0) (sa_cons (b := false) (se_var 2) (sa_cons (b := true) (se_ix ix_seq os_ix (se_lst (sa_cons (b := false) (se_int) (sa_cons (b := false) (se_int) (sa_nil)))) (se_callTy (call_int1) os_int T.n_int (sa_cons (b := true) (se_var 1) (sa_nil))) (fun _ _ => rfl)) (sa_nil))))))
    (ss_cons (ss_set 5 c.g (se_callTy (call_list_of) os_list T.n_list (sa_cons (b := true) (se_var 4) (sa_nil))))
    (ss_cons (ss_set 6 c.g (se_call (ok__law_told T) (c.room.mono (by decide)) (sa_cons (b := false) (se_var 3) (sa_cons (b := false) (se_var 5) (sa_nil)))))
    (ss_cons (ss_par 7 8 false true c.g (se_var 6) (se_callTy (call_list_of) os_list T.n_list (sa_cons (b := true) (se_var 4) (sa_nil))))
    (ss_cons (ss_fgB [9, 10] (ss_for c.g (si_rng1 T.n_range (sa_cons (b := true) (se_int) (sa_nil))) (sg_name 9 c.g) (sss_fgE [9, 10] (ss_cons (ss_if (st_cmp op_isN cs_isN.os (se_var 6) (se_non) (nomark _)) (ss_one (ss_ret (se_bl))) (ss_nil))
    (ss_one (ss_if (st_cmp (op_neA c.room) cs_ne.os (se_var 6) (se_lst (sa_nil)) (nomark _)) (ss_cons (ss_set 10 c.g (se_ix ix_seq os_ix (se_var 6) (se_call (ok__law_draw T) (c.room.mono (by decide)) (sa_cons (b := true) (se_var 0) (sa_cons (b := true) (se_callB (call_len) os_len T.n_len (sa_cons (b := true) (se_var 6) (sa_nil))) (sa_nil)))) (fun _ _ => rfl)))
    (ss_cons (ss_set 8 c.g (se_op op_addA os_add (se_slL (se_var 8) (sp_none) (sp_some (se_var 10))) (se_slL (se_var 8) (sp_some (se_op op_addA os_add (se_var 10) (se_int))) (sp_none))))
    (ss_one (ss_set 6 c.g (se_call (ok__law_told T) (c.room.mono (by decide)) (sa_cons (b := false) (se_var 3) (sa_cons (b := false) (se_var 8) (sa_nil)))))))) (ss_nil)))))))
    (ss_one (ss_ret (se_and (se_cmp op_notN cs_notN.os (se_var 6) (se_non) (nomark _)) (se_and (se_cmp (op_eqA c.room) cs_eq.os (se_var 5) (se_var 4) (nomark _)) (se_one (se_cmp (op_eqA c.room) cs_eq.os (se_call (ok__law_told T) (c.room.mono (by decide)) (sa_cons (b := false) (se_var 3) (sa_cons (b := false) (se_var 5) (sa_nil)))) (se_var 7) (nomark _))))))))))))))
theorem ok__law_right (T : Txt K mg) : Def P w K mg base "_law_right" 9 F__law_right 1 [] :=
  def_ok T.f__law_right sc__law_right rfl (fun _ _ _ _ _ _ us hl => match us, hl with | [_], _ => rfl) (b__law_right T)
theorem sc__law_tap : FnScope ["_law_cell", "_law_turn", "_law_whole"] ["_law_cell", "_law_turn"] (defScope s__law_tap) := ⟨rfl, rfl, rfl, by decide +kernel, rfl, by decide +kernel, by decide +kernel⟩
theorem b__law_tap (T : Txt K mg) (f : Addr) (cdv : Value) (A : Around) (outer : List Env) (s : Shared) (H : Hp) (E : XK) (c : FnCx (cxOf (L2.CX P w) P w K mg base ["_law_cell", "_law_turn", "_law_whole"] "_law_tap" (defScope s__law_tap) f cdv A outer s H E) 0) :
  SSs (cxOf (L2.CX P w) P w K mg base ["_law_cell", "_law_turn", "_law_whole"] "_law_tap" (defScope s__law_tap) f cdv A outer s H E) (defBody s__law_tap) r__law_tap_1 :=
  ss_cons (ss_set 2 c.g (se_op op_addA os_add (se_op op_mulT os_mulT (se_int) (se_callB (call_abs) os_abs T.n_abs (sa_cons (b := true) (se_var 0) (sa_nil)))) (se_callTy (call_int1) os_int T.n_int (sa_cons (b := true) (se_cmp op_lt cs_int.os (se_var 0) (se_int) (nomark _)) (sa_nil)))))
    (ss_one (ss_ret (se_lst (sa_cons (b := false) (se_var 2) (sa_cons (b := false) (se_op op_addA os_add (se_op op_addA os_add (se_op op_mod os_mod (se_callTy (call_int1) os_int T.n_int (sa_cons (b := true) (se_var 2) (sa_nil))) (se_int)) (se_op op_mulT os_mulT (se_int) (se_var 1))) (se_int)) (sa_cons (b := false) (se_op op_addA os_add (se_op op_addA os_add (se_op op_mod os_mod (se_callTy (call_int1) os_int T.n_int (sa_cons (b := true) (se_var 2) (sa_nil))) (se_int)) (se_op op_mulT os_mulT (se_int) (se_var 1))) (se_int)) (sa_nil)))))))
theorem ok__law_tap (T : Txt K mg) : Def P w K mg base "_law_tap" 1 F__law_tap 2 [] :=
  def_ok T.f__law_tap sc__law_tap rfl (fun _ _ _ _ _ _ us hl => match us, hl with | [_, _], _ => rfl) (b__law_tap T)
theorem sc_law : FnScope ["_law_script", "_law_cells_here", "_law_k"] ["_law_script"] (defScope s_law) := ⟨rfl, rfl, rfl, by decide +kernel, rfl, by decide +kernel, by decide +kernel⟩
theorem b_law (T : Txt K mg) (f : Addr) (cdv : Value) (A : Around) (outer : List Env) (s : Shared) (H : Hp) (E : XK) (c : FnCx (cxOf (L2.CX P w) P w K mg base ["_law_script", "_law_cells_here", "_law_k"] "law" (defScope s_law) f cdv A outer s H E) 9) :
  SSs (cxOf (L2.CX P w) P w K mg base ["_law_script", "_law_cells_here", "_law_k"] "law" (defScope s_law) f cdv A outer s H E) (defBody s_law) r_law_1 :=
  ss_cons (ss_set 1 c.g (se_call (ok__law_cells T) (c.room.mono (by decide)) (sa_cons (b := false) (se_var 0) (sa_cons (b := true) (se_int) (sa_nil)))))
    (ss_one (ss_ret (se_cmp (op_eqA c.room) cs_eq.os (se_lc [("_law_k", 2)] c.g (si_rng1 T.n_range (sa_cons (b := true) (se_callB (call_len) os_len T.n_len (sa_cons (b := true) (se_var 1) (sa_nil))) (sa_nil))) (by kernel_rfl) (fun s1 H1 C1 cl1 fp1 => sg_name 2 (cxg_blk c.g s1 H1 _ _ fp1)) (fun s1 H1 C1 cl1 fp1 => sts_one (st_not (st_val (se_call (ok__law_right T) (c.room.mono (by decide)) (sa_cons (b := true) (se_call (ok__law_tap T) (c.room.mono (by decide)) (sa_cons (b := true) (se_ix ix_seq os_ix (se_var 1) (se_var 2) (fun _ _ => rfl)) (sa_cons (b := false) (se_var 2) (sa_nil)))) (sa_nil)))))) (fun s1 H1 C1 cl1 fp1 => se_var 2)) (se_lst (sa_nil)) (nomark _))))
theorem ok_law (T : Txt K mg) : Def P w K mg base "law" 10 F_law 1 [] :=
  def_ok T.f_law sc_law rfl (fun _ _ _ _ _ _ us hl => match us, hl with | [_], _ => rfl) (b_law T)
end
end Law_strictranks_k61_whole_orders_or_barring
end
section
set_option Elab.async false
set_option linter.all false
set_option maxRecDepth 100000

set_option maxHeartbeats 0
namespace Law_strictranks_k61_whole_orders_or_barring
open PySem PySem.Spec PyProof.Rows L2 L2.VL
theorem txt {K : PySem.W.Frag} {h : Heap} {mg : Str → Option Value} (X : K.In h) (G : h.Ns mainGlobals mg) (c : He.SaysD fa fn K) (cx : (fc.all fun f => f.ok K) = true) : Txt K mg where
  n_abs := He.free_ok X G (c.fact 48 (f := .free "abs") rfl)
  n_all := He.free_ok X G (c.fact 49 (f := .free "all") rfl)
  n_bool := He.free_ok X G (c.fact 50 (f := .free "bool") rfl)
  n_enumerate := He.free_ok X G (c.fact 51 (f := .free "enumerate") rfl)
  n_int := He.free_ok X G (c.fact 52 (f := .free "int") rfl)
  n_isinstance := He.free_ok X G (c.fact 53 (f := .free "isinstance") rfl)
  n_len := He.free_ok X G (c.fact 54 (f := .free "len") rfl)
  n_list := He.free_ok X G (c.fact 55 (f := .free "list") rfl)
  n_max := He.free_ok X G (c.fact 56 (f := .free "max") rfl)
  n_min := He.free_ok X G (c.fact 57 (f := .free "min") rfl)
  n_range := He.free_ok X G (c.fact 58 (f := .free "range") rfl)
  n_sorted := He.free_ok X G (c.fact 59 (f := .free "sorted") rfl)
  n_str := He.free_ok X G (c.fact 60 (f := .free "str") rfl)
  n_sum := He.free_ok X G (c.fact 61 (f := .free "sum") rfl)
  n_zip := He.free_ok X G (c.fact 62 (f := .free "zip") rfl)
  c_AGAINST := He.str_ok X G (c.fact 63 (f := .str "AGAINST" "L") rfl)
  c_FOR := He.str_ok X G (c.fact 64 (f := .str "FOR" "W") rfl)
  c_MOST_FACTS := He.int_ok X G (c.fact 65 (f := .int "MOST_FACTS" 200) rfl)
  c_MOST_RULES := He.int_ok X G (c.fact 66 (f := .int "MOST_RULES" 60) rfl)
  c_SILENT := He.str_ok X G (c.fact 67 (f := .str "SILENT" ".") rfl)
  f__law_cells := ⟨_, (c.def_ 0 (d := d__law_cells) rfl).imp fun fd F => ⟨He.glo_ok X G (c.fact 0 (f := .glo "_law_cells") rfl), F⟩⟩
  f__law_draw := ⟨_, (c.def_ 1 (d := d__law_draw) rfl).imp fun fd F => ⟨He.glo_ok X G (c.fact 1 (f := .glo "_law_draw") rfl), F⟩⟩
  f__law_order := ⟨_, (c.def_ 2 (d := d__law_order) rfl).imp fun fd F => ⟨He.glo_ok X G (c.fact 2 (f := .glo "_law_order") rfl), F⟩⟩
  f__law_fact := ⟨_, (c.def_ 3 (d := d__law_fact) rfl).imp fun fd F => ⟨He.glo_ok X G (c.fact 3 (f := .glo "_law_fact") rfl), F⟩⟩
  f__law_first := ⟨_, (c.def_ 4 (d := d__law_first) rfl).imp fun fd F => ⟨He.glo_ok X G (c.fact 4 (f := .glo "_law_first") rfl), F⟩⟩
  f__law_turned := ⟨_, (c.def_ 5 (d := d__law_turned) rfl).imp fun fd F => ⟨He.glo_ok X G (c.fact 5 (f := .glo "_law_turned") rfl), F⟩⟩
  f__law_facts := ⟨_, (c.def_ 6 (d := d__law_facts) rfl).imp fun fd F => ⟨He.glo_ok X G (c.fact 6 (f := .glo "_law_facts") rfl), F⟩⟩
  f__law_put_in := ⟨_, (c.def_ 7 (d := d__law_put_in) rfl).imp fun fd F => ⟨He.glo_ok X G (c.fact 7 (f := .glo "_law_put_in") rfl), F⟩⟩
  f__law_ring := ⟨_, (c.def_ 8 (d := d__law_ring) rfl).imp fun fd F => ⟨He.glo_ok X G (c.fact 8 (f := .glo "_law_ring") rfl), F⟩⟩
  f__law_list := ⟨_, (c.def_ 9 (d := d__law_list) rfl).imp fun fd F => ⟨He.glo_ok X G (c.fact 9 (f := .glo "_law_list") rfl), F⟩⟩
  f_is_integer := ⟨_, (c.def_ 10 (d := d_is_integer) rfl).imp fun fd F => ⟨He.glo_ok X G (c.fact 10 (f := .glo "is_integer") rfl), F⟩⟩
  f_need_count := ⟨_, (c.def_ 11 (d := d_need_count) rfl).imp fun fd F => ⟨He.glo_ok X G (c.fact 11 (f := .glo "need_count") rfl), F⟩⟩
  f_fits_fact := ⟨_, (c.def_ 12 (d := d_fits_fact) rfl).imp fun fd F => ⟨He.glo_ok X G (c.fact 12 (f := .glo "fits_fact") rfl), F⟩⟩
  f_need_facts := ⟨_, (c.def_ 13 (d := d_need_facts) rfl).imp fun fd F => ⟨He.glo_ok X G (c.fact 13 (f := .glo "need_facts") rfl), F⟩⟩
  f_need_count_and_facts := ⟨_, (c.def_ 14 (d := d_need_count_and_facts) rfl).imp fun fd F => ⟨He.glo_ok X G (c.fact 14 (f := .glo "need_count_and_facts") rfl), F⟩⟩
  f_rules_with := ⟨_, (c.def_ 15 (d := d_rules_with) rfl).imp fun fd F => ⟨He.glo_ok X G (c.fact 15 (f := .glo "rules_with") rfl), F⟩⟩
  f_mask_of := ⟨_, (c.def_ 16 (d := d_mask_of) rfl).imp fun fd F => ⟨He.glo_ok X G (c.fact 16 (f := .glo "mask_of") rfl), F⟩⟩
  f_layered := ⟨_, (c.def_ 17 (d := d_layered) rfl).imp fun fd F => ⟨He.glo_ok X G (c.fact 17 (f := .glo "layered") rfl), F⟩⟩
  f_is_barred := ⟨_, (c.def_ 18 (d := d_is_barred) rfl).imp fun fd F => ⟨He.glo_ok X G (c.fact 18 (f := .glo "is_barred") rfl), F⟩⟩
  f_lacking_rule := ⟨_, (c.def_ 19 (d := d_lacking_rule) rfl).imp fun fd F => ⟨He.glo_ok X G (c.fact 19 (f := .glo "lacking_rule") rfl), F⟩⟩
  f_covering := ⟨_, (c.def_ 20 (d := d_covering) rfl).imp fun fd F => ⟨He.glo_ok X G (c.fact 20 (f := .glo "covering") rfl), F⟩⟩
  f_least_barring := ⟨_, (c.def_ 21 (d := d_least_barring) rfl).imp fun fd F => ⟨He.glo_ok X G (c.fact 21 (f := .glo "least_barring") rfl), F⟩⟩
  f_need_together := ⟨_, (c.def_ 22 (d := d_need_together) rfl).imp fun fd F => ⟨He.glo_ok X G (c.fact 22 (f := .glo "need_together") rfl), F⟩⟩
  f_masks_of := ⟨_, (c.def_ 23 (d := d_masks_of) rfl).imp fun fd F => ⟨He.glo_ok X G (c.fact 23 (f := .glo "masks_of") rfl), F⟩⟩
  f_can_stand := ⟨_, (c.def_ 24 (d := d_can_stand) rfl).imp fun fd F => ⟨He.glo_ok X G (c.fact 24 (f := .glo "can_stand") rfl), F⟩⟩
  f_placeable := ⟨_, (c.def_ 25 (d := d_placeable) rfl).imp fun fd F => ⟨He.glo_ok X G (c.fact 25 (f := .glo "placeable") rfl), F⟩⟩
  f_least_order := ⟨_, (c.def_ 26 (d := d_least_order) rfl).imp fun fd F => ⟨He.glo_ok X G (c.fact 26 (f := .glo "least_order") rfl), F⟩⟩
  f_order_of := ⟨_, (c.def_ 27 (d := d_order_of) rfl).imp fun fd F => ⟨He.glo_ok X G (c.fact 27 (f := .glo "order_of") rfl), F⟩⟩
  f_layers_of := ⟨_, (c.def_ 28 (d := d_layers_of) rfl).imp fun fd F => ⟨He.glo_ok X G (c.fact 28 (f := .glo "layers_of") rfl), F⟩⟩
  f__law_asked := ⟨_, (c.def_ 29 (d := d__law_asked) rfl).imp fun fd F => ⟨He.glo_ok X G (c.fact 29 (f := .glo "_law_asked") rfl), F⟩⟩
  f_barring_set := ⟨_, (c.def_ 30 (d := d_barring_set) rfl).imp fun fd F => ⟨He.glo_ok X G (c.fact 30 (f := .glo "barring_set") rfl), F⟩⟩
  f_need_layers := ⟨_, (c.def_ 31 (d := d_need_layers) rfl).imp fun fd F => ⟨He.glo_ok X G (c.fact 31 (f := .glo "need_layers") rfl), F⟩⟩
  f_holds_by_layers := ⟨_, (c.def_ 32 (d := d_holds_by_layers) rfl).imp fun fd F => ⟨He.glo_ok X G (c.fact 32 (f := .glo "holds_by_layers") rfl), F⟩⟩
  f_hold_in_layers := ⟨_, (c.def_ 33 (d := d_hold_in_layers) rfl).imp fun fd F => ⟨He.glo_ok X G (c.fact 33 (f := .glo "hold_in_layers") rfl), F⟩⟩
  f__law_is_order := ⟨_, (c.def_ 34 (d := d__law_is_order) rfl).imp fun fd F => ⟨He.glo_ok X G (c.fact 34 (f := .glo "_law_is_order") rfl), F⟩⟩
  f_by_layers := ⟨_, (c.def_ 35 (d := d_by_layers) rfl).imp fun fd F => ⟨He.glo_ok X G (c.fact 35 (f := .glo "by_layers") rfl), F⟩⟩
  f_order_by_layers := ⟨_, (c.def_ 36 (d := d_order_by_layers) rfl).imp fun fd F => ⟨He.glo_ok X G (c.fact 36 (f := .glo "order_by_layers") rfl), F⟩⟩
  f__law_good_layers := ⟨_, (c.def_ 37 (d := d__law_good_layers) rfl).imp fun fd F => ⟨He.glo_ok X G (c.fact 37 (f := .glo "_law_good_layers") rfl), F⟩⟩
  f__law_indices := ⟨_, (c.def_ 38 (d := d__law_indices) rfl).imp fun fd F => ⟨He.glo_ok X G (c.fact 38 (f := .glo "_law_indices") rfl), F⟩⟩
  f__law_bars := ⟨_, (c.def_ 39 (d := d__law_bars) rfl).imp fun fd F => ⟨He.glo_ok X G (c.fact 39 (f := .glo "_law_bars") rfl), F⟩⟩
  f_are_indices := ⟨_, (c.def_ 40 (d := d_are_indices) rfl).imp fun fd F => ⟨He.glo_ok X G (c.fact 40 (f := .glo "are_indices") rfl), F⟩⟩
  f_bars_all := ⟨_, (c.def_ 41 (d := d_bars_all) rfl).imp fun fd F => ⟨He.glo_ok X G (c.fact 41 (f := .glo "bars_all") rfl), F⟩⟩
  f_is_barring_set := ⟨_, (c.def_ 42 (d := d_is_barring_set) rfl).imp fun fd F => ⟨He.glo_ok X G (c.fact 42 (f := .glo "is_barring_set") rfl), F⟩⟩
  f__law_bad := ⟨_, (c.def_ 43 (d := d__law_bad) rfl).imp fun fd F => ⟨He.glo_ok X G (c.fact 43 (f := .glo "_law_bad") rfl), F⟩⟩
  f__law_told := ⟨_, (c.def_ 44 (d := d__law_told) rfl).imp fun fd F => ⟨He.glo_ok X G (c.fact 44 (f := .glo "_law_told") rfl), F⟩⟩
  f__law_right := ⟨_, (c.def_ 45 (d := d__law_right) rfl).imp fun fd F => ⟨He.glo_ok X G (c.fact 45 (f := .glo "_law_right") rfl), F⟩⟩
  f__law_tap := ⟨_, (c.def_ 46 (d := d__law_tap) rfl).imp fun fd F => ⟨He.glo_ok X G (c.fact 46 (f := .glo "_law_tap") rfl), F⟩⟩
  f_law := ⟨_, (c.def_ 47 (d := d_law) rfl).imp fun fd F => ⟨He.glo_ok X G (c.fact 47 (f := .glo "law") rfl), F⟩⟩
  rk_RankError := rk_ok (He.glo_ok X G (c.fact 69 (f := .glo "RankError") rfl)) (fc_at cx 0 (f := .rk "RankError"))
  i_Barred := ini_ok (He.glo_ok X G (c.fact 68 (f := .glo "Barred") rfl)) (fc_at cx 1 (f := .ini "Barred" "indices")) (c.def_ 48 (d := d_init_Barred) rfl)
  m_Barred_Barred := He.exm_ok (c.fact 70 (f := .exm "Barred" "Barred" true) rfl)
end Law_strictranks_k61_whole_orders_or_barring
open PySem PySem.W PySem.Calls PyProof.Rows
theorem Law_strictranks_k61_whole_orders_or_barring.holds (hspec : ∀ ns : List Int, ns.length ≤ 63 → L2.VL.FRes.post (Law_strictranks_k61_whole_orders_or_barring.F_law [L2.VL.shA (.lst (ns.map fun n => .con (.int n)))]) (fun d _ _ => d = .bl true) fun _ _ => False) : PySem.Challenge.rw_strictranks_k61_whole_orders_or_barring.Holds := by
  w_on; o_law
  refine HandSHeadRun.head_any (r := OpenLaw.row PySem.Challenge.rw_strictranks_k61_whole_orders_or_barring) (q := view (OpenLaw.row PySem.Challenge.rw_strictranks_k61_whole_orders_or_barring).prog [61]) (H := Law_strictranks_k61_whole_orders_or_barring.hk) (ob := Law_strictranks_k61_whole_orders_or_barring.ob) (M := 2860) (loose := Law_strictranks_k61_whole_orders_or_barring.loose) (d := HandSHeadRun.topDef (OpenLaw.row PySem.Challenge.rw_strictranks_k61_whole_orders_or_barring).prog 61) (kwd := []) Law_strictranks_k61_whole_orders_or_barring.ob_eq
    (by kernel_rfl) (fun s => by kernel_rfl) Law_strictranks_k61_whole_orders_or_barring.run (by kernel_rfl) (by kernel_rfl) (by kernel_rfl) (by rfl) (by first | assumption | decide +kernel) (by decide +kernel) ⟨rfl, rfl, rfl, rfl, rfl, by decide +kernel⟩ ?hw ?hc
  case hw => w_witness2
  case hc =>
    refine L2.walk_ofE (l := PySem.Challenge.rw_strictranks_k61_whole_orders_or_barring) (n := 63) (k := 10) (x := "_law_script") (CX := L2.CX0) rfl (by decide) (by kernel_rfl) ⟨rfl, by decide, by decide⟩ ?F (fun _ _ _ _ z => z)
    intro w mg fa h Y G hmg0
    obtain ⟨K, KX, c, cx⟩ := Y
    have hmg : mg ("law" : PySem.Str) = some (.ref fa) := by
      have e : (HandSHeadRun.topDef (OpenLaw.row PySem.Challenge.rw_strictranks_k61_whole_orders_or_barring).prog 61).name = ("law" : PySem.Str) := by kernel_rfl
      rw [← e]
      exact hmg0
    have T := Law_strictranks_k61_whole_orders_or_barring.txt KX G c cx
    obtain ⟨f, fd, hm, F⟩ := T.f_law.ex
    rw [hmg] at hm
    cases hm
    have b := L2.FunD.bindsA (ps := ["_law_script"]) F fun _ _ _ _ _ _ us hl => match us, hl with | [_], _ => rfl
    refine ⟨K, fd, fun vs H Q _ => L2.VL.spF K Law_strictranks_k61_whole_orders_or_barring.F_law 1 vs H Q L2.E0, KX, fun s v => b s [v] rfl, fun H a ns hl _ hS => L2.VL.law_sp hS (hspec ns hl), fun base _ _ => L2.VL.fnok_0 ?_⟩
    exact L2.VL.fn_ok F Law_strictranks_k61_whole_orders_or_barring.sc_law (fun cdv A outer s H E c => Law_strictranks_k61_whole_orders_or_barring.b_law T fa cdv A outer s H E c)
end
set_option maxRecDepth 100000
theorem PySem.Challenge.cw_strictranks_k61_whole_orders_or_barring_holds : PySem.Challenge.rw_strictranks_k61_whole_orders_or_barring.Holds := by
  exact Law_strictranks_k61_whole_orders_or_barring.holds Law_strictranks_k61_whole_orders_or_barring.law_spec'
