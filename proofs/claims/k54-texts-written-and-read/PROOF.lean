import PyProof.Rows.All
import PySem.Challenge.RW_strictranks_k54_texts_written_and_read
import HandS.HeadHook4
import HandS.EndTab
import Wide.All
import OpenK.AllK
import Wide.FinOn
import KE.KStateDown
import HandS.ForMost
import HandS.Exc
import HandS.TryOnly
import HandS.ExcOwn
import HandS.Wide
import HandS.IsInst
import HandS.Defaults
import HandS.WordsExc
import HandS.HeadHook1
import HandS.HeadHook2
import HandS.Lambda
import KE.KDictKeyed
import HandS.CallSlots
import HandS.SortInts
import HandS.Text
import HandS.Head0
import HandS.Head1
import HandS.Head2
import HandS.HeadEnd
import HandS.Conv
import HandS.Style
import HandS.More
import HandS.TupLe
import HandS.SortOrd
import HandS.SortRule
import PyProof.Draws
import PyProof.EnumMake
import HandS.SetFor
import PyProof.SetRoads
import PyProof.Rows.SetFrom
import PyProof.StrOps2
import HandS.SetBool
import HandS.Strs
import KE.DataCmp
import KE.KStar
import HandS.Star
import HandS.ExcField
import HandS.ExcInit
import KE.KIsAll
import KE.KDictSum
import HandS.ExcValue
import HandS.RaiseMore
import HandS.Dict
import PyProof.ReprReads
import PyProof.ReprRoads
import HandS.Replace
import HandS.ReplaceLit
import HandS.ReplaceDef
import KE.DataMinMax
import PyProof.Claim2Refuses
import PyProof.NeKinds
import KE.KIntText
import HandS.Deep
import HandS.ExcIs
import KE.KExcIs
import PyProof.CompFree
import HandS.DictComp
import KE.SortData
import KE.KDictDisplayH
import KE.KDictWalk
import KE.GoesEnum
import KE.GoesMore
import HandS.Zip
import PyProof.WalksMore
import PyProof.CollectIter
import HandS.HeadHook3
import HandS.TupSets
import KE.KeyNested
import KE.KSortTup
import KE.KDictCopyH
import PyProof.ReprLen
import PyProof.FitsInt
import PyProof.StrLawsRepr
import PyProof.ReprText
import HandS.ReplaceList
namespace L2.VL
end L2.VL
namespace L2.TX
end L2.TX
section
set_option Elab.async false
set_option linter.all false
set_option maxRecDepth 100000
set_option maxHeartbeats 4000000
namespace Law_strictranks_k54_texts_written_and_read
open PySem PySem.Spec PyProof.Rows L2 L2.VL L2.TX
def topS (i : Nat) : Stmt := PySem.Challenge.pw_strictranks_k54_texts_written_and_read.main.body.getD i (.Pass ⟨0, 0, 0, 0⟩)
abbrev s__law_purse : Stmt := topS 40
abbrev s__law_coin : Stmt := topS 41
abbrev s__law_shuffled : Stmt := topS 42
abbrev s__law_parts : Stmt := topS 43
abbrev s__law_tableau : Stmt := topS 44
abbrev s_is_integer : Stmt := topS 10
abbrev s_is_order : Stmt := topS 12
abbrev s_need_order : Stmt := topS 13
abbrev s_show_order : Stmt := topS 27
abbrev s_need_count : Stmt := topS 11
abbrev s_fits_part : Stmt := topS 14
abbrev s_are_parts : Stmt := topS 26
abbrev s_part_text : Stmt := topS 28
abbrev s_parts_text : Stmt := topS 29
abbrev s_show_parts : Stmt := topS 30
abbrev s_is_row : Stmt := topS 15
abbrev s_is_tableau : Stmt := topS 18
abbrev s_need_tableau : Stmt := topS 19
abbrev s_show_tableau : Stmt := topS 31
abbrev s_need_string : Stmt := topS 32
abbrev s_number_in : Stmt := topS 24
abbrev s_numbers_in : Stmt := topS 25
abbrev s_need_pieces : Stmt := topS 33
abbrev s_read_order : Stmt := topS 34
abbrev s_part_in : Stmt := topS 35
abbrev s_read_parts : Stmt := topS 36
abbrev s_row_in : Stmt := topS 37
abbrev s_read_tableau : Stmt := topS 38
abbrev s__law_right : Stmt := topS 45
abbrev s_law : Stmt := topS 46
end Law_strictranks_k54_texts_written_and_read
end
section
set_option Elab.async false
set_option linter.all false
set_option maxRecDepth 100000
set_option maxHeartbeats 0
namespace Law_strictranks_k54_texts_written_and_read
open PySem PySem.Spec PyProof.Rows L2 L2.VL L2.TX
def d__law_purse : He.DefD := ⟨("_law_purse", none), "_law_purse", "_law_purse", defArgs s__law_purse, defBody s__law_purse, defScope s__law_purse, [], []⟩
def d__law_coin : He.DefD := ⟨("_law_coin", none), "_law_coin", "_law_coin", defArgs s__law_coin, defBody s__law_coin, defScope s__law_coin, [], []⟩
def d__law_shuffled : He.DefD := ⟨("_law_shuffled", none), "_law_shuffled", "_law_shuffled", defArgs s__law_shuffled, defBody s__law_shuffled, defScope s__law_shuffled, [], []⟩
def d__law_parts : He.DefD := ⟨("_law_parts", none), "_law_parts", "_law_parts", defArgs s__law_parts, defBody s__law_parts, defScope s__law_parts, [], []⟩
def d__law_tableau : He.DefD := ⟨("_law_tableau", none), "_law_tableau", "_law_tableau", defArgs s__law_tableau, defBody s__law_tableau, defScope s__law_tableau, [], []⟩
def d_is_integer : He.DefD := ⟨("is_integer", none), "is_integer", "is_integer", defArgs s_is_integer, defBody s_is_integer, defScope s_is_integer, [.non], []⟩
def d_is_order : He.DefD := ⟨("is_order", none), "is_order", "is_order", defArgs s_is_order, defBody s_is_order, defScope s_is_order, [], []⟩
def d_need_order : He.DefD := ⟨("need_order", none), "need_order", "need_order", defArgs s_need_order, defBody s_need_order, defScope s_need_order, [.non], []⟩
def d_show_order : He.DefD := ⟨("show_order", none), "show_order", "show_order", defArgs s_show_order, defBody s_show_order, defScope s_show_order, [], []⟩
def d_need_count : He.DefD := ⟨("need_count", none), "need_count", "need_count", defArgs s_need_count, defBody s_need_count, defScope s_need_count, [.int 60], []⟩
def d_fits_part : He.DefD := ⟨("fits_part", none), "fits_part", "fits_part", defArgs s_fits_part, defBody s_fits_part, defScope s_fits_part, [], []⟩
def d_are_parts : He.DefD := ⟨("are_parts", none), "are_parts", "are_parts", defArgs s_are_parts, defBody s_are_parts, defScope s_are_parts, [], []⟩
def d_part_text : He.DefD := ⟨("part_text", none), "part_text", "part_text", defArgs s_part_text, defBody s_part_text, defScope s_part_text, [], []⟩
def d_parts_text : He.DefD := ⟨("parts_text", none), "parts_text", "parts_text", defArgs s_parts_text, defBody s_parts_text, defScope s_parts_text, [], []⟩
def d_show_parts : He.DefD := ⟨("show_parts", none), "show_parts", "show_parts", defArgs s_show_parts, defBody s_show_parts, defScope s_show_parts, [], []⟩
def d_is_row : He.DefD := ⟨("is_row", none), "is_row", "is_row", defArgs s_is_row, defBody s_is_row, defScope s_is_row, [], []⟩
def d_is_tableau : He.DefD := ⟨("is_tableau", none), "is_tableau", "is_tableau", defArgs s_is_tableau, defBody s_is_tableau, defScope s_is_tableau, [], []⟩
def d_need_tableau : He.DefD := ⟨("need_tableau", none), "need_tableau", "need_tableau", defArgs s_need_tableau, defBody s_need_tableau, defScope s_need_tableau, [.int 60], []⟩
def d_show_tableau : He.DefD := ⟨("show_tableau", none), "show_tableau", "show_tableau", defArgs s_show_tableau, defBody s_show_tableau, defScope s_show_tableau, [], []⟩
def d_need_string : He.DefD := ⟨("need_string", none), "need_string", "need_string", defArgs s_need_string, defBody s_need_string, defScope s_need_string, [], []⟩
def d_number_in : He.DefD := ⟨("number_in", none), "number_in", "number_in", defArgs s_number_in, defBody s_number_in, defScope s_number_in, [], []⟩
def d_numbers_in : He.DefD := ⟨("numbers_in", none), "numbers_in", "numbers_in", defArgs s_numbers_in, defBody s_numbers_in, defScope s_numbers_in, [], []⟩
def d_need_pieces : He.DefD := ⟨("need_pieces", none), "need_pieces", "need_pieces", defArgs s_need_pieces, defBody s_need_pieces, defScope s_need_pieces, [], []⟩
def d_read_order : He.DefD := ⟨("read_order", none), "read_order", "read_order", defArgs s_read_order, defBody s_read_order, defScope s_read_order, [], []⟩
def d_part_in : He.DefD := ⟨("part_in", none), "part_in", "part_in", defArgs s_part_in, defBody s_part_in, defScope s_part_in, [], []⟩
def d_read_parts : He.DefD := ⟨("read_parts", none), "read_parts", "read_parts", defArgs s_read_parts, defBody s_read_parts, defScope s_read_parts, [], []⟩
def d_row_in : He.DefD := ⟨("row_in", none), "row_in", "row_in", defArgs s_row_in, defBody s_row_in, defScope s_row_in, [], []⟩
def d_read_tableau : He.DefD := ⟨("read_tableau", none), "read_tableau", "read_tableau", defArgs s_read_tableau, defBody s_read_tableau, defScope s_read_tableau, [], []⟩
def d__law_right : He.DefD := ⟨("_law_right", none), "_law_right", "_law_right", defArgs s__law_right, defBody s__law_right, defScope s__law_right, [], []⟩
def d_law : He.DefD := ⟨("law", none), "law", "law", defArgs s_law, defBody s_law, defScope s_law, [], []⟩
def fn : List He.DefD := [d__law_purse, d__law_coin, d__law_shuffled, d__law_parts, d__law_tableau, d_is_integer, d_is_order, d_need_order, d_show_order, d_need_count, d_fits_part, d_are_parts, d_part_text, d_parts_text, d_show_parts, d_is_row, d_is_tableau, d_need_tableau, d_show_tableau, d_need_string, d_number_in, d_numbers_in, d_need_pieces, d_read_order, d_part_in, d_read_parts, d_row_in, d_read_tableau, d__law_right, d_law]
def fa : List He.Fa := [.glo "_law_purse", .glo "_law_coin", .glo "_law_shuffled", .glo "_law_parts", .glo "_law_tableau", .glo "is_integer", .glo "is_order", .glo "need_order", .glo "show_order", .glo "need_count", .glo "fits_part", .glo "are_parts", .glo "part_text", .glo "parts_text", .glo "show_parts", .glo "is_row", .glo "is_tableau", .glo "need_tableau", .glo "show_tableau", .glo "need_string", .glo "number_in", .glo "numbers_in", .glo "need_pieces", .glo "read_order", .glo "part_in", .glo "read_parts", .glo "row_in", .glo "read_tableau", .glo "_law_right", .glo "law"] ++ [.free "abs", .free "all", .free "bool", .free "int", .free "isinstance", .free "len", .free "list", .free "max", .free "min", .free "range", .free "repr", .free "set", .free "sorted", .free "str", .free "tuple", .free "zip", .str "DIGITS" "0123456789", .int "MOST_CANDIDATES" 30, .int "MOST_DIGITS" 40, .int "MOST_FAULTS" 1000000000000000000000000000000, .int "MOST_PARTS" 400, .int "MOST_RULES" 60]
def loose : List Str := [("RankError" : Str), ("InvalidText" : Str), ("InvalidCount" : Str), ("InvalidPart" : Str), ("InvalidOrder" : Str), ("InvalidTableau" : Str), ("MOST_RULES" : Str), ("MOST_FAULTS" : Str), ("is_integer" : Str), ("need_count" : Str), ("is_order" : Str), ("need_order" : Str), ("fits_part" : Str), ("is_row" : Str), ("MOST_CANDIDATES" : Str), ("is_tableau" : Str), ("need_tableau" : Str), ("DIGITS" : Str), ("MOST_DIGITS" : Str), ("MOST_PARTS" : Str)] ++ [("number_in" : Str), ("numbers_in" : Str), ("are_parts" : Str), ("show_order" : Str), ("part_text" : Str), ("parts_text" : Str), ("show_parts" : Str), ("show_tableau" : Str), ("need_string" : Str), ("need_pieces" : Str), ("read_order" : Str), ("part_in" : Str), ("read_parts" : Str), ("row_in" : Str), ("read_tableau" : Str), ("_law_purse" : Str), ("_law_coin" : Str), ("_law_shuffled" : Str), ("_law_parts" : Str), ("_law_tableau" : Str)] ++ [("_law_right" : Str)]
abbrev R : PySem.W.OpenRow := PySem.W.OpenLaw.row PySem.Challenge.rw_strictranks_k54_texts_written_and_read
abbrev hk : PySem.W.Hook := He.hookD 4 fa fn
def ob (s : PySem.W.SharedT) : He.AlD := He.obsDG 4 fa fn (HandSHeadRun.getT s)
theorem ob_eq (s : PySem.W.SharedT) : ob s = hk.obs s.abs := He.obsDG_eq (HandSHeadRun.getT_eq s)
theorem run (w : World) : HandSHeadRun.RunEq R (PySem.W.view R.prog [46]) hk ob 3112 loose w := by
  intro os
  kernel_rfl
end Law_strictranks_k54_texts_written_and_read
end
section
set_option Elab.async false
set_option linter.all false
namespace L2.VL
open PySem
def lamN : List Str := []
/-- the exceptions' classes whose field is a list of its own -/
def ownX : List Str := []
end L2.VL
end
section
set_option Elab.async false
set_option linter.all false
set_option maxRecDepth 100000
namespace L2.VL
open PySem PySem.Spec PyProof.Rows
inductive D where
  | con (v : V)
  | lst (xs : List D)
  | tup (xs : List D)
  | dic (kvs : List (Key × D))
  | dit (kvs : List (List Key × D))
  /-- a list whose items are lists of their own (or tuples with one) -/
  | own (xs : List D)
  /-- a caught exception of the own class c -/
  | exv (c : Str)
  /-- the data d, all objects of whose tree have one owner -/
  | tre (d : D)
  /-- the function object at f, made by a lambda, with the values that it took along and their data -/
  | fnv (f : Addr) (us : List V) (xs : List D)
  /-- a dict whose keys are whole numbers and tuples of these, nested -/
  | dix (kvs : List (NestedKey × V))
abbrev D.int (i : Int) : D := .con (.int i)
abbrev D.str (s : Str) : D := .con (.str s)
abbrev D.bl (b : Bool) : D := .con (.bl b)
abbrev D.non : D := .con .non
/-- a list, a tuple of the written part -/
def KL (K : PySem.W.Frag) (a : Addr) (vs : List V) : Prop :=
  ∃ (o : Obj) (its : Array Value) (n : Nat), K.lookup a = some o ∧ o.cls = .type "list" ∧ o.dict = none ∧ o.data = .seq its n ∧ its.size ≤ sizeLine ∧ Vals vs its.toList
def KT (K : PySem.W.Frag) (a : Addr) (vs : List V) : Prop :=
  ∃ (o : Obj) (its : Array Value) (n : Nat), K.lookup a = some o ∧ o.cls = .type "tuple" ∧ o.data = .seq its n ∧ its.size ≤ sizeLine ∧ Vals vs its.toList
mutual
/-- whole numbers, and tuples of these -/
def flI : NestedKey → Bool
  | .num _ => true
  | .tup ks => flIs ks
  | _ => false
def flIs : List NestedKey → Bool
  | [] => true
  | k :: ks => flI k && flIs ks
end
mutual
/-- such a key as data -/
def nkD : NestedKey → D
  | .num i => .con (.int i)
  | .tup ks => .tup (nkDs ks)
  | _ => .con .non
def nkDs : List NestedKey → List D
  | [] => []
  | k :: ks => nkD k :: nkDs ks
end
/-- the dict at a: its keys' tuples at the addresses told, its values -/
def DixR (h : Heap) (a : Addr) (xs : List (NestedKey × Addr × V)) : Prop := ∃ (w : World) (o : Obj) (es : Array DictEntry) (ep : Nat) (ys : List (NestedKey × Addr × Value)), (a == sysModules) = false ∧ h.get? a = some o ∧ o.ExactDict ∧ o.data = .dict es ep ∧
  es.toList = ys.map (fun x => (⟨x.1.hash w, .ref x.2.1, x.2.2⟩ : DictEntry)) ∧ Paired (fun (x : NestedKey × Addr × V) (y : NestedKey × Addr × Value) => x.1 = y.1 ∧ x.2.1 = y.2.1 ∧ RelV x.2.2 y.2.2) xs ys ∧ (xs.map (·.1)).Nodup ∧ xs.length ≤ sizeLine ∧ ∀ x ∈ xs, flI x.1 = true ∧ x.1.depth ≤ 8
/-- an exception's object: its class, its dict -/
def exHO (a : Addr) (cls : Value) (d : Option Addr) : HO := .ext fun h => ∃ oe vs, h.get? a = some oe ∧ Zc cls d oe ∧ oe.data = .fields vs
mutual
/-- the value v is the data d; L: the addresses that it may not hold -/
inductive Rep (K : PySem.W.Frag) (H : Hp) (L : Addr → Prop) : V → D → Prop
  | con (v : V) : Rep K H L v (.con v)
  | obj {a : Addr} {ho : HO} {d : D} : ¬ L a → Rd H a ho → Cont K H L ho d → Rep K H L (.ref a) d
  | kl {a : Addr} {vs : List V} {ds : List D} : KL K a vs → Reps K H L vs ds → Rep K H L (.ref a) (.lst ds)
  | kt {a : Addr} {vs : List V} {ds : List D} : KT K a vs → Reps K H L vs ds → Rep K H L (.ref a) (.tup ds)
  | ow {v : V} {ds : List D} : Rep K H L v (.lst ds) → Rep K H L v (.own ds)
  | exv {a : Addr} {c : Str} {d : Option Addr} : ¬ L a → H a = some (exHO a (.ref (He.ga K c)) d) → (∀ e, d = some e → ¬ L e ∧ ∃ ho, H e = some ho) → Rep K H L (.ref a) (.exv c)
  | fnv {f : Addr} {us : List V} {ds : List D} : Reps K H L us ds → Rep K H L (.ref f) (.fnv f us ds)
  | tre {v : V} {d : D} : Rep K H L v d → Rep K H L v (.tre d)
inductive Reps (K : PySem.W.Frag) (H : Hp) (L : Addr → Prop) : List V → List D → Prop
  | nil : Reps K H L [] []
  | cons {v : V} {vs : List V} {d : D} {ds : List D} : Rep K H L v d → Reps K H L vs ds → Reps K H L (v :: vs) (d :: ds)
inductive RepK (K : PySem.W.Frag) (H : Hp) (L : Addr → Prop) : List (Key × V) → List (Key × D) → Prop
  | nil : RepK K H L [] []
  | cons {k : Key} {v : V} {vs : List (Key × V)} {d : D} {ds : List (Key × D)} : Rep K H L v d → RepK K H L vs ds → RepK K H L ((k, v) :: vs) ((k, d) :: ds)
inductive RepT (K : PySem.W.Frag) (H : Hp) (L : Addr → Prop) : List (List Key × V) → List (List Key × D) → Prop
  | nil : RepT K H L [] []
  | cons {k : List Key} {v : V} {vs : List (List Key × V)} {d : D} {ds : List (List Key × D)} : Rep K H L v d → RepT K H L vs ds → RepT K H L ((k, v) :: vs) ((k, d) :: ds)
/-- what an object's content says -/
inductive Cont (K : PySem.W.Frag) (H : Hp) (L : Addr → Prop) : HO → D → Prop
  | lst {vs : List V} {ds : List D} : Reps K H L vs ds → Cont K H L (.lst vs) (.lst ds)
  | tup {vs : List V} {ds : List D} : Reps K H L vs ds → Cont K H L (.tup vs) (.tup ds)
  | dic {vs : List (Key × V)} {ds : List (Key × D)} : RepK K H L vs ds → Cont K H L (.dK vs) (.dic ds)
  | dit {vs : List (List Key × V)} {ds : List (List Key × D)} : RepT K H L vs ds → Cont K H L (.dT vs) (.dit ds)
  | dixE : Cont K H L (.dK []) (.dix [])
  | dix {a : Addr} {xs : List (NestedKey × Addr × V)} {kvs : List (NestedKey × V)} : kvs = xs.map (fun x => (x.1, x.2.2)) → Reps K H L (xs.map fun x => V.ref x.2.1) (xs.map fun x => nkD x.1) → Cont K H L (.ext fun h => DixR h a xs) (.dix kvs)
end
section
variable {K : PySem.W.Frag} {H H' : Hp} {L L' : Addr → Prop}
/-- what is read stays -/
def Stay (H H' : Hp) (L L' : Addr → Prop) : Prop := ∀ a o, ¬ L a → H a = some o → H' a = some o ∧ ¬ L' a
theorem Stay.rd (h : Stay H H' L L') {a : Addr} {ho : HO} (n : ¬ L a) (r : Rd H a ho) : Rd H' a ho ∧ ¬ L' a := by
  rcases r with r | ⟨o, r⟩
  · exact ⟨.inl (h a _ n r).1, (h a _ n r).2⟩
  · exact ⟨.inr ⟨o, (h a _ n r).1⟩, (h a _ n r).2⟩
mutual
theorem Rep.mono (h : Stay H H' L L') : ∀ {v : V} {d : D}, Rep K H L v d → Rep K H' L' v d
  | _, _, .con v => .con v
  | _, _, .obj n r c => .obj (h.rd n r).2 (h.rd n r).1 (Cont.mono h c)
  | _, _, .kl k r => .kl k (Reps.mono h r)
  | _, _, .kt k r => .kt k (Reps.mono h r)
  | _, _, .ow r => .ow (Rep.mono h r)
  | _, _, .exv n r q => .exv (h _ _ n r).2 (h _ _ n r).1 fun e he => (q e he).elim fun n2 ⟨ho, r2⟩ => ⟨(h _ _ n2 r2).2, ho, (h _ _ n2 r2).1⟩
  | _, _, .fnv r => .fnv (Reps.mono h r)
  | _, _, .tre r => .tre (Rep.mono h r)
theorem Reps.mono (h : Stay H H' L L') : ∀ {v : List V} {d : List D}, Reps K H L v d → Reps K H' L' v d
  | _, _, .nil => .nil
  | _, _, .cons a b => .cons (Rep.mono h a) (Reps.mono h b)
theorem RepK.mono (h : Stay H H' L L') : ∀ {v : List (Key × V)} {d : List (Key × D)}, RepK K H L v d → RepK K H' L' v d
  | _, _, .nil => .nil
  | _, _, .cons a b => .cons (Rep.mono h a) (RepK.mono h b)
theorem RepT.mono (h : Stay H H' L L') : ∀ {v : List (List Key × V)} {d : List (List Key × D)}, RepT K H L v d → RepT K H' L' v d
  | _, _, .nil => .nil
  | _, _, .cons a b => .cons (Rep.mono h a) (RepT.mono h b)
theorem Cont.mono (h : Stay H H' L L') : ∀ {v : HO} {d : D}, Cont K H L v d → Cont K H' L' v d
  | _, _, .lst r => .lst (Reps.mono h r)
  | _, _, .tup r => .tup (Reps.mono h r)
  | _, _, .dic r => .dic (RepK.mono h r)
  | _, _, .dit r => .dit (RepT.mono h r)
  | _, _, .dixE => .dixE
  | _, _, .dix e r => .dix e (Reps.mono h r)
end
theorem Reps.len : ∀ {v : List V} {d : List D}, Reps K H L v d → v.length = d.length
  | _, _, .nil => rfl
  | _, _, .cons _ b => congrArg (· + 1) b.len
theorem Reps.get : ∀ {v : List V} {d : List D} {i : Nat} {x : D}, Reps K H L v d → d[i]? = some x → ∃ u, v[i]? = some u ∧ Rep K H L u x
  | _, _, _, _, .nil, e => by simp at e
  | _, _, 0, _, .cons a b, e => by simp at e; subst e; exact ⟨_, rfl, a⟩
  | _, _, i + 1, x, .cons a b, e => by
    obtain ⟨u, h1, h2⟩ := Reps.get (i := i) (x := x) b (by simpa using e)
    exact ⟨u, by simpa using h1, h2⟩
theorem Reps.append : ∀ {v w : List V} {d e : List D}, Reps K H L v d → Reps K H L w e → Reps K H L (v ++ w) (d ++ e)
  | _, _, _, _, .nil, r => r
  | _, _, _, _, .cons a b, r => .cons a (b.append r)
theorem Reps.set {u : V} {x : D} (r : Rep K H L u x) : ∀ {v : List V} {d : List D} (i : Nat), Reps K H L v d → Reps K H L (v.set i u) (d.set i x)
  | _, _, _, .nil => .nil
  | _, _, 0, .cons _ b => .cons r b
  | _, _, i + 1, .cons a b => .cons a (Reps.set r i b)
theorem Reps.take : ∀ {v : List V} {d : List D} (n : Nat), Reps K H L v d → Reps K H L (v.take n) (d.take n)
  | _, _, 0, _ => by simpa using .nil
  | _, _, _ + 1, .nil => .nil
  | _, _, n + 1, .cons a b => .cons a (Reps.take n b)
theorem Reps.drop : ∀ {v : List V} {d : List D} (n : Nat), Reps K H L v d → Reps K H L (v.drop n) (d.drop n)
  | _, _, 0, r => r
  | _, _, _ + 1, .nil => .nil
  | _, _, n + 1, .cons a b => Reps.drop n b
/-- scalars -/
theorem Reps.cons_map {α : Type} (f : α → V) : ∀ xs : List α, Reps K H L (xs.map f) (xs.map fun x => .con (f x))
  | [] => .nil
  | x :: r => .cons (.con _) (Reps.cons_map f r)
theorem Rep.con_inv {v c : V} (r : Rep K H L v (.con c)) : v = c := by
  cases r with
  | con => rfl
  | obj _ _ c => cases c
theorem Reps.con_inv {α : Type} {f : α → V} : ∀ {v : List V} {xs : List α}, Reps K H L v (xs.map fun x => .con (f x)) → v = xs.map f
  | _, [], r => by cases r; rfl
  | _, x :: xs, r => by
    cases r with
    | cons a b => rw [a.con_inv, b.con_inv]; rfl
end
inductive Ow where
  | sl (i : Nat) | tp (n : Nat) | out
  deriving DecidableEq
abbrev Own := Addr → Option Ow
def lin (O : Own) (a : Addr) : Prop := O a ≠ none
structure Slot where
  d : D
  own : Bool
  pin : Bool
abbrev Rho := List (Option Slot)
inductive Kd where
  | shr | fr | nm (i : Nat)
structure Tmp where
  v : V
  d : D
  k : Kd
/-- the table at b of a maker's code object, with the name that the code objects in it bear -/
def tbkL (K : PySem.W.Frag) (b : Addr) : List Str → Option Str
  | [] => none
  | x :: r => if b = (He.cT K (x, none)).2 then some ((x ++ ".<locals>.") ++ "<lambda>") else tbkL K b r
def tbk (K : PySem.W.Frag) (b : Addr) : Option Str := tbkL K b lamN
/-- what stays the same through a def's body: what stands outside, what is outside's own, the pinned parameters -/
structure Fix where
  K : PySem.W.Frag
  Fr : Hp
  Out : Addr → Prop
  Pin : Nat → Option V
  tbo : ∀ P q, tbk K P = some q → Out P ∧ Fr P = none
/-- the tables of code objects that may grow, each with the name that its code objects bear -/
abbrev Fix.Tb (G : Fix) (b : Addr) : Option Str := tbk G.K b
/-- all stands still, but tables -/
def frzT (K : PySem.W.Frag) (H : Hp) (Pin : Nat → Option V) : Fix := { K := K, Fr := fun b => if (tbk K b).isSome = true then none else H b, Out := fun b => (tbk K b).isSome = true, Pin := Pin, tbo := fun P q h => by rw [h]; exact ⟨rfl, if_pos rfl⟩ }
def ownT (K : PySem.W.Frag) : Own := fun b => if (tbk K b).isSome = true then some .out else none
/-- an object is there; where it is a table that is told of, its code objects bear its name -/
def TrOk (G : Fix) (H : Hp) (a : Addr) : Prop := (∃ o, H a = some o) ∧ ∀ q, G.Tb a = some q → LamX.TabS H a q
/-- neither a table nor a code object -/
def Pl (a : Addr) (o : HO) : Prop := (∀ ps, o ≠ .tbl ps) ∧ ∀ q, o ≠ LamX.CodeO a q
theorem tab_upd {H : Hp} {a P : Addr} {q : Str} {ho ho' : HO} (t : LamX.TabS H P q) (ha : H a = some ho) (p : Pl a ho) : LamX.TabS (upd H a ho') P q := by
  obtain ⟨ps, h1, h2, h3⟩ := t
  have n1 : P ≠ a := fun z => by
    rw [z, ha] at h1
    exact p.1 _ (Option.some.inj h1)
  refine ⟨ps, by rw [upd_ne n1]; exact h1, h2, fun pos cv hc => ?_⟩
  obtain ⟨c, e1, e2⟩ := h3 pos cv hc
  have n2 : c ≠ a := fun z => by
    rw [z, ha] at e2
    exact p.2 _ (Option.some.inj e2)
  exact ⟨c, e1, by rw [upd_ne n2]; exact e2⟩
theorem TrOk.ext {G : Fix} {H H' : Hp} {a : Addr} (t : TrOk G H a) (e : ∀ b o, H b = some o → H' b = some o) : TrOk G H' a := ⟨let ⟨o, h⟩ := t.1; ⟨o, e _ _ h⟩, fun q hq => (t.2 q hq).ext e⟩
theorem TrOk.upd {G : Fix} {H : Hp} {a b : Addr} {ho ho' : HO} (t : TrOk G H a) (hb : H b = some ho) (p : Pl b ho) : TrOk G (L2.upd H b ho') a := by
  refine ⟨?_, fun q hq => tab_upd (t.2 q hq) hb p⟩
  by_cases z : a = b
  · rw [z]; exact ⟨_, upd_same⟩
  · rw [upd_ne z]; exact t.1
theorem TrOk.fresh {G : Fix} {H : Hp} {a p : Addr} {ho : HO} (t : TrOk G H a) (hp : H p = none) : TrOk G (L2.upd H p ho) a := t.ext fun b o e => by rw [upd_ne (fun z => by rw [z, hp] at e; cases e)]; exact e
def Owned (K : PySem.W.Frag) (H : Hp) (O : Own) (w : Ow) (v : V) (d : D) : Prop :=
  ∃ a ho, v = .ref a ∧ O a = some w ∧ H a = some ho ∧ Cont K H (lin O) ho d
/-- an item with an object of its own at b: a list, or a tuple of two with a list behind -/
def Itm (K : PySem.W.Frag) (H : Hp) (O : Own) (w : Ow) (u : V) (d : D) (b : Addr) : Prop :=
  O b = some w ∧ ((∃ ho es, d = .lst es ∧ u = .ref b ∧ H b = some ho ∧ Cont K H (lin O) ho d) ∨
    ∃ c x ho d1 d2, d = .tup [d1, d2] ∧ u = .ref c ∧ O c = none ∧ H c = some (.tup [x, .ref b]) ∧ Rep K H (lin O) x d1 ∧ H b = some ho ∧ Cont K H (lin O) ho d2)
inductive Itms (K : PySem.W.Frag) (H : Hp) (O : Own) (w : Ow) : List V → List D → List Addr → Prop
  | nil : Itms K H O w [] [] []
  | cons {u : V} {vs : List V} {d : D} {ds : List D} {b : Addr} {bs : List Addr} : Itm K H O w u d b → Itms K H O w vs ds bs → Itms K H O w (u :: vs) (d :: ds) (b :: bs)
/-- a list with items of their own -/
def DeepO (K : PySem.W.Frag) (H : Hp) (O : Own) (w : Ow) (v : V) (ds : List D) : Prop :=
  ∃ a vs bs, v = .ref a ∧ O a = some w ∧ H a = some (.lst vs) ∧ (a :: bs).Nodup ∧ Itms K H O w vs ds bs
mutual
/-- v is the data d; all objects of its tree, those at as, are w's -/
inductive TrO (H : Hp) (O : Own) (w : Ow) : V → D → List Addr → Prop
  | con (c : V) : TrO H O w c (.con c) []
  | lst {a : Addr} {vs : List V} {ds : List D} {as : List Addr} : O a = some w → H a = some (.lst vs) → TrOs H O w vs ds as → TrO H O w (.ref a) (.lst ds) (a :: as)
  | tup {a : Addr} {vs : List V} {ds : List D} {as : List Addr} : O a = some w → H a = some (.tup vs) → TrOs H O w vs ds as → TrO H O w (.ref a) (.tup ds) (a :: as)
inductive TrOs (H : Hp) (O : Own) (w : Ow) : List V → List D → List Addr → Prop
  | nil : TrOs H O w [] [] []
  | cons {v : V} {vs : List V} {d : D} {ds : List D} {as bs : List Addr} : TrO H O w v d as → TrOs H O w vs ds bs → TrOs H O w (v :: vs) (d :: ds) (as ++ bs)
end
def TreO (H : Hp) (O : Own) (w : Ow) (v : V) (d : D) : Prop := ∃ a as, TrO H O w v d (a :: as) ∧ (a :: as).Nodup
def OwnX (K : PySem.W.Frag) (H : Hp) (O : Own) (w : Ow) (v : V) (d : D) : Prop := Owned K H O w v d ∨ (∃ ds, d = .own ds ∧ DeepO K H O w v ds) ∨ ∃ d0, d = .tre d0 ∧ TreO H O w v d0
/-- a tree's top -/
theorem TrO.root {H : Hp} {O : Own} {w : Ow} {v : V} {d : D} {a : Addr} {as : List Addr} (h : TrO H O w v d (a :: as)) : v = .ref a ∧ O a = some w ∧ ((∃ vs, H a = some (.lst vs)) ∨ ∃ vs, H a = some (.tup vs)) := by
  cases h with
  | lst h1 h2 _ => exact ⟨rfl, h1, .inl ⟨_, h2⟩⟩
  | tup h1 h2 _ => exact ⟨rfl, h1, .inr ⟨_, h2⟩⟩
def SlotOk (K : PySem.W.Frag) (H : Hp) (O : Own) (i : Nat) (v : V) (s : Slot) : Prop :=
  match s.own with
  | true => OwnX K H O (.sl i) v s.d
  | false => Rep K H (lin O) v s.d
def TmpOk (K : PySem.W.Frag) (H : Hp) (O : Own) (σ : St) (n : Nat) (t : Tmp) : Prop :=
  match t.k with
  | .shr => Rep K H (lin O) t.v t.d
  | .fr => OwnX K H O (.tp n) t.v t.d
  | .nm i => σ[i]? = some (some t.v)
def TmpsOk (K : PySem.W.Frag) (H : Hp) (O : Own) (σ : St) : List Tmp → Prop
  | [] => True
  | t :: T => TmpOk K H O σ T.length t ∧ TmpsOk K H O σ T
structure Rel (G : Fix) (O : Own) (σ : St) (H : Hp) (ρ : Rho) (T : List Tmp) : Prop where
  len : ρ.length = σ.length
  fr : ∀ b o, G.Fr b = some o → H b = some o ∧ (O b = none ∨ O b = some .out)
  ot : ∀ b, O b = some .out ↔ G.Out b
  tr : ∀ a w, O a = some w → TrOk G H a
  pn : ∀ i v, G.Pin i = some v → σ[i]? = some (some v) ∧ ∃ s, ρ[i]? = some (some s) ∧ s.pin = true
  sl : ∀ i s, ρ[i]? = some (some s) → ∃ v, σ[i]? = some (some v) ∧ SlotOk G.K H O i v s
  tm : TmpsOk G.K H O σ T
/-- deep -/
def isDp : D → Bool
  | .own _ => true
  | .tre (.lst _) => true
  | .tre (.tup _) => true
  | _ => false
def Vw (K : PySem.W.Frag) (H : Hp) (O : Own) (v : V) (d : D) : Prop :=
  Rep K H (lin O) v d ∨ (∃ a ho, v = .ref a ∧ H a = some ho ∧ Cont K H (lin O) ho d) ∨ ∃ (a : Addr) (_ds : List D), v = .ref a ∧ isDp d = true
theorem Owned.vw {K : PySem.W.Frag} {H : Hp} {O : Own} {w : Ow} {v : V} {d : D} (h : Owned K H O w v d) : Vw K H O v d := by
  obtain ⟨a, ho, e, _, h1, c⟩ := h
  exact .inr (.inl ⟨a, ho, e, h1, c⟩)
theorem OwnX.vw {K : PySem.W.Frag} {H : Hp} {O : Own} {w : Ow} {v : V} {d : D} (h : OwnX K H O w v d) : Vw K H O v d := by
  rcases h with h | ⟨ds, e, a, _, _, e2, _⟩ | ⟨d0, e, a, as, h, _⟩
  · exact h.vw
  · subst e
    exact .inr (.inr ⟨a, ds, e2, rfl⟩)
  · subst e
    refine .inr (.inr ⟨a, [], h.root.1, ?_⟩)
    cases h with
    | lst _ _ _ => rfl
    | tup _ _ _ => rfl
/-- not deep -/
def notOwn : D → Bool
  | .own _ => false
  | .tre _ => false
  | _ => true
theorem OwnX.flat {K : PySem.W.Frag} {H : Hp} {O : Own} {w : Ow} {v : V} {d : D} (h : OwnX K H O w v d) (hd : notOwn d = true := by rfl) : Owned K H O w v d := by
  rcases h with h | ⟨ds, e, _⟩ | ⟨d0, e, _⟩
  · exact h
  · subst e; cases hd
  · subst e; cases hd
theorem OwnX.root {K : PySem.W.Frag} {H : Hp} {O : Own} {w : Ow} {v : V} {d : D} (h : OwnX K H O w v d) : ∃ a ho, v = .ref a ∧ O a = some w ∧ H a = some ho := by
  rcases h with ⟨a, ho, e, h1, h2, _⟩ | ⟨ds, _, a, vs, bs, e, h1, h2, _⟩ | ⟨d0, _, a, as, h, _⟩
  · exact ⟨a, ho, e, h1, h2⟩
  · exact ⟨a, _, e, h1, h2⟩
  · obtain ⟨e, h1, h2 | h2⟩ := h.root
    · exact ⟨a, _, e, h1, h2.choose_spec⟩
    · exact ⟨a, _, e, h1, h2.choose_spec⟩
theorem dixR_plain {a b : Addr} {xs : List (NestedKey × Addr × V)} : Pl b (.ext fun h => DixR h a xs) := by
  refine ⟨fun _ z => (by cases z), fun q z => ?_⟩
  unfold LamX.CodeO at z
  have e := HO.ext.inj z
  have hg : ∃ h : Heap, h.get? b = some ({ cls := .none, data := .fields #[.none, .str q 0] } : Obj) ∧ ∀ c o, h.get? c = some o → o.data = .fields #[.none, .str q 0] := ⟨{ objs := Array.replicate (b + 1) { cls := .none, data := .fields #[.none, .str q 0] } }, by simp [Heap.get?], fun c o hc => by
    simp only [Heap.get?, Array.getElem?_replicate] at hc
    by_cases hl : c < b + 1
    · rw [if_pos hl] at hc
      exact (Option.some.inj hc) ▸ rfl
    · rw [if_neg hl] at hc
      exact absurd hc (by simp)⟩
  obtain ⟨h, hg, all⟩ := hg
  have r : DixR h a xs := by
    rw [show DixR h a xs = _ from congrFun e h]
    exact ⟨_, _, _, hg, rfl, rfl⟩
  obtain ⟨w, o, es, ep, ys, _, h1, _, h2, _⟩ := r
  rw [all _ _ h1] at h2
  cases h2
theorem Cont.plain {K : PySem.W.Frag} {H : Hp} {L : Addr → Prop} {ho : HO} {d : D} {a : Addr} (c : Cont K H L ho d) : Pl a ho := by
  cases c with
  | dix e r => exact dixR_plain
  | _ => exact ⟨fun _ z => (nomatch z), fun _ z => by unfold LamX.CodeO at z; cases z⟩
theorem plain_lst {a : Addr} {vs : List V} : Pl a (.lst vs) := ⟨fun _ z => (nomatch z), fun _ z => by unfold LamX.CodeO at z; cases z⟩
theorem plain_tup {a : Addr} {vs : List V} : Pl a (.tup vs) := ⟨fun _ z => (nomatch z), fun _ z => by unfold LamX.CodeO at z; cases z⟩
theorem OwnX.plain {K : PySem.W.Frag} {H : Hp} {O : Own} {w : Ow} {a : Addr} {d : D} {ho : HO} (h : OwnX K H O w (.ref a) d) (ha : H a = some ho) : Pl a ho := by
  rcases h with ⟨a', ho', e, _, h2, c⟩ | ⟨_, _, a', vs, bs, e, _, h2, _⟩ | ⟨_, _, a', as, h, _⟩
  · cases e
    rw [ha] at h2
    cases h2
    exact c.plain
  · cases e
    rw [ha] at h2
    cases h2
    exact plain_lst
  · obtain ⟨e, _, ⟨vs, h2⟩ | ⟨vs, h2⟩⟩ := h.root
    · cases e
      rw [ha] at h2
      cases h2
      exact plain_lst
    · cases e
      rw [ha] at h2
      cases h2
      exact plain_tup
theorem SlotOk.vw {K : PySem.W.Frag} {H : Hp} {O : Own} {i : Nat} {v : V} {s : Slot} (h : SlotOk K H O i v s) : Vw K H O v s.d := by
  unfold SlotOk at h
  cases e : s.own with
  | true => rw [e] at h; exact OwnX.vw h
  | false => rw [e] at h; exact .inl h
section
variable {K : PySem.W.Frag} {H : Hp} {O : Own} {v : V} {d : D}
theorem Vw.con {c : V} (h : Vw K H O v (.con c)) : v = c := by
  rcases h with h | ⟨a, ho, _, _, c⟩ | ⟨_, _, _, e⟩
  · exact h.con_inv
  · cases c
  · cases e
theorem Vw.lst {ds : List D} (h : Vw K H O v (.lst ds)) : ∃ a vs, v = .ref a ∧ SqL K H a vs ∧ Reps K H (lin O) vs ds := by
  rcases h with h | ⟨a, ho, e, h1, c⟩ | ⟨_, _, _, e⟩
  · cases h with
    | obj n r c =>
      cases c with
      | lst q => exact ⟨_, _, rfl, .inl r, q⟩
    | kl k q => exact ⟨_, _, rfl, .inr k, q⟩
  · cases c with
    | lst q => exact ⟨a, _, e, .inl (.inl h1), q⟩
  · cases e
theorem Vw.exv {c : Str} (h : Vw K H O v (.exv c)) : ∃ a d, v = .ref a ∧ H a = some (exHO a (.ref (He.ga K c)) d) ∧ ∀ e, d = some e → ∃ ho, H e = some ho := by
  rcases h with h | ⟨a, ho, e, h1, c⟩ | ⟨_, _, _, e⟩
  · cases h with
    | obj n r c => cases c
    | exv n r q => exact ⟨_, _, rfl, r, fun e he => (q e he).2⟩
  · cases c
  · cases e
theorem Vw.tup {ds : List D} (h : Vw K H O v (.tup ds)) : ∃ a vs, v = .ref a ∧ SqT K H a vs ∧ Reps K H (lin O) vs ds := by
  rcases h with h | ⟨a, ho, e, h1, c⟩ | ⟨_, _, _, e⟩
  · cases h with
    | obj n r c =>
      cases c with
      | tup q => exact ⟨_, _, rfl, .inl r, q⟩
    | kt k q => exact ⟨_, _, rfl, .inr k, q⟩
  · cases c with
    | tup q => exact ⟨a, _, e, .inl (.inl h1), q⟩
  · cases e
end
def oset (O : Own) (a : Addr) (w : Option Ow) : Own := fun b => if b = a then w else O b
theorem oset_eq {O : Own} {a b : Addr} {w : Option Ow} (h : b = a) : oset O a w b = w := if_pos h
theorem oset_ne {O : Own} {a b : Addr} {w : Option Ow} (h : b ≠ a) : oset O a w b = O b := if_neg h
section
variable {K : PySem.W.Frag} {G : Fix} {O O' : Own} {σ : St} {H H' : Hp} {ρ ρ' : Rho} {T : List Tmp} {t : Tmp} {v : V} {d : D}
theorem Owned.mono {w w' : Ow} (hs : Stay H H' (lin O) (lin O')) (h : Owned K H O w v d) (hw : ∀ a o, O a = some w → H a = some o → O' a = some w' ∧ H' a = some o) : Owned K H' O' w' v d := by
  obtain ⟨a, u, e, h1, h2, c⟩ := h
  obtain ⟨p, q⟩ := hw a u h1 h2
  exact ⟨a, u, e, p, q, c.mono hs⟩
theorem Itm.mono {w w' : Ow} {u : V} {d : D} {b : Addr} (hs : Stay H H' (lin O) (lin O')) (h : Itm K H O w u d b) (hw : ∀ a o, O a = some w → H a = some o → O' a = some w' ∧ H' a = some o) (hc : ∀ a o, O a = none → H a = some o → O' a = none) : Itm K H' O' w' u d b := by
  obtain ⟨h0, h⟩ := h
  have nl : ∀ c, O c = none → ¬ lin O c := fun c e z => z e
  rcases h with ⟨ho, es, he, h1, h2, h3⟩ | ⟨c, x, ho, d1, d2, h1, h2, h3, h4, h5, h6, h7⟩
  · exact ⟨(hw b ho h0 h2).1, .inl ⟨ho, es, he, h1, (hw b ho h0 h2).2, h3.mono hs⟩⟩
  · exact ⟨(hw b ho h0 h6).1, .inr ⟨c, x, ho, d1, d2, h1, h2, hc c _ h3 h4, (hs c _ (nl c h3) h4).1, h5.mono hs, (hw b ho h0 h6).2, h7.mono hs⟩⟩
theorem stay_none (hs : Stay H H' (lin O) (lin O')) : ∀ a o, O a = none → H a = some o → O' a = none := fun a o e h => Classical.byContradiction fun z => (hs a o (fun q => q e) h).2 z
theorem Itms.mono {w w' : Ow} (hs : Stay H H' (lin O) (lin O')) (hw : ∀ a o, O a = some w → H a = some o → O' a = some w' ∧ H' a = some o) : ∀ {vs : List V} {ds : List D} {bs : List Addr}, Itms K H O w vs ds bs → Itms K H' O' w' vs ds bs
  | _, _, _, .nil => .nil
  | _, _, _, .cons a b => .cons (a.mono hs hw (stay_none hs)) (Itms.mono hs hw b)
theorem DeepO.mono {w w' : Ow} {ds : List D} (hs : Stay H H' (lin O) (lin O')) (h : DeepO K H O w v ds) (hw : ∀ a o, O a = some w → H a = some o → O' a = some w' ∧ H' a = some o) : DeepO K H' O' w' v ds := by
  obtain ⟨a, vs, bs, e, h1, h2, h3, h4⟩ := h
  exact ⟨a, vs, bs, e, (hw a _ h1 h2).1, (hw a _ h1 h2).2, h3, h4.mono hs hw⟩
mutual
theorem TrO.mono {w w' : Ow} (hw : ∀ a o, O a = some w → H a = some o → O' a = some w' ∧ H' a = some o) : ∀ {v : V} {d : D} {as : List Addr}, TrO H O w v d as → TrO H' O' w' v d as
  | _, _, _, .con c => .con c
  | _, _, _, .lst h1 h2 h => .lst (hw _ _ h1 h2).1 (hw _ _ h1 h2).2 (TrOs.mono hw h)
  | _, _, _, .tup h1 h2 h => .tup (hw _ _ h1 h2).1 (hw _ _ h1 h2).2 (TrOs.mono hw h)
theorem TrOs.mono {w w' : Ow} (hw : ∀ a o, O a = some w → H a = some o → O' a = some w' ∧ H' a = some o) : ∀ {vs : List V} {ds : List D} {as : List Addr}, TrOs H O w vs ds as → TrOs H' O' w' vs ds as
  | _, _, _, .nil => .nil
  | _, _, _, .cons a b => .cons (TrO.mono hw a) (TrOs.mono hw b)
end
mutual
theorem TrO.rep {w : Ow} (hw : ∀ a o, O a = some w → H a = some o → O' a = none ∧ H' a = some o) : ∀ {v : V} {d : D} {as : List Addr}, TrO H O w v d as → Rep K H' (lin O') v d
  | _, _, _, .con c => .con c
  | _, _, _, .lst h1 h2 h => .obj (fun z => z (hw _ _ h1 h2).1) (.inl (hw _ _ h1 h2).2) (.lst (TrOs.rep hw h))
  | _, _, _, .tup h1 h2 h => .obj (fun z => z (hw _ _ h1 h2).1) (.inl (hw _ _ h1 h2).2) (.tup (TrOs.rep hw h))
theorem TrOs.rep {w : Ow} (hw : ∀ a o, O a = some w → H a = some o → O' a = none ∧ H' a = some o) : ∀ {vs : List V} {ds : List D} {as : List Addr}, TrOs H O w vs ds as → Reps K H' (lin O') vs ds
  | _, _, _, .nil => .nil
  | _, _, _, .cons a b => .cons (TrO.rep hw a) (TrOs.rep hw b)
end
theorem OwnX.mono {w w' : Ow} (hs : Stay H H' (lin O) (lin O')) (h : OwnX K H O w v d) (hw : ∀ a o, O a = some w → H a = some o → O' a = some w' ∧ H' a = some o) : OwnX K H' O' w' v d := by
  rcases h with h | ⟨ds, e, h⟩ | ⟨d0, e, a, as, h, nd⟩
  · exact .inl (h.mono hs hw)
  · exact .inr (.inl ⟨ds, e, h.mono hs hw⟩)
  · exact .inr (.inr ⟨d0, e, a, as, h.mono hw, nd⟩)
/-- an item that may be held by others -/
theorem Itm.rep {w : Ow} {u : V} {d : D} {b : Addr} (hs : Stay H H' (lin O) (lin O')) (h : Itm K H O w u d b) (hw : ∀ a o, O a = some w → H a = some o → O' a = none ∧ H' a = some o) : Rep K H' (lin O') u d := by
  obtain ⟨h0, h⟩ := h
  have nl : ∀ c, O c = none → ¬ lin O c := fun c e z => z e
  rcases h with ⟨ho, es, he, rfl, h2, h3⟩ | ⟨c, x, ho, d1, d2, rfl, rfl, h3, h4, h5, h6, h7⟩
  · obtain ⟨p, q⟩ := hw b ho h0 h2
    exact .obj (fun z => z p) (.inl q) (h3.mono hs)
  · obtain ⟨p, q⟩ := hw b ho h0 h6
    have hc := hs c _ (nl c h3) h4
    exact .obj hc.2 (.inl hc.1) (.tup (.cons (h5.mono hs) (.cons (.obj (fun z => z p) (.inl q) (h7.mono hs)) .nil)))
theorem Itms.reps {w : Ow} (hs : Stay H H' (lin O) (lin O')) (hw : ∀ a o, O a = some w → H a = some o → O' a = none ∧ H' a = some o) : ∀ {vs : List V} {ds : List D} {bs : List Addr}, Itms K H O w vs ds bs → Reps K H' (lin O') vs ds
  | _, _, _, .nil => .nil
  | _, _, _, .cons a b => .cons (a.rep hs hw) (Itms.reps hs hw b)
/-- what is owned is shared from now on: the owner goes from all that it owns -/
theorem OwnX.rep {w : Ow} (hs : Stay H H' (lin O) (lin O')) (h : OwnX K H O w v d) (hw : ∀ a o, O a = some w → H a = some o → O' a = none ∧ H' a = some o) : Rep K H' (lin O') v d := by
  rcases h with ⟨a, ho, rfl, h1, h2, c⟩ | ⟨ds, rfl, a, vs, bs, rfl, h1, h2, h3, h4⟩ | ⟨d0, rfl, a, as, h, _⟩
  · obtain ⟨p, q⟩ := hw a ho h1 h2
    exact .obj (fun z => z p) (.inl q) (c.mono hs)
  · obtain ⟨p, q⟩ := hw a _ h1 h2
    exact .ow (.obj (fun z => z p) (.inl q) (.lst (h4.reps hs hw)))
  · exact .tre (h.rep hw)
/-- all that w owns goes to w' -/
def reO (O : Own) (w : Ow) (w' : Option Ow) : Own := fun b => if O b = some w then w' else O b
theorem reO_eq {w : Ow} {w' : Option Ow} {b : Addr} (h : O b = some w) : reO O w w' b = w' := if_pos h
theorem reO_ne {w : Ow} {w' : Option Ow} {b : Addr} (h : O b ≠ some w) : reO O w w' b = O b := if_neg h
theorem reO_other {w x : Ow} {w' : Option Ow} {b : Addr} (h : O b = some x) (hx : x ≠ w) : reO O w w' b = some x := by
  rw [reO_ne (by rw [h]; exact fun z => hx (Option.some.inj z)), h]
theorem reO_stay {w : Ow} {w' : Option Ow} : Stay H H (lin O) (lin (reO O w w')) := fun a o n e => by
  refine ⟨e, ?_⟩
  unfold lin at n ⊢
  rw [reO_ne (fun z => n (by rw [z]; simp))]; exact n
theorem TmpsOk.mono {N : Nat} {H H' : Hp} {O O' : Own} (h1 : ∀ t n, TmpOk K H O σ n t → n < N → TmpOk K H' O' σ n t) : ∀ {T : List Tmp}, T.length ≤ N → TmpsOk K H O σ T → TmpsOk K H' O' σ T
  | [], _, _ => trivial
  | t :: T, hl, ⟨a, b⟩ => ⟨h1 t T.length a hl, TmpsOk.mono h1 (Nat.le_of_succ_le hl) b⟩
/-- slots' states: from one place to another -/
theorem slot_mono {i j : Nat} {s : Slot} (hs : Stay H H' (lin O) (lin O')) (hw : ∀ a o, O a = some (.sl i) → H a = some o → O' a = some (.sl j) ∧ H' a = some o) (h : SlotOk K H O i v s) : SlotOk K H' O' j v s := by
  unfold SlotOk at h ⊢
  cases q : s.own with
  | true => rw [q] at h; exact OwnX.mono hs h hw
  | false => rw [q] at h; exact h.mono hs
theorem tmps_mono (hs : Stay H H' (lin O) (lin O')) (hw : ∀ a o n, n < T.length → O a = some (.tp n) → H a = some o → O' a = some (.tp n) ∧ H' a = some o) (h : TmpsOk K H O σ T) : TmpsOk K H' O' σ T := by
  refine TmpsOk.mono (N := T.length) (fun t n h hn => ?_) (Nat.le_refl _) h
  unfold TmpOk at h ⊢
  cases q : t.k with
  | shr => rw [q] at h; exact h.mono hs
  | fr => rw [q] at h; exact OwnX.mono hs h fun a o e1 e2 => hw a o n hn e1 e2
  | nm i => rw [q] at h; exact h
theorem Rel.pop (R : Rel G O σ H ρ (t :: T)) : Rel G O σ H ρ T := ⟨R.len, R.fr, R.ot, R.tr, R.pn, R.sl, R.tm.2⟩
theorem Rel.push (R : Rel G O σ H ρ T) (h : TmpOk G.K H O σ T.length t) : Rel G O σ H ρ (t :: T) := ⟨R.len, R.fr, R.ot, R.tr, R.pn, R.sl, ⟨h, R.tm⟩⟩
theorem Rel.con (R : Rel G O σ H ρ T) (c : V) : Rel G O σ H ρ (⟨c, .con c, .shr⟩ :: T) := R.push (.con c)
theorem Rel.nil (R : Rel G O σ H ρ T) : Rel G O σ H ρ [] := ⟨R.len, R.fr, R.ot, R.tr, R.pn, R.sl, trivial⟩
theorem Rel.lout (R : Rel G O σ H ρ T) (p : Addr) (hp : H p = none) : O p = none := by
  cases e : O p with
  | none => rfl
  | some w =>
    obtain ⟨o, q⟩ := (R.tr p w e).1
    rw [hp] at q; cases q
/-- the data that a pending value stands for -/
def cur (ρ : Rho) (x : D × Kd) : Option D := match x.2 with
  | .nm i => match ρ[i]? with
    | some (some s) => some s.d
    | _ => none
  | _ => some x.1
theorem Rel.view (R : Rel G O σ H ρ T) {n : Nat} (h : TmpOk G.K H O σ n t) (e : cur ρ (t.d, t.k) = some d) : Vw G.K H O t.v d := by
  unfold TmpOk at h
  unfold cur at e
  cases q : t.k with
  | shr => rw [q] at h e; cases e; exact .inl h
  | fr => rw [q] at h e; cases e; exact OwnX.vw h
  | nm i =>
    rw [q] at h e
    dsimp only at e h
    split at e
    · rename_i s hs
      cases e
      obtain ⟨v', h1, h2⟩ := R.sl i s hs
      rw [h1] at h
      cases h
      exact h2.vw
    · cases e
/-- a new object -/
theorem Rel.fresh {p : Addr} {ho : HO} (R : Rel G O σ H ρ T) (hp : H p = none) (c : Cont G.K H (lin O) ho d) :
    ∃ O', Rel G O' σ (upd H p ho) ρ (⟨.ref p, d, .fr⟩ :: T) := by
  have op := R.lout p hp
  have ne : ∀ {a : Addr} {o : HO}, H a = some o → a ≠ p := fun e z => by rw [z, hp] at e; cases e
  have ne' : ∀ {a : Addr} {w : Ow}, O a = some w → a ≠ p := fun e z => by rw [z, op] at e; cases e
  have hs : Stay H (upd H p ho) (lin O) (lin (oset O p (some (.tp T.length)))) := fun a o n e => by
    refine ⟨by rw [upd_ne (ne e)]; exact e, ?_⟩
    unfold lin at n ⊢
    rw [oset_ne (ne e)]; exact n
  refine ⟨oset O p (some (.tp T.length)), R.len, fun b o e => ?_, fun b => ?_, fun a w e => ?_, R.pn, fun i s e => ?_, ⟨?_, ?_⟩⟩
  · obtain ⟨h1, h2⟩ := R.fr b o e
    rw [oset_ne (ne h1), upd_ne (ne h1)]; exact ⟨h1, h2⟩
  · by_cases e : b = p
    · rw [oset_eq e]
      constructor
      · intro z; cases z
      · intro z
        have := (R.ot b).mpr z
        rw [e, op] at this; cases this
    · rw [oset_ne e]; exact R.ot b
  · by_cases z : a = p
    · subst z
      refine ⟨⟨_, upd_same⟩, fun q hq => ?_⟩
      have := (R.ot a).mpr (G.tbo a q hq).1
      rw [op] at this; cases this
    · rw [oset_ne z] at e
      exact (R.tr a w e).fresh hp
  · obtain ⟨v, h1, h2⟩ := R.sl i s e
    refine ⟨v, h1, slot_mono hs (fun a o e1 e2 => ?_) h2⟩
    rw [oset_ne (ne e2), upd_ne (ne e2)]; exact ⟨e1, e2⟩
  · exact .inl ⟨p, ho, rfl, oset_eq rfl, upd_same, c.mono hs⟩
  · refine tmps_mono hs (fun a o n _ e1 e2 => ?_) R.tm
    rw [oset_ne (ne e2), upd_ne (ne e2)]; exact ⟨e1, e2⟩
/-- a new object that never changes (a tuple) -/
theorem Rel.freshT {p : Addr} {ho : HO} (R : Rel G O σ H ρ T) (hp : H p = none) (c : Cont G.K H (lin O) ho d) :
    Rel G O σ (upd H p ho) ρ (⟨.ref p, d, .shr⟩ :: T) := by
  have op := R.lout p hp
  have ne : ∀ {a : Addr} {o : HO}, H a = some o → a ≠ p := fun e z => by rw [z, hp] at e; cases e
  have hs : Stay H (upd H p ho) (lin O) (lin O) := fun a o n e => ⟨by rw [upd_ne (ne e)]; exact e, n⟩
  refine ⟨R.len, fun b o e => ?_, R.ot, fun a w e => ?_, R.pn, fun i s e => ?_, ⟨?_, ?_⟩⟩
  · obtain ⟨h1, h2⟩ := R.fr b o e
    rw [upd_ne (ne h1)]; exact ⟨h1, h2⟩
  · exact (R.tr a w e).fresh hp
  · obtain ⟨v, h1, h2⟩ := R.sl i s e
    refine ⟨v, h1, slot_mono hs (fun a o e1 e2 => ?_) h2⟩
    rw [upd_ne (ne e2)]; exact ⟨e1, e2⟩
  · exact .obj (fun z => z op) (.inl upd_same) (c.mono hs)
  · refine tmps_mono hs (fun a o n _ e1 e2 => ?_) R.tm
    rw [upd_ne (ne e2)]; exact ⟨e1, e2⟩
/-- the owner of one address goes -/
theorem Rel.drop (R : Rel G O σ H ρ T) (a0 : Addr) (w : Ow) (hw : O a0 = some w) (ho : w ≠ .out) (hsl : ∀ i s, ρ[i]? = some (some s) → s.own = true → w = .sl i → False) (htp : ∀ n, n < T.length → w ≠ .tp n) :
    Rel G (oset O a0 none) σ H ρ T := by
  have hs : Stay H H (lin O) (lin (oset O a0 none)) := fun a o n e => by
    refine ⟨e, ?_⟩
    unfold lin at n ⊢
    by_cases z : a = a0
    · rw [oset_eq z]; exact fun h => h rfl
    · rw [oset_ne z]; exact n
  refine ⟨R.len, fun b o e => ?_, fun b => ?_, fun a w' e => ?_, R.pn, fun i s e => ?_, ?_⟩
  · obtain ⟨h1, h2⟩ := R.fr b o e
    refine ⟨h1, ?_⟩
    by_cases z : b = a0
    · rw [oset_eq z]; exact .inl rfl
    · rw [oset_ne z]; exact h2
  · by_cases z : b = a0
    · rw [oset_eq z]
      constructor
      · intro q; cases q
      · intro q
        have := (R.ot b).mpr q
        rw [z, hw] at this
        cases this
        exact absurd rfl ho
    · rw [oset_ne z]; exact R.ot b
  · by_cases z : a = a0
    · rw [oset_eq z] at e; cases e
    · rw [oset_ne z] at e; exact R.tr a w' e
  · obtain ⟨v, h1, h2⟩ := R.sl i s e
    refine ⟨v, h1, ?_⟩
    unfold SlotOk at h2 ⊢
    cases q : s.own with
    | true =>
      rw [q] at h2
      refine OwnX.mono hs h2 fun a o e1 e2 => ?_
      rw [oset_ne (fun z => ?_)]
      · exact ⟨e1, e2⟩
      · rw [z, hw] at e1
        cases e1
        exact hsl i s e q rfl
    | false => rw [q] at h2; exact h2.mono hs
  · refine tmps_mono hs (fun a o n hn e1 e2 => ?_) R.tm
    rw [oset_ne (fun z => ?_)]
    · exact ⟨e1, e2⟩
    · rw [z, hw] at e1
      cases e1
      exact htp n hn rfl
/-- an owner goes from all that it owns -/
theorem Rel.dropW (R : Rel G O σ H ρ T) (w : Ow) (ho : w ≠ .out) (hsl : ∀ i s, ρ[i]? = some (some s) → s.own = true → w = .sl i → False) (htp : ∀ n, n < T.length → w ≠ .tp n) : Rel G (reO O w none) σ H ρ T := by
  have hs : Stay H H (lin O) (lin (reO O w none)) := reO_stay
  refine ⟨R.len, fun b o e => ?_, fun b => ?_, fun a w' e => ?_, R.pn, fun i s e => ?_, ?_⟩
  · obtain ⟨h1, h2⟩ := R.fr b o e
    refine ⟨h1, ?_⟩
    by_cases z : O b = some w
    · rw [reO_eq z]; exact .inl rfl
    · rw [reO_ne z]; exact h2
  · by_cases z : O b = some w
    · rw [reO_eq z]
      constructor
      · intro q; cases q
      · intro q
        have := (R.ot b).mpr q
        rw [z] at this
        exact absurd (Option.some.inj this) ho
    · rw [reO_ne z]; exact R.ot b
  · by_cases z : O a = some w
    · rw [reO_eq z] at e; cases e
    · rw [reO_ne z] at e; exact R.tr a w' e
  · obtain ⟨v, h1, h2⟩ := R.sl i s e
    refine ⟨v, h1, ?_⟩
    unfold SlotOk at h2 ⊢
    cases q : s.own with
    | true =>
      rw [q] at h2
      exact OwnX.mono hs h2 fun a o e1 e2 => ⟨reO_other e1 fun z => hsl i s e q z.symm, e2⟩
    | false => rw [q] at h2; exact h2.mono hs
  · exact tmps_mono hs (fun a o n hn e1 e2 => ⟨reO_other e1 fun z => htp n hn z.symm, e2⟩) R.tm
def shareR (ρ : Rho) (i : Nat) : Rho := match ρ[i]? with
  | some (some s) => ρ.set i (some { s with own := false })
  | _ => ρ
/-- a slot's object may be held by others from now on -/
theorem Rel.share (R : Rel G O σ H ρ T) {i : Nat} {s : Slot} (e : ρ[i]? = some (some s)) :
    ∃ O' v, Rel G O' σ H (shareR ρ i) T ∧ σ[i]? = some (some v) ∧ Rep G.K H (lin O') v s.d := by
  obtain ⟨v, h1, h2⟩ := R.sl i s e
  have es : shareR ρ i = ρ.set i (some { s with own := false }) := by unfold shareR; rw [e]
  have hi : i < ρ.length := (List.getElem?_eq_some_iff.mp e).1
  have get : ∀ j u, (ρ.set i (some { s with own := false }))[j]? = some (some u) → (j = i ∧ u = { s with own := false }) ∨ (j ≠ i ∧ ρ[j]? = some (some u)) := fun j u q => by
    by_cases z : j = i
    · subst z
      rw [List.getElem?_set_self hi] at q
      cases q
      exact .inl ⟨rfl, rfl⟩
    · rw [List.getElem?_set_ne (Ne.symm z)] at q
      exact .inr ⟨z, q⟩
  rw [es]
  unfold SlotOk at h2
  cases q : s.own with
  | false =>
    rw [q] at h2
    refine ⟨O, v, ⟨by simpa using R.len, R.fr, R.ot, R.tr, fun j u hj => ?_, fun j u hj => ?_, R.tm⟩, h1, h2⟩
    · obtain ⟨a, s', b, c⟩ := R.pn j u hj
      refine ⟨a, ?_⟩
      by_cases z : j = i
      · subst z
        rw [e] at b; cases b
        exact ⟨_, List.getElem?_set_self hi, c⟩
      · exact ⟨s', by rw [List.getElem?_set_ne (Ne.symm z)]; exact b, c⟩
    · rcases get j u hj with ⟨z, z2⟩ | ⟨_, z⟩
      · subst z z2
        exact ⟨v, h1, h2⟩
      · exact R.sl j u z
  | true =>
    rw [q] at h2
    have hs : Stay H H (lin O) (lin (reO O (.sl i) none)) := reO_stay
    have rp : Rep G.K H (lin (reO O (.sl i) none)) v s.d := OwnX.rep hs h2 fun a o e1 e2 => ⟨reO_eq e1, e2⟩
    refine ⟨reO O (.sl i) none, v, ⟨by simpa using R.len, fun b o e => ?_, fun b => ?_, fun a w' e => ?_, fun j u hj => ?_, fun j u hj => ?_, ?_⟩, h1, rp⟩
    · obtain ⟨p1, p2⟩ := R.fr b o e
      refine ⟨p1, ?_⟩
      by_cases z : O b = some (.sl i)
      · rw [reO_eq z]; exact .inl rfl
      · rw [reO_ne z]; exact p2
    · by_cases z : O b = some (.sl i)
      · rw [reO_eq z]
        constructor
        · intro q; cases q
        · intro q
          have := (R.ot b).mpr q
          rw [z] at this
          cases this
      · rw [reO_ne z]; exact R.ot b
    · by_cases z : O a = some (.sl i)
      · rw [reO_eq z] at e; cases e
      · rw [reO_ne z] at e; exact R.tr a w' e
    · obtain ⟨a, s', b, c⟩ := R.pn j u hj
      refine ⟨a, ?_⟩
      by_cases z : j = i
      · subst z
        rw [e] at b; cases b
        exact ⟨_, List.getElem?_set_self hi, c⟩
      · exact ⟨s', by rw [List.getElem?_set_ne (Ne.symm z)]; exact b, c⟩
    · rcases get j u hj with ⟨z, z2⟩ | ⟨nz, z⟩
      · subst z z2
        exact ⟨v, h1, rp⟩
      · obtain ⟨v', p1, p2⟩ := R.sl j u z
        exact ⟨v', p1, slot_mono hs (fun a o e1 e2 => ⟨reO_other e1 fun y => nz (Ow.sl.inj y), e2⟩) p2⟩
    · exact tmps_mono hs (fun a o n hn e1 e2 => ⟨reO_other e1 fun y => (by cases y), e2⟩) R.tm
def settleR (ρ : Rho) : Kd → Rho
  | .nm i => shareR ρ i
  | _ => ρ
/-- a pending value may be held by others from now on -/
theorem Rel.settle (R : Rel G O σ H ρ (t :: T)) (e : cur ρ (t.d, t.k) = some d) : ∃ O', Rel G O' σ H (settleR ρ t.k) (⟨t.v, d, .shr⟩ :: T) := by
  have h := R.tm.1
  unfold TmpOk at h
  unfold cur at e
  cases q : t.k with
  | shr =>
    rw [q] at h e; cases e
    exact ⟨O, R.pop.push h⟩
  | fr =>
    rw [q] at h e; cases e
    have R2 := R.pop.dropW (.tp T.length) (by simp) (fun i s _ _ z => by cases z) (fun n hn z => by cases z; exact Nat.lt_irrefl _ hn)
    refine ⟨_, R2.push ?_⟩
    show Rep _ _ _ _ _
    exact OwnX.rep reO_stay h fun a o e1 e2 => ⟨reO_eq e1, e2⟩
  | nm i =>
    rw [q] at h e
    dsimp only at e h
    split at e
    · rename_i s hs
      cases e
      obtain ⟨O', v, R', e1, r⟩ := R.pop.share hs
      rw [h] at e1
      cases e1
      exact ⟨O', R'.push r⟩
    · cases e
/-- an owned object is written -/
theorem Rel.write {i : Nat} {s : Slot} {a : Addr} {ho ho' : HO} (R : Rel G O σ H ρ T) (e : ρ[i]? = some (some s)) (ow : s.own = true) (hv : σ[i]? = some (some (.ref a))) (ha : H a = some ho) (c : Cont G.K H (lin O) ho' d) :
    Rel G O σ (upd H a ho') (ρ.set i (some { s with d := d })) T ∧ O a = some (.sl i) := by
  have hi : i < ρ.length := (List.getElem?_eq_some_iff.mp e).1
  obtain ⟨v, h1, h2⟩ := R.sl i s e
  rw [hv] at h1; cases h1
  unfold SlotOk at h2
  rw [ow] at h2
  obtain ⟨a1, ho1, ev, ea, hh⟩ := OwnX.root h2
  cases ev
  have pl := OwnX.plain h2 ha
  have hs : Stay H (upd H a ho') (lin O) (lin O) := fun b o n eb => by
    refine ⟨?_, n⟩
    rw [upd_ne]
    · exact eb
    · intro z; exact n (by unfold lin; rw [z, ea]; simp)
  refine ⟨⟨by simpa using R.len, fun b o eb => ?_, R.ot, fun b w eb => ?_, fun j u hj => ?_, fun j u hj => ?_, ?_⟩, ea⟩
  · obtain ⟨p1, p2⟩ := R.fr b o eb
    rw [upd_ne]
    · exact ⟨p1, p2⟩
    · intro z
      rw [z, ea] at p2
      rcases p2 with p2 | p2 <;> cases p2
  · exact (R.tr b w eb).upd ha pl
  · obtain ⟨p, s', b, c⟩ := R.pn j u hj
    refine ⟨p, ?_⟩
    by_cases z : j = i
    · subst z
      rw [e] at b; cases b
      exact ⟨_, List.getElem?_set_self hi, c⟩
    · exact ⟨s', by rw [List.getElem?_set_ne (Ne.symm z)]; exact b, c⟩
  · by_cases z : j = i
    · subst z
      rw [List.getElem?_set_self hi] at hj
      cases hj
      refine ⟨_, hv, ?_⟩
      unfold SlotOk
      dsimp only
      rw [ow]
      exact .inl ⟨a, ho', rfl, ea, upd_same, c.mono hs⟩
    · rw [List.getElem?_set_ne (Ne.symm z)] at hj
      obtain ⟨v', p1, p2⟩ := R.sl j u hj
      refine ⟨v', p1, slot_mono hs (fun b o e1 e2 => ?_) p2⟩
      rw [upd_ne]
      · exact ⟨e1, e2⟩
      · intro y
        rw [y, ea] at e1
        cases e1
        exact z rfl
  · refine tmps_mono hs (fun b o n hn e1 e2 => ?_) R.tm
    rw [upd_ne]
    · exact ⟨e1, e2⟩
    · intro y
      rw [y, ea] at e1
      cases e1
/-- is the slot a pinned one? -/
def pinned (ρ : Rho) (i : Nat) : Bool := match ρ[i]? with
  | some (some s) => s.pin
  | some none => false
  | none => true
/-- a pending value goes to a slot -/
def ownOf : Kd → Bool
  | .fr => true
  | _ => false
/-- none of them is a name's -/
def NoNm (T : List Tmp) : Prop := ∀ t ∈ T, ∀ i, t.k ≠ .nm i
theorem NoNm.nil : NoNm [] := fun _ h => by cases h
theorem NoNm.cons (h : NoNm T) (ht : ∀ i, t.k ≠ .nm i) : NoNm (t :: T) := fun u hu => by
  rcases List.mem_cons.mp hu with e | e
  · rw [e]; exact ht
  · exact h u e
theorem tmps_slots {σ' : St} : ∀ {T : List Tmp}, (∀ t ∈ T, ∀ i, t.k = .nm i → σ'[i]? = σ[i]?) → TmpsOk K H O σ T → TmpsOk K H O σ' T
  | [], _, _ => trivial
  | t :: T, h, ⟨a, b⟩ => ⟨by
      unfold TmpOk at a ⊢
      cases q : t.k with
      | shr => rw [q] at a; exact a
      | fr => rw [q] at a; exact a
      | nm i =>
        rw [q] at a
        dsimp only at a ⊢
        rw [h t List.mem_cons_self i q]; exact a, tmps_slots (fun u hu => h u (List.mem_cons_of_mem _ hu)) b⟩
theorem Rel.assign {i : Nat} (hT : NoNm T) (R : Rel G O σ H ρ (t :: T)) (e : cur ρ (t.d, t.k) = some d) (hp : pinned (settleR ρ t.k) i = false) :
    ∃ O', Rel G O' (σ.set i (some t.v)) H ((settleR ρ t.k).set i (some ⟨d, ownOf t.k, false⟩)) T := by
  -- the store of a value that is shared, or new
  have fin : ∀ {O1 : Own} {ρ1 : Rho} {b : Bool}, Rel G O1 σ H ρ1 T → pinned ρ1 i = false →
      (if b = true then OwnX G.K H O1 (.tp T.length) t.v d else Rep G.K H (lin O1) t.v d) → ∃ O', Rel G O' (σ.set i (some t.v)) H (ρ1.set i (some ⟨d, b, false⟩)) T := by
    intro O1 ρ1 b R1 hp1 h
    have hi : i < ρ1.length := by
      unfold pinned at hp1
      cases q : ρ1[i]? with
      | none => rw [q] at hp1; cases hp1
      | some _ => exact (List.getElem?_eq_some_iff.mp q).1
    have hiσ : i < σ.length := by rw [← R1.len]; exact hi
    have pins : ∀ j u, G.Pin j = some u → (σ.set i (some t.v))[j]? = some (some u) ∧ ∃ s, (ρ1.set i (some ⟨d, b, false⟩))[j]? = some (some s) ∧ s.pin = true := fun j u hj => by
      obtain ⟨p, s', q, c⟩ := R1.pn j u hj
      have z : j ≠ i := fun z => by
        subst z
        unfold pinned at hp1
        rw [q] at hp1
        dsimp only at hp1
        rw [c] at hp1; cases hp1
      exact ⟨by rw [List.getElem?_set_ne (Ne.symm z)]; exact p, s', by rw [List.getElem?_set_ne (Ne.symm z)]; exact q, c⟩
    have tms : TmpsOk G.K H O1 (σ.set i (some t.v)) T := tmps_slots (fun u hu j hj => absurd hj (hT u hu j)) R1.tm
    cases b with
    | false =>
      have h : Rep G.K H (lin O1) t.v d := by simpa using h
      refine ⟨O1, by simpa using R1.len, R1.fr, R1.ot, R1.tr, pins, fun j u hj => ?_, tms⟩
      by_cases z : j = i
      · subst z
        rw [List.getElem?_set_self hi] at hj
        cases hj
        exact ⟨t.v, List.getElem?_set_self hiσ, h⟩
      · rw [List.getElem?_set_ne (Ne.symm z)] at hj ⊢
        exact R1.sl j u hj
    | true =>
      have h : OwnX G.K H O1 (.tp T.length) t.v d := by simpa using h
      have hs : Stay H H (lin O1) (lin (reO O1 (.tp T.length) (some (.sl i)))) := reO_stay
      refine ⟨reO O1 (.tp T.length) (some (.sl i)), by simpa using R1.len, fun b o e => ?_, fun b => ?_, fun a w e => ?_, pins, fun j u hj => ?_, ?_⟩
      · obtain ⟨p1, p2⟩ := R1.fr b o e
        rw [reO_ne (fun z => ?_)]
        · exact ⟨p1, p2⟩
        · rw [z] at p2
          rcases p2 with p2 | p2 <;> cases p2
      · by_cases z : O1 b = some (.tp T.length)
        · rw [reO_eq z]
          constructor
          · intro q; cases q
          · intro q
            have := (R1.ot b).mpr q
            rw [z] at this; cases this
        · rw [reO_ne z]; exact R1.ot b
      · by_cases z : O1 a = some (.tp T.length)
        · exact R1.tr a _ z
        · rw [reO_ne z] at e; exact R1.tr a w e
      · by_cases z : j = i
        · subst z
          rw [List.getElem?_set_self hi] at hj
          cases hj
          refine ⟨t.v, List.getElem?_set_self hiσ, ?_⟩
          exact OwnX.mono hs h fun a o e1 e2 => ⟨reO_eq e1, e2⟩
        · rw [List.getElem?_set_ne (Ne.symm z)] at hj ⊢
          obtain ⟨v', p1, p2⟩ := R1.sl j u hj
          exact ⟨v', p1, slot_mono hs (fun a o e1 e2 => ⟨reO_other e1 fun y => (by cases y), e2⟩) p2⟩
      · exact tmps_mono hs (fun a o n hn e1 e2 => ⟨reO_other e1 fun y => (by cases y; exact absurd hn (Nat.lt_irrefl _)), e2⟩) tms
  cases q : t.k with
  | fr =>
    rw [q] at hp
    have h := R.tm.1
    unfold TmpOk at h
    unfold cur at e
    rw [q] at h e
    cases e
    exact fin (b := true) R.pop hp (by simpa using h)
  | shr =>
    rw [q] at hp
    obtain ⟨O1, R1⟩ := R.settle e
    rw [q] at R1
    exact fin (b := false) R1.pop hp (show Rep _ _ _ _ _ from R1.tm.1)
  | nm j =>
    rw [q] at hp
    obtain ⟨O1, R1⟩ := R.settle e
    rw [q] at R1
    exact fin (b := false) R1.pop hp (show Rep _ _ _ _ _ from R1.tm.1)
/-- a pending new object is written -/
theorem Rel.writeT {a : Addr} {ho ho' : HO} {d0 : D} (R : Rel G O σ H ρ (⟨.ref a, d0, .fr⟩ :: T)) (ha : H a = some ho) (c : Cont G.K H (lin O) ho' d) : Rel G O σ (upd H a ho') ρ (⟨.ref a, d, .fr⟩ :: T) := by
  obtain ⟨a1, ho1, ev, ea, hh⟩ := OwnX.root (show OwnX _ _ _ _ _ _ from R.tm.1)
  cases ev
  have pl := OwnX.plain (show OwnX _ _ _ _ _ _ from R.tm.1) ha
  have hs : Stay H (upd H a ho') (lin O) (lin O) := fun b o n eb => by
    refine ⟨?_, n⟩
    rw [upd_ne]
    · exact eb
    · intro z; exact n (by unfold lin; rw [z, ea]; simp)
  refine ⟨R.len, fun b o eb => ?_, R.ot, fun b w eb => ?_, R.pn, fun j u hj => ?_, ⟨.inl ⟨a, ho', rfl, ea, upd_same, c.mono hs⟩, ?_⟩⟩
  · obtain ⟨p1, p2⟩ := R.fr b o eb
    rw [upd_ne]
    · exact ⟨p1, p2⟩
    · intro z
      rw [z, ea] at p2
      rcases p2 with p2 | p2 <;> cases p2
  · exact (R.tr b w eb).upd ha pl
  · obtain ⟨v', p1, p2⟩ := R.sl j u hj
    refine ⟨v', p1, slot_mono hs (fun b o e1 e2 => ?_) p2⟩
    rw [upd_ne]
    · exact ⟨e1, e2⟩
    · intro y
      rw [y, ea] at e1
      cases e1
  · refine tmps_mono hs (fun b o n hn e1 e2 => ?_) R.tm.2
    rw [upd_ne]
    · exact ⟨e1, e2⟩
    · intro y
      rw [y, ea] at e1
      cases e1
      exact absurd hn (Nat.lt_irrefl _)
/-- one pending value alone -/
theorem Rel.only (R : Rel G O σ H ρ (t :: T)) : ∃ O', Rel G O' σ H ρ [t] := by
  cases q : t.k with
  | shr =>
    refine ⟨O, R.nil.push ?_⟩
    have h := R.tm.1
    unfold TmpOk at h ⊢
    rw [q] at h ⊢; exact h
  | nm i =>
    refine ⟨O, R.nil.push ?_⟩
    have h := R.tm.1
    unfold TmpOk at h ⊢
    rw [q] at h ⊢; exact h
  | fr =>
    have h := R.tm.1
    unfold TmpOk at h
    rw [q] at h
    have hs : Stay H H (lin O) (lin (reO O (.tp T.length) (some (.tp 0)))) := reO_stay
    refine ⟨reO O (.tp T.length) (some (.tp 0)), R.len, fun b o e => ?_, fun b => ?_, fun a w e => ?_, R.pn, fun j u hj => ?_, ⟨?_, trivial⟩⟩
    · obtain ⟨p1, p2⟩ := R.fr b o e
      rw [reO_ne (fun z => ?_)]
      · exact ⟨p1, p2⟩
      · rw [z] at p2
        rcases p2 with p2 | p2 <;> cases p2
    · by_cases z : O b = some (.tp T.length)
      · rw [reO_eq z]
        constructor
        · intro q; cases q
        · intro q
          have := (R.ot b).mpr q
          rw [z] at this; cases this
      · rw [reO_ne z]; exact R.ot b
    · by_cases z : O a = some (.tp T.length)
      · exact R.tr a _ z
      · rw [reO_ne z] at e; exact R.tr a w e
    · obtain ⟨v', p1, p2⟩ := R.sl j u hj
      exact ⟨v', p1, slot_mono hs (fun a o e1 e2 => ⟨reO_other e1 fun y => (by cases y), e2⟩) p2⟩
    · unfold TmpOk
      rw [q]
      exact OwnX.mono hs h fun a o e1 e2 => ⟨reO_eq e1, e2⟩
end
end L2.VL
end
section
set_option Elab.async false
set_option linter.all false
set_option maxRecDepth 100000
namespace L2.VL
open PySem PySem.Spec PyProof.Rows
/-- an exception: its class by the name that the module gives it, its fields -/
structure Exn where
  c : Str
  fs : Option (List (Str × D))
inductive Res (α : Type) where
  | stuck | ok (a : α) (ρ : Rho) | ex (x : Exn) (ρ : Rho)
def M (α : Type) : Type := Rho → Res α
def M.bind {α β : Type} (m : M α) (f : α → M β) : M β := fun ρ => match m ρ with
  | .stuck => .stuck
  | .ok a ρ' => f a ρ'
  | .ex x ρ' => .ex x ρ'
def M.ret {α : Type} (a : α) : M α := fun ρ => .ok a ρ
instance : Monad M := { pure := M.ret, bind := M.bind }
def mStuck {α : Type} : M α := fun _ => .stuck
def mOpt {α : Type} (o : Option α) : M α := fun ρ => match o with
  | some a => .ok a ρ
  | none => .stuck
def Res.post {α : Type} (r : Res α) (Q : α → Rho → Prop) (E : Exn → Rho → Prop) : Prop := match r with
  | .stuck => False
  | .ok a ρ => Q a ρ
  | .ex x ρ => E x ρ
section
variable {α β : Type} {Q Q' : α → Rho → Prop} {R : β → Rho → Prop} {E E' : Exn → Rho → Prop} {ρ : Rho}
theorem post_bind (m : M α) (f : α → M β) : ((m >>= f) ρ).post R E ↔ (m ρ).post (fun a ρ' => (f a ρ').post R E) E := by
  show ((M.bind m f) ρ).post R E ↔ _
  unfold M.bind
  cases m ρ <;> exact Iff.rfl
theorem post_opt (o : Option α) : ((mOpt o) ρ).post Q E ↔ ∃ a, o = some a ∧ Q a ρ := by
  unfold mOpt
  cases o with
  | none => exact ⟨fun h => h.elim, fun ⟨_, e, _⟩ => by cases e⟩
  | some a => exact ⟨fun h => ⟨a, rfl, h⟩, fun ⟨_, e, h⟩ => by cases e; exact h⟩
theorem Res.post_mono {r : Res α} (h : r.post Q E) (h1 : ∀ a ρ, Q a ρ → Q' a ρ) (h2 : ∀ x ρ, E x ρ → E' x ρ) : r.post Q' E' := by
  cases r with
  | stuck => exact h
  | ok a ρ => exact h1 a ρ h
  | ex x ρ => exact h2 x ρ h
theorem Res.post_ok {r : Res α} (h : r.post Q E) (h1 : ∀ a ρ, Q a ρ → Q' a ρ) : r.post Q' E := Res.post_mono h h1 fun _ _ z => z
end
def dcur (x : D × Kd) : M D := fun ρ => match cur ρ x with
  | some d => .ok d ρ
  | none => .stuck
theorem post_cur {x : D × Kd} {Q : D → Rho → Prop} {E : Exn → Rho → Prop} {ρ : Rho} : ((dcur x) ρ).post Q E ↔ ∃ d, cur ρ x = some d ∧ Q d ρ := by
  unfold dcur
  cases cur ρ x with
  | none => exact ⟨fun h => h.elim, fun ⟨_, e, _⟩ => by cases e⟩
  | some a => exact ⟨fun h => ⟨a, rfl, h⟩, fun ⟨_, e, h⟩ => by cases e; exact h⟩
def settleM (k : Kd) : M Unit := fun ρ => .ok () (settleR ρ k)
/-- a field that is a list of its own -/
def FldO (K : PySem.W.Frag) (H : Hp) (O : Own) (v : V) (d : D) : Prop := ∃ n ds, d = .lst ds ∧ Owned K H O (.tp n) v (.lst ds)
inductive FldsO (K : PySem.W.Frag) (H : Hp) (O : Own) : List V → List D → Prop
  | nil : FldsO K H O [] []
  | cons {v : V} {vs : List V} {d : D} {ds : List D} : FldO K H O v d → FldsO K H O vs ds → FldsO K H O (v :: vs) (d :: ds)
def FldsR (K : PySem.W.Frag) (H : Hp) (O : Own) (w : Bool) (vs : List V) (ds : List D) : Prop := match w with
  | true => FldsO K H O vs ds
  | false => Reps K H (lin O) vs ds
theorem FldsO.mono {K : PySem.W.Frag} {H H' : Hp} {O O' : Own} (hs : Stay H H' (lin O) (lin O')) (ht : ∀ a n ho, O a = some (.tp n) → H a = some ho → H' a = some ho ∧ ∃ m, O' a = some (.tp m)) : ∀ {vs : List V} {ds : List D}, FldsO K H O vs ds → FldsO K H' O' vs ds
  | _, _, .nil => .nil
  | _, _, .cons ⟨n, ds, e, x, ho, e1, e2, e3, c⟩ b => by
    obtain ⟨h1, m, h2⟩ := ht x n ho e2 e3
    exact .cons ⟨m, ds, e, x, ho, e1, h2, h1, c.mono hs⟩ (FldsO.mono hs ht b)
theorem FldsR.mono {K : PySem.W.Frag} {H H' : Hp} {O O' : Own} {w : Bool} (hs : Stay H H' (lin O) (lin O')) (ht : ∀ a n ho, O a = some (.tp n) → H a = some ho → H' a = some ho ∧ ∃ m, O' a = some (.tp m)) {vs : List V} {ds : List D} (h : FldsR K H O w vs ds) : FldsR K H' O' w vs ds := by
  cases w with
  | true => exact FldsO.mono hs ht h
  | false => exact Reps.mono hs h
theorem FldsR.reps {K : PySem.W.Frag} {H : Hp} {O : Own} {w : Bool} {vs : List V} {ds : List D} (hw : w = false) (h : FldsR K H O w vs ds) : Reps K H (lin O) vs ds := by subst hw; exact h
/-- an exception's fields -/
def ExnRep (K : PySem.W.Frag) (H : Hp) (O : Own) (x : Exn) (dd : Option Addr) : Prop := match x.fs with
  | none => dd = none
  | some fs => ∃ d vs, dd = some d ∧ H d = some (.xd vs) ∧ vs.map (·.1) = fs.map (·.1) ∧ FldsR K H O (ownX.contains x.c) (vs.map (·.2)) (fs.map (·.2)) ∧ ¬ lin O d
def clsV (K : PySem.W.Frag) (c : Str) : Value := .ref (He.ga K c)
def EX (G : Fix) (σ : St) (W : WX) (x : Exn) (ρ' : Rho) : Prop := ∀ O' H' dd, Rel G O' σ H' ρ' [] → ExnRep G.K H' O' x dd → W (clsV G.K x.c) dd σ H'
abbrev DE := M (D × Kd)
def tE (K : PySem.W.Frag) (W : WX) (r : DE) : TE := fun σ H Q => ∃ G O ρ, G.K = K ∧ Rel G O σ H ρ [] ∧
  (r ρ).post (fun x ρ' => ∀ O' v H', Rel G O' σ H' ρ' [⟨v, x.1, x.2⟩] → Q v H') (EX G σ W)
def SE (X : Cx) (e : Expr) (r : DE) : Prop := ∀ W, Takes X W → PE X e (tE X.K W r)
def tT (K : PySem.W.Frag) (W : WX) (r : M Bool) : TT := fun σ H Q => ∃ G O ρ, G.K = K ∧ Rel G O σ H ρ [] ∧
  (r ρ).post (fun b ρ' => ∀ O' H', Rel G O' σ H' ρ' [] → Q b H') (EX G σ W)
def ST (X : Cx) (e : Expr) (r : M Bool) : Prop := ∀ W, Takes X W → PT X e (tT X.K W r)
theorem PE.imp {X : Cx} {e : Expr} {t t' : TE} (h : PE X e t) (i : ∀ σ H Q, t' σ H Q → t σ H Q) : PE X e t' := ⟨fun pins s σ H Q I q => h.run pins s σ H Q I (i σ H Q q)⟩
theorem PT.imp {X : Cx} {e : Expr} {t t' : TT} (h : PT X e t) (i : ∀ σ H Q, t' σ H Q → t σ H Q) : PT X e t' := ⟨fun pins s σ H Q I q => h.run pins s σ H Q I (i σ H Q q)⟩
theorem PA.imp {X : Cx} {e : List Expr} {t t' : TA} (h : PA X e t) (i : ∀ σ H Q, t' σ H Q → t σ H Q) : PA X e t' := ⟨fun pos pins s σ H Q I q => h.run pos pins s σ H Q I (i σ H Q q)⟩
theorem PS.imp {X : Cx} {e : Stmt} {t t' : TS} (h : PS X e t) (i : ∀ D σ H, t' D σ H → t D σ H) : PS X e t' := ⟨fun pins s σ H D I q => h.run pins s σ H D I (i D σ H q)⟩
theorem PSs.imp {X : Cx} {e : List Stmt} {t t' : TS} (h : PSs X e t) (i : ∀ D σ H, t' D σ H → t D σ H) : PSs X e t' := ⟨fun pins s σ H D I q => h.run pins s σ H D I (i D σ H q)⟩
def frG (G : Fix) (O : Own) (H : Hp) : Fix :=
  { K := G.K, Pin := G.Pin, Out := fun b => (∃ n, O b = some (.tp n)) ∨ O b = some .out ∨ (G.Tb b).isSome = true, Fr := fun b => if (G.Tb b).isSome = true then none else match O b with
    | some (.sl _) => none
    | _ => H b, tbo := fun P q h => by
      have h : G.Tb P = some q := h
      rw [h]
      exact ⟨.inr (.inr rfl), if_pos rfl⟩ }
theorem tb_out {G : Fix} {O : Own} {σ : St} {H : Hp} {ρ : Rho} {T : List Tmp} (R : Rel G O σ H ρ T) {P : Addr} {q : Str} (h : G.Tb P = some q) : O P = some .out := (R.ot P).mpr (G.tbo P q h).1
theorem tb_sl {G : Fix} {O : Own} {σ : St} {H : Hp} {ρ : Rho} {T : List Tmp} (R : Rel G O σ H ρ T) {a : Addr} (n : O a ≠ some .out) : (G.Tb a).isSome = false := by
  cases e : G.Tb a with
  | none => rfl
  | some q => exact absurd (tb_out R e) n
theorem tb_is {G : Fix} {O : Own} {σ : St} {H : Hp} {ρ : Rho} {T : List Tmp} (R : Rel G O σ H ρ T) {a : Addr} (h : (G.Tb a).isSome = true) : O a = some .out := by
  obtain ⟨q, e⟩ := Option.isSome_iff_exists.mp h
  exact tb_out R e
theorem frG_fr {G : Fix} {O : Own} {H : Hp} {b : Addr} (h : (G.Tb b).isSome = false) (n : ∀ i, O b ≠ some (.sl i)) : (frG G O H).Fr b = H b := by
  unfold frG
  dsimp only
  rw [if_neg (by rw [h]; simp)]
  cases q : O b with
  | none => rfl
  | some w =>
    cases w with
    | sl i => exact absurd q (n i)
    | tp k => rfl
    | out => rfl
theorem tb_none {G : Fix} {b : Addr} {o : HO} (h : G.Fr b = some o) : G.Tb b = none := by
  cases e : G.Tb b with
  | none => rfl
  | some q => rw [(G.tbo b q e).2] at h; cases h
def frO (O : Own) : Own := fun b => match O b with
  | some (.tp _) => some .out
  | w => w
def unO (O O1 : Own) (n : Nat) : Own := fun b => match O b with
  | some (.tp k) => some (.tp k)
  | some .out => some .out
  | _ => match O1 b with
    | some (.tp m) => some (.tp (m + n))
    | w => w
section
variable {G : Fix} {O O1 : Own} {σ : St} {H H' : Hp} {ρ ρ' : Rho} {T T' : List Tmp}
theorem lin_frO {a : Addr} : lin (frO O) a ↔ lin O a := by
  unfold lin frO
  cases O a with
  | none => exact Iff.rfl
  | some w => cases w <;> simp
theorem Rel.frame (R : Rel G O σ H ρ T) : Rel (frG G O H) (frO O) σ H ρ [] := by
  have hs : Stay H H (lin O) (lin (frO O)) := fun a o n e => ⟨e, fun z => n (lin_frO.mp z)⟩
  refine ⟨R.len, fun b o e => ?_, fun b => ?_, fun a w e => ?_, R.pn, fun i s e => ?_, trivial⟩
  · replace e : (if (G.Tb b).isSome = true then none else match O b with
      | some (.sl _) => none
      | _ => H b) = some o := e
    split at e
    · cases e
    · unfold frO
      cases q : O b with
      | none => rw [q] at e; exact ⟨e, .inl rfl⟩
      | some w =>
        rw [q] at e
        cases w with
        | sl i => cases e
        | tp n => exact ⟨e, .inr rfl⟩
        | out => exact ⟨e, .inr rfl⟩
  · have tb : (G.Tb b).isSome = true → O b = some .out := tb_is R
    show frO O b = some .out ↔ ((∃ n, O b = some (.tp n)) ∨ O b = some .out ∨ (G.Tb b).isSome = true)
    unfold frO
    cases q : O b with
    | none =>
      rw [q] at tb
      constructor
      · intro z; cases z
      · rintro (⟨n, z⟩ | z | z)
        · cases z
        · cases z
        · exact tb z
    | some w =>
      rw [q] at tb
      cases w with
      | sl i =>
        constructor
        · intro z; cases z
        · rintro (⟨n, z⟩ | z | z)
          · cases z
          · cases z
          · exact tb z
      | tp n => exact ⟨fun _ => .inl ⟨n, rfl⟩, fun _ => rfl⟩
      | out => exact ⟨fun _ => .inr (.inl rfl), fun _ => rfl⟩
  · have : lin O a := lin_frO.mp (by unfold lin; rw [e]; simp)
    unfold lin at this
    cases q : O a with
    | none => exact absurd q this
    | some w' => exact R.tr a w' q
  · obtain ⟨v, h1, h2⟩ := R.sl i s e
    refine ⟨v, h1, slot_mono hs (fun a o e1 e2 => ⟨?_, e2⟩) h2⟩
    unfold frO
    rw [e1]
theorem Rel.unframe {σ' : St} (hσ : ∀ t ∈ T, ∀ i, t.k = .nm i → σ'[i]? = σ[i]?) (R : Rel G O σ H ρ T) (R' : Rel (frG G O H) O1 σ' H' ρ' T') : Rel G (unO O O1 T.length) σ' H' ρ' (T' ++ T) := by
  -- what O says of O1
  have nout : ∀ a, (O a = none ∨ ∃ i, O a = some (.sl i)) → O1 a ≠ some .out := fun a h z => by
    have := (R'.ot a).mp z
    rcases this with ⟨n, q⟩ | q | q
    · rcases h with h | ⟨i, h⟩ <;> (rw [q] at h; cases h)
    · rcases h with h | ⟨i, h⟩ <;> (rw [q] at h; cases h)
    · have q := tb_is R q
      rcases h with h | ⟨i, h⟩ <;> (rw [q] at h; cases h)
  have isout : ∀ a, ((∃ n, O a = some (.tp n)) ∨ O a = some .out) → O1 a = some .out := fun a h => (R'.ot a).mpr (h.imp id .inl)
  have fr0 : ∀ a o, O a = none → H a = some o → H' a = some o ∧ O1 a = none := fun a o e1 e2 => by
    obtain ⟨p, q⟩ := R'.fr a o (by rw [frG_fr (tb_sl R (by rw [e1]; simp)) (fun i => by rw [e1]; simp)]; exact e2)
    exact ⟨p, q.resolve_right (nout a (.inl e1))⟩
  have frT : ∀ a n o, O a = some (.tp n) → H a = some o → H' a = some o := fun a n o e1 e2 => (R'.fr a o (by rw [frG_fr (tb_sl R (by rw [e1]; simp)) (fun i => by rw [e1]; simp)]; exact e2)).1
  have frX : ∀ a o, O a = some .out → G.Tb a = none → H a = some o → H' a = some o := fun a o e1 et e2 => (R'.fr a o (by rw [frG_fr (by rw [et]; rfl) (fun i => by rw [e1]; simp)]; exact e2)).1
  have hs : Stay H' H' (lin O1) (lin (unO O O1 T.length)) := fun a o n e => by
    refine ⟨e, fun z => ?_⟩
    unfold lin unO at z
    unfold lin at n
    have n' : O1 a = none := by
      cases q : O1 a with
      | none => rfl
      | some _ => exact absurd (by rw [q]; simp) n
    cases q : O a with
    | none => rw [q] at z; dsimp only at z; rw [n'] at z; exact z rfl
    | some w =>
      cases w with
      | sl i => rw [q] at z; dsimp only at z; rw [n'] at z; exact z rfl
      | tp k => rw [isout a (.inl ⟨k, q⟩)] at n'; cases n'
      | out => rw [isout a (.inr q)] at n'; cases n'
  have hsT : Stay H H' (lin O) (lin (unO O O1 T.length)) := fun a o n e => by
    have n' : O a = none := by
      cases q : O a with
      | none => rfl
      | some _ => exact absurd (show lin O a by unfold lin; rw [q]; simp) n
    obtain ⟨p, q⟩ := fr0 a o n' e
    refine ⟨p, fun z => ?_⟩
    unfold lin unO at z
    rw [n'] at z
    dsimp only at z
    rw [q] at z
    exact z rfl
  refine ⟨R'.len, fun b o e => ?_, fun b => ?_, fun a w e => ?_, R'.pn, fun i s e => ?_, ?_⟩
  · obtain ⟨p, q⟩ := R.fr b o e
    rcases q with q | q
    · obtain ⟨p2, q2⟩ := fr0 b o q p
      exact ⟨p2, .inl (by unfold unO; rw [q]; dsimp only; rw [q2])⟩
    · exact ⟨frX b o q (tb_none e) p, .inr (by unfold unO; rw [q])⟩
  · constructor
    · intro z
      unfold unO at z
      cases q : O b with
      | none =>
        rw [q] at z
        dsimp only at z
        cases q2 : O1 b with
        | none => rw [q2] at z; cases z
        | some w =>
          rw [q2] at z
          cases w with
          | sl i => cases z
          | tp n => cases z
          | out => exact absurd q2 (nout b (.inl q))
      | some w =>
        cases w with
        | sl i =>
          rw [q] at z
          dsimp only at z
          cases q2 : O1 b with
          | none => rw [q2] at z; cases z
          | some w =>
            rw [q2] at z
            cases w with
            | sl i => cases z
            | tp n => cases z
            | out => exact absurd q2 (nout b (.inr ⟨i, q⟩))
        | tp k => rw [q] at z; cases z
        | out => exact (R.ot b).mp q
    · intro z
      unfold unO
      rw [(R.ot b).mpr z]
  · have noT : O a ≠ some .out → ∀ q, G.Tb a = some q → LamX.TabS H' a q := fun n q hq => absurd (tb_out R hq) n
    cases q : O a with
    | none =>
      unfold unO at e
      rw [q] at e
      dsimp only at e
      cases q2 : O1 a with
      | none => rw [q2] at e; cases e
      | some w => exact ⟨(R'.tr a w q2).1, noT (by rw [q]; simp)⟩
    | some w =>
      cases w with
      | sl i =>
        unfold unO at e
        rw [q] at e
        dsimp only at e
        cases q2 : O1 a with
        | none => rw [q2] at e; cases e
        | some w => exact ⟨(R'.tr a w q2).1, noT (by rw [q]; simp)⟩
      | tp k =>
        obtain ⟨o, ho⟩ := (R.tr a _ q).1
        exact ⟨⟨o, frT a k o q ho⟩, noT (by rw [q]; simp)⟩
      | out =>
        obtain ⟨t1, t2⟩ := R'.tr a _ (isout a (.inr q))
        exact ⟨t1, fun z hz => t2 z hz⟩
  · obtain ⟨v, h1, h2⟩ := R'.sl i s e
    refine ⟨v, h1, slot_mono hs (fun a o e1 e2 => ⟨?_, e2⟩) h2⟩
    unfold unO
    cases q : O a with
    | none => dsimp only; rw [e1]
    | some w =>
      cases w with
      | sl i => dsimp only; rw [e1]
      | tp k => rw [isout a (.inl ⟨k, q⟩)] at e1; cases e1
      | out => rw [isout a (.inr q)] at e1; cases e1
  · have tail : TmpsOk G.K H' (unO O O1 T.length) σ' T := tmps_mono hsT (fun a o n _ e1 e2 => ⟨by unfold unO; rw [e1], frT a n o e1 e2⟩) (tmps_slots hσ R.tm)
    have all : ∀ T' : List Tmp, TmpsOk G.K H' O1 σ' T' → TmpsOk G.K H' (unO O O1 T.length) σ' (T' ++ T) := by
      intro T'
      induction T' with
      | nil => intro _; exact tail
      | cons t r ih =>
        rintro ⟨h1, h2⟩
        refine ⟨?_, ih h2⟩
        show TmpOk G.K H' (unO O O1 T.length) σ' (r ++ T).length t
        rw [List.length_append]
        unfold TmpOk at h1 ⊢
        cases q : t.k with
        | shr => rw [q] at h1; exact h1.mono hs
        | fr =>
          rw [q] at h1
          refine OwnX.mono hs h1 fun a o e1 e2 => ⟨?_, e2⟩
          unfold unO
          cases q : O a with
          | none => dsimp only; rw [e1]
          | some w =>
            cases w with
            | sl i => dsimp only; rw [e1]
            | tp k => rw [isout a (.inl ⟨k, q⟩)] at e1; cases e1
            | out => rw [isout a (.inr q)] at e1; cases e1
        | nm i => rw [q] at h1; exact h1
    exact all T' R'.tm
theorem ExnRep.unframe {σ' : St} {x : Exn} {dd : Option Addr} {n : Nat} (R' : Rel (frG G O H) O1 σ' H' ρ' []) (er : ExnRep G.K H' O1 x dd) : ExnRep G.K H' (unO O O1 n) x dd := by
  unfold ExnRep at er ⊢
  cases q : x.fs with
  | none => rw [q] at er; exact er
  | some fs =>
    rw [q] at er
    obtain ⟨d, vs, e1, e2, e3, e4, e5⟩ := er
    have key : ∀ a, ¬ lin O1 a → ¬ lin (unO O O1 n) a := fun a n z => n (by
      unfold lin at z ⊢
      intro z2
      unfold unO at z
      cases q : O a with
      | none => rw [q] at z; dsimp only at z; rw [z2] at z; exact z rfl
      | some w =>
        cases w with
        | sl i => rw [q] at z; dsimp only at z; rw [z2] at z; exact z rfl
        | tp k => rw [(R'.ot a).mpr (.inl ⟨k, q⟩)] at z2; cases z2
        | out => rw [(R'.ot a).mpr (.inr (.inl q))] at z2; cases z2)
    exact ⟨d, vs, e1, e2, e3, e4.mono (fun a o n e => ⟨e, key a n⟩) (fun a m ho h1 h2 => ⟨h2, by
      cases q : O a with
      | none => exact ⟨m + n, by unfold unO; rw [q]; dsimp only; rw [h1]⟩
      | some w =>
        cases w with
        | sl i => exact ⟨m + n, by unfold unO; rw [q]; dsimp only; rw [h1]⟩
        | tp k => rw [(R'.ot a).mpr (.inl ⟨k, q⟩)] at h1; cases h1
        | out => rw [(R'.ot a).mpr (.inr (.inl q))] at h1; cases h1⟩), key d e5⟩
theorem EX.unframe {W : WX} {σ' : St} {x : Exn} (R : Rel G O σ H ρ T) (h : EX G σ' W x ρ') : EX (frG G O H) σ' W x ρ' := fun O' H' dd R' er =>
  h _ H' dd (R.nil.unframe (T := []) (T' := []) (fun _ z => by cases z) R') (ExnRep.unframe R' er)
/-- a reading within the frame of what is pending -/
theorem tE.at {K : PySem.W.Frag} {W : WX} {r : DE} {Q : VK} (hK : G.K = K) (R : Rel G O σ H ρ T) (h : (r ρ).post (fun x ρ' => ∀ O' v H', Rel G O' σ H' ρ' (⟨v, x.1, x.2⟩ :: T) → Q v H') (EX G σ W)) : tE K W r σ H Q :=
  ⟨frG G O H, frO O, ρ, hK, R.frame, Res.post_mono h (fun x ρ' q O' v H' R' => q _ v H' (R.unframe (fun _ _ _ _ => rfl) R')) fun x ρ' q => EX.unframe R q⟩
theorem tT.at {K : PySem.W.Frag} {W : WX} {r : M Bool} {Q : Bool → Hp → Prop} (hK : G.K = K) (R : Rel G O σ H ρ T) (h : (r ρ).post (fun b ρ' => ∀ O' H', Rel G O' σ H' ρ' T → Q b H') (EX G σ W)) : tT K W r σ H Q :=
  ⟨frG G O H, frO O, ρ, hK, R.frame, Res.post_mono h (fun x ρ' q O' H' R' => q _ H' (R.unframe (T' := []) (fun _ _ _ _ => rfl) R')) fun x ρ' q => EX.unframe R q⟩
end
inductive Fl where
  | nx | brk | cnt | ret (d : D) (fr : Bool)
abbrev DS := M Fl
def frK (b : Bool) : Kd := match b with
  | true => .fr
  | false => .shr
def FlOk (G : Fix) (D : Ends) (T : List Tmp) (f : Fl) (ρ' : Rho) : Prop := match f with
  | .nx => ∀ O' σ' H', Rel G O' σ' H' ρ' T → D.nx σ' H'
  | .brk => ∀ O' σ' H', Rel G O' σ' H' ρ' T → D.bk σ' H'
  | .cnt => ∀ O' σ' H', Rel G O' σ' H' ρ' T → D.ct σ' H'
  | .ret d b => ∀ O' σ' v H', Rel G O' σ' H' ρ' (⟨v, d, frK b⟩ :: T) → D.rt v H'
def EXs (G : Fix) (W : WX) (x : Exn) (ρ' : Rho) : Prop := ∀ σ', EX G σ' W x ρ'
def tS (K : PySem.W.Frag) (W : WX) (r : DS) : TS := fun D σ H => ∃ G O ρ, G.K = K ∧ Rel G O σ H ρ [] ∧ (r ρ).post (FlOk G D []) (EXs G W)
/-- what is handed back, seen through p -/
def _root_.L2.Ends.re (p : VK → VK) (D : Ends) : Ends := { D with rt := p D.rt }
def SSf (p : VK → VK) (X : Cx) (st : Stmt) (r : DS) : Prop := ∀ W, Takes X W → PS X st fun D => tS X.K W r (D.re p)
def SSsf (p : VK → VK) (X : Cx) (st : List Stmt) (r : DS) : Prop := ∀ W, Takes X W → PSs X st fun D => tS X.K W r (D.re p)
abbrev SS (X : Cx) (st : Stmt) (r : DS) : Prop := SSf id X st r
abbrev SSs (X : Cx) (st : List Stmt) (r : DS) : Prop := SSsf id X st r
section
variable {G : Fix} {O O1 : Own} {σ : St} {H H' : Hp} {ρ ρ' : Rho} {T T' : List Tmp}
theorem tS.at {K : PySem.W.Frag} {W : WX} {r : DS} {D : Ends} (hT : NoNm T) (hK : G.K = K) (R : Rel G O σ H ρ T) (h : (r ρ).post (FlOk G D T) (EXs G W)) : tS K W r D σ H := by
  have hσ : ∀ σ' : St, ∀ t ∈ T, ∀ i, t.k = .nm i → σ'[i]? = σ[i]? := fun σ' t ht i e => absurd e (hT t ht i)
  refine ⟨frG G O H, frO O, ρ, hK, R.frame, Res.post_mono h (fun f ρ' q => ?_) fun x ρ' q σ' => EX.unframe R (q σ')⟩
  cases f with
  | nx => exact fun O' σ' H' R' => q _ σ' H' (R.unframe (T' := []) (hσ σ') R')
  | brk => exact fun O' σ' H' R' => q _ σ' H' (R.unframe (T' := []) (hσ σ') R')
  | cnt => exact fun O' σ' H' R' => q _ σ' H' (R.unframe (T' := []) (hσ σ') R')
  | ret d b => exact fun O' σ' v H' R' => q _ σ' v H' (R.unframe (T' := [_]) (hσ σ') R')
/-- what is pending does not matter at the end -/
theorem FlOk.drop {D : Ends} {f : Fl} (h : FlOk G D [] f ρ') : FlOk G D T f ρ' := by
  cases f with
  | nx => exact fun O' σ' H' R' => h O' σ' H' R'.nil
  | brk => exact fun O' σ' H' R' => h O' σ' H' R'.nil
  | cnt => exact fun O' σ' H' R' => h O' σ' H' R'.nil
  | ret d b => exact fun O' σ' v H' R' => let ⟨O2, R2⟩ := R'.only; h O2 σ' v H' R2
end
end L2.VL
end
section
set_option Elab.async false
set_option linter.all false
set_option maxRecDepth 100000
namespace L2.VL
open PySem PySem.Spec PyProof.Rows
section
variable {X : Cx} {a b c e : Expr} {ra rb rc r : DE} {pos : Pos}
def dVar (i : Nat) : DE := fun ρ => match ρ[i]? with
  | some (some s) => .ok (s.d, .nm i) ρ
  | _ => .stuck
def dCon (v : V) : DE := pure (.con v, .shr)
theorem se_var (i : Nat) {x : Str} (hN : X.N[i]? = some x := by rfl) (hv : Vis X.env.scope x := by first | exact Or.inl rfl | exact Or.inr (Or.inl rfl) | exact Or.inr (Or.inr rfl)) (hd : (x == ("__debug__" : Str)) = false := by decide)
    (hcd : (x == ("__classdict__" : Str)) = false := by decide) : SE X (.Name x pos) (dVar i) := fun W tk => PE.imp (pe_var hN hv hd hcd) fun σ H Q ⟨G, O, ρ, hK, R, h⟩ => by
  unfold dVar at h
  split at h
  · rename_i s hs
    obtain ⟨v, h1, h2⟩ := R.sl i s hs
    exact ⟨v, h1, h O v H (R.push h1)⟩
  · exact h.elim
theorem se_tC {v : V} (h : PE X e (tC v)) : SE X e (dCon v) := fun W tk => PE.imp h fun σ H Q ⟨G, O, ρ, hK, R, h⟩ => h O v H (R.con v)
theorem se_int {i j} : SE X (.Constant (.int i) j pos) (dCon (.int i)) := se_tC pe_int
theorem se_bl {b j} : SE X (.Constant (.bool b) j pos) (dCon (.bl b)) := se_tC pe_bl
theorem se_non {j} : SE X (.Constant .none j pos) (dCon .non) := se_tC pe_non
theorem se_str {x j} : SE X (.Constant (.str x) j pos) (dCon (.str x)) := se_tC pe_str
theorem se_glob {x : Str} {v : V} {u : Value} (hm : X.mg x = some u) (r : RelV v u) (hg : Gl X x := by rfl) (hd : (x == ("__debug__" : Str)) = false := by decide) : SE X (.Name x pos) (dCon v) := se_tC (pe_glob hg hm r hd)
def dOp2 (g : D → D → Option (D × Kd)) (ra rb : DE) : DE := do
  let x ← ra
  let y ← rb
  let d ← dcur x
  let e ← dcur y
  mOpt (g d e)
def OpS2 (K : PySem.W.Frag) (r : R2) (g : D → D → Option (D × Kd)) : Prop := ∀ (G : Fix) (O : Own) (σ : St) (H : Hp) (ρ : Rho) (a b : V) (x y : D) (z : D × Kd) (Q : VK), G.K = K → Rel G O σ H ρ [] → Vw K H O a x → Vw K H O b y →
  g x y = some z → (∀ O' v H', Rel G O' σ H' ρ [⟨v, z.1, z.2⟩] → Q v H') → r a b H Q
theorem OpS2.tOp {K : PySem.W.Frag} {W : WX} {rr : R2} {g : D → D → Option (D × Kd)} (hs : OpS2 K rr g) (σ : St) (H : Hp) (Q : VK) (h : tE K W (dOp2 g ra rb) σ H Q) : L2.tOp rr (tE K W ra) (tE K W rb) σ H Q := by
  obtain ⟨G, O, ρ, hK, R, h⟩ := h
  refine tE.at hK R (Res.post_ok ((post_bind _ _).mp h) fun x ρ1 q O1 v H1 R1 => ?_)
  refine tE.at hK R1 (Res.post_ok ((post_bind _ _).mp q) fun y ρ2 q2 O2 w H2 R2 => ?_)
  obtain ⟨d, e1, q3⟩ := post_cur.mp ((post_bind _ _).mp q2)
  obtain ⟨e, e2, q4⟩ := post_cur.mp ((post_bind _ _).mp q3)
  obtain ⟨z, e3, q5⟩ := (post_opt _).mp q4
  have v1 := R2.view R2.tm.2.1 e1
  have v2 := R2.view R2.tm.1 e2
  rw [hK] at v1 v2
  exact hs G O2 σ H2 ρ2 v w d e z Q hK R2.nil v1 v2 e3 q5
theorem se_op {op : Operator} {rr : R2} {g : D → D → Option (D × Kd)} (ho : OpR X (binaryOp op) rr) (hs : OpS2 X.K rr g) (ha : SE X a ra) (hb : SE X b rb) : SE X (.BinOp a op b pos) (dOp2 g ra rb) :=
  fun W tk => PE.imp (pe_op ho (ha W tk) (hb W tk)) (hs.tOp)
theorem se_cmp {op : CmpOp} {rr : R2} {g : D → D → Option (D × Kd)} (ho : OpR X (compareOp op) rr) (hs : OpS2 X.K rr g) (ha : SE X a ra) (hb : SE X b rb) (hm : behindInMarks op b = false) : SE X (.Compare a [op] [b] pos) (dOp2 g ra rb) :=
  fun W tk => PE.imp (pe_cmpR ho (ha W tk) (hb W tk) hm) (hs.tOp)
theorem se_ix {rr : R2} {g : D → D → Option (D × Kd)} (ho : IxR X rr) (hs : OpS2 X.K rr g) (ha : SE X a ra) (hb : SE X b rb) (hp : PlainIx b) : SE X (.Subscript a b pos) (dOp2 g ra rb) :=
  fun W tk => PE.imp (pe_ix ho (ha W tk) (hb W tk) hp) (hs.tOp)
theorem OpS2.or {K : PySem.W.Frag} {r1 r2 : R2} {g1 g2 : D → D → Option (D × Kd)} (h1 : OpS2 K r1 g1) (h2 : OpS2 K r2 g2) : OpS2 K (fun x y H Q => r1 x y H Q ∨ r2 x y H Q) (fun x y => (g1 x y).or (g2 x y)) := by
  intro G O σ H ρ a b x y z Q hK R v1 v2 e q
  replace e : (g1 x y).or (g2 x y) = some z := e
  cases e1 : g1 x y with
  | none =>
    rw [e1] at e
    exact .inr (h2 G O σ H ρ a b x y z Q hK R v1 v2 (by simpa using e) q)
  | some u =>
    rw [e1] at e
    exact .inl (h1 G O σ H ρ a b x y z Q hK R v1 v2 (by rw [e1]; simpa using e) q)
def asB (d : D) : Option Bool := match d with
  | .con (.bl b) => some b
  | _ => none
/-- a value that is True or False, as a test -/
def dB (r : DE) : M Bool := do
  let x ← r
  let d ← dcur x
  mOpt (asB d)
theorem dB_post {G : Fix} {O : Own} {σ : St} {H : Hp} {ρ : Rho} {K : PySem.W.Frag} {W : WX} {Q : Bool → Hp → Prop} (hK : G.K = K) (R : Rel G O σ H ρ []) (h : ((dB r) ρ).post (fun b ρ' => ∀ O' H', Rel G O' σ H' ρ' [] → Q b H') (EX G σ W)) :
    tE K W r σ H fun x H' => ∃ k, x = .bl k ∧ Q k H' := by
  refine tE.at hK R (Res.post_ok ((post_bind _ _).mp h) fun x ρ1 q O1 v H1 R1 => ?_)
  obtain ⟨d, e1, q3⟩ := post_cur.mp ((post_bind _ _).mp q)
  obtain ⟨b, e2, q4⟩ := (post_opt _).mp q3
  have v1 := R1.view R1.tm.1 e1
  unfold asB at e2
  split at e2
  · cases e2
    exact ⟨_, v1.con, q4 O1 H1 R1.pop⟩
  · cases e2
theorem st_cmp {op : CmpOp} {rr : R2} {g : D → D → Option (D × Kd)} (ho : OpR X (compareOp op) rr) (hs : OpS2 X.K rr g) (ha : SE X a ra) (hb : SE X b rb) (hm : behindInMarks op b = false) : ST X (.Compare a [op] [b] pos) (dB (dOp2 g ra rb)) :=
  fun W tk => PT.imp (pt_cmpR ho (ha W tk) (hb W tk) hm) fun σ H Q ⟨G, O, ρ, hK, R, h⟩ => hs.tOp (W := W) σ H _ (dB_post hK R h)
def truthD (d : D) : Option Bool := match d with
  | .con .non => some false
  | .con (.bl b) => some b
  | .con (.int i) => some (i != 0)
  | .con (.str s) => if s.length ≤ 16777216 then some ((s.length : Int) != 0) else none
  | .lst xs => some !xs.isEmpty
  | .tup xs => some !xs.isEmpty
  | _ => none
def dTr (r : DE) : M Bool := do
  let x ← r
  let d ← dcur x
  mOpt (truthD d)
theorem Reps.isEmpty {K : PySem.W.Frag} {H : Hp} {L : Addr → Prop} {vs : List V} {ds : List D} (h : Reps K H L vs ds) : vs.isEmpty = ds.isEmpty := by
  cases h <;> rfl
theorem RepK.isEmpty {K : PySem.W.Frag} {H : Hp} {L : Addr → Prop} {vs : List (Key × V)} {ds : List (Key × D)} (h : RepK K H L vs ds) : vs.isEmpty = ds.isEmpty := by
  cases h <;> rfl
theorem tru_of {K : PySem.W.Frag} {H : Hp} {O : Own} {v : V} {d : D} {k : Bool} (h : Vw K H O v d) (e : truthD d = some k) : TruV K v H k := by
  unfold truthD at e
  split at e
  · cases e; rw [h.con]; rfl
  · cases e; rw [h.con]; rfl
  · cases e; rw [h.con]; rfl
  · split at e
    · cases e
      rw [h.con]
      exact ⟨by rw [sizeLine_eq]; assumption, rfl⟩
    · cases e
  · cases e
    obtain ⟨a, vs, rfl, q, r⟩ := h.lst
    exact .inl ⟨vs, q, by rw [r.isEmpty]⟩
  · cases e
    obtain ⟨a, vs, rfl, q, r⟩ := h.tup
    exact .inr (.inl ⟨vs, q, by rw [r.isEmpty]⟩)
  · cases e
theorem st_val (ha : SE X a ra) (he : ∀ whole, isTrue a X.env whole = (do let v ← whole; standAt a.pos; holding [v] (truthy v)) := by intro _; rfl) : ST X a (dTr ra) :=
  fun W tk => PT.imp (pt_truth (ha W tk) he) fun σ H Q ⟨G, O, ρ, hK, R, h⟩ => by
    refine tE.at hK R (Res.post_ok ((post_bind _ _).mp h) fun x ρ1 q O1 v H1 R1 => ?_)
    obtain ⟨d, e1, q3⟩ := post_cur.mp ((post_bind _ _).mp q)
    obtain ⟨b, e2, q4⟩ := (post_opt _).mp q3
    have v1 := R1.view R1.tm.1 e1
    rw [hK] at v1
    exact ⟨b, tru_of v1 e2, q4 O1 H1 R1.pop⟩
end
def dNot (r : M Bool) : M Bool := do
  let b ← r
  pure !b
theorem tT.imp {K : PySem.W.Frag} {W : WX} {r : M Bool} {σ : St} {H : Hp} {Q Q' : Bool → Hp → Prop} (h : tT K W r σ H Q) (i : ∀ b H, Q b H → Q' b H) : tT K W r σ H Q' := by
  obtain ⟨G, O, ρ, hK, R, h⟩ := h
  exact ⟨G, O, ρ, hK, R, Res.post_ok h fun b ρ1 q O1 H1 R1 => i _ _ (q O1 H1 R1)⟩
section
variable {X : Cx} {a b c e : Expr} {rest es : List Expr} {ra rb rc r : DE} {qa qb qc : M Bool} {pos : Pos}
theorem st_not (ha : ST X a qa) : ST X (.UnaryOp .Not a pos) (dNot qa) := fun W tk => PT.imp (pt_not (ha W tk)) fun σ H Q ⟨G, O, ρ, hK, R, h⟩ =>
  ⟨G, O, ρ, hK, R, Res.post_ok ((post_bind _ _).mp h) fun b ρ1 q O1 H1 R1 => q O1 H1 R1⟩
def SW (X : Cx) (e : Expr) (r : M Bool) : Prop := ∀ W, Takes X W → PW X e (tT X.K W r)
theorem SW.st (h : SW X e qa) : ST X e qa := fun W tk => (h W tk).pt
theorem PW.imp {X : Cx} {e : Expr} {t t' : TT} (h : PW X e t) (i : ∀ σ H Q, t' σ H Q → t σ H Q) : PW X e t' := ⟨fun wh pins s σ H Q I q => h.run wh pins s σ H Q I (i σ H Q q)⟩
def dAnd (qa qb : M Bool) : M Bool := do
  let b ← qa
  if b then qb else pure false
def dOr (qa qb : M Bool) : M Bool := do
  let b ← qa
  if b then pure true else qb
theorem sw_and1 (ha : ST X a qa) : SW X (.BoolOp .And [a] pos) qa := fun W tk => pw_and1 (ha W tk)
theorem sw_or1 (ha : ST X a qa) : SW X (.BoolOp .Or [a] pos) qa := fun W tk => pw_or1 (ha W tk)
theorem sw_and (ha : ST X a qa) (hb : SW X (.BoolOp .And (b :: rest) pos) qb) : SW X (.BoolOp .And (a :: b :: rest) pos) (dAnd qa qb) := fun W tk => PW.imp (pw_and (ha W tk) (hb W tk)) fun σ H Q ⟨G, O, ρ, hK, R, h⟩ =>
  ⟨G, O, ρ, hK, R, Res.post_ok ((post_bind _ _).mp h) fun b ρ1 q O1 H1 R1 => by
    cases b with
    | true => rw [if_pos rfl] at q ⊢; exact ⟨G, O1, ρ1, hK, R1, q⟩
    | false => rw [if_neg Bool.false_ne_true] at q ⊢; exact q O1 H1 R1⟩
theorem sw_or (ha : ST X a qa) (hb : SW X (.BoolOp .Or (b :: rest) pos) qb) : SW X (.BoolOp .Or (a :: b :: rest) pos) (dOr qa qb) := fun W tk => PW.imp (pw_or (ha W tk) (hb W tk)) fun σ H Q ⟨G, O, ρ, hK, R, h⟩ =>
  ⟨G, O, ρ, hK, R, Res.post_ok ((post_bind _ _).mp h) fun b ρ1 q O1 H1 R1 => by
    cases b with
    | true => rw [if_pos rfl] at q ⊢; exact q O1 H1 R1
    | false => rw [if_neg Bool.false_ne_true] at q ⊢; exact ⟨G, O1, ρ1, hK, R1, q⟩⟩
/-- and, or, not as values -/
def dAndV (ra rb : DE) : DE := do
  let b ← dB ra
  if b then rb else pure (.bl false, .shr)
def dOrV (ra rb : DE) : DE := do
  let b ← dB ra
  if b then pure (.bl true, .shr) else rb
theorem dB_bind {G : Fix} {O : Own} {σ : St} {H : Hp} {ρ : Rho} {K : PySem.W.Frag} {W : WX} {f : Bool → DE} {Q : Bool → Hp → Prop} {Q2 : VK} (hK : G.K = K) (R : Rel G O σ H ρ [])
    (h : ((dB ra >>= f) ρ).post (fun x ρ' => ∀ O' v H', Rel G O' σ H' ρ' [⟨v, x.1, x.2⟩] → Q2 v H') (EX G σ W))
    (i : ∀ b ρ1 O1 H1, Rel G O1 σ H1 ρ1 [] → ((f b) ρ1).post (fun x ρ' => ∀ O' v H', Rel G O' σ H' ρ' [⟨v, x.1, x.2⟩] → Q2 v H') (EX G σ W) → Q b H1) : tE K W ra σ H fun x H' => ∃ k, x = .bl k ∧ Q k H' :=
  dB_post hK R (Res.post_ok ((post_bind _ _).mp h) fun b ρ1 q O1 H1 R1 => i b ρ1 O1 H1 R1 q)
theorem se_and (ha : SE X a ra) (hb : SE X (.BoolOp .And (b :: rest) pos) rb) : SE X (.BoolOp .And (a :: b :: rest) pos) (dAndV ra rb) := fun W tk => PE.imp (pe_and (ha W tk) (hb W tk)) fun σ H Q ⟨G, O, ρ, hK, R, h⟩ =>
  dB_bind hK R h fun b ρ1 O1 H1 R1 q => by
    cases b with
    | true => rw [if_pos rfl] at q ⊢; exact ⟨G, O1, ρ1, hK, R1, q⟩
    | false => rw [if_neg Bool.false_ne_true] at q ⊢; exact q O1 _ H1 (R1.con _)
theorem se_or (ha : SE X a ra) (hb : SE X (.BoolOp .Or (b :: rest) pos) rb) : SE X (.BoolOp .Or (a :: b :: rest) pos) (dOrV ra rb) := fun W tk => PE.imp (pe_or (ha W tk) (hb W tk)) fun σ H Q ⟨G, O, ρ, hK, R, h⟩ =>
  dB_bind hK R h fun b ρ1 O1 H1 R1 q => by
    cases b with
    | true => rw [if_pos rfl] at q ⊢; exact q O1 _ H1 (R1.con _)
    | false => rw [if_neg Bool.false_ne_true] at q ⊢; exact ⟨G, O1, ρ1, hK, R1, q⟩
theorem se_one {op} (ha : SE X a ra) : SE X (.BoolOp op [a] pos) ra := fun W tk => pe_one (ha W tk)
def dIfx (q : M Bool) (ra rb : DE) : DE := do
  let b ← q
  if b then ra else rb
theorem se_ifx {t : Expr} (ht : ST X t qa) (ha : SE X a ra) (hb : SE X b rb) : SE X (.IfExp t a b pos) (dIfx qa ra rb) := fun W tk => PE.imp (pe_ifExp (ht W tk) (ha W tk) (hb W tk)) fun σ H Q ⟨G, O, ρ, hK, R, h⟩ =>
  ⟨G, O, ρ, hK, R, Res.post_ok ((post_bind _ _).mp h) fun b ρ1 q O1 H1 R1 => by
    cases b with
    | true => rw [if_pos rfl] at q ⊢; exact ⟨G, O1, ρ1, hK, R1, q⟩
    | false => rw [if_neg Bool.false_ne_true] at q ⊢; exact ⟨G, O1, ρ1, hK, R1, q⟩⟩
/-- a comparison: the heap stays -/
def CmpS (K : PySem.W.Frag) (rr : R2) (g : D → D → Option Bool) : Prop := ∀ (a b : V) (H : Hp) (x y : D) (k : Bool) (O : Own) (Q : VK), Vw K H O a x → Vw K H O b y → g x y = some k → Q (.bl k) H → rr a b H Q
def dCmp (g : D → D → Option Bool) (ra rb : DE) : DE := dOp2 (fun x y => (g x y).map fun k => (.bl k, .shr)) ra rb
theorem CmpS.os {K : PySem.W.Frag} {rr : R2} {g : D → D → Option Bool} (h : CmpS K rr g) : OpS2 K rr (fun x y => (g x y).map fun k => (.bl k, .shr)) := by
  intro G O σ H ρ a b x y z Q hK R v1 v2 e q
  obtain ⟨v, e1, e2⟩ := Option.map_eq_some_iff.mp e
  subst e2
  exact h a b H x y v O Q v1 v2 e1 (q O _ H (R.con _))
def gC (f : Int → Int → Bool) (x y : D) : Option Bool := match x, y with
  | .con (.int i), .con (.int j) => some (f i j)
  | _, _ => none
theorem cs_int {K : PySem.W.Frag} {f : Int → Int → Bool} : CmpS K (rI0 fun i j => .bl (f i j)) (gC f) := fun a b H x y k O Q v1 v2 e q => by
  unfold gC at e
  split at e
  · cases e
    exact ⟨_, _, v1.con, v2.con, q⟩
  · cases e
/-- a op1 b op2 c -/
def dChain (g g' : D → D → Option Bool) (ra rb rc : DE) : DE := do
  let x ← ra
  let y ← rb
  let d ← dcur x
  let e ← dcur y
  let k ← mOpt (g d e)
  if k then do
    let u ← rc
    let e' ← dcur y
    let f ← dcur u
    let k' ← mOpt (g' e' f)
    pure (.bl k', .shr)
  else pure (.bl false, .shr)
theorem chain_of {K : PySem.W.Frag} {W : WX} {rr rr' : R2} {g g' : D → D → Option Bool} (hs : CmpS K rr g) (hs' : CmpS K rr' g') (σ : St) (H : Hp) (Q : VK)
    (h : tE K W (dChain g g' ra rb rc) σ H Q) : tChain rr rr' (tE K W ra) (tE K W rb) (tE K W rc) σ H Q := by
  obtain ⟨G, O, ρ, hK, R, h⟩ := h
  refine tE.at hK R (Res.post_ok ((post_bind _ _).mp h) fun x ρ1 q O1 v H1 R1 => ?_)
  refine tE.at hK R1 (Res.post_ok ((post_bind _ _).mp q) fun y ρ2 q2 O2 w H2 R2 => ?_)
  obtain ⟨d, e1, q3⟩ := post_cur.mp ((post_bind _ _).mp q2)
  obtain ⟨e, e2, q4⟩ := post_cur.mp ((post_bind _ _).mp q3)
  obtain ⟨k, e3, q5⟩ := (post_opt _).mp ((post_bind _ _).mp q4)
  have v1 := R2.view R2.tm.2.1 e1
  have v2 := R2.view R2.tm.1 e2
  rw [hK] at v1 v2
  refine hs v w H2 d e k O2 _ v1 v2 e3 ⟨k, rfl, ?_⟩
  cases k with
  | false => rw [if_neg Bool.false_ne_true] at q5 ⊢; exact q5 O2 _ H2 (R2.nil.con _)
  | true =>
    rw [if_pos rfl] at q5 ⊢
    refine tE.at hK R2 (Res.post_ok ((post_bind _ _).mp q5) fun u ρ3 q6 O3 w3 H3 R3 => ?_)
    obtain ⟨e', e4, q7⟩ := post_cur.mp ((post_bind _ _).mp q6)
    obtain ⟨f, e5, q8⟩ := post_cur.mp ((post_bind _ _).mp q7)
    obtain ⟨k', e6, q9⟩ := (post_opt _).mp ((post_bind _ _).mp q8)
    have v3 := R3.view R3.tm.2.1 e4
    have v4 := R3.view R3.tm.1 e5
    rw [hK] at v3 v4
    exact hs' w w3 H3 e' f k' O3 Q v3 v4 e6 (q9 O3 _ H3 (R3.nil.con _))
theorem st_chain {op op' : CmpOp} {rr rr' : R2} {g g' : D → D → Option Bool} (ho : OpR X (compareOp op) rr) (ho' : OpR X (compareOp op') rr') (hs : CmpS X.K rr g) (hs' : CmpS X.K rr' g') (ha : SE X a ra) (hb : SE X b rb) (hc : SE X c rc)
    (hm : lastMarks [op, op'] [b, c] = false := by with_unfolding_all rfl) : ST X (.Compare a [op, op'] [b, c] pos) (dB (dChain g g' ra rb rc)) := fun W tk => PT.imp (pt_chain ho ho' (ha W tk) (hb W tk) (hc W tk) hm) fun σ H Q ⟨G, O, ρ, hK, R, h⟩ => chain_of (W := W) hs hs' σ H _ (dB_post hK R h)
def pushC : List V → List (D × Kd) → List Tmp → List Tmp
  | v :: vs, x :: xs, T => pushC vs xs (⟨v, x.1, x.2⟩ :: T)
  | _, _, T => T
def keep (b : Bool) (x : D × Kd) : M (D × Kd) := match b with
  | true => pure x
  | false => do
    let d ← dcur x
    settleM x.2
    pure (d, .shr)
def dA : List (Bool × DE) → M (List (D × Kd))
  | [] => pure []
  | (b, e) :: es => do
    let x ← e
    let y ← keep b x
    let ys ← dA es
    pure (y :: ys)
def tA (K : PySem.W.Frag) (W : WX) (r : M (List (D × Kd))) : TA := fun σ H Q => ∃ G O ρ T, G.K = K ∧ Rel G O σ H ρ T ∧
  (r ρ).post (fun xs ρ' => ∀ O' vs H', vs.length = xs.length → Rel G O' σ H' ρ' (pushC vs xs T) → Q vs H') (EX G σ W)
def SA (X : Cx) (es : List Expr) (l : List (Bool × DE)) : Prop := ∀ W, Takes X W → PA X es (tA X.K W (dA l))
theorem sa_nil : SA X [] [] := fun W tk => PA.imp pa_nil fun σ H Q ⟨G, O, ρ, T, hK, R, h⟩ => h O [] H rfl R
theorem keep_post {G : Fix} {O : Own} {σ : St} {H : Hp} {ρ : Rho} {b : Bool} {x : D × Kd} {v : V} {T : List Tmp} {Q : D × Kd → Rho → Prop} {E : Exn → Rho → Prop} (R : Rel G O σ H ρ (⟨v, x.1, x.2⟩ :: T)) (h : ((keep b x) ρ).post Q E) :
    ∃ O' y ρ', Rel G O' σ H ρ' (⟨v, y.1, y.2⟩ :: T) ∧ Q y ρ' := by
  cases b with
  | true => exact ⟨O, x, ρ, R, h⟩
  | false =>
    obtain ⟨d, e1, q⟩ := post_cur.mp ((post_bind _ _).mp h)
    obtain ⟨O', R'⟩ := R.settle (d := d) e1
    exact ⟨O', (d, .shr), _, R', q⟩
theorem sa_cons {b : Bool} {l : List (Bool × DE)} (ha : SE X e r) (hs : SA X es l) (hst : starEach (e :: es) X.env = (false, eval e X.env) :: starEach es X.env := by rfl) : SA X (e :: es) ((b, r) :: l) := fun W tk =>
  PA.imp (pa_cons (ha W tk) (hs W tk) hst) fun σ H Q ⟨G, O, ρ, T, hK, R, h⟩ => by
    refine tE.at hK R (Res.post_ok ((post_bind _ _).mp h) fun x ρ1 q O1 v H1 R1 => ?_)
    obtain ⟨O2, y, ρ2, R2, q2⟩ := keep_post R1 ((post_bind _ _).mp q)
    exact ⟨G, O2, ρ2, _, hK, R2, Res.post_ok ((post_bind _ _).mp q2) fun ys ρ3 q3 O3 vs H3 hl R3 => q3 O3 (v :: vs) H3 (congrArg (· + 1) hl) R3⟩
theorem pushC_pop {G : Fix} {O : Own} {σ : St} {H : Hp} {ρ : Rho} : ∀ {vs : List V} {xs : List (D × Kd)} {T : List Tmp}, Rel G O σ H ρ (pushC vs xs T) → Rel G O σ H ρ T
  | v :: vs, x :: xs, T, R => (pushC_pop (vs := vs) (xs := xs) R).pop
  | [], _, T, R => by unfold pushC at R; exact R
  | _ :: _, [], T, R => by unfold pushC at R; exact R
/-- all values that are shared -/
def shrs : List (D × Kd) → Option (List D)
  | [] => some []
  | (d, .shr) :: r => (shrs r).map (d :: ·)
  | _ => none
theorem pushC_reps {G : Fix} {O : Own} {σ : St} {H : Hp} {ρ : Rho} : ∀ {vs : List V} {xs : List (D × Kd)} {T : List Tmp} {ds : List D}, vs.length = xs.length → Rel G O σ H ρ (pushC vs xs T) → shrs xs = some ds → Reps G.K H (lin O) vs ds
  | [], [], T, ds, _, R, e => by cases e; exact .nil
  | v :: vs, (d, k) :: xs, T, ds, hl, R, e => by
    cases k with
    | shr =>
      obtain ⟨r, e1, e2⟩ := Option.map_eq_some_iff.mp (show (shrs xs).map (d :: ·) = some ds from e)
      subst e2
      exact .cons (pushC_pop (vs := vs) (xs := xs) (T := ⟨v, d, .shr⟩ :: T) R).tm.1 (pushC_reps (T := ⟨v, d, .shr⟩ :: T) (Nat.succ.inj hl) R e1)
    | fr => cases e
    | nm i => cases e
  | [], _ :: _, _, _, hl, _, _ => by cases hl
  | _ :: _, [], _, _, hl, _, _ => by cases hl
def curs (ρ : Rho) : List (D × Kd) → Option (List D)
  | [] => some []
  | x :: xs => match cur ρ x with
    | some d => (curs ρ xs).map (d :: ·)
    | none => none
inductive Vws (K : PySem.W.Frag) (H : Hp) (O : Own) : List V → List D → Prop
  | nil : Vws K H O [] []
  | cons {v : V} {vs : List V} {d : D} {ds : List D} : Vw K H O v d → Vws K H O vs ds → Vws K H O (v :: vs) (d :: ds)
theorem pushC_vws {G : Fix} {O : Own} {σ : St} {H : Hp} {ρ : Rho} : ∀ {vs : List V} {xs : List (D × Kd)} {T : List Tmp} {ds : List D}, vs.length = xs.length → Rel G O σ H ρ (pushC vs xs T) → curs ρ xs = some ds → Vws G.K H O vs ds
  | [], [], T, ds, _, R, e => by cases e; exact .nil
  | v :: vs, x :: xs, T, ds, hl, R, e => by
    unfold curs at e
    split at e
    · rename_i d hd
      obtain ⟨r, e1, e2⟩ := Option.map_eq_some_iff.mp e
      subst e2
      have R1 := pushC_pop (vs := vs) (xs := xs) (T := ⟨v, x.1, x.2⟩ :: T) R
      exact .cons (R1.view R1.tm.1 hd) (pushC_vws (T := ⟨v, x.1, x.2⟩ :: T) (Nat.succ.inj hl) R e1)
    · cases e
  | [], _ :: _, _, _, hl, _, _ => by cases hl
  | _ :: _, [], _, _, hl, _, _ => by cases hl
def dcurs (xs : List (D × Kd)) : M (List D) := fun ρ => match curs ρ xs with
  | some ds => .ok ds ρ
  | none => .stuck
theorem post_curs {xs : List (D × Kd)} {Q : List D → Rho → Prop} {E : Exn → Rho → Prop} {ρ : Rho} : ((dcurs xs) ρ).post Q E ↔ ∃ d, curs ρ xs = some d ∧ Q d ρ := by
  unfold dcurs
  cases curs ρ xs with
  | none => exact ⟨fun h => h.elim, fun ⟨_, e, _⟩ => by cases e⟩
  | some a => exact ⟨fun h => ⟨a, rfl, h⟩, fun ⟨_, e, h⟩ => by cases e; exact h⟩
def cap : Nat := 16777216
def gD (f : List D → D) (k : Kd) (xs : List (D × Kd)) : Option (D × Kd) := match shrs xs with
  | some ds => if ds.length ≤ cap then some (f ds, k) else none
  | none => none
def dLst (l : List (Bool × DE)) : DE := do
  let xs ← dA l
  mOpt (gD .lst .fr xs)
def dTup (l : List (Bool × DE)) : DE := do
  let xs ← dA l
  mOpt (gD .tup .shr xs)
theorem cap_eq : cap = sizeLine := sizeLine_eq.symm
theorem gD_of {f : List D → D} {k : Kd} {xs : List (D × Kd)} {z : D × Kd} (h : gD f k xs = some z) : ∃ ds, shrs xs = some ds ∧ ds.length ≤ sizeLine ∧ z = (f ds, k) := by
  unfold gD at h
  split at h
  · rename_i ds e
    split at h
    · rename_i hl
      cases h
      exact ⟨ds, e, by rw [← cap_eq]; exact hl, rfl⟩
    · cases h
  · cases h
theorem se_lst {l : List (Bool × DE)} (hs : SA X es l) : SE X (.List es pos) (dLst l) := fun W tk => PE.imp (pe_lst (hs W tk)) fun σ H Q ⟨G, O, ρ, hK, R, h⟩ => by
  refine ⟨G, O, ρ, [], hK, R, Res.post_ok ((post_bind _ _).mp h) fun xs ρ1 q O1 vs H1 hl R1 => ?_⟩
  obtain ⟨z, e, q2⟩ := (post_opt _).mp q
  obtain ⟨ds, e1, e2, e3⟩ := gD_of e
  subst e3
  have rp := pushC_reps hl R1 e1
  refine ⟨by rw [rp.len]; exact e2, fun p hp => ?_⟩
  obtain ⟨O2, R2⟩ := (pushC_pop R1).fresh (d := .lst ds) hp (.lst rp)
  exact q2 O2 _ _ R2
theorem se_tup {k} {l : List (Bool × DE)} (hs : SA X es l) : SE X (.Tuple es k pos) (dTup l) := fun W tk => PE.imp (pe_tup (hs W tk)) fun σ H Q ⟨G, O, ρ, hK, R, h⟩ => by
  refine ⟨G, O, ρ, [], hK, R, Res.post_ok ((post_bind _ _).mp h) fun xs ρ1 q O1 vs H1 hl R1 => ?_⟩
  obtain ⟨z, e, q2⟩ := (post_opt _).mp q
  obtain ⟨ds, e1, e2, e3⟩ := gD_of e
  subst e3
  have rp := pushC_reps hl R1 e1
  refine ⟨by rw [rp.len]; exact e2, fun p hp => ?_⟩
  exact q2 O1 _ _ ((pushC_pop R1).freshT (d := .tup ds) hp (.tup rp))
def OpS (K : PySem.W.Frag) (r : List V → Hp → VK → Prop) (g : List D → Option (D × Kd)) : Prop := ∀ (G : Fix) (O : Own) (σ : St) (H : Hp) (ρ : Rho) (vs : List V) (ds : List D) (z : D × Kd) (Q : VK), G.K = K → Rel G O σ H ρ [] → Vws K H O vs ds →
  g ds = some z → (∀ O' v H', Rel G O' σ H' ρ [⟨v, z.1, z.2⟩] → Q v H') → r vs H Q
def dBi (g : List D → Option (D × Kd)) (l : List (Bool × DE)) : DE := do
  let xs ← dA l
  let ds ← dcurs xs
  mOpt (g ds)
theorem OpS.tCB {K : PySem.W.Frag} {W : WX} {rr : List V → Hp → VK → Prop} {g : List D → Option (D × Kd)} {l : List (Bool × DE)} (hs : OpS K rr g) (σ : St) (H : Hp) (Q : VK) (h : tE K W (dBi g l) σ H Q) : L2.tCB rr (tA K W (dA l)) σ H Q := by
  obtain ⟨G, O, ρ, hK, R, h⟩ := h
  refine ⟨G, O, ρ, [], hK, R, Res.post_ok ((post_bind _ _).mp h) fun xs ρ1 q O1 vs H1 hl R1 => ?_⟩
  obtain ⟨ds, e1, q2⟩ := post_curs.mp ((post_bind _ _).mp q)
  obtain ⟨z, e2, q3⟩ := (post_opt _).mp q2
  have v1 := pushC_vws hl R1 e1
  rw [hK] at v1
  exact hs G O1 σ H1 ρ1 vs ds z Q hK (pushC_pop R1) v1 e2 q3
theorem se_callB {x : Str} {p : Pos} {id : String} {rr : List V → Hp → VK → Prop} {g : List D → Option (D × Kd)} {l : List (Bool × DE)} (hc : CallR X (.builtin id) rr) (hs : OpS X.K rr g) (hm : X.mg x = none) (ha : SA X (e :: es) l)
    (hv : bootBuiltins x = some (.builtin id) := by decide +kernel) (hg : Gl X x := by rfl) (hn : x ≠ "__name__" := by decide) (hdb : (x == ("__debug__" : Str)) = false := by decide)
    (he : starEach (e :: es) X.env = (false, eval e X.env) :: starEach es X.env := by rfl) (hpl : (backTo pos (starEach es X.env)).any (·.1) = false := by rfl) : SE X (.Call (.Name x p) (e :: es) [] pos) (dBi g l) :=
  fun W tk => PE.imp (pe_callB hc hg hm hv (ha W tk) hn hdb he hpl) (hs.tCB)
theorem se_callTy {x : Str} {p : Pos} {T : String} {rr : List V → Hp → VK → Prop} {g : List D → Option (D × Kd)} {l : List (Bool × DE)} (hc : CallR X (.type T) rr) (hs : OpS X.K rr g) (hm : X.mg x = none) (ha : SA X (e :: es) l)
    (hv : bootBuiltins x = some (.type T) := by decide +kernel) (hg : Gl X x := by rfl) (hn : x ≠ "__name__" := by decide) (hdb : (x == ("__debug__" : Str)) = false := by decide)
    (he : starEach (e :: es) X.env = (false, eval e X.env) :: starEach es X.env := by rfl) (hpl : (backTo pos (starEach es X.env)).any (·.1) = false := by rfl) : SE X (.Call (.Name x p) (e :: es) [] pos) (dBi g l) :=
  fun W tk => PE.imp (pe_callTy hc hg hm hv (ha W tk) hn hdb he hpl) (hs.tCB)
end
end L2.VL
end
section
set_option Elab.async false
set_option linter.all false
set_option maxRecDepth 100000
namespace L2.VL
open PySem PySem.Spec PyProof.Rows
/-- the context's plain facts -/
structure CxG (X : Cx) : Prop where
  calm : X.calm = true
  nd : X.N.Nodup
  pass : PassesOwn (model X.prog X.w) X.A X.env X.xe
  gu : X.A.guards = some []
section
variable {X : Cx} {a b c e : Expr} {es : List Expr} {st : Stmt} {sts : List Stmt} {ra rb rc r : DE} {qa : M Bool} {sa sb : DS} {pos : Pos}
def dNext : DS := pure .nx
def dSeq (sa sb : DS) : DS := do
  let f ← sa
  match f with
  | .nx => sb
  | f => pure f
theorem ss_nil {pj : VK → VK} : SSsf pj X [] dNext := fun W tk => PSs.imp pss_nil fun D σ H ⟨G, O, ρ, hK, R, h⟩ => h O σ H R
theorem ss_cons {pj : VK → VK} (h1 : SSf pj X st sa) (h2 : SSsf pj X sts sb) : SSsf pj X (st :: sts) (dSeq sa sb) := fun W tk => PSs.imp (pss_cons (h1 W tk) (h2 W tk)) fun D σ H ⟨G, O, ρ, hK, R, h⟩ =>
  ⟨G, O, ρ, hK, R, Res.post_ok ((post_bind _ _).mp h) fun f ρ1 q => by
    cases f with
    | nx => exact fun O' σ' H' R' => ⟨G, O', ρ1, hK, R', q⟩
    | brk => exact q
    | cnt => exact q
    | ret d b => exact q⟩
theorem ss_one {pj : VK → VK} (h1 : SSf pj X st sa) : SSsf pj X [st] sa := fun W tk => pss_one (h1 W tk)
def dExpr (r : DE) : DS := do
  let _ ← r
  pure .nx
theorem ss_expr {pj : VK → VK} (he : SE X e r) (hs : swapsWith e none pos.line X.env = pure false := by rfl) : SSf pj X (.Expr e pos) (dExpr r) := fun W tk => PS.imp (ps_expr (he W tk) hs) fun D σ H ⟨G, O, ρ, hK, R, h⟩ =>
  ⟨G, O, ρ, hK, R, Res.post_mono ((post_bind _ _).mp h) (fun x ρ1 q O' v H' R' => q O' σ H' R'.pop) fun x ρ' q => q σ⟩
/-- what is handed back: a def's own new object goes along with its name -/
def takeNm (d : D) (i : Nat) : M (D × Bool) := fun ρ => match ρ[i]? with
  | some (some s) => if s.own && !s.pin then .ok (d, true) (ρ.set i none) else .ok (d, false) (shareR ρ i)
  | _ => .stuck
def dTake (x : D × Kd) : M (D × Bool) := do
  let d ← dcur x
  match x.2 with
  | .fr => pure (d, true)
  | .shr => pure (d, false)
  | .nm i => takeNm d i
def dRet (r : DE) : DS := do
  let x ← r
  let y ← dTake x
  pure (.ret y.1 y.2)
theorem Rel.take {G : Fix} {O : Own} {σ : St} {H : Hp} {ρ : Rho} {i : Nat} {s : Slot} {v : V} {T : List Tmp} (R : Rel G O σ H ρ T) (e : ρ[i]? = some (some s)) (ho : s.own = true) (hp : s.pin = false) (hv : σ[i]? = some (some v)) :
    ∃ O', Rel G O' σ H (ρ.set i none) (⟨v, s.d, .fr⟩ :: T) := by
  have hi : i < ρ.length := (List.getElem?_eq_some_iff.mp e).1
  obtain ⟨v', h1, h2⟩ := R.sl i s e
  rw [hv] at h1; cases h1
  unfold SlotOk at h2
  rw [ho] at h2
  have hs : Stay H H (lin O) (lin (reO O (.sl i) (some (.tp T.length)))) := reO_stay
  refine ⟨reO O (.sl i) (some (.tp T.length)), by simpa using R.len, fun b o e => ?_, fun b => ?_, fun a w e => ?_, fun j u hj => ?_, fun j u hj => ?_, ⟨OwnX.mono hs h2 fun a o e1 e2 => ⟨reO_eq e1, e2⟩, ?_⟩⟩
  · obtain ⟨p1, p2⟩ := R.fr b o e
    rw [reO_ne (fun z => ?_)]
    · exact ⟨p1, p2⟩
    · rw [z] at p2
      rcases p2 with p2 | p2 <;> cases p2
  · by_cases z : O b = some (.sl i)
    · rw [reO_eq z]
      constructor
      · intro q; cases q
      · intro q
        have := (R.ot b).mpr q
        rw [z] at this; cases this
    · rw [reO_ne z]; exact R.ot b
  · by_cases z : O a = some (.sl i)
    · exact R.tr a _ z
    · rw [reO_ne z] at e; exact R.tr a w e
  · obtain ⟨p, s', q, c⟩ := R.pn j u hj
    refine ⟨p, s', ?_, c⟩
    rw [List.getElem?_set_ne (fun z => ?_)]
    · exact q
    · rw [← z, e] at q
      cases q
      rw [hp] at c; cases c
  · have z : j ≠ i := fun z => by
      rw [z, List.getElem?_set_self hi] at hj
      cases hj
    rw [List.getElem?_set_ne (Ne.symm z)] at hj
    obtain ⟨v', p1, p2⟩ := R.sl j u hj
    exact ⟨v', p1, slot_mono hs (fun a o e1 e2 => ⟨reO_other e1 fun y => z (Ow.sl.inj y), e2⟩) p2⟩
  · exact tmps_mono hs (fun a o n hn e1 e2 => ⟨reO_other e1 fun y => (by cases y), e2⟩) R.tm
theorem take_post {G : Fix} {O : Own} {σ : St} {H : Hp} {ρ : Rho} {x : D × Kd} {v : V} {Q : D × Bool → Rho → Prop} {E : Exn → Rho → Prop} (R : Rel G O σ H ρ [⟨v, x.1, x.2⟩]) (h : ((dTake x) ρ).post Q E) :
    ∃ O' y ρ', Rel G O' σ H ρ' [⟨v, y.1, frK y.2⟩] ∧ Q y ρ' := by
  obtain ⟨d, e1, q⟩ := post_cur.mp ((post_bind _ _).mp h)
  obtain ⟨d0, k⟩ := x
  cases k with
  | fr => cases e1; exact ⟨O, (d0, true), ρ, R, q⟩
  | shr => cases e1; exact ⟨O, (d0, false), ρ, R, q⟩
  | nm i =>
    dsimp only at q
    unfold takeNm at q
    unfold cur at e1
    dsimp only at e1
    split at e1
    · rename_i s hs
      cases e1
      rw [hs] at q
      dsimp only at q
      by_cases z : (s.own && !s.pin) = true
      · rw [if_pos z] at q
        simp only [Bool.and_eq_true, Bool.not_eq_true'] at z
        obtain ⟨O', R'⟩ := R.pop.take hs z.1 z.2 R.tm.1
        exact ⟨O', (s.d, true), _, R', q⟩
      · rw [if_neg z] at q
        obtain ⟨O', R'⟩ := R.settle (d := s.d) (by unfold cur; dsimp only; rw [hs])
        exact ⟨O', (s.d, false), _, R', q⟩
    · cases e1
theorem ss_ret (he : SE X e r) : SS X (.Return (some e) pos) (dRet r) := fun W tk => PS.imp (ps_ret (he W tk)) fun D σ H ⟨G, O, ρ, hK, R, h⟩ =>
  ⟨G, O, ρ, hK, R, Res.post_mono ((post_bind _ _).mp h) (fun x ρ1 q O' v H' R' => by
    obtain ⟨O2, y, ρ2, R2, q2⟩ := take_post R' ((post_bind _ _).mp q)
    exact q2 O2 σ v H' R2) fun x ρ' q => q σ⟩
def dIf (q : M Bool) (sa sb : DS) : DS := do
  let b ← q
  if b then sa else sb
theorem ss_if {pj : VK → VK} {t : Expr} {A B : List Stmt} (ht : ST X t qa) (ha : SSsf pj X A sa) (hb : SSsf pj X B sb) : SSf pj X (.If t A B pos) (dIf qa sa sb) := fun W tk => PS.imp (ps_if (ht W tk) (ha W tk) (hb W tk)) fun D σ H ⟨G, O, ρ, hK, R, h⟩ =>
  ⟨G, O, ρ, hK, R, Res.post_mono ((post_bind _ _).mp h) (fun b ρ1 q O1 H1 R1 => by
    cases b with
    | true => rw [if_pos rfl] at q ⊢; exact ⟨G, O1, ρ1, hK, R1, q⟩
    | false => rw [if_neg Bool.false_ne_true] at q ⊢; exact ⟨G, O1, ρ1, hK, R1, q⟩) fun x ρ' q => q σ⟩
/-- name = e -/
def putEnd (i : Nat) (k : Kd) (d : D) : M Unit := fun ρ => if pinned (settleR ρ k) i then .stuck else .ok () ((settleR ρ k).set i (some ⟨d, ownOf k, false⟩))
def dPut (i : Nat) (x : D × Kd) : M Unit := do
  let d ← dcur x
  putEnd i x.2 d
theorem put_post {G : Fix} {O : Own} {σ : St} {H : Hp} {ρ : Rho} {i : Nat} {x : D × Kd} {v : V} {T : List Tmp} {Q : Unit → Rho → Prop} {E : Exn → Rho → Prop} (hT : NoNm T) (R : Rel G O σ H ρ (⟨v, x.1, x.2⟩ :: T)) (h : ((dPut i x) ρ).post Q E) :
    ∃ O' ρ', Rel G O' (σ.set i (some v)) H ρ' T ∧ Q () ρ' := by
  obtain ⟨d, e1, q⟩ := post_cur.mp ((post_bind _ _).mp h)
  unfold putEnd at q
  cases hp : pinned (settleR ρ x.2) i with
  | true => rw [hp] at q; exact q.elim
  | false =>
    rw [hp] at q
    obtain ⟨O', R'⟩ := R.assign (i := i) hT e1 hp
    exact ⟨O', _, R', q⟩
def dSet (i : Nat) (r : DE) : DS := do
  let x ← r
  dPut i x
  pure .nx
theorem ss_set {pj : VK → VK} (i : Nat) {x : Str} {pos' : Pos} (hx : CxG X) (he : SE X e r) (hi : X.N[i]? = some x := by rfl) (hl : Loc X.env.scope x := by first | exact Or.inl rfl | exact Or.inr rfl) (hs : swapsWith e (some (.Name x pos')) pos.line X.env = pure false := by rfl)
    (hf : X.fn x = true ∨ X.env.scope.names.lookup x = some .local := by first | exact .inl rfl | exact .inr rfl) : SSf pj X (.Assign [.Name x pos'] e pos) (dSet i r) := fun W tk => PS.imp (ps_set hx.nd hi hl (he W tk) hs hf) fun D σ H ⟨G, O, ρ, hK, R, h⟩ =>
  ⟨G, O, ρ, hK, R, Res.post_mono ((post_bind _ _).mp h) (fun y ρ1 q O' v H' R' => by
    obtain ⟨O2, ρ2, R2, q2⟩ := put_post .nil R' ((post_bind _ _).mp q)
    exact q2 O2 _ H' R2) fun x ρ' q => q σ⟩
/-- a target's names: one, or a tuple of them -/
inductive Tg where
  | one (i : Nat) | many (is : List Nat)
def Tg.slots : Tg → List Nat
  | .one i => [i]
  | .many is => is
def putAll : List Nat → List D → M Unit
  | [], [] => pure ()
  | i :: is, d :: ds => do
    dPut i (d, .shr)
    putAll is ds
  | _, _ => mStuck
def items (d : D) : Option (List D) := match d with
  | .tup ds => some ds
  | .lst ds => some ds
  | _ => none
def Tg.put (t : Tg) (d : D) : M Unit := match t with
  | .one i => dPut i (d, .shr)
  | .many is => do
    let ds ← mOpt (items d)
    putAll is ds
/-- the slots outside are as they were -/
def AgOut (is : List Nat) (σ σ' : St) : Prop := σ'.length = σ.length ∧ ∀ j, j ∉ is → σ'[j]? = σ[j]?
theorem AgOut.refl {is : List Nat} {σ : St} : AgOut is σ σ := ⟨rfl, fun _ _ => rfl⟩
def tG (K : PySem.W.Frag) (is : List Nat) (f : D → M Unit) : TG := fun v σ H Q => ∃ G O ρ T x, G.K = K ∧ NoNm T ∧ Rel G O σ H ρ (⟨v, x, .shr⟩ :: T) ∧ ((f x) ρ).post (fun _ ρ' => ∀ O' σ' H', AgOut is σ σ' → Rel G O' σ' H' ρ' T → Q σ' H') (fun _ _ => False)
def SG (X : Cx) (tg : Expr) (t : Tg) : Prop := PG X tg (tG X.K t.slots t.put)
theorem PG.imp {X : Cx} {e : Expr} {t t' : TG} (h : PG X e t) (i : ∀ v σ H Q, t' v σ H Q → t v σ H Q) : PG X e t' := ⟨fun pins s σ H v u Q I r q => h.run pins s σ H v u Q I r (i v σ H Q q)⟩
theorem PGs.imp {X : Cx} {e : List Expr} {t t' : TGs} (h : PGs X e t) (i : ∀ v σ H Q, t' v σ H Q → t v σ H Q) : PGs X e t' := ⟨fun pins s σ H v u Q I r q => h.run pins s σ H v u Q I r (i v σ H Q q)⟩
theorem AgOut.set {is : List Nat} {σ : St} {i : Nat} {v : Option V} (h : i ∈ is) : AgOut is σ (σ.set i v) := ⟨by simp, fun j hj => by rw [List.getElem?_set_ne]; exact fun z => hj (z ▸ h)⟩
theorem sg_name (i : Nat) {x : Str} (hx : CxG X) (hi : X.N[i]? = some x := by rfl) (hl : Loc X.env.scope x := by first | exact Or.inl rfl | exact Or.inr rfl)
    (hf : X.fn x = true ∨ X.env.scope.names.lookup x = some .local := by first | exact .inl rfl | exact .inr rfl) : SG X (.Name x pos) (.one i) :=
  PG.imp (pg_name hx.nd hi hl hf) fun v σ H Q ⟨G, O, ρ, T, x, hK, hT, R, h⟩ => by
    obtain ⟨O', ρ', R', q⟩ := put_post hT R h
    exact q O' _ H (AgOut.set (by simp [Tg.slots])) R'
/-- several values, the first on top -/
def pushR : List V → List D → List Tmp → List Tmp
  | v :: vs, d :: ds, T => ⟨v, d, .shr⟩ :: pushR vs ds T
  | _, _, T => T
theorem NoNm.pushR {T : List Tmp} (h : NoNm T) : ∀ {vs : List V} {ds : List D}, NoNm (pushR vs ds T)
  | v :: vs, d :: ds => (NoNm.pushR h (vs := vs) (ds := ds)).cons (fun i z => by cases z)
  | [], _ => h
  | _ :: _, [] => h
theorem Rel.pushR {G : Fix} {O : Own} {σ : St} {H : Hp} {ρ : Rho} {T : List Tmp} (R : Rel G O σ H ρ T) : ∀ {vs : List V} {ds : List D}, Reps G.K H (lin O) vs ds → Rel G O σ H ρ (VL.pushR vs ds T)
  | _, _, .nil => R
  | _, _, .cons a b => (R.pushR b).push a
def SGs (X : Cx) (es : List Expr) (is : List Nat) : Prop := PGs X es fun vs σ H Q => ∃ (G : Fix) (O : Own) (ρ : Rho) (T : List Tmp) (ds : List D), G.K = X.K ∧ NoNm T ∧ vs.length = ds.length ∧ Rel G O σ H ρ (pushR vs ds T) ∧
  ((putAll is ds) ρ).post (fun _ ρ' => ∀ O' σ' H', AgOut is σ σ' → Rel G O' σ' H' ρ' T → Q σ' H') (fun _ _ => False)
theorem sgs_nil : SGs X [] [] := PGs.imp pgs_nil fun vs σ H Q ⟨G, O, ρ, T, ds, hK, hT, hl, R, h⟩ => by
  cases ds with
  | nil =>
    cases vs with
    | nil => exact ⟨rfl, h O σ H AgOut.refl R⟩
    | cons v vs => cases hl
  | cons d ds => exact h.elim
theorem sgs_cons (i : Nat) {is : List Nat} {x : Str} (hx : CxG X) (h2 : SGs X es is) (hi : X.N[i]? = some x := by rfl) (hl : Loc X.env.scope x := by first | exact Or.inl rfl | exact Or.inr rfl)
    (hf : X.fn x = true ∨ X.env.scope.names.lookup x = some .local := by first | exact .inl rfl | exact .inr rfl)
    (hs : (assignEach (.Name x pos :: es) X.env).map (·.2) = assign (.Name x pos) X.env :: (assignEach es X.env).map (·.2) := by rfl) : SGs X (.Name x pos :: es) (i :: is) :=
  PGs.imp (pgs_cons (pg_name hx.nd hi hl hf) h2 hs) fun vs σ H Q ⟨G, O, ρ, T, ds, hK, hT, hl, R, h⟩ => by
    cases ds with
    | nil => exact h.elim
    | cons d ds =>
      cases vs with
      | nil => cases hl
      | cons v vs =>
        obtain ⟨O', ρ', R', q⟩ := put_post (NoNm.pushR hT) (R : Rel G O σ H ρ (⟨v, d, .shr⟩ :: pushR vs ds T)) ((post_bind _ _).mp h)
        refine ⟨v, vs, rfl, G, O', ρ', T, ds, hK, hT, Nat.succ.inj hl, R', Res.post_ok q fun _ ρ2 q2 O2 σ2 H2 ag R2 => q2 O2 σ2 H2 ⟨by rw [ag.1]; simp, fun j hj => ?_⟩ R2⟩
        rw [ag.2 j (fun z => hj (List.mem_cons_of_mem _ z)), List.getElem?_set_ne (fun z => hj (by rw [z]; exact List.mem_cons_self))]
theorem putAll_len : ∀ {is : List Nat} {ds : List D} {ρ : Rho} {Q : Unit → Rho → Prop} {E : Exn → Rho → Prop}, (∀ x ρ, ¬ E x ρ) → ((putAll is ds) ρ).post Q E → ds.length = is.length
  | [], [], _, _, _, _, _ => rfl
  | i :: is, d :: ds, ρ, Q, E, hE, h => by
    have h1 := (post_bind _ _).mp h
    cases q : (dPut i (d, .shr)) ρ with
    | stuck => rw [q] at h1; exact h1.elim
    | ex x ρ' => rw [q] at h1; exact (hE _ _ h1).elim
    | ok a ρ' =>
      rw [q] at h1
      exact congrArg (· + 1) (putAll_len hE h1)
  | [], _ :: _, _, _, _, _, h => h.elim
  | _ :: _, [], _, _, _, _, h => h.elim
theorem pg_or {X : Cx} {e : Expr} {t1 t2 : TG} (h1 : PG X e t1) (h2 : PG X e t2) : PG X e fun v σ H Q => t1 v σ H Q ∨ t2 v σ H Q := ⟨fun pins s σ H v u Q I r h => h.elim (h1.run pins s σ H v u Q I r) (h2.run pins s σ H v u Q I r)⟩
theorem sg_tup {is : List Nat} {k : Nat} (hx : CxG X) (h : SGs X es is) (hn : (assignEach es X.env).length = is.length := by rfl) (hst : (assignEach es X.env).findIdx? (·.1) = none := by rfl) : SG X (.Tuple es k pos) (.many is) :=
  PG.imp (pg_or (pg_tup hx.calm h hn hst) (pg_lst hx.calm h hn hst)) fun v σ H Q ⟨G, O, ρ, T, x, hK, hT, R, h⟩ => by
    obtain ⟨ds, e1, q⟩ := (post_opt _).mp ((post_bind _ _).mp h)
    unfold items at e1
    split at e1
    · rename_i xs
      cases e1
      have vw : Vw G.K H O v (.tup ds) := .inl R.tm.1
      obtain ⟨a, vs, rfl, sq, rp⟩ := vw.tup
      rw [hK] at sq
      have hl := putAll_len (fun _ _ z => z) q
      exact .inl ⟨a, vs, rfl, sq, by rw [rp.len, hl], G, O, ρ, T, ds, hK, hT, rp.len, R.pop.pushR rp, q⟩
    · rename_i xs
      cases e1
      have vw : Vw G.K H O v (.lst ds) := .inl R.tm.1
      obtain ⟨a, vs, rfl, sq, rp⟩ := vw.lst
      rw [hK] at sq
      have hl := putAll_len (fun _ _ z => z) q
      exact .inr ⟨a, vs, rfl, sq, by rw [rp.len, hl], G, O, ρ, T, ds, hK, hT, rp.len, R.pop.pushR rp, q⟩
    · cases e1
/-- a, b = e -/
def dUnp (t : Tg) (r : DE) : DS := do
  let x ← r
  let y ← keep false x
  t.put y.1
  pure .nx
theorem keep_false {x : D × Kd} {ρ : Rho} {Q : D × Kd → Rho → Prop} {E : Exn → Rho → Prop} (h : ((keep false x) ρ).post Q E) : ∃ d, cur ρ x = some d ∧ Q (d, .shr) (settleR ρ x.2) := by
  obtain ⟨d, e1, q⟩ := post_cur.mp ((post_bind _ _).mp h)
  exact ⟨d, e1, q⟩
theorem noex {m : M Unit} {ρ : Rho} {Q Q' : Unit → Rho → Prop} {E : Exn → Rho → Prop} (hm : ∀ ρ x ρ', m ρ ≠ .ex x ρ') (h : (m ρ).post Q E) (i : ∀ ρ', Q () ρ' → Q' () ρ') : (m ρ).post Q' (fun _ _ => False) := by
  cases q : m ρ with
  | stuck => rw [q] at h; exact h
  | ok a ρ' => rw [q] at h; exact i _ h
  | ex x ρ' => exact absurd q (hm ρ x ρ')
theorem dPut_noex {i : Nat} {x : D × Kd} (ρ : Rho) (y : Exn) (ρ' : Rho) : (dPut i x) ρ ≠ .ex y ρ' := by
  show M.bind (dcur x) _ ρ ≠ _
  unfold M.bind dcur
  cases cur ρ x with
  | none => exact fun z => by cases z
  | some d =>
    dsimp only
    unfold putEnd
    split <;> (intro z; cases z)
theorem putAll_noex : ∀ {is : List Nat} {ds : List D} (ρ : Rho) (y : Exn) (ρ' : Rho), (putAll is ds) ρ ≠ .ex y ρ'
  | [], [], ρ, y, ρ' => fun z => by cases z
  | i :: is, d :: ds, ρ, y, ρ' => by
    show M.bind (dPut i (d, .shr)) _ ρ ≠ _
    unfold M.bind
    cases q : (dPut i (d, .shr)) ρ with
    | stuck => exact fun z => by cases z
    | ex x ρ2 => exact absurd q (dPut_noex ρ x ρ2)
    | ok a ρ2 => exact putAll_noex ρ2 y ρ'
  | [], _ :: _, ρ, y, ρ' => fun z => by cases z
  | _ :: _, [], ρ, y, ρ' => fun z => by cases z
theorem tg_noex {t : Tg} {d : D} (ρ : Rho) (y : Exn) (ρ' : Rho) : (t.put d) ρ ≠ .ex y ρ' := by
  cases t with
  | one i => exact dPut_noex ρ y ρ'
  | many is =>
    show M.bind (mOpt (items d)) _ ρ ≠ _
    unfold M.bind mOpt
    cases items d with
    | none => exact fun z => by cases z
    | some ds => exact putAll_noex ρ y ρ'
theorem ss_unp {pj : VK → VK} {tg : Expr} {t : Tg} (he : SE X e r) (hg : SG X tg t) (hs : swapsWithSole [tg] e pos.line X.env = pure false := by rfl) (hw : swappedStores [tg] e X.env = pure none := by rfl)
    (h1 : (assignEach [tg] X.env).map (·.2) = [assign tg X.env] := by rfl) : SSf pj X (.Assign [tg] e pos) (dUnp t r) := fun W tk => PS.imp (ps_asg (he W tk) hg hs hw h1) fun D σ H ⟨G, O, ρ, hK, R, h⟩ =>
  ⟨G, O, ρ, hK, R, Res.post_mono ((post_bind _ _).mp h) (fun x ρ1 q O' v H' R' => by
    obtain ⟨d, e1, q2⟩ := keep_false ((post_bind _ _).mp q)
    obtain ⟨O2, R2⟩ := R'.settle (d := d) e1
    exact ⟨G, O2, _, [], d, hK, .nil, R2, noex (fun ρ x ρ' => tg_noex ρ x ρ') ((post_bind _ _).mp q2) fun ρ' q3 O3 σ3 H3 _ R3 => q3 O3 σ3 H3 R3⟩) fun x ρ' q => q σ⟩
end
end L2.VL
end
section
set_option Elab.async false
set_option linter.all false
set_option maxRecDepth 100000
namespace L2.VL
open PySem PySem.Spec PyProof.Rows
def WalkOk (K : PySem.W.Frag) (T : List Tmp) (J : It) (xs : List D) : Prop := ∀ (G : Fix) (O : Own) (σ : St) (H : Hp) (ρ : Rho) (i : Nat) (T' U : List Tmp), G.K = K → Rel G O σ H ρ (T' ++ (T ++ U)) →
  (i < xs.length → J.go i H) ∧ (xs.length ≤ i → J.stop i H) ∧ ∀ x, xs[i]? = some x → ∀ v H', J.yld i H v H' → ∃ O', Rel G O' σ H' ρ (⟨v, x, .shr⟩ :: (T' ++ (T ++ U)))
/-- the same where what stands outside is known -/
def WalkF (G0 : Fix) (T : List Tmp) (J : It) (xs : List D) : Prop := ∀ (G : Fix) (O : Own) (σ : St) (H : Hp) (ρ : Rho) (i : Nat) (T' : List Tmp), G.K = G0.K → (∀ b o, G0.Fr b = some o → G.Fr b = some o) → Rel G O σ H ρ (T' ++ T) →
  (i < xs.length → J.go i H) ∧ (xs.length ≤ i → J.stop i H) ∧ ∀ x, xs[i]? = some x → ∀ v H', J.yld i H v H' → ∃ O', Rel G O' σ H' ρ (⟨v, x, .shr⟩ :: (T' ++ T))
theorem WalkOk.f {K : PySem.W.Frag} {G0 : Fix} {T : List Tmp} {J : It} {xs : List D} (w : WalkOk K T J xs) (hK : G0.K = K) : WalkF G0 T J xs := fun G O σ H ρ i T' e _ R => by
  have z := w G O σ H ρ i T' [] (e.trans hK) (by rw [List.append_nil]; exact R)
  rw [List.append_nil] at z
  exact z
/-- what is walked, what stands outside being G -/
def tIG (G : Fix) (W : WX) (it : M (List D)) : TI := fun σ H R => ∃ O ρ, Rel G O σ H ρ [] ∧
  (it ρ).post (fun xs ρ' => ∀ O' H' J T, NoNm T → Rel G O' σ H' ρ' T → WalkF G T J xs → R J H') (EX G σ W)
def tI (K : PySem.W.Frag) (W : WX) (it : M (List D)) : TI := fun σ H R => ∃ G O ρ, G.K = K ∧ Rel G O σ H ρ [] ∧
  (it ρ).post (fun xs ρ' => ∀ O' H' J T, NoNm T → Rel G O' σ H' ρ' T → WalkF G T J xs → R J H') (EX G σ W)
def SI (X : Cx) (tg iter : Expr) (it : M (List D)) : Prop := ∀ W, Takes X W → PI X tg iter (tI X.K W it)
theorem PI.imp {X : Cx} {tg iter : Expr} {t t' : TI} (h : PI X tg iter t) (i : ∀ σ H Q, t' σ H Q → t σ H Q) : PI X tg iter t' := ⟨fun pins s σ H Q I q => h.run pins s σ H Q I (i σ H Q q)⟩
/-- the same, whatever stands outside -/
def tIU (K : PySem.W.Frag) (W : WX) (it : M (List D)) : TI := fun σ H R => ∃ G O ρ, G.K = K ∧ Rel G O σ H ρ [] ∧
  (it ρ).post (fun xs ρ' => ∀ O' H' J T, NoNm T → Rel G O' σ H' ρ' T → WalkOk K T J xs → R J H') (EX G σ W)
def SIU (X : Cx) (tg iter : Expr) (it : M (List D)) : Prop := ∀ W, Takes X W → PI X tg iter (tIU X.K W it)
theorem SIU.si {X : Cx} {tg iter : Expr} {it : M (List D)} (h : SIU X tg iter it) : SI X tg iter it := fun W tk => PI.imp (h W tk) fun σ H R ⟨G, O, ρ, hK, R', h⟩ =>
  ⟨G, O, ρ, hK, R', Res.post_ok h fun xs ρ' q O' H' J T n r w => q O' H' J T n r (w.f hK)⟩
theorem tmp_in {K : PySem.W.Frag} {H : Hp} {O : Own} {σ : St} {t : Tmp} : ∀ {T T2 : List Tmp}, TmpsOk K H O σ (T2 ++ (t :: T)) → TmpOk K H O σ T.length t
  | T, [], h => h.1
  | T, u :: T2, h => tmp_in (T2 := T2) h.2
section
variable {X : Cx} {tg e : Expr} {es : List Expr} {r : DE} {pos p : Pos}
def lstOf (d : D) : Option (List D) := match d with
  | .lst xs => some xs
  | _ => none
def tupOf (d : D) : Option (List D) := match d with
  | .tup xs => some xs
  | _ => none
def iLst (r : DE) : M (List D) := do
  let x ← r
  let y ← keep false x
  mOpt (lstOf y.1)
def iTuple (r : DE) : M (List D) := do
  let x ← r
  let y ← keep false x
  mOpt (tupOf y.1)
theorem walk_lst {K : PySem.W.Frag} {a : Addr} {xs : List D} : WalkOk K [⟨.ref a, .lst xs, .shr⟩] (Itl K a) xs := fun G O σ H ρ i T' U hK R => by
  have rp : Rep G.K H (lin O) (.ref a) (.lst xs) := tmp_in (T2 := T') (T := U) R.tm
  obtain ⟨b, vs, e, sq, rs⟩ := (show Vw G.K H O (.ref a) (.lst xs) from .inl rp).lst
  cases e
  rw [hK] at sq
  refine ⟨fun hi => ?_, fun hi => ⟨vs, sq, by rw [rs.len]; exact hi⟩, fun x hx v H' y => ?_⟩
  · obtain ⟨u, h1, _⟩ := rs.get (List.getElem?_eq_getElem hi)
    exact ⟨vs, u, sq, h1⟩
  · obtain ⟨rfl, f⟩ := y
    obtain ⟨u, h1, h2⟩ := rs.get hx
    have e := (f vs sq).symm.trans h1
    have ev : v = u := by
      have z := f vs sq
      rw [h1] at z
      exact (Option.some.inj z).symm
    rw [ev]
    exact ⟨O, R.push h2⟩
theorem walk_tup {K : PySem.W.Frag} {a : Addr} {xs : List D} : WalkOk K [⟨.ref a, .tup xs, .shr⟩] (Itt K a) xs := fun G O σ H ρ i T' U hK R => by
  have rp : Rep G.K H (lin O) (.ref a) (.tup xs) := tmp_in (T2 := T') (T := U) R.tm
  obtain ⟨b, vs, e, sq, rs⟩ := (show Vw G.K H O (.ref a) (.tup xs) from .inl rp).tup
  cases e
  rw [hK] at sq
  refine ⟨fun hi => ?_, fun hi => ⟨vs, sq, by rw [rs.len]; exact hi⟩, fun x hx v H' y => ?_⟩
  · obtain ⟨u, h1, _⟩ := rs.get (List.getElem?_eq_getElem hi)
    exact ⟨vs, u, sq, h1⟩
  · obtain ⟨rfl, f⟩ := y
    obtain ⟨u, h1, h2⟩ := rs.get hx
    have ev : v = u := by
      have z := f vs sq
      rw [h1] at z
      exact (Option.some.inj z).symm
    rw [ev]
    exact ⟨O, R.push h2⟩
theorem siu_lst (he : SE X e r) : SIU X tg e (iLst r) := fun W tk => PI.imp (pi_list (he W tk)) fun σ H Q ⟨G, O, ρ, hK, R, h⟩ =>
  ⟨G, O, ρ, hK, R, Res.post_ok ((post_bind _ _).mp h) fun x ρ1 q O1 v H1 R1 => by
    obtain ⟨d, e1, q2⟩ := keep_false ((post_bind _ _).mp q)
    obtain ⟨xs, e2, q3⟩ := (post_opt _).mp q2
    obtain ⟨O2, R2⟩ := R1.settle (d := d) e1
    have ed : d = .lst xs := by
      unfold lstOf at e2
      dsimp only at e2
      split at e2
      · cases e2; rfl
      · cases e2
    subst ed
    obtain ⟨a, vs, rfl, sq, rs⟩ := (show Vw G.K H1 O2 v (.lst xs) from .inl R2.tm.1).lst
    rw [hK] at sq
    exact ⟨a, rfl, ⟨vs, sq⟩, q3 O2 H1 _ _ (NoNm.nil.cons fun i z => by cases z) R2 (walk_lst)⟩⟩
theorem si_lst (he : SE X e r) : SI X tg e (iLst r) := SIU.si (siu_lst he)
theorem siu_tup (he : SE X e r) : SIU X tg e (iTuple r) := fun W tk => PI.imp (pi_tup (he W tk)) fun σ H Q ⟨G, O, ρ, hK, R, h⟩ =>
  ⟨G, O, ρ, hK, R, Res.post_ok ((post_bind _ _).mp h) fun x ρ1 q O1 v H1 R1 => by
    obtain ⟨d, e1, q2⟩ := keep_false ((post_bind _ _).mp q)
    obtain ⟨xs, e2, q3⟩ := (post_opt _).mp q2
    obtain ⟨O2, R2⟩ := R1.settle (d := d) e1
    have ed : d = .tup xs := by
      unfold tupOf at e2
      dsimp only at e2
      split at e2
      · cases e2; rfl
      · cases e2
    subst ed
    obtain ⟨a, vs, rfl, sq, rs⟩ := (show Vw G.K H1 O2 v (.tup xs) from .inl R2.tm.1).tup
    rw [hK] at sq
    exact ⟨a, rfl, ⟨vs, sq⟩, q3 O2 H1 _ _ (NoNm.nil.cons fun i z => by cases z) R2 (walk_tup)⟩⟩
theorem si_tup (he : SE X e r) : SI X tg e (iTuple r) := SIU.si (siu_tup he)
def rngD (lo : Int) (n : Nat) : List D := (List.range n).map fun (k : Nat) => D.int (lo + k)
def small62 (i : Int) : Bool := decide (-4611686018427387904 ≤ i) && decide (i < 4611686018427387904)
theorem small62_of {i : Int} (h : small62 i = true) : -(2 ^ 62) ≤ i ∧ i < 2 ^ 62 := by
  unfold small62 at h
  simp only [Bool.and_eq_true, decide_eq_true_eq] at h
  omega
def rng1 (ds : List D) : Option (List D) := match ds with
  | [.con (.int j)] => if small62 j then some (rngD 0 j.toNat) else none
  | _ => none
def iRng (g : List D → Option (List D)) (l : List (Bool × DE)) : M (List D) := do
  let xs ← dA l
  let ds ← dcurs xs
  mOpt (g ds)
theorem walk_rng {K : PySem.W.Frag} {lo : Int} {n : Nat} {T : List Tmp} : WalkOk K T (Itr lo n) (rngD lo n) := fun G O σ H ρ i T' U hK R => by
  have hl : (rngD lo n).length = n := by unfold rngD; simp
  refine ⟨fun hi => (by rw [hl] at hi; exact hi), fun hi => (by rw [hl] at hi; exact hi), fun x hx v H' y => ?_⟩
  obtain ⟨rfl, rfl⟩ := y
  unfold rngD at hx
  rw [List.getElem?_map] at hx
  cases q : (List.range n)[i]? with
  | none => rw [q] at hx; cases hx
  | some k =>
    rw [q] at hx
    cases hx
    have := List.getElem?_eq_some_iff.mp q
    obtain ⟨h1, h2⟩ := this
    simp at h2
    subst h2
    exact ⟨O, R.con _⟩
theorem Vws.one {K : PySem.W.Frag} {H : Hp} {O : Own} {vs : List V} {d : D} (h : Vws K H O vs [d]) : ∃ v, vs = [v] ∧ Vw K H O v d := by
  cases h with
  | cons a b => cases b; exact ⟨_, rfl, a⟩
theorem Vws.two {K : PySem.W.Frag} {H : Hp} {O : Own} {vs : List V} {d e : D} (h : Vws K H O vs [d, e]) : ∃ v u, vs = [v, u] ∧ Vw K H O v d ∧ Vw K H O u e := by
  cases h with
  | cons a b =>
    obtain ⟨u, rfl, c⟩ := b.one
    exact ⟨_, _, rfl, a, c⟩
theorem siu_rng1 {l : List (Bool × DE)} (hm : X.mg "range" = none) (ha : SA X [e] l) (hg : Gl X "range" := by rfl) (hs : starEach [e] X.env = [(false, eval e X.env)] := by rfl) : SIU X tg (.Call (.Name "range" p) [e] [] pos) (iRng rng1 l) := fun W tk =>
  PI.imp (pi_range1 hg hm (ha W tk) hs) fun σ H Q ⟨G, O, ρ, hK, R, h⟩ => ⟨G, O, ρ, [], hK, R, Res.post_ok ((post_bind _ _).mp h) fun xs ρ1 q O1 vs H1 hl R1 => by
    obtain ⟨ds, e1, q2⟩ := post_curs.mp ((post_bind _ _).mp q)
    obtain ⟨z, e2, q3⟩ := (post_opt _).mp q2
    have v1 := pushC_vws hl R1 e1
    unfold rng1 at e2
    split at e2
    · rename_i j
      obtain ⟨v, rfl, w⟩ := v1.one
      split at e2
      · rename_i hj
        cases e2
        have b := small62_of hj
        exact ⟨j, by rw [w.con], b.1, b.2, q3 O1 H1 _ [] .nil (pushC_pop R1) (walk_rng)⟩
      · cases e2
    · cases e2⟩
theorem si_rng1 {l : List (Bool × DE)} (hm : X.mg "range" = none) (ha : SA X [e] l) (hg : Gl X "range" := by rfl) (hs : starEach [e] X.env = [(false, eval e X.env)] := by rfl) : SI X tg (.Call (.Name "range" p) [e] [] pos) (iRng rng1 l) := SIU.si (siu_rng1 hm ha hg hs)
/-- zip of two lists -/
def iZip2 (l : List (Bool × DE)) : M (List D) := do
  let xs ← dA l
  let ds ← mOpt (shrs xs)
  mOpt (match ds with
    | [.lst a, .lst b] => some ((a.zip b).map fun p => .tup [p.1, p.2])
    | _ => none)
theorem walk_zip {K : PySem.W.Frag} {a b : Addr} {xs ys : List D} : WalkOk K [⟨.ref b, .lst ys, .shr⟩, ⟨.ref a, .lst xs, .shr⟩] (Itz K a b) ((xs.zip ys).map fun p => .tup [p.1, p.2]) := fun G O σ H ρ i T' U hK R => by
  have rb : Rep G.K H (lin O) (.ref b) (.lst ys) := tmp_in (T2 := T') (T := _ :: U) R.tm
  have ra : Rep G.K H (lin O) (.ref a) (.lst xs) := tmp_in (t := ⟨.ref a, .lst xs, .shr⟩) (T2 := T' ++ [⟨.ref b, .lst ys, .shr⟩]) (T := U) (by simpa using R.tm)
  obtain ⟨_, vs, e, sq, rs⟩ := (show Vw G.K H O (.ref a) (.lst xs) from .inl ra).lst
  cases e
  obtain ⟨_, us, e, sq2, rs2⟩ := (show Vw G.K H O (.ref b) (.lst ys) from .inl rb).lst
  cases e
  rw [hK] at sq sq2
  have hl : ((xs.zip ys).map fun p => D.tup [p.1, p.2]).length = min xs.length ys.length := by simp
  refine ⟨fun hi => ?_, fun hi => ⟨vs, us, sq, sq2, ?_⟩, fun x hx v H' y => ?_⟩
  · rw [hl] at hi
    obtain ⟨u, h1, _⟩ := rs.get (List.getElem?_eq_getElem (show i < xs.length by omega))
    obtain ⟨u2, h2, _⟩ := rs2.get (List.getElem?_eq_getElem (show i < ys.length by omega))
    exact ⟨vs, us, u, u2, sq, sq2, h1, h2⟩
  · rw [hl] at hi
    rw [rs.len, rs2.len]
    omega
  · obtain ⟨P, x1, x2, rfl, nP, rfl, f1, f2⟩ := y
    rw [List.getElem?_map] at hx
    cases q : (xs.zip ys)[i]? with
    | none => rw [q] at hx; cases hx
    | some pr =>
      rw [q] at hx
      cases hx
      obtain ⟨z1, z2⟩ := List.getElem?_zip_eq_some.mp q
      obtain ⟨u, h1, k1⟩ := rs.get z1
      obtain ⟨u2, h2, k2⟩ := rs2.get z2
      have e1 : x1 = u := by
        have z := f1 vs sq
        rw [h1] at z
        exact (Option.some.inj z).symm
      have e2 : x2 = u2 := by
        have z := f2 us sq2
        rw [h2] at z
        exact (Option.some.inj z).symm
      rw [e1, e2]
      exact ⟨O, R.freshT nP (.tup (.cons k1 (.cons k2 .nil)))⟩
theorem si_zip {e2 : Expr} {elts : List Expr} {kk : Nat} {tpos : Pos} {l : List (Bool × DE)} (hm : X.mg "zip" = none) (ha : SA X [e, e2] l) (hg : Gl X "zip" := by rfl)
    (hs : starEach [e, e2] X.env = (false, eval e X.env) :: starEach [e2] X.env := by rfl) (hpl : (backTo pos (starEach [e2] X.env)).any (·.1) = false := by rfl) : SI X (.Tuple elts kk tpos) (.Call (.Name "zip" p) [e, e2] [] pos) (iZip2 l) := fun W tk =>
  PI.imp (pi_zip hg hm (ha W tk) hs hpl) fun σ H Q ⟨G, O, ρ, hK, R, h⟩ => ⟨G, O, ρ, [], hK, R, Res.post_ok ((post_bind _ _).mp h) fun xs ρ1 q O1 vs H1 hl R1 => by
    obtain ⟨ds, e1, q2⟩ := (post_opt _).mp ((post_bind _ _).mp q)
    obtain ⟨z, e2, q3⟩ := (post_opt _).mp q2
    have rp := pushC_reps hl R1 e1
    split at e2
    · rename_i a b
      cases e2
      cases rp with
      | cons r1 rr =>
        cases rr with
        | cons r2 rr =>
          cases rr
          obtain ⟨a1, v1, rfl, s1, _⟩ := (show Vw G.K H1 O1 _ _ from .inl r1).lst
          obtain ⟨a2, v2, rfl, s2, _⟩ := (show Vw G.K H1 O1 _ _ from .inl r2).lst
          rw [hK] at s1 s2
          refine ⟨a1, a2, v1, v2, rfl, s1, s2, q3 O1 H1 _ _ ?_ (((pushC_pop R1).push (t := ⟨.ref a1, .lst a, .shr⟩) r1).push (t := ⟨.ref a2, .lst b, .shr⟩) r2) (walk_zip.f hK)⟩
          exact (NoNm.nil.cons fun i z => by cases z).cons fun i z => by cases z
    · cases e2⟩
end
def forD (t : Tg) (body : DS) : List D → DS
  | [] => pure .nx
  | x :: xs => do
    t.put x
    let f ← body
    match f with
    | .nx => forD t body xs
    | .cnt => forD t body xs
    | .brk => pure .nx
    | f => pure f
def dFor (it : M (List D)) (t : Tg) (body : DS) : DS := do
  let xs ← it
  forD t body xs
theorem for_impG {pj : VK → VK} {K : PySem.W.Frag} {W : WX} {it : M (List D)} {t : Tg} {sb : DS} {D : Ends} {σ : St} {H : Hp} {G : Fix} {O : Own} {ρ : Rho} (hK : G.K = K) (R : Rel G O σ H ρ []) (h : ((dFor it t sb) ρ).post (FlOk G (D.re pj) []) (EXs G W)) :
    tFor (tIG G W it) (tG K t.slots t.put) (fun D => tS K W sb (D.re pj)) D σ H := by
  refine ⟨O, ρ, R, Res.post_mono ((post_bind _ _).mp h) (fun xs ρ1 q O1 H1 J T hT R1 wk => ?_) fun x ρ' q => q σ⟩
  refine ⟨fun i m σ H => m = xs.length - i ∧ i ≤ xs.length ∧ ∃ O ρ, Rel G O σ H ρ T ∧ ((forD t sb (xs.drop i)) ρ).post (FlOk G (D.re pj) []) (EXs G W), ⟨xs.length, by simp, Nat.zero_le _, O1, ρ1, R1, q⟩, ?_⟩
  rintro i m σ2 H2 ⟨rfl, hi2, O2, ρ2, R2, q2⟩
  obtain ⟨w1, w2, w3⟩ := wk G O2 σ2 H2 ρ2 i [] rfl (fun _ _ e => e) R2
  by_cases hlt : i < xs.length
  · refine .inr ⟨w1 hlt, fun σ' H' => ∃ O ρ, Rel G O σ' H' ρ T ∧ ((forD t sb (xs.drop (i + 1))) ρ).post (FlOk G (D.re pj) []) (EXs G W), fun σ' H' p => ⟨xs.length - (i + 1), by omega, rfl, hlt, p⟩, fun v H' y => ?_⟩
    obtain ⟨O3, R3⟩ := w3 xs[i] (List.getElem?_eq_getElem hlt) v H' y
    rw [List.drop_eq_getElem_cons hlt] at q2
    refine ⟨G, O3, ρ2, T, xs[i], hK, hT, R3, noex (fun ρ x ρ' => tg_noex ρ x ρ') ((post_bind _ _).mp q2) fun ρ3 q3 O4 σ4 H4 _ R4 => ?_⟩
    refine tS.at hT hK R4 (Res.post_ok ((post_bind _ _).mp q3) fun f ρ4 q4 => ?_)
    cases f with
    | nx => exact fun O5 σ5 H5 R5 => ⟨O5, ρ4, R5, q4⟩
    | cnt => exact fun O5 σ5 H5 R5 => ⟨O5, ρ4, R5, q4⟩
    | brk => exact fun O5 σ5 H5 R5 => q4 O5 σ5 H5 R5.nil
    | ret d b => exact fun O5 σ5 v5 H5 R5 => let ⟨O6, R6⟩ := R5.only; q4 O6 σ5 v5 H5 R6
  · have e : i = xs.length := by omega
    subst e
    rw [List.drop_length] at q2
    exact .inl ⟨w2 (Nat.le_refl _), q2 O2 σ2 H2 R2.nil⟩
theorem ss_for {pj : VK → VK} {X : Cx} {tg iter : Expr} {body : List Stmt} {it : M (List D)} {t : Tg} {sb : DS} {pos : Pos} (hx : CxG X) (hi : SI X tg iter it) (hg : SG X tg t) (hb : SSsf pj X body sb)
    (hs : ∀ x, foldedSetIterable iter X.env x = pure x := by intro _; rfl) : SSf pj X (.For tg iter body [] pos) (dFor it t sb) := fun W tk => PS.imp (ps_for hx.pass hx.calm (hi W tk) hg (hb W tk) hs) fun D σ H ⟨G, O, ρ, hK, R, h⟩ =>
  let ⟨O1, ρ1, R1, h1⟩ := for_impG hK R h
  ⟨G, O1, ρ1, hK, R1, h1⟩
end L2.VL
end
section
set_option Elab.async false
set_option linter.all false
set_option maxRecDepth 100000
namespace L2.VL
open PySem PySem.Spec PyProof.Rows
def wipeR (ρ : Rho) : List Nat → Rho
  | [] => ρ
  | v :: vs => (wipeR ρ vs).set v none
def wipeM (own : List Nat) : M Unit := fun ρ => .ok () (wipeR ρ own)
def noX {α : Type} (m : M α) : M α := fun ρ => match m ρ with
  | .ex _ _ => .stuck
  | r => r
theorem post_noX {α : Type} {m : M α} {ρ : Rho} {Q : α → Rho → Prop} {E : Exn → Rho → Prop} (h : ((noX m) ρ).post Q E) (E' : Exn → Rho → Prop) : (m ρ).post Q E' := by
  unfold noX at h
  cases q : m ρ with
  | stuck => rw [q] at h; exact h
  | ok a ρ' => rw [q] at h; exact h
  | ex x ρ' => rw [q] at h; exact h.elim
def lcD (own : List Nat) (t : Tg) (q : M Bool) (r : DE) : List D → M (List D)
  | [] => pure []
  | x :: xs => do
    wipeM own
    t.put x
    let b ← noX q
    if b then do
      let y ← noX r
      let z ← keep false y
      let rest ← lcD own t q r xs
      pure (z.1 :: rest)
    else lcD own t q r xs
def okOwn (own : List Nat) : M Unit := fun ρ => if own.all (fun i => !pinned ρ i) then .ok () ρ else .stuck
def lcEnd (ds : List D) : Option (D × Kd) := if ds.length ≤ cap then some (.lst ds, .fr) else none
def dLc (own : List Nat) (it : M (List D)) (t : Tg) (q : M Bool) (r : DE) : DE := do
  let xs ← it
  okOwn own
  let ds ← lcD own t q r xs
  wipeM own
  mOpt (lcEnd ds)
theorem wipe_at (σ : St) : ∀ (own : List Nat) (i : Nat), (wipe σ own)[i]? = if i ∈ own then σ[i]?.map (fun _ => none) else σ[i]?
  | [], i => by simp [wipe]
  | v :: vs, i => by
    unfold wipe
    have ih := wipe_at σ vs i
    by_cases h : v = i
    · subst h
      rw [if_pos List.mem_cons_self]
      by_cases hl : v < σ.length
      · rw [List.getElem?_set_self (by rw [wipe_length]; exact hl), List.getElem?_eq_getElem hl]; rfl
      · rw [List.getElem?_eq_none (by rw [List.length_set, wipe_length]; omega), List.getElem?_eq_none (by omega)]; rfl
    · rw [List.getElem?_set_ne h, ih]
      by_cases h2 : i ∈ vs
      · rw [if_pos h2, if_pos (List.mem_cons_of_mem _ h2)]
      · rw [if_neg h2, if_neg (fun z => (List.mem_cons.mp z).elim (fun e => h e.symm) h2)]
theorem wipeR_at (ρ : Rho) : ∀ (own : List Nat) (i : Nat), (wipeR ρ own)[i]? = if i ∈ own then ρ[i]?.map (fun _ => none) else ρ[i]?
  | [], i => by simp [wipeR]
  | v :: vs, i => by
    unfold wipeR
    have ih := wipeR_at ρ vs i
    have wl : ∀ vs : List Nat, (wipeR ρ vs).length = ρ.length := fun vs => by
      induction vs with
      | nil => rfl
      | cons v vs ih => unfold wipeR; rw [List.length_set, ih]
    by_cases h : v = i
    · subst h
      rw [if_pos List.mem_cons_self]
      by_cases hl : v < ρ.length
      · rw [List.getElem?_set_self (by rw [wl]; exact hl), List.getElem?_eq_getElem hl]; rfl
      · rw [List.getElem?_eq_none (by rw [List.length_set, wl]; omega), List.getElem?_eq_none (by omega)]; rfl
    · rw [List.getElem?_set_ne h, ih]
      by_cases h2 : i ∈ vs
      · rw [if_pos h2, if_pos (List.mem_cons_of_mem _ h2)]
      · rw [if_neg h2, if_neg (fun z => (List.mem_cons.mp z).elim (fun e => h e.symm) h2)]
theorem wipeR_length (ρ : Rho) : ∀ vs : List Nat, (wipeR ρ vs).length = ρ.length
  | [] => rfl
  | v :: vs => by unfold wipeR; rw [List.length_set, wipeR_length ρ vs]
theorem wipe_ag {own is : List Nat} {σ σ' : St} (h : AgOut is σ σ') (hs : ∀ i ∈ is, i ∈ own) : wipe σ' own = wipe σ own := by
  apply List.ext_getElem?
  intro i
  rw [wipe_at, wipe_at]
  by_cases hi : i ∈ own
  · rw [if_pos hi, if_pos hi]
    by_cases hl : i < σ.length
    · rw [List.getElem?_eq_getElem hl, List.getElem?_eq_getElem (by rw [h.1]; exact hl)]; rfl
    · rw [List.getElem?_eq_none (l := σ') (by rw [h.1]; omega), List.getElem?_eq_none (l := σ) (by omega)]
  · rw [if_neg hi, if_neg hi]
    exact h.2 i fun z => hi (hs i z)
theorem wipe_wipe {own : List Nat} {σ : St} : wipe (wipe σ own) own = wipe σ own := by
  apply List.ext_getElem?
  intro i
  rw [wipe_at, wipe_at]
  by_cases hi : i ∈ own
  · rw [if_pos hi, if_pos hi]
    cases σ[i]? <;> rfl
  · rw [if_neg hi, if_neg hi]
section
variable {G : Fix} {O : Own} {σ σ' : St} {H : Hp} {ρ : Rho} {T : List Tmp} {own : List Nat}
/-- the slots at own are forgotten; the frame's other slots are as they are -/
theorem Rel.wipe (R : Rel G O σ H ρ T) (hT : NoNm T) (hp : ∀ i ∈ own, G.Pin i = none) (hσ : σ'.length = σ.length) (ha : ∀ i, i ∉ own → σ'[i]? = σ[i]?) : Rel G O σ' H (wipeR ρ own) T := by
  have get : ∀ i s, (wipeR ρ own)[i]? = some (some s) → i ∉ own ∧ ρ[i]? = some (some s) := fun i s e => by
    rw [wipeR_at] at e
    by_cases hi : i ∈ own
    · rw [if_pos hi] at e
      cases q : ρ[i]? with
      | none => rw [q] at e; cases e
      | some _ => rw [q] at e; cases e
    · rw [if_neg hi] at e
      exact ⟨hi, e⟩
  refine ⟨by rw [wipeR_length, R.len, hσ], R.fr, R.ot, R.tr, fun i v e => ?_, fun i s e => ?_, tmps_slots (fun u hu j hj => absurd hj (hT u hu j)) R.tm⟩
  · have hi : i ∉ own := fun z => by rw [hp i z] at e; cases e
    obtain ⟨h1, s, h2, h3⟩ := R.pn i v e
    exact ⟨by rw [ha i hi]; exact h1, s, by rw [wipeR_at, if_neg hi]; exact h2, h3⟩
  · obtain ⟨hi, e⟩ := get i s e
    obtain ⟨v, h1, h2⟩ := R.sl i s e
    exact ⟨v, by rw [ha i hi]; exact h1, h2⟩
end
def STs (X : Cx) (ifs : List Expr) (q : M Bool) : Prop := ∀ W, Takes X W → PTs X ifs (tT X.K W q)
theorem PTs.imp {X : Cx} {e : List Expr} {t t' : TT} (h : PTs X e t) (i : ∀ σ H Q, t' σ H Q → t σ H Q) : PTs X e t' := ⟨fun pins s σ H Q I q => h.run pins s σ H Q I (i σ H Q q)⟩
section
variable {X : Cx} {tg iter elt : Expr} {ifs : List Expr} {scope : Scope} {own : List (Str × Nat)} {it : M (List D)} {t : Tg} {q : M Bool} {r : DE} {pos : Pos}
theorem sts_nil : STs X [] (pure true) := fun W tk => PTs.imp pts_nil fun σ H Q ⟨G, O, ρ, hK, R, h⟩ => h O H R
theorem sts_one {c : Expr} (h : ST X c q) : STs X [c] q := fun W tk => pts_one (h W tk)
abbrev WF : WX := fun _ _ _ _ => False
theorem takesF {X : Cx} : Takes X WF := fun u s' ⟨a, B, sI, pins, σ, H, cls, d, e, I, nb, up, sky, na, os, ag, w⟩ => w.elim
theorem lc_impG {K : PySem.W.Frag} {W : WX} {vs : List Nat} (hsub : ∀ i ∈ t.slots, i ∈ vs) {σ : St} {H : Hp} {Q : VK} {G : Fix} {O : Own} {ρ : Rho} (hK : G.K = K) (R : Rel G O σ H ρ []) (h : ((dLc vs it t q r) ρ).post (fun x ρ' => ∀ O' v H', Rel G O' σ H' ρ' [⟨v, x.1, x.2⟩] → Q v H') (EX G σ W)) : tLc (tIG G W it) (tG K t.slots t.put) (tT K WF q) (tE K WF r) vs σ H Q := by
  refine ⟨O, ρ, R, Res.post_ok ((post_bind _ _).mp h) fun xs ρ1 q1 O1 H1 J T hT R1 wk => ?_⟩
  intro Dl hD
  replace q1 := (post_bind _ _).mp q1
  unfold okOwn at q1
  by_cases hok : vs.all (fun i => !pinned ρ1 i) = true
  · rw [if_pos hok] at q1
    have hp : ∀ i ∈ vs, G.Pin i = none := fun i hi => by
      cases e : G.Pin i with
      | none => rfl
      | some v =>
        obtain ⟨_, s, h2, h3⟩ := R1.pn i v e
        have := List.all_eq_true.mp hok i hi
        unfold pinned at this
        rw [h2] at this
        dsimp only at this
        rw [h3] at this
        cases this
    replace q1 : ((lcD vs t q r xs) ρ1).post (fun ds ρ' => ((do wipeM vs; mOpt (lcEnd ds) : DE) ρ').post (fun x ρ' => ∀ O' v H', Rel G O' σ H' ρ' [⟨v, x.1, x.2⟩] → Q v H') (EX G σ W)) (EX G σ W) := (post_bind _ _).mp q1
    obtain ⟨O2, R2⟩ := R1.fresh (d := .lst []) hD (.lst .nil)
    let Fin : List D → Rho → Prop := fun ds ρ' => ((do wipeM vs; mOpt (lcEnd ds) : DE) ρ').post (fun x ρ' => ∀ O' v H', Rel G O' σ H' ρ' [⟨v, x.1, x.2⟩] → Q v H') (EX G σ W)
    refine ⟨fun i m H => m = xs.length - i ∧ i ≤ xs.length ∧ ∃ (O : Own) (ρ : Rho) (acc : List D) (σ2 : St), L2.wipe σ2 vs = L2.wipe σ vs ∧ Rel G O σ2 H ρ (⟨.ref Dl, .lst acc, .fr⟩ :: T) ∧
      ((lcD vs t q r (xs.drop i)) ρ).post (fun ds ρ' => Fin (acc ++ ds) ρ') (EX G σ W), ⟨xs.length, by simp, Nat.zero_le _, O2, ρ1, [], σ, rfl, R2, q1⟩, ?_⟩
    rintro i m H3 ⟨rfl, hi, O3, ρ3, acc, σ2, hw, R3, q3⟩
    have hT2 : NoNm (⟨.ref Dl, .lst acc, .fr⟩ :: T) := hT.cons fun i z => by cases z
    have hlen : σ2.length = σ.length := by
      have := congrArg List.length hw
      rw [wipe_length, wipe_length] at this; exact this
    obtain ⟨w1, w2, w3⟩ := wk G O3 σ2 H3 ρ3 i [_] rfl (fun _ _ e => e) R3
    have off : ∀ j, j ∉ vs → σ2[j]? = σ[j]? := fun j hj => by
      have z1 := wipe_at σ2 vs j
      have z2 := wipe_at σ vs j
      rw [if_neg hj] at z1 z2
      rw [← z1, ← z2, hw]
    by_cases hlt : i < xs.length
    · refine .inr ⟨w1 hlt, fun H' => ∃ (O : Own) (ρ : Rho) (acc : List D) (σ2 : St), L2.wipe σ2 vs = L2.wipe σ vs ∧ Rel G O σ2 H' ρ (⟨.ref Dl, .lst acc, .fr⟩ :: T) ∧
        ((lcD vs t q r (xs.drop (i + 1))) ρ).post (fun ds ρ' => Fin (acc ++ ds) ρ') (EX G σ W), fun H' p => ⟨xs.length - (i + 1), by omega, rfl, hlt, p⟩, fun v H' y => ?_⟩
      obtain ⟨O4, R4⟩ := w3 xs[i] (List.getElem?_eq_getElem hlt) v H' y
      rw [List.drop_eq_getElem_cons hlt] at q3
      have q3a := (post_bind (wipeM vs) _).mp q3
      replace q3 := (post_bind (t.put xs[i]) _).mp (show Res.post ((t.put xs[i] >>= fun _ => _) (wipeR ρ3 vs)) _ _ from q3a)
      have R5 : Rel G O4 (L2.wipe σ vs) H' (wipeR ρ3 vs) (⟨v, xs[i], .shr⟩ :: ⟨.ref Dl, .lst acc, .fr⟩ :: T) := R4.wipe (hT2.cons fun i z => by cases z) hp (by rw [wipe_length, hlen]) fun j hj => by
        rw [wipe_at, if_neg hj]; exact (off j hj).symm
      refine ⟨G, O4, _, _, xs[i], hK, hT2, R5, noex (fun ρ x ρ' => tg_noex ρ x ρ') q3 fun ρ4 q4 O6 σ6 H6 ag R6 => ?_⟩
      have hw6 : L2.wipe σ6 vs = L2.wipe σ vs := (wipe_ag ag hsub).trans wipe_wipe
      refine ⟨hw6, tT.at hK R6 (Res.post_ok (post_noX ((post_bind _ _).mp q4) _) fun b ρ5 q5 O7 H7 R7 => ?_)⟩
      cases b with
      | false =>
        rw [if_neg Bool.false_ne_true] at q5 ⊢
        exact ⟨O7, ρ5, acc, σ6, hw6, R7, q5⟩
      | true =>
        rw [if_pos rfl] at q5 ⊢
        refine tE.at hK R7 (Res.post_ok (post_noX ((post_bind _ _).mp q5) _) fun y ρ6 q6 O8 u H8 R8 => ?_)
        obtain ⟨d, e1, q7⟩ := keep_false ((post_bind _ _).mp q6)
        obtain ⟨O9, R9⟩ := R8.settle (d := d) e1
        obtain ⟨a1, ho1, ev, ea, hh, c1⟩ := (OwnX.flat (show OwnX _ _ _ _ _ _ from R9.tm.2.1))
        cases ev
        cases c1 with
        | lst rs =>
          have q8 := (post_bind _ _).mp q7
          -- the size
          have hz : acc.length < sizeLine := by
            cases qq : (lcD vs t q r (xs.drop (i + 1))) (settleR ρ6 y.2) with
            | stuck => rw [qq] at q8; exact q8.elim
            | ok ds ρ7 =>
              rw [qq] at q8
              replace q8 : Fin (acc ++ (d :: ds)) ρ7 := q8
              replace q8 : ((mOpt (lcEnd (acc ++ (d :: ds))) : DE) (wipeR ρ7 vs)).post (fun x ρ' => ∀ O' v H', Rel G O' σ H' ρ' [⟨v, x.1, x.2⟩] → Q v H') (EX G σ W) := q8
              obtain ⟨z, e3, _⟩ := (post_opt _).mp q8
              unfold lcEnd at e3
              split at e3
              · rename_i hl
                rw [List.length_append, List.length_cons, cap_eq] at hl
                omega
              · cases e3
            | ex x ρ7 =>
              -- no exception leaves the block
              exfalso
              have noexc : ∀ (l : List D) (ρ : Rho) (x : Exn) (ρ' : Rho), (lcD vs t q r l) ρ ≠ .ex x ρ' := by
                intro l
                induction l with
                | nil => intro ρ x ρ' z; cases z
                | cons a l ih =>
                  intro ρ x ρ' z
                  replace z : (M.bind (wipeM vs) fun _ => M.bind (t.put a) fun _ => M.bind (noX q) fun b => if b then M.bind (noX r) fun y => M.bind (keep false y) fun z => M.bind (lcD vs t q r l) fun rest => M.ret (z.1 :: rest) else lcD vs t q r l) ρ = .ex x ρ' := z
                  unfold M.bind at z
                  dsimp only [wipeM] at z
                  cases h1 : (t.put a) (wipeR ρ vs) with
                  | stuck => rw [h1] at z; cases z
                  | ex y ρ2 => exact tg_noex _ _ _ h1
                  | ok u ρ2 =>
                    rw [h1] at z
                    dsimp only at z
                    cases h2 : (noX q) ρ2 with
                    | stuck => rw [h2] at z; cases z
                    | ex y ρ3 =>
                      unfold noX at h2
                      split at h2
                      · cases h2
                      · rename_i hn; exact hn _ _ h2
                    | ok b ρ3 =>
                      rw [h2] at z
                      dsimp only at z
                      cases b with
                      | false => exact ih _ _ _ z
                      | true =>
                        simp only [↓reduceIte] at z
                        cases h3 : (noX r) ρ3 with
                        | stuck => rw [h3] at z; cases z
                        | ex y ρ4 =>
                          unfold noX at h3
                          split at h3
                          · cases h3
                          · rename_i hn; exact hn _ _ h3
                        | ok y ρ4 =>
                          rw [h3] at z
                          dsimp only at z
                          cases h4 : (keep false y) ρ4 with
                          | stuck => rw [h4] at z; cases z
                          | ex w ρ5 =>
                            replace h4 : M.bind (dcur y) (fun d => M.bind (settleM y.2) fun _ => M.ret (d, Kd.shr)) ρ4 = .ex w ρ5 := h4
                            unfold M.bind dcur at h4
                            cases h5 : cur ρ4 y with
                            | none => rw [h5] at h4; cases h4
                            | some d => rw [h5] at h4; cases h4
                          | ok w ρ5 =>
                            rw [h4] at z
                            dsimp only at z
                            cases h5 : (lcD vs t q r l) ρ5 with
                            | stuck => rw [h5] at z; cases z
                            | ex w2 ρ6 => exact ih _ _ _ h5
                            | ok w2 ρ6 => rw [h5] at z; cases z
              exact noexc _ _ _ _ qq
          refine ⟨_, hh, by rw [rs.len]; exact hz, O9, settleR ρ6 y.2, acc ++ [d], σ6, hw6, ?_, ?_⟩
          · exact R9.pop.writeT (d := .lst (acc ++ [d])) hh (.lst (rs.append (.cons (show Rep _ _ _ _ _ from R9.tm.1) .nil)))
          · refine Res.post_ok q8 fun ds ρ7 q9 => ?_
            show Fin (acc ++ [d] ++ ds) ρ7
            rw [List.append_assoc]
            exact q9
    · have e : i = xs.length := by omega
      subst e
      rw [List.drop_length] at q3
      replace q3 : Fin (acc ++ []) ρ3 := q3
      rw [List.append_nil] at q3
      replace q3 : ((mOpt (lcEnd acc) : DE) (wipeR ρ3 vs)).post (fun x ρ' => ∀ O' v H', Rel G O' σ H' ρ' [⟨v, x.1, x.2⟩] → Q v H') (EX G σ W) := q3
      obtain ⟨z, e3, q4⟩ := (post_opt _).mp q3
      unfold lcEnd at e3
      split at e3
      · cases e3
        obtain ⟨O6, R6⟩ := (R3.wipe (σ' := σ) hT2 hp hlen.symm fun j hj => (off j hj).symm).only
        exact .inl ⟨w2 (Nat.le_refl _), q4 O6 _ _ R6⟩
      · cases e3
  · rw [if_neg hok] at q1; exact q1.elim
theorem lc_imp {K : PySem.W.Frag} {W : WX} {vs : List Nat} (hsub : ∀ i ∈ t.slots, i ∈ vs) (σ : St) (H : Hp) (Q : VK) (h : tE K W (dLc vs it t q r) σ H Q) : tLc (tI K W it) (tG K t.slots t.put) (tT K WF q) (tE K WF r) vs σ H Q :=
  let ⟨G, O, ρ, hK, R, h⟩ := h
  let ⟨O1, ρ1, R1, h1⟩ := lc_impG hsub hK R h
  ⟨G, O1, ρ1, hK, R1, h1⟩
theorem cxg_blk (hx : CxG X) (s : Shared) (H : Hp) (scope : Scope) (cenv : Env) (fp : List Addr) : CxG (X.blk s H scope cenv fp) := ⟨hx.calm, hx.nd, PassesOwn.never, hx.gu⟩
theorem se_lc (own : List (Str × Nat)) (hx : CxG X) (hi : SI X tg iter it) (ok : blkC X.N X.env.scope scope own = true)
    (hg : ∀ (s : Shared) (H : Hp) (C : Addr) (cl : List (Str × Addr)) (fp : List Addr), SG (X.blk s H scope (compEnvC scope cl C X.env) fp) tg t) (ht : ∀ (s : Shared) (H : Hp) (C : Addr) (cl : List (Str × Addr)) (fp : List Addr), STs (X.blk s H scope (compEnvC scope cl C X.env) fp) ifs q)
    (he : ∀ (s : Shared) (H : Hp) (C : Addr) (cl : List (Str × Addr)) (fp : List Addr), SE (X.blk s H scope (compEnvC scope cl C X.env) fp) elt r) (hsub : ∀ i ∈ t.slots, i ∈ own.map (·.2) := by decide) (hs : ∀ x, foldedSetIterable iter X.env x = pure x := by intro _; rfl) :
    SE X (.ListComp elt [⟨tg, iter, ifs, 0⟩] scope pos) (dLc (own.map (·.2)) it t q r) := fun W tk =>
  PE.imp (pe_lc (g := tG X.K t.slots t.put) (tt := tT X.K WF q) (te := tE X.K WF r) hx.calm hx.nd (hi W tk) (blkOk_by ok) (fun s H C cl fp => hg s H C cl fp) (fun s H C cl fp => ht s H C cl fp WF takesF) (fun s H C cl fp => he s H C cl fp WF takesF) hs) (lc_imp hsub)
theorem ss_setLc {pj : VK → VK} (own : List (Str × Nat)) (i : Nat) {y : Str} {py spos : Pos} (hx : CxG X) (hi : SI X tg iter it) (ok : blkC X.N X.env.scope scope own = true)
    (hg : ∀ (s : Shared) (H : Hp) (C : Addr) (cl : List (Str × Addr)) (fp : List Addr), SG (X.blk s H scope (compEnvC scope cl C X.env) fp) tg t) (ht : ∀ (s : Shared) (H : Hp) (C : Addr) (cl : List (Str × Addr)) (fp : List Addr), STs (X.blk s H scope (compEnvC scope cl C X.env) fp) ifs q)
    (he : ∀ (s : Shared) (H : Hp) (C : Addr) (cl : List (Str × Addr)) (fp : List Addr), SE (X.blk s H scope (compEnvC scope cl C X.env) fp) elt r) (hsw : swapsWith (.ListComp elt [⟨tg, iter, ifs, 0⟩] scope pos) (some (.Name y py)) spos.line X.env = pure true)
    (hy : X.N[i]? = some y := by rfl) (hyl : X.env.scope.names.lookup y = some .local := by rfl) (hsub : ∀ i ∈ t.slots, i ∈ own.map (·.2) := by decide) (hs : ∀ x, foldedSetIterable iter X.env x = pure x := by intro _; rfl) :
    SSf pj X (.Assign [.Name y py] (.ListComp elt [⟨tg, iter, ifs, 0⟩] scope pos) spos) (dSet i (dLc (own.map (·.2)) it t q r)) := fun W tk =>
  PS.imp (ps_setLc (g := tG X.K t.slots t.put) (tt := tT X.K WF q) (te := tE X.K WF r) hx.calm hx.nd hy hyl hsw (hi W tk) (blkOk_by ok) (fun s H C cl fp => hg s H C cl fp) (fun s H C cl fp => ht s H C cl fp WF takesF) (fun s H C cl fp => he s H C cl fp WF takesF) hs) fun D σ H ⟨G, O, ρ, hK, R, h⟩ =>
    lc_imp (W := W) hsub σ H _ ⟨G, O, ρ, hK, R, Res.post_mono ((post_bind _ _).mp h) (fun y ρ1 q O' v H' R' => by
      obtain ⟨O2, ρ2, R2, q2⟩ := put_post .nil R' ((post_bind _ _).mp q)
      exact q2 O2 _ H' R2) fun x ρ' q => q σ⟩
end
end L2.VL
end
section
set_option Elab.async false
set_option linter.all false
set_option maxRecDepth 100000
namespace L2.VL
open PySem PySem.Spec PyProof.Rows
structure Arg where
  d : D
  own : Bool
inductive FRes where
  | ret (d : D) (fr : Bool) (outs : Rho)
  | exc (x : Exn) (outs : Rho)
abbrev Fn := List Arg → Option FRes
def shA (d : D) : Arg := ⟨d, false⟩
def slotOf (a : Arg) : Option Slot := some ⟨a.d, a.own, a.own⟩
def runFn (n : Nat) (body : DS) : Fn := fun args => match body (args.map slotOf ++ List.replicate (n - args.length) none) with
  | .stuck => none
  | .ex x ρ' => some (.exc x (ρ'.take args.length))
  | .ok .nx ρ' => some (.ret .non false (ρ'.take args.length))
  | .ok (.ret d b) ρ' => some (.ret d b (ρ'.take args.length))
  | .ok _ _ => none
/-- what a def promises -/
def FRes.post (r : Option FRes) (Q : D → Bool → Rho → Prop) (E : Exn → Rho → Prop) : Prop := match r with
  | none => False
  | some (.ret d b outs) => Q d b outs
  | some (.exc x outs) => E x outs
def spF (K : PySem.W.Frag) (F : Fn) (np : Nat) : Sp := fun vs H Q E => vs.length = np ∧ ∃ (G : Fix) (O : Own) (args : List Arg), G.K = K ∧ args.length = np ∧ Rel G O (vs.map some) H (args.map slotOf) [] ∧
  FRes.post (F args) (fun d b outs => ∀ O' σ' v H', Rel G O' σ' H' outs [⟨v, d, frK b⟩] → Q v H') (fun x outs => ∀ O' σ' H' dd, Rel G O' σ' H' outs [] → ExnRep K H' O' x dd → E (clsV K x.c) dd H')
section
variable {G : Fix} {O O1 : Own} {σ : St} {H H' : Hp} {ρ ρ' : Rho} {T T' : List Tmp}
theorem Rel.more (R : Rel G O σ H ρ []) (n : Nat) : Rel G O (σ ++ List.replicate n none) H (ρ ++ List.replicate n none) [] := by
  have get : ∀ i s, (ρ ++ List.replicate n none)[i]? = some (some s) → ρ[i]? = some (some s) := fun i s e => by
    by_cases h : i < ρ.length
    · rwa [List.getElem?_append_left h] at e
    · rw [List.getElem?_append_right (by omega), List.getElem?_replicate] at e
      split at e <;> cases e
  refine ⟨by simp [R.len], R.fr, R.ot, R.tr, fun i v e => ?_, fun i s e => ?_, trivial⟩
  · obtain ⟨h1, s, h2, h3⟩ := R.pn i v e
    have l1 : i < σ.length := (List.getElem?_eq_some_iff.mp h1).1
    have l2 : i < ρ.length := (List.getElem?_eq_some_iff.mp h2).1
    exact ⟨by rw [List.getElem?_append_left l1]; exact h1, s, by rw [List.getElem?_append_left l2]; exact h2, h3⟩
  · obtain ⟨v, h1, h2⟩ := R.sl i s (get i s e)
    have l1 : i < σ.length := (List.getElem?_eq_some_iff.mp h1).1
    exact ⟨v, by rw [List.getElem?_append_left l1]; exact h1, h2⟩
theorem Rel.few {n : Nat} (R : Rel G O σ H ρ T) (hT : NoNm T) (hp : ∀ i v, G.Pin i = some v → i < n) : Rel G O (σ.take n) H (ρ.take n) T := by
  refine ⟨by simp [R.len], R.fr, R.ot, R.tr, fun i v e => ?_, fun i s e => ?_, tmps_slots (fun u hu j hj => absurd hj (hT u hu j)) R.tm⟩
  · obtain ⟨h1, s, h2, h3⟩ := R.pn i v e
    have := hp i v e
    exact ⟨by rw [List.getElem?_take_of_lt this]; exact h1, s, by rw [List.getElem?_take_of_lt this]; exact h2, h3⟩
  · by_cases h : i < n
    · rw [List.getElem?_take_of_lt h] at e ⊢
      exact R.sl i s e
    · rw [List.getElem?_eq_none (by rw [List.length_take]; omega)] at e
      cases e
end
/-- a body's meaning gives the def's promise -/
theorem body_of {K : PySem.W.Frag} {N ps : List Str} {r : DS} {vs : List V} {H : Hp} {Q : VK} {E : XK} (h : spF K (runFn N.length r) ps.length vs H Q E) (hl : ps.length ≤ N.length) :
    tS K (fun cls d _ H => E cls d H) r { nx := fun _ H' => Q .non H', rt := Q } (start N vs) H := by
  obtain ⟨hv, G, O, args, hK, ha, R, h⟩ := h
  have R1 := R.more (N.length - vs.length)
  have pins : ∀ i v, G.Pin i = some v → i < args.length := fun i v e => by
    obtain ⟨_, s, h2, _⟩ := R.pn i v e
    have := (List.getElem?_eq_some_iff.mp h2).1
    simpa using this
  refine ⟨G, O, _, hK, R1, ?_⟩
  have el : args.length = vs.length := by rw [ha, hv]
  unfold runFn at h
  rw [el] at h
  cases q : r (args.map slotOf ++ List.replicate (N.length - vs.length) none) with
  | stuck => rw [q] at h; exact h
  | ex x ρ' =>
    rw [q] at h
    rw [← el] at h
    exact fun σ' O' H' dd R' er => by rw [hK] at er ⊢; exact h O' _ H' dd (R'.few .nil pins) er
  | ok f ρ' =>
    rw [q] at h
    cases f with
    | nx =>
      dsimp only at h
      rw [← el] at h
      exact fun O' σ' H' R' => h O' _ .non H' ((R'.con .non).few (NoNm.nil.cons fun i z => by cases z) pins)
    | ret d b =>
      dsimp only at h
      rw [← el] at h
      exact fun O' σ' v H' R' => h O' _ v H' (R'.few (NoNm.nil.cons fun i z => by cases b <;> cases z) pins)
    | brk => exact h.elim
    | cnt => exact h.elim
/-- the context of a def's body -/
structure FnCx (X : Cx) (k : Nat) : Prop where
  g : CxG X
  room : Room k X.A
section
variable {P : Program} {w : World} {K : PySem.W.Frag} {mg : Str → Option Value} {base : Heap} {x qual : Str} {params : Arguments} {body : List Stmt} {scope : Scope} {dvs : List V} {kws : List (Str × V)} {f : Addr} {fd : FuncData}
/-- a def's promise where no repr is under way around the call -/
structure FnG (P : Program) (w : World) (K : PySem.W.Frag) (mg : Str → Option Value) (base : Heap) (cx : CXT) (k : Nat) (f : Addr) (fd : FuncData) (ps : List Str) (sp : Sp) : Prop where
  len : ∀ vs H Q E, sp vs H Q E → vs.length = ps.length
  run : ∀ (A : Around), A.guards = some [] → Room k A → ∀ (below : List Env) (s : Shared) (H : Hp), Env0 P w K mg base A below s H → ∀ (as : Args) (us : List Value), BindsTo s fd as (ps.zip us) →
    ∀ vs : List V, Vals vs us → ∀ (Q : VK) (E : XK), sp vs H Q E → codeAny (model P w) A (.call (.ref f) as) (CR cx below P w H s Q E) s
/-- from a body's walk -/
theorem fnG_of {cx : CXT} {k : Nat} {sp : Sp} {N ps : List Str} (F : FunD K x qual params body scope dvs kws f fd) (S : FnScope N ps scope) (len : ∀ vs H Q E, sp vs H Q E → vs.length = ps.length)
    (hb : ∀ (cdv : Value) (A : Around) (below : List Env) (s : Shared) (H : Hp) (vs : List V) (Q : VK) (E : XK), A.guards = some [] → Room k (A.deeper (envOfC qual scope s.heap.objs.size f cdv)) → sp vs H Q E →
      ∃ t, PSs (cxOf cx P w K mg base N qual scope f cdv A below s H E) body t ∧ t { rt := Q, nx := fun _ h => Q .non h } (start N vs) H) : FnG P w K mg base cx (k + 1) f fd ps sp := by
  obtain ⟨oc, od, dV, kV, doc, pm, an, cdv, ct, osl, rfl, look, code, _⟩ := F.ex
  refine ⟨len, fun A gu room below s H e0 as us bind vs vals Q E z => ?_⟩
  have stays : ∀ b o, base.get? b = some o → s.heap.get? b = some o := fun b o e => (e0.bs b o e).1
  have inK : K.In s.heap := e0.mod.kin.keeps stays
  have kinds : ∀ y ∈ ps.zip us, scope.names.lookup y.1 = some .local ∨ (scope.names.lookup y.1 = some .cell ∧ ((cellsFrom (s.heap.objs.size + 1) scope.names []).lookup y.1).isSome = true) :=
    fun y m => (S.par y.1 (List.of_mem_zip (b := y.2) m).1).imp_right fun q => ⟨q, PySem.W.cellsFrom_some _ _ _ (.inl q)⟩
  obtain ⟨t, walk, ends⟩ := hb cdv A below s H vs Q E gu (room.deeper _) z
  refine codeAny_call_function room.depth (inK _ _ look) rfl S.co S.gen rfl (PySem.W.codeRec_of inK code) (bind _ _ _ _ (wpAny_newFunctionEnv_cells S.kind kinds fun env e s1 bound => ?_))
  cases e
  have first : Inv (cxOf cx P w K mg base N qual scope f cdv A below s H E) [] (start N vs) H s1 := inv_start S room.hd e0 (len _ _ _ _ z) vals bound
  refine ⟨(e0.mod.nolimit.keeps stays).keeps bound.toInCall.keep, codeAny_func (wpAny_mono (walk.run [] s1 (start N vs) H _ first ends) (fun g s2 q => ?_) fun _ _ q => q)⟩
  match g, q with
  | .ret u, ⟨v, _, h, J, r, q⟩ => exact ⟨v, h, J.os, J.bare, J.base, J.hok, r, q⟩
  | .next, ⟨_, h, J, q⟩ => exact ⟨.non, h, J.os, J.bare, J.base, J.hok, rfl, q⟩
  | .brk, ⟨_, _, _, q⟩ => exact q.elim
  | .cont, ⟨_, _, _, q⟩ => exact q.elim
/-- THE RULE for a def: its body's meaning -/
theorem fn_ok {N ps : List Str} {k : Nat} {r : DS} (F : FunD K x qual params body scope dvs kws f fd) (S : FnScope N ps scope)
    (h : ∀ (cdv : Value) (A : Around) (outer : List Env) (s : Shared) (H : Hp) (E : XK), FnCx (cxOf (L2.CX P w) P w K mg base N qual scope f cdv A outer s H E) k → SSs (cxOf (L2.CX P w) P w K mg base N qual scope f cdv A outer s H E) body r) :
    FnG P w K mg base (L2.CX P w) (k + 1) f fd ps (spF K (runFn N.length r) ps.length) :=
  fnG_of F S (fun vs H Q E h => h.1) fun cdv A outer s H vs Q E gu hr hsp => by
    have hl : ps.length ≤ N.length := by have := congrArg List.length S.pre; rw [List.length_take] at this; omega
    have tk : Takes (cxOf (L2.CX P w) P w K mg base N qual scope f cdv A outer s H E) (fun cls d _ H => E cls d H) := takes_of rfl rfl rfl rfl
    exact ⟨_, h cdv A outer s H E ⟨⟨rfl, S.nd, passes_of rfl, gu⟩, hr⟩ _ tk, body_of hsp hl⟩
end
section
variable {X : Cx} {cx : CXT} {k : Nat} {f : Addr} {fd : FuncData} {ps : List Str} {sp : Sp} {dvs : List V} {ds : List Value} {E : St → XK} {x : Str} {p pos : Pos} {e : Expr} {es : List Expr} {t : TA}
/-- f(e, ..) -/
theorem pe_callG (F : FnG X.prog X.w X.K X.mg X.base cx k f fd ps sp) (gu : X.A.guards = some []) (room : Room k X.A) (gl : Gl X x) (hm : X.mg x = some (.ref f)) (kp : PySem.W.keepIn X.K (.ref f) = true) (bs : Binds X.K fd ps ds) (vd : Vals dvs ds)
    (out : ∀ σ, PassesAt cx X σ (E σ)) (ha : PA X (e :: es) t) (db : (x == ("__debug__" : Str)) = false := by decide) (st : starEach (e :: es) X.env = (false, eval e X.env) :: starEach es X.env := by rfl)
    (pl : (backTo pos (starEach es X.env)).any (·.1) = false := by rfl) : PE X (.Call (.Name x p) (e :: es) [] pos) (tCallSD sp dvs E t) := ⟨fun pins s σ H Q inv z => by
  refine wpAny_Call_Name_kw (ld_glob inv gl hm (PySem.W.callWith_K (h₀ := X.base) inv.ok.mod.kin kp (thn (ha.run pos pins s σ H _ inv z) fun us s1 q => ?_) st pl) db)
  obtain ⟨vs, H1, inv1, vals, q⟩ := q
  have all : Vals (vs ++ dvs) (us ++ ds) := vals.append vd
  refine ⟨inv1.kIn, wpAny_call (codeAny_mono (F.run X.A gu room X.stack s1 H1 inv1.env0 ⟨us, []⟩ (us ++ ds) (bs s1 us inv1.kIn ?_) (vs ++ dvs) all Q (E σ) q) fun g s2 y => ?_)⟩
  · rw [← all.length]; exact F.len _ _ _ _ q
  · match g, y with
    | .ok (.ret u), y => exact inv1.after y
    | .error v, y => exact out σ pins H1 s1 v s2 inv1 y
    | .ok .next, y => exact y.elim
    | .ok .brk, y => exact y.elim
    | .ok .cont, y => exact y.elim⟩
end
def argOf (ρ : Rho) (x : D × Kd) : Option Arg := match x.2 with
  | .fr => some ⟨x.1, true⟩
  | .shr => some ⟨x.1, false⟩
  | .nm i => match ρ[i]? with
    | some (some s) => some ⟨s.d, s.own⟩
    | _ => none
def argsOf (ρ : Rho) : List (D × Kd) → Option (List Arg)
  | [] => some []
  | x :: xs => match argOf ρ x with
    | some a => (argsOf ρ xs).map (a :: ·)
    | none => none
/-- who owns what is passed on -/
def wOf (ρ : Rho) (k : Nat) (x : D × Kd) : Option Ow := match x.2 with
  | .fr => some (.tp k)
  | .shr => none
  | .nm i => match ρ[i]? with
    | some (some s) => if s.own then some (.sl i) else none
    | _ => none
def wsOf (ρ : Rho) : Nat → List (D × Kd) → List (Option Ow)
  | _, [] => []
  | k, x :: xs => wOf ρ k x :: wsOf ρ (k + 1) xs
def uniqW : List (Option Ow) → Bool
  | [] => true
  | w :: ws => (match w with
    | some _ => ws.all (fun u => decide (u ≠ w))
    | none => true) && uniqW ws
def idxW : List (Option Ow) → Ow → Option Nat
  | [], _ => none
  | u :: ws, w => if u = some w then some 0 else (idxW ws w).map (· + 1)
theorem idxW_at : ∀ {ws : List (Option Ow)} {w : Ow} {j : Nat}, idxW ws w = some j → ws[j]? = some (some w)
  | [], _, _, h => by cases h
  | u :: ws, w, j, h => by
    unfold idxW at h
    split at h
    · rename_i e; cases h; simp [e]
    · obtain ⟨k, e, rfl⟩ := Option.map_eq_some_iff.mp h
      simpa using idxW_at e
theorem idxW_of : ∀ {ws : List (Option Ow)} {w : Ow} {j : Nat}, uniqW ws = true → ws[j]? = some (some w) → idxW ws w = some j
  | [], _, _, _, h => by simp at h
  | u :: ws, w, 0, hu, h => by
    simp at h
    unfold idxW
    rw [if_pos h]
  | u :: ws, w, j + 1, hu, h => by
    have h' : ws[j]? = some (some w) := by simpa using h
    unfold uniqW at hu
    rw [Bool.and_eq_true] at hu
    unfold idxW
    rw [if_neg (fun e => ?_), idxW_of hu.2 h']
    · rfl
    · have h1 := hu.1
      rw [e] at h1
      dsimp only at h1
      have := List.all_eq_true.mp h1 _ (List.mem_of_getElem? h')
      simp at this
/-- the place of the slot i among what is passed -/
def lookNm : List (D × Kd) → Nat → Option Nat
  | [], _ => none
  | (_, .nm k) :: xs, i => if k = i then some 0 else (lookNm xs i).map (· + 1)
  | _ :: xs, i => (lookNm xs i).map (· + 1)
def back1 (xs : List (D × Kd)) (outs : Rho) (i : Nat) (o : Option Slot) : Option Slot := match o with
  | none => none
  | some s => match s.own with
    | false => some s
    | true => match lookNm xs i with
      | none => some s
      | some j => match outs[j]? with
        | some (some s') => some ⟨s'.d, s'.own, s.pin⟩
        | _ => none
def backs (xs : List (D × Kd)) (outs : Rho) : Nat → Rho → Rho
  | _, [] => []
  | i, o :: ρ => back1 xs outs i o :: backs xs outs (i + 1) ρ
theorem backs_at (xs : List (D × Kd)) (outs : Rho) : ∀ (ρ : Rho) (k i : Nat), (backs xs outs k ρ)[i]? = ρ[i]?.map (back1 xs outs (k + i))
  | [], _, _ => by simp [backs]
  | o :: ρ, k, 0 => by simp [backs]
  | o :: ρ, k, i + 1 => by
    have := backs_at xs outs ρ (k + 1) i
    simp only [backs, List.getElem?_cons_succ]
    rw [this, show k + 1 + i = k + (i + 1) by omega]
theorem backs_len (xs : List (D × Kd)) (outs : Rho) : ∀ (ρ : Rho) (k : Nat), (backs xs outs k ρ).length = ρ.length
  | [], _ => rfl
  | o :: ρ, k => congrArg (· + 1) (backs_len xs outs ρ (k + 1))
def callEnd (F : Fn) (np : Nat) (dfl : List D) (xs : List (D × Kd)) : DE := fun ρ => if uniqW (wsOf ρ 0 xs) && decide (xs.length + dfl.length = np) then match argsOf ρ xs with
    | none => .stuck
    | some args => match F (args ++ dfl.map shA) with
      | none => .stuck
      | some (.ret d b outs) => .ok (d, frK b) (backs xs outs 0 ρ)
      | some (.exc x outs) => .ex x (backs xs outs 0 ρ)
  else .stuck
def dCall (F : Fn) (np : Nat) (dfl : List D) (l : List (Bool × DE)) : DE := do
  let xs ← dA l
  callEnd F np dfl xs
theorem lookNm_at : ∀ {xs : List (D × Kd)} {i j : Nat}, lookNm xs i = some j → ∃ d, xs[j]? = some (d, .nm i)
  | [], _, _, h => by cases h
  | (d, .nm k) :: xs, i, j, h => by
    unfold lookNm at h
    split at h
    · rename_i e; cases h; exact ⟨d, by simp [e]⟩
    · obtain ⟨m, e, rfl⟩ := Option.map_eq_some_iff.mp h
      simpa using lookNm_at e
  | (d, .fr) :: xs, i, j, h => by
    obtain ⟨m, e, rfl⟩ := Option.map_eq_some_iff.mp (show (lookNm xs i).map (· + 1) = some j from h)
    simpa using lookNm_at e
  | (d, .shr) :: xs, i, j, h => by
    obtain ⟨m, e, rfl⟩ := Option.map_eq_some_iff.mp (show (lookNm xs i).map (· + 1) = some j from h)
    simpa using lookNm_at e
theorem lookNm_none : ∀ {xs : List (D × Kd)} {i j : Nat} {d : D}, lookNm xs i = none → xs[j]? ≠ some (d, .nm i)
  | [], _, _, _, _, h => by simp at h
  | (d, .nm k) :: xs, i, j, d', h, e => by
    unfold lookNm at h
    split at h
    · cases h
    · rename_i ne
      cases j with
      | zero => simp at e; exact ne e.2
      | succ j => exact lookNm_none (Option.map_eq_none_iff.mp h) (by simpa using e)
  | (d, .fr) :: xs, i, j, d', h, e => by
    cases j with
    | zero => simp at e
    | succ j => exact lookNm_none (Option.map_eq_none_iff.mp (show (lookNm xs i).map (· + 1) = none from h)) (by simpa using e)
  | (d, .shr) :: xs, i, j, d', h, e => by
    cases j with
    | zero => simp at e
    | succ j => exact lookNm_none (Option.map_eq_none_iff.mp (show (lookNm xs i).map (· + 1) = none from h)) (by simpa using e)
theorem wsOf_at (ρ : Rho) : ∀ (xs : List (D × Kd)) (k j : Nat), (wsOf ρ k xs)[j]? = xs[j]?.map (wOf ρ (k + j))
  | [], _, _ => by simp [wsOf]
  | x :: xs, k, 0 => by simp [wsOf]
  | x :: xs, k, j + 1 => by
    have := wsOf_at ρ xs (k + 1) j
    simp only [wsOf, List.getElem?_cons_succ]
    rw [this, show k + 1 + j = k + (j + 1) by omega]
theorem argsOf_len {ρ : Rho} : ∀ {xs : List (D × Kd)} {args : List Arg}, argsOf ρ xs = some args → args.length = xs.length
  | [], _, h => by cases h; rfl
  | x :: xs, args, h => by
    unfold argsOf at h
    split at h
    · obtain ⟨r, e, rfl⟩ := Option.map_eq_some_iff.mp h
      exact congrArg (· + 1) (argsOf_len e)
    · cases h
theorem argsOf_at {ρ : Rho} : ∀ {xs : List (D × Kd)} {args : List Arg} {j : Nat} {x : D × Kd}, argsOf ρ xs = some args → xs[j]? = some x → ∃ a, argOf ρ x = some a ∧ args[j]? = some a
  | [], _, _, _, h, e => by simp at e
  | y :: xs, args, j, x, h, e => by
    unfold argsOf at h
    split at h
    · rename_i a ha
      obtain ⟨r, e1, rfl⟩ := Option.map_eq_some_iff.mp h
      cases j with
      | zero => simp at e; subst e; exact ⟨a, ha, rfl⟩
      | succ j =>
        obtain ⟨b, h1, h2⟩ := argsOf_at e1 (show xs[j]? = some x by simpa using e)
        exact ⟨b, h1, by simpa using h2⟩
    · cases h
/-- what is pending, by its place -/
theorem pushC_at {K : PySem.W.Frag} {H : Hp} {O : Own} {σ : St} : ∀ {vs : List V} {xs : List (D × Kd)} {T : List Tmp} {j : Nat} {x : D × Kd}, vs.length = xs.length → TmpsOk K H O σ (pushC vs xs T) → xs[j]? = some x →
    ∃ v, vs[j]? = some v ∧ TmpOk K H O σ (T.length + j) ⟨v, x.1, x.2⟩
  | [], [], _, _, _, _, _, e => by simp at e
  | v :: vs, y :: xs, T, 0, x, hl, h, e => by
    simp at e
    subst e
    have deep : ∀ {vs : List V} {xs : List (D × Kd)} {T : List Tmp}, TmpsOk K H O σ (pushC vs xs T) → TmpsOk K H O σ T := by
      intro vs
      induction vs with
      | nil => intro xs T h; unfold pushC at h; exact h
      | cons v vs ih =>
        intro xs T h
        cases xs with
        | nil => unfold pushC at h; exact h
        | cons x xs => exact (ih (xs := xs) (T := ⟨v, x.1, x.2⟩ :: T) h).2
    exact ⟨v, rfl, (deep (vs := vs) (xs := xs) (T := ⟨v, y.1, y.2⟩ :: T) h).1⟩
  | v :: vs, y :: xs, T, j + 1, x, hl, h, e => by
    obtain ⟨u, h1, h2⟩ := pushC_at (T := ⟨v, y.1, y.2⟩ :: T) (j := j) (Nat.succ.inj hl) h (by simpa using e)
    refine ⟨u, by simpa using h1, ?_⟩
    rw [show T.length + (j + 1) = (⟨v, y.1, y.2⟩ :: T : List Tmp).length + j by simp; omega]
    exact h2
  | [], _ :: _, _, _, _, hl, _, _ => by cases hl
  | _ :: _, [], _, _, _, hl, _, _ => by cases hl
end L2.VL
end
section
set_option Elab.async false
set_option linter.all false
set_option maxRecDepth 100000
namespace L2.VL
open PySem PySem.Spec PyProof.Rows
def cO (ws : List (Option Ow)) (O : Own) : Own := fun b => match O b with
  | none => none
  | some w => match idxW ws w with
    | some j => some (.sl j)
    | none => some .out
def cFr (G : Fix) (ws : List (Option Ow)) (O : Own) (H : Hp) : Hp := fun b => if (G.Tb b).isSome = true then none else match O b with
  | none => H b
  | some w => match idxW ws w with
    | some _ => none
    | none => H b
def cPin (ws : List (Option Ow)) (vs : List V) (j : Nat) : Option V := match ws[j]? with
  | some (some _) => vs[j]?
  | _ => none
def cG (G : Fix) (ws : List (Option Ow)) (O : Own) (H : Hp) (vs : List V) : Fix :=
  { K := G.K, Fr := cFr G ws O H, Out := fun b => (∃ w, O b = some w ∧ idxW ws w = none) ∨ (G.Tb b).isSome = true, Pin := cPin ws vs, tbo := fun P q h => by
        have h : G.Tb P = some q := h
        unfold cFr
        rw [h]
        exact ⟨.inr rfl, if_pos rfl⟩ }
theorem tb_ne {G : Fix} {O : Own} {σ : St} {H : Hp} {ρ : Rho} {T : List Tmp} (R : Rel G O σ H ρ T) {a : Addr} (n : O a ≠ some .out) : G.Tb a = none := by
  cases e : G.Tb a with
  | none => rfl
  | some q => exact absurd (tb_out R e) n
/-- the owners behind the call -/
def wsl (ws : List (Option Ow)) (i : Nat) : Option Ow := match ws[i]? with
  | some (some (.sl m)) => some (.sl m)
  | _ => none
theorem wsl_of {ws : List (Option Ow)} {i m : Nat} (h : ws[i]? = some (some (.sl m))) : wsl ws i = some (.sl m) := by unfold wsl; rw [h]
theorem wsl_sl {ws : List (Option Ow)} {i : Nat} {w : Ow} (h : wsl ws i = some w) : ∃ m, w = .sl m := by
  unfold wsl at h
  split at h
  · exact ⟨_, (Option.some.inj h).symm⟩
  · cases h
def cB (ws : List (Option Ow)) (O O' : Own) : Own := fun b => match O b with
  | none => (match O' b with
    | some (.tp m) => some (.tp m)
    | some (.sl i) => wsl ws i
    | _ => none)
  | some w => match idxW ws w with
    | none => some w
    | some j => match O' b with
      | some (.sl i) => wsl ws i
      | some (.tp m) => some (.tp m)
      | _ => none
section
variable {G : Fix} {O O' : Own} {σ σ' : St} {H H' : Hp} {ρ outs : Rho} {T2 : List Tmp} {vs dvs : List V} {xs : List (D × Kd)} {args : List Arg} {dfl : List D} {ws : List (Option Ow)}
theorem lin_cO {a : Addr} : lin (cO ws O) a ↔ lin O a := by
  unfold lin cO
  cases O a with
  | none => exact Iff.rfl
  | some w => dsimp only; cases idxW ws w <;> simp
theorem ws_out (ρ : Rho) (xs : List (D × Kd)) : idxW (wsOf ρ 0 xs) Ow.out = none := by
  have wsNo : ∀ j : Nat, (wsOf ρ 0 xs)[j]? ≠ some (some Ow.out) := fun j e => by
    rw [wsOf_at] at e
    cases q : xs[j]? with
    | none => rw [q] at e; cases e
    | some x =>
      rw [q] at e
      replace e : wOf ρ (0 + j) x = some Ow.out := Option.some.inj e
      unfold wOf at e
      split at e
      · cases e
      · cases e
      · split at e
        · split at e <;> cases e
        · cases e
  cases q : idxW (wsOf ρ 0 xs) Ow.out with
  | none => rfl
  | some j => exact absurd (idxW_at q) (wsNo j)
theorem call_in (R : Rel G O σ H ρ (pushC vs xs [])) (hl : vs.length = xs.length) (hu : uniqW (wsOf ρ 0 xs) = true) (ha : argsOf ρ xs = some args) (hd : Reps G.K H (lin (cO (wsOf ρ 0 xs) O)) dvs dfl) :
    Rel (cG G (wsOf ρ 0 xs) O H vs) (cO (wsOf ρ 0 xs) O) ((vs ++ dvs).map some) H ((args ++ dfl.map shA).map slotOf) [] := by
  have hal := argsOf_len ha
  have hdl : dvs.length = dfl.length := hd.len
  have hs : Stay H H (lin O) (lin (cO (wsOf ρ 0 xs) O)) := fun a o n e => ⟨e, fun z => n (lin_cO.mp z)⟩
  refine ⟨by simp; omega, fun b o e => ?_, fun b => ?_, fun a w e => ?_, fun i v e => ?_, fun j s e => ?_, trivial⟩
  · replace e : cFr G (wsOf ρ 0 xs) O H b = some o := e
    unfold cFr at e
    split at e
    · cases e
    unfold cO
    cases q : O b with
    | none => rw [q] at e; exact ⟨e, .inl rfl⟩
    | some w =>
      rw [q] at e
      dsimp only at e ⊢
      cases q2 : idxW (wsOf ρ 0 xs) w with
      | some j => rw [q2] at e; cases e
      | none => rw [q2] at e; exact ⟨e, .inr rfl⟩
  · show _ ↔ ((∃ w, O b = some w ∧ idxW (wsOf ρ 0 xs) w = none) ∨ (G.Tb b).isSome = true)
    have tb : (G.Tb b).isSome = true → O b = some .out := tb_is R
    unfold cO
    cases q : O b with
    | none =>
      rw [q] at tb
      constructor
      · intro z; cases z
      · rintro (⟨w, z, _⟩ | z)
        · cases z
        · cases tb z
    | some w =>
      dsimp only
      cases q2 : idxW (wsOf ρ 0 xs) w with
      | some j =>
        dsimp only
        constructor
        · intro z; cases z
        · rintro (⟨w', z, z2⟩ | z)
          · cases z; rw [q2] at z2; cases z2
          · have := tb z
            rw [q] at this; cases this
            rw [ws_out] at q2; cases q2
      | none => exact ⟨fun _ => .inl ⟨w, rfl, q2⟩, fun _ => rfl⟩
  · have : lin O a := lin_cO.mp (by unfold lin; rw [e]; simp)
    unfold lin at this
    cases q : O a with
    | none => exact absurd q this
    | some w' => exact R.tr a w' q
  · replace e : cPin (wsOf ρ 0 xs) vs i = some v := e
    unfold cPin at e
    split at e
    · rename_i w hw
      have hi : i < vs.length := (List.getElem?_eq_some_iff.mp e).1
      refine ⟨by rw [List.getElem?_map, List.getElem?_append_left hi, e]; rfl, ?_⟩
      rw [wsOf_at] at hw
      cases q : xs[i]? with
      | none => rw [q] at hw; cases hw
      | some x =>
        rw [q] at hw
        replace hw : wOf ρ (0 + i) x = some w := Option.some.inj hw
        obtain ⟨a, h1, h2⟩ := argsOf_at ha q
        refine ⟨⟨a.d, a.own, a.own⟩, by rw [List.getElem?_map, List.getElem?_append_left (by omega), h2]; rfl, ?_⟩
        unfold wOf at hw
        unfold argOf at h1
        obtain ⟨d, k⟩ := x
        cases k with
        | shr => cases hw
        | fr => cases h1; rfl
        | nm m =>
          dsimp only at hw h1
          split at hw
          · rename_i s hs'
            rw [hs'] at h1
            cases h1
            split at hw
            · assumption
            · cases hw
          · cases hw
    · cases e
  · rw [List.getElem?_map] at e
    by_cases hj : j < xs.length
    · rw [List.getElem?_append_left (by omega)] at e
      obtain ⟨a, h1, h2⟩ := argsOf_at ha (List.getElem?_eq_getElem hj)
      rw [h2] at e
      cases e
      obtain ⟨v, h3, h4⟩ := pushC_at (T := []) hl R.tm (List.getElem?_eq_getElem hj)
      refine ⟨v, by rw [List.getElem?_map, List.getElem?_append_left (by omega), h3]; rfl, ?_⟩
      have hw := wsOf_at ρ xs 0 j
      rw [List.getElem?_eq_getElem hj] at hw
      replace hw : (wsOf ρ 0 xs)[j]? = some (wOf ρ (0 + j) xs[j]) := hw
      generalize xs[j] = x at h1 h4 hw
      obtain ⟨d, k⟩ := x
      unfold argOf at h1
      unfold wOf at hw
      unfold TmpOk at h4
      cases k with
      | shr =>
        cases h1
        exact h4.mono hs
      | fr =>
        cases h1
        refine OwnX.mono hs h4 fun b o e1 e2 => ⟨?_, e2⟩
        unfold cO
        rw [e1]
        dsimp only
        rw [idxW_of hu (j := j) (by simpa using hw)]
      | nm m =>
        dsimp only at h1 h4 hw
        split at h1
        · rename_i s hs'
          cases h1
          obtain ⟨v', p1, p2⟩ := R.sl m s hs'
          rw [h4] at p1
          cases p1
          rw [hs'] at hw
          unfold SlotOk at p2 ⊢
          dsimp only at hw ⊢
          cases qo : s.own with
          | false => rw [qo] at p2; exact p2.mono hs
          | true =>
            rw [qo] at p2 hw
            refine OwnX.mono hs p2 fun b o e1 e2 => ⟨?_, e2⟩
            unfold cO
            rw [e1]
            dsimp only
            rw [idxW_of hu (j := j) (by simpa using hw)]
        · cases h1
    · rw [List.getElem?_append_right (by omega), List.getElem?_map] at e
      cases q : dfl[j - args.length]? with
      | none => rw [q] at e; cases e
      | some d =>
        rw [q] at e
        cases e
        obtain ⟨u, h1, h2⟩ := hd.get q
        refine ⟨u, by rw [List.getElem?_map, List.getElem?_append_right (by omega), show j - vs.length = j - args.length by omega, h1]; rfl, h2⟩
theorem call_out (R : Rel G O σ H ρ (pushC vs xs [])) (hl : vs.length = xs.length) (hu : uniqW (wsOf ρ 0 xs) = true) (hT : NoNm T2) (R' : Rel (cG G (wsOf ρ 0 xs) O H vs) O' σ' H' outs T2) :
    Rel G (cB (wsOf ρ 0 xs) O O') σ H' (backs xs outs 0 ρ) T2 ∧ ∀ a, O' a = none → cB (wsOf ρ 0 xs) O O' a = none := by
  have outIdx := ws_out ρ xs
  have isout : ∀ {a w}, O a = some w → idxW (wsOf ρ 0 xs) w = none → O' a = some .out := fun {a w} e1 e2 => (R'.ot a).mpr (.inl ⟨w, e1, e2⟩)
  have keepU : ∀ {a w o}, O a = some w → idxW (wsOf ρ 0 xs) w = none → G.Tb a = none → H a = some o → H' a = some o := fun {a w o} e1 e2 et e3 => (R'.fr a o (by show cFr G (wsOf ρ 0 xs) O H a = some o; unfold cFr; rw [if_neg (by rw [et]; simp), e1]; dsimp only; rw [e2]; exact e3)).1
  have noT : ∀ {a}, O a ≠ some .out → ∀ q, G.Tb a = some q → LamX.TabS H' a q := fun {a} n q hq => absurd (tb_out R hq) n
  have keepN : ∀ {a o}, O a = none → H a = some o → H' a = some o ∧ O' a = none := fun {a o} e1 e3 => by
    obtain ⟨p, q⟩ := R'.fr a o (by show cFr G (wsOf ρ 0 xs) O H a = some o; unfold cFr; rw [if_neg (by rw [tb_sl R (by rw [e1]; simp)]; simp), e1]; exact e3)
    refine ⟨p, q.resolve_right fun z => ?_⟩
    rcases (R'.ot a).mp z with ⟨w, e, _⟩ | z
    · rw [e1] at e; cases e
    · have := tb_is R z
      rw [e1] at this; cases this
  have none' : ∀ a, O' a = none → cB (wsOf ρ 0 xs) O O' a = none := fun a e => by
    unfold cB
    cases q : O a with
    | none => dsimp only; rw [e]
    | some w =>
      dsimp only
      cases q2 : idxW (wsOf ρ 0 xs) w with
      | none => rw [isout q q2] at e; cases e
      | some j => dsimp only; rw [e]
  have hs1 : Stay H' H' (lin O') (lin (cB (wsOf ρ 0 xs) O O')) := fun a o n e => ⟨e, fun z => z (none' a (by
    cases q : O' a with
    | none => rfl
    | some _ => exact absurd (show lin O' a by unfold lin; rw [q]; simp) n))⟩
  have hs2 : Stay H H' (lin O) (lin (cB (wsOf ρ 0 xs) O O')) := fun a o n e => by
    have n' : O a = none := by
      cases q : O a with
      | none => rfl
      | some _ => exact absurd (show lin O a by unfold lin; rw [q]; simp) n
    obtain ⟨p, q⟩ := keepN n' e
    exact ⟨p, fun z => z (none' a q)⟩
  refine ⟨⟨by rw [backs_len, R.len], fun b o e => ?_, fun b => ?_, fun a w e => ?_, fun i v e => ?_, fun i s'' e => ?_, ?_⟩, none'⟩
  · obtain ⟨h1, h2⟩ := R.fr b o e
    rcases h2 with h2 | h2
    · obtain ⟨p, q⟩ := keepN h2 h1
      exact ⟨p, .inl (none' b q)⟩
    · refine ⟨keepU h2 outIdx (tb_none e) h1, .inr ?_⟩
      unfold cB
      rw [h2]
      dsimp only
      rw [outIdx]
  · constructor
    · intro z
      refine (R.ot b).mp ?_
      unfold cB at z
      cases q : O b with
      | none =>
        rw [q] at z
        dsimp only at z
        split at z
        · cases z
        · obtain ⟨m, hm⟩ := wsl_sl z
          cases hm
        · cases z
      | some w =>
        rw [q] at z
        dsimp only at z
        cases q2 : idxW (wsOf ρ 0 xs) w with
        | none => rw [q2] at z; exact z
        | some j =>
          rw [q2] at z
          dsimp only at z
          split at z
          · obtain ⟨m, hm⟩ := wsl_sl z
            cases hm
          · cases z
          · cases z
    · intro z
      unfold cB
      rw [(R.ot b).mpr z]
      dsimp only
      rw [outIdx]
  · cases q : O a with
    | none =>
      unfold cB at e
      rw [q] at e
      dsimp only at e
      split at e
      · rename_i m q2; exact ⟨(R'.tr a _ q2).1, noT (by rw [q]; simp)⟩
      · rename_i m q2; exact ⟨(R'.tr a _ q2).1, noT (by rw [q]; simp)⟩
      · cases e
    | some w' =>
      cases q2 : idxW (wsOf ρ 0 xs) w' with
      | none =>
        refine ⟨(R'.tr a _ (isout q q2)).1, fun z hz => ?_⟩
        have eo := tb_out R hz
        rw [q] at eo
        cases eo
        exact (R'.tr a _ (isout q q2)).2 z hz
      | some j =>
        have nO : O a ≠ some .out := fun z => by
          rw [q] at z
          cases z
          rw [outIdx] at q2
          cases q2
        unfold cB at e
        rw [q] at e
        dsimp only at e
        rw [q2] at e
        dsimp only at e
        split at e
        · rename_i m q3; exact ⟨(R'.tr a _ q3).1, noT nO⟩
        · rename_i m q3; exact ⟨(R'.tr a _ q3).1, noT nO⟩
        · cases e
  · obtain ⟨h1, s, h2, h3⟩ := R.pn i v e
    refine ⟨h1, ?_⟩
    rw [backs_at, h2]
    show ∃ s', some (back1 xs outs (0 + i) (some s)) = some (some s') ∧ s'.pin = true
    unfold back1
    dsimp only
    cases qo : s.own with
    | false => exact ⟨s, rfl, h3⟩
    | true =>
      dsimp only
      rw [Nat.zero_add]
      cases ql : lookNm xs i with
      | none => exact ⟨s, rfl, h3⟩
      | some j =>
        dsimp only
        obtain ⟨d, hx⟩ := lookNm_at ql
        obtain ⟨vj, hv, ht⟩ := pushC_at (T := []) hl R.tm hx
        have hw : (wsOf ρ 0 xs)[j]? = some (some (.sl i)) := by
          rw [wsOf_at, hx]
          show some (wOf ρ (0 + j) (d, .nm i)) = _
          unfold wOf
          dsimp only
          rw [h2]
          dsimp only
          rw [qo]; rfl
        obtain ⟨_, s', e1, e2⟩ := R'.pn j vj (by show cPin _ vs j = _; unfold cPin; rw [hw]; exact hv)
        rw [e1]
        exact ⟨_, rfl, h3⟩
  · rw [backs_at] at e
    cases q : ρ[i]? with
    | none => rw [q] at e; cases e
    | some o =>
      rw [q] at e
      replace e : back1 xs outs (0 + i) o = some s'' := Option.some.inj e
      rw [Nat.zero_add] at e
      cases o with
      | none => cases e
      | some s =>
        obtain ⟨v, h1, h2⟩ := R.sl i s q
        refine ⟨v, h1, ?_⟩
        unfold back1 at e
        dsimp only at e
        unfold SlotOk at h2
        cases qo : s.own with
        | false =>
          rw [qo] at e h2
          cases e
          unfold SlotOk
          rw [qo]
          exact h2.mono hs2
        | true =>
          rw [qo] at e h2
          dsimp only at e
          cases ql : lookNm xs i with
          | none =>
            rw [ql] at e
            cases e
            have hidx : idxW (wsOf ρ 0 xs) (.sl i) = none := by
              cases qi : idxW (wsOf ρ 0 xs) (.sl i) with
              | none => rfl
              | some j =>
                have hw := idxW_at qi
                rw [wsOf_at] at hw
                cases qx : xs[j]? with
                | none => rw [qx] at hw; cases hw
                | some x =>
                  rw [qx] at hw
                  replace hw : wOf ρ (0 + j) x = some (.sl i) := Option.some.inj hw
                  obtain ⟨d, k⟩ := x
                  unfold wOf at hw
                  cases k with
                  | fr => cases hw
                  | shr => cases hw
                  | nm m =>
                    dsimp only at hw
                    split at hw
                    · split at hw
                      · cases hw
                        exact absurd qx (lookNm_none ql)
                      · cases hw
                    · cases hw
            unfold SlotOk
            rw [qo]
            refine OwnX.mono hs2 h2 fun a o e1 e2 => ⟨?_, keepU e1 hidx (tb_ne R (by rw [e1]; exact fun z => nomatch z)) e2⟩
            unfold cB
            rw [e1]
            dsimp only
            rw [hidx]
          | some j =>
            rw [ql] at e
            dsimp only at e
            split at e
            · rename_i s' hs'
              cases e
              obtain ⟨d, hx⟩ := lookNm_at ql
              obtain ⟨vj, hv, ht⟩ := pushC_at (T := []) hl R.tm hx
              have hw : (wsOf ρ 0 xs)[j]? = some (some (.sl i)) := by
                rw [wsOf_at, hx]
                show some (wOf ρ (0 + j) (d, .nm i)) = _
                unfold wOf
                dsimp only
                rw [q]
                dsimp only
                rw [qo]; rfl
              obtain ⟨e1, s2, e2, e3⟩ := R'.pn j vj (by show cPin _ vs j = _; unfold cPin; rw [hw]; exact hv)
              have evj : v = vj := by
                have ht' : σ[i]? = some (some vj) := ht
                rw [h1] at ht'
                cases ht'; rfl
              obtain ⟨v', f1, f2⟩ := R'.sl j s' hs'
              rw [e1] at f1
              cases f1
              subst evj
              unfold SlotOk at f2 ⊢
              dsimp only
              cases qo' : s'.own with
              | false => rw [qo'] at f2; exact f2.mono hs1
              | true =>
                rw [qo'] at f2
                refine OwnX.mono hs1 f2 fun a o e1 e2 => ⟨?_, e2⟩
                unfold cB
                rw [e1]
                cases q : O a with
                | none => exact wsl_of hw
                | some w =>
                  dsimp only
                  cases q2 : idxW (wsOf ρ 0 xs) w with
                  | none => rw [isout q q2] at e1; cases e1
                  | some j' => exact wsl_of hw
            · cases e
  · refine tmps_mono hs1 (fun a o n hn e1 e2 => ⟨?_, e2⟩) (tmps_slots (fun u hu j hj => absurd hj (hT u hu j)) R'.tm)
    unfold cB
    rw [e1]
    cases q : O a with
    | none => rfl
    | some w =>
      dsimp only
      cases q2 : idxW (wsOf ρ 0 xs) w with
      | none => rw [isout q q2] at e1; cases e1
      | some j => rfl
theorem cB_tp {σ0 : St} {a : Addr} {m : Nat} (R' : Rel (cG G ws O H vs) O' σ0 H' outs T2) (h : O' a = some (.tp m)) : cB ws O O' a = some (.tp m) := by
  unfold cB
  cases q : O a with
  | none => dsimp only; rw [h]
  | some w =>
    dsimp only
    cases q2 : idxW ws w with
    | none =>
      have := (R'.ot a).mpr (.inl ⟨w, q, q2⟩)
      rw [h] at this
      cases this
    | some j => dsimp only; rw [h]
end
section
variable {X : Cx} {k : Nat} {f : Addr} {fd : FuncData} {ps : List Str} {F : Fn} {dvs : List V} {ds : List Value} {dfl : List D} {x : Str} {p pos : Pos} {e : Expr} {es : List Expr} {l : List (Bool × DE)}
/-- a def as it stands: its promise, its name, how it is called with the last parameters left to their defaults dvs -/
structure Def (P : Program) (w : World) (K : PySem.W.Frag) (mg : Str → Option Value) (base : Heap) (x : Str) (k : Nat) (F : Fn) (np : Nat) (dvs : List V) : Prop where
  ex : ∃ (f : Addr) (fd : FuncData) (ps : List Str) (ds : List Value), mg x = some (.ref f) ∧ PySem.W.keepIn K (.ref f) = true ∧ ps.length = np ∧ FnG P w K mg base (L2.CX P w) k f fd ps (spF K F np) ∧ Binds K fd ps ds ∧ Vals dvs ds
theorem callee_of {W : WX} (hd : ∀ H L, Reps X.K H L dvs dfl) (hps : ps.length = np) (σ : St) (H : Hp) (Q : VK) (h : tE X.K W (dCall F np dfl l) σ H Q) : tCallSD (spF X.K F np) dvs (fun σ cls d H => W cls d σ H) (tA X.K W (dA l)) σ H Q := by
  obtain ⟨G, O, ρ, hK, R, h⟩ := h
  refine ⟨G, O, ρ, [], hK, R, Res.post_ok ((post_bind _ _).mp h) fun xs ρ1 q O1 vs H1 hl R1 => ?_⟩
  unfold callEnd at q
  by_cases hu : (uniqW (wsOf ρ1 0 xs) && decide (xs.length + dfl.length = np)) = true
  · rw [if_pos hu] at q
    rw [Bool.and_eq_true, decide_eq_true_eq] at hu
    cases ha : argsOf ρ1 xs with
    | none => rw [ha] at q; exact q.elim
    | some args =>
      rw [ha] at q
      dsimp only at q
      have hd1 : ∀ L, Reps G.K H1 L dvs dfl := fun L => by rw [hK]; exact hd H1 L
      have hdl : dvs.length = dfl.length := (hd1 fun _ => True).len
      have hal := argsOf_len ha
      refine ⟨by rw [List.length_append, hl, hdl]; exact hu.2, cG G (wsOf ρ1 0 xs) O1 H1 vs, cO (wsOf ρ1 0 xs) O1, args ++ dfl.map shA, hK, by rw [List.length_append, List.length_map, hal]; exact hu.2, call_in R1 hl hu.1 ha (hd1 _), ?_⟩
      cases hF : F (args ++ dfl.map shA) with
      | none => rw [hF] at q; exact q.elim
      | some fr =>
        rw [hF] at q
        cases fr with
        | ret d b outs =>
          exact fun O' σ' v H' R' => q _ v H' (call_out R1 hl hu.1 (NoNm.nil.cons fun i z => by cases b <;> cases z) R').1
        | exc x outs =>
          intro O' σ' H' dd R' er
          rw [← hK]
          refine q _ H' dd (call_out R1 hl hu.1 .nil R').1 ?_
          have nn := (call_out R1 hl hu.1 .nil R').2
          unfold ExnRep at er ⊢
          cases qf : x.fs with
          | none => rw [qf] at er; exact er
          | some fs =>
            rw [qf] at er
            obtain ⟨d, us, e1, e2, e3, e4, e5⟩ := er
            refine ⟨d, us, e1, e2, e3, ?_, fun z => e5 fun z2 => z (nn d z2)⟩
            rw [hK]
            exact e4.mono (fun a o n e => ⟨e, fun z => n (by unfold lin at z ⊢; exact fun z2 => z (nn a z2))⟩) fun a m ho h1 h2 => ⟨h2, m, cB_tp R' h1⟩
  · rw [if_neg hu] at q; exact q.elim
theorem se_call {np : Nat} (D : Def X.prog X.w X.K X.mg X.base x k F np dvs) (gu : X.A.guards = some []) (hr : Room k X.A) (ha : SA X (e :: es) l) (hg : Gl X x := by rfl) (hdb : (x == ("__debug__" : Str)) = false := by decide)
    (he : starEach (e :: es) X.env = (false, eval e X.env) :: starEach es X.env := by rfl) (hpl : (backTo pos (starEach es X.env)).any (·.1) = false := by rfl) : SE X (.Call (.Name x p) (e :: es) [] pos) (dCall F np (dvs.map .con) l) := fun W tk => by
  obtain ⟨f, fd, ps, ds, hm, hk, hps, Fk, hb, hv⟩ := D.ex
  refine PE.imp (pe_callG (E := fun σ cls d H => W cls d σ H) Fk gu hr hg hm hk hb hv (fun σ => passAt tk σ) (ha W tk) hdb he hpl) (callee_of (ps := ps) (fun H L => ?_) hps)
  have := Reps.cons_map (K := X.K) (H := H) (L := L) (fun v : V => v) dvs
  simpa using this
end
/-- a def of the module -/
structure FnAt (K : PySem.W.Frag) (mg : Str → Option Value) (x : Str) (st : Stmt) (dvs : List V) (kws : List (Str × V)) : Prop where
  ex : ∃ (f : Addr) (fd : FuncData), mg x = some (.ref f) ∧ FunD K x x (defArgs st) (defBody st) (defScope st) dvs kws f fd
section
variable {P : Program} {w : World} {K : PySem.W.Frag} {mg : Str → Option Value} {base : Heap} {x : Str} {st : Stmt}
/-- from the def's text to its promise -/
theorem def_ok {N ps : List Str} {k np : Nat} {r : DS} (F : FnAt K mg x st [] []) (S : FnScope N ps (defScope st)) (hn : ps.length = np)
    (hb : ∀ (kV doc pm : Value) (an : Option Addr) (cdv ct : Value) (us : List Value), us.length = ps.length → bindArgs (PySem.W.fnOf x x (defArgs st) (defBody st) (defScope st) .none kV doc pm an cdv ct) ⟨us, []⟩ = pure (ps.zip us))
    (h : ∀ (f : Addr) (cdv : Value) (A : Around) (outer : List Env) (s : Shared) (H : Hp) (E : XK), FnCx (cxOf (L2.CX P w) P w K mg base N x (defScope st) f cdv A outer s H E) k → SSs (cxOf (L2.CX P w) P w K mg base N x (defScope st) f cdv A outer s H E) (defBody st) r) :
    Def P w K mg base x (k + 1) (runFn N.length r) np [] := by
  obtain ⟨f, fd, hm, F⟩ := F.ex
  subst hn
  refine ⟨f, fd, ps, [], hm, F.kp, rfl, fn_ok F S (fun cdv A outer s H E c => h f cdv A outer s H E c), ?_, .nil⟩
  exact F.bindsN hb
/-- .. of a def with defaults: the first n are given -/
theorem def_okD {N ps : List Str} {k np : Nat} {r : DS} {dvs : List V} (n j : Nat) (F : FnAt K mg x st dvs []) (S : FnScope N ps (defScope st)) (hn : ps.length = np) (hd : dvs ≠ []) (hnj : n + (dvs.length - j) = ps.length)
    (hb : ∀ (T : Addr) (kV doc pm : Value) (an : Option Addr) (cdv ct : Value) (us its : List Value), us.length = n → its.length = dvs.length →
      ∃ k, bindArgs (PySem.W.fnOf x x (defArgs st) (defBody st) (defScope st) (.ref T) kV doc pm an cdv ct) ⟨us, []⟩ = seqItems? (.ref T) >>= k ∧ k (some its.toArray) = pure (ps.zip (us ++ its.drop j)))
    (h : ∀ (f : Addr) (cdv : Value) (A : Around) (outer : List Env) (s : Shared) (H : Hp) (E : XK), FnCx (cxOf (L2.CX P w) P w K mg base N x (defScope st) f cdv A outer s H E) k → SSs (cxOf (L2.CX P w) P w K mg base N x (defScope st) f cdv A outer s H E) (defBody st) r) :
    Def P w K mg base x (k + 1) (runFn N.length r) np (dvs.drop j) := by
  obtain ⟨f, fd, hm, F⟩ := F.ex
  subst hn
  obtain ⟨ds, hv, hbd⟩ := F.binds1 n j hd hnj hb
  exact ⟨f, fd, ps, ds, hm, F.kp, rfl, fn_ok F S (fun cdv A outer s H E c => h f cdv A outer s H E c), hbd, hv⟩
end
end L2.VL
end
section
set_option Elab.async false
set_option linter.all false
set_option maxRecDepth 100000
namespace L2.VL
open PySem PySem.Spec PyProof.Rows
def addD (x y : D) : Option (D × Kd) := match x, y with
  | .con (.int i), .con (.int j) => some (.int (i + j), .shr)
  | .con (.str a), .con (.str b) => if a.length + b.length ≤ cap then some (.str (a ++ b), .shr) else none
  | .lst a, .lst b => if a.length + b.length ≤ cap then some (.lst (a ++ b), .fr) else none
  | .tup a, .tup b => if a.length + b.length ≤ cap ∧ a.isEmpty = false ∧ b.isEmpty = false then some (.tup (a ++ b), .shr) else none
  | _, _ => none
def rCatL (K : PySem.W.Frag) : R2 := fun x y H Q => ∃ l b xs zs, x = .ref l ∧ y = .ref b ∧ SqL K H l xs ∧ SqL K H b zs ∧ xs.length + zs.length ≤ sizeLine ∧ ∀ p, H p = none → Q (.ref p) (upd H p (.lst (xs ++ zs)))
section
variable {X : Cx} {pos : Pos}
theorem op_catL : OpR X (binaryOp .Add) (rCatL X.K) := by
  intro pins s σ H x y v u Q I rx ry h
  obtain ⟨l, b, xs, zs, rfl, rfl, hH, hB, hz, q⟩ := h
  cases rx
  cases ry
  obtain ⟨its, r, ⟨o1, n1, e1, c1, d1, k1⟩, _⟩ := I.list hH
  obtain ⟨its2, r2, ⟨o2, n2, e2, c2, d2, k2⟩, _⟩ := I.list hB
  obtain ⟨cls1, dd1, dt1, sl1⟩ := o1
  obtain ⟨cls2, dd2, dt2, sl2⟩ := o2
  dsimp only at c1 d1 k1 c2 d2 k2
  subst c1 d1 k1 c2 d2 k2
  have hl := r.length
  have hl2 := r2.length
  refine concat_meets ⟨_, e1, rfl⟩ ⟨_, e2, rfl⟩ noFill_list_add seq_list_add PySem.F.slot_list_add PySem.F.entry_list_add (PySem.F.args_list_add_2 _ _) (list_addW l b its.toArray its2.toArray n1 n2 none none sl1 sl2 (by simp; omega)) ⟨e1, e2, ?_⟩
  have ea : its.toArray ++ its2.toArray = (its ++ its2).toArray := by simp
  rw [ea]
  exact ⟨.ref _, _, I.lnew (t' := s.toks) (r.append r2) (by rw [List.length_append]; omega), rfl, q _ I.fresh⟩
def rAddStr : R2 := fun x y H Q => ∃ i j, x = .str i ∧ y = .str j ∧ i.length + j.length ≤ sizeLine ∧ Q (.str (i ++ j)) H
def rAddI : R2 := fun x y H Q => ∃ i j, x = .int i ∧ y = .int j ∧ Q (.int (i + j)) H
abbrev rAdd (K : PySem.W.Frag) : R2 := fun x y H Q => rAddI x y H Q ∨ (rAddStr x y H Q ∨ (rCatL K x y H Q ∨ rCatT K x y H Q))
theorem op_addA : OpR X (binaryOp .Add) (rAdd X.K) := OpR.or (r := rAddI) op_add (OpR.or (r := rAddStr) op_add_str (OpR.or (r := rCatL X.K) op_catL op_catT))
theorem os_add {K : PySem.W.Frag} : OpS2 K (rAdd K) addD := by
  intro G O σ H ρ a b x y z Q hK R v1 v2 e q
  unfold addD at e
  split at e
  · cases e
    exact .inl ⟨_, _, v1.con, v2.con, q O _ H (R.con _)⟩
  · split at e
    · rename_i hl
      cases e
      exact .inr (.inl ⟨_, _, v1.con, v2.con, by rw [← cap_eq]; exact hl, q O _ H (R.con _)⟩)
    · cases e
  · split at e
    · rename_i hl
      cases e
      obtain ⟨a1, vs, rfl, s1, r1⟩ := v1.lst
      obtain ⟨a2, us, rfl, s2, r2⟩ := v2.lst
      refine .inr (.inr (.inl ⟨a1, a2, vs, us, rfl, rfl, s1, s2, by rw [r1.len, r2.len, ← cap_eq]; exact hl, fun p hp => ?_⟩))
      rw [← hK] at r1 r2
      obtain ⟨O', R'⟩ := R.fresh (d := .lst (_ ++ _)) hp (.lst (r1.append r2))
      exact q O' _ _ R'
    · cases e
  · split at e
    · rename_i xs ys hl
      cases e
      obtain ⟨a1, vs, rfl, s1, r1⟩ := v1.tup
      obtain ⟨a2, us, rfl, s2, r2⟩ := v2.tup
      have ne : vs ≠ [] := fun z => by
        subst z
        cases r1
        cases hl.2.1
      refine .inr (.inr (.inr ⟨a1, a2, vs, us, rfl, rfl, s1, s2, ne, by rw [r1.len, r2.len, ← cap_eq]; exact hl.1, fun z => ?_, fun z p hp => ?_⟩))
      · subst z
        cases r2
        cases hl.2.2
      · rw [← hK] at r1 r2
        exact q O _ _ (R.freshT (d := .tup (_ ++ _)) hp (.tup (r1.append r2)))
    · cases e
  · cases e
def CMulB (i j : Int) : Bool := (decide (-18446744073709551616 < i) && decide (i < 18446744073709551616)) || (decide (-18446744073709551616 < j) && decide (j < 18446744073709551616))
theorem CMulB_of {i j : Int} (h : CMulB i j = true) : CMul i j := by
  unfold CMulB at h
  rw [Bool.or_eq_true, Bool.and_eq_true, Bool.and_eq_true, decide_eq_true_eq, decide_eq_true_eq, decide_eq_true_eq, decide_eq_true_eq] at h
  rcases h with h | h
  · exact .inl ⟨by omega, by omega⟩
  · exact .inr ⟨by omega, by omega⟩
/-- a guarded operation on ints -/
def gIb (C : Int → Int → Bool) (f : Int → Int → V) (x y : D) : Option (D × Kd) := match x, y with
  | .con (.int i), .con (.int j) => if C i j then some (.con (f i j), .shr) else none
  | _, _ => none
theorem os_Ib {K : PySem.W.Frag} {P : Int → Int → Prop} {C : Int → Int → Bool} {f : Int → Int → V} (h : ∀ i j, C i j = true → P i j) : OpS2 K (rI P f) (gIb C f) := by
  intro G O σ H ρ a b x y z Q hK R v1 v2 e q
  unfold gIb at e
  split at e
  · split at e
    · rename_i hc
      cases e
      exact ⟨_, _, v1.con, v2.con, h _ _ hc, q O _ H (R.con _)⟩
    · cases e
  · cases e
def gIp (f : Int → Int → V) (x y : D) : Option (D × Kd) := match x, y with
  | .con (.int i), .con (.int j) => some (.con (f i j), .shr)
  | _, _ => none
theorem os_Ip {K : PySem.W.Frag} {f : Int → Int → V} : OpS2 K (rI0 f) (gIp f) := by
  intro G O σ H ρ a b x y z Q hK R v1 v2 e q
  unfold gIp at e
  split at e
  · cases e
    exact ⟨_, _, v1.con, v2.con, q O _ H (R.con _)⟩
  · cases e
def subD := gIp fun i j => .int (i - j)
def mulD := gIb CMulB fun i j => .int (i * j)
def CDivB (_ j : Int) : Bool := decide (0 < j) && decide (j < 2 ^ 200)
def divD := gIb CDivB fun i j => .int (i / j)
def modD := gIb (fun _ j => decide (0 < j)) fun i j => .int (i % j)
def CPowB (i j : Int) : Bool := decide (0 ≤ j) && (decide (j ≤ 1000) && decide (i.natAbs < 18446744073709551616))
def powD := gIb CPowB fun i j => .int (i ^ j.toNat)
theorem CPowB_of {i j : Int} (h : CPowB i j = true) : CPow i j := by
  unfold CPowB at h
  simp only [Bool.and_eq_true, decide_eq_true_eq] at h
  exact ⟨h.1, by omega, by omega⟩
theorem CDivB_of {i j : Int} (h : CDivB i j = true) : CDivW i j := by
  unfold CDivB at h
  simp only [Bool.and_eq_true, decide_eq_true_eq] at h
  refine wide_div h.1 (b := 200) ?_ (by decide) (by decide)
  have : (2 : Int) ^ 200 = ((2 ^ 200 : Nat) : Int) := by norm_cast
  omega
theorem os_sub {K : PySem.W.Frag} : OpS2 K (rI0 fun i j => .int (i - j)) subD := os_Ip
theorem os_mul {K : PySem.W.Frag} : OpS2 K (rI CMul fun i j => .int (i * j)) mulD := os_Ib fun _ _ => CMulB_of
theorem os_div {K : PySem.W.Frag} : OpS2 K (rI CDivW fun i j => .int (i / j)) divD := os_Ib fun _ _ => CDivB_of
theorem os_mod {K : PySem.W.Frag} : OpS2 K (rI (fun _ j => 0 < j) fun i j => .int (i % j)) modD := os_Ib fun _ _ h => of_decide_eq_true h
theorem os_pow {K : PySem.W.Frag} : OpS2 K (rI CPow fun i j => .int (i ^ j.toNat)) powD := os_Ib fun _ _ => CPowB_of
def ltC := gC fun i j => decide (i < j)
def leC := gC fun i j => decide (i ≤ j)
/-- data that == reads -/
def okD : Nat → D → Bool
  | _, .con .non => true
  | _, .con (.bl _) => true
  | _, .con (.int _) => true
  | _, .con (.str s) => PyData.strOk s
  | n + 1, .lst xs => xs.all (okD n)
  | n + 1, .tup xs => xs.all (okD n)
  | _, _ => false
def sameV (a b : V) : Bool := match a, b with
  | .int i, .int j => decide (i = j)
  | .bl i, .bl j => i == j
  | .bl i, .int j => (if i then 1 else 0) == j
  | .int i, .bl j => i == (if j then 1 else 0)
  | .str i, .str j => decide (i = j)
  | .non, .non => true
  | _, _ => false
mutual
def same : D → D → Bool
  | .con a, .con b => sameV a b
  | .lst xs, .lst ys => sameL xs ys
  | .tup xs, .tup ys => sameL xs ys
  | _, _ => false
def sameL : List D → List D → Bool
  | [], [] => true
  | x :: xs, y :: ys => same x y && sameL xs ys
  | _, _ => false
end
def eqD (x y : D) : Option Bool := match x, y with
  | .con a, .con b => if scal a b then some (decide (a = b)) else if okD 60 x && okD 60 y then some (same x y) else none
  | _, _ => if okD 60 x && okD 60 y then some (same x y) else none
mutual
def toPy : D → PyData
  | .con (.bl b) => .bool b
  | .con (.int i) => .int i
  | .con (.str s) => .str s
  | .con _ => .none
  | .lst xs => .list (toPys xs)
  | .tup xs => .tuple (toPys xs)
  | _ => .none
def toPys : List D → List PyData
  | [] => []
  | x :: xs => toPy x :: toPys xs
end
theorem toPy_depth : ∀ (n : Nat) (d : D), okD n d = true → (toPy d).depth ≤ n ∧ (toPy d).canLay0 = true
  | n, .con v, h => by
    cases v with
    | non => simp [toPy, PyData.depth, PyData.canLay0]
    | bl b => simp [toPy, PyData.depth, PyData.canLay0]
    | int i => simp [toPy, PyData.depth, PyData.canLay0]
    | str s => unfold okD at h; simp [toPy, PyData.depth, PyData.canLay0, h]
    | _ => simp [okD] at h
  | n + 1, .lst xs, h => by
    have ih : ∀ xs : List D, xs.all (okD n) = true → PyData.depthAll (toPys xs) ≤ n ∧ PyData.canLayAll0 (toPys xs) = true := by
      intro xs
      induction xs with
      | nil => intro _; simp [toPys, PyData.depthAll, PyData.canLayAll0]
      | cons x xs ih2 =>
        intro h
        rw [List.all_cons, Bool.and_eq_true] at h
        obtain ⟨a, b⟩ := toPy_depth n x h.1
        obtain ⟨c, d⟩ := ih2 h.2
        simp only [toPys, PyData.depthAll, PyData.canLayAll0, b, d]
        exact ⟨by omega, rfl⟩
    obtain ⟨a, b⟩ := ih xs (by unfold okD at h; exact h)
    simp only [toPy, PyData.depth, PyData.canLay0]
    exact ⟨by omega, b⟩
  | n + 1, .tup xs, h => by
    have ih : ∀ xs : List D, xs.all (okD n) = true → PyData.depthAll (toPys xs) ≤ n ∧ PyData.canLayAll0 (toPys xs) = true := by
      intro xs
      induction xs with
      | nil => intro _; simp [toPys, PyData.depthAll, PyData.canLayAll0]
      | cons x xs ih2 =>
        intro h
        rw [List.all_cons, Bool.and_eq_true] at h
        obtain ⟨a, b⟩ := toPy_depth n x h.1
        obtain ⟨c, d⟩ := ih2 h.2
        simp only [toPys, PyData.depthAll, PyData.canLayAll0, b, d]
        exact ⟨by omega, rfl⟩
    obtain ⟨a, b⟩ := ih xs (by unfold okD at h; exact h)
    simp only [toPy, PyData.depth, PyData.canLay0]
    exact ⟨by omega, b⟩
  | 0, .lst xs, h => by simp [okD] at h
  | 0, .tup xs, h => by simp [okD] at h
  | 0, .dic xs, h => by simp [okD] at h
  | 0, .dit xs, h => by simp [okD] at h
  | 0, .own xs, h => by simp [okD] at h
  | 0, .exv _, h => by simp [okD] at h
  | 0, .tre _, h => by simp [okD] at h
  | 0, .dix _, h => by simp [okD] at h
  | 0, .fnv _ _ _, h => by simp [okD] at h
  | _ + 1, .dic xs, h => by simp [okD] at h
  | _ + 1, .dit xs, h => by simp [okD] at h
  | _ + 1, .own xs, h => by simp [okD] at h
  | _ + 1, .exv _, h => by simp [okD] at h
  | _ + 1, .tre _, h => by simp [okD] at h
  | _ + 1, .dix _, h => by simp [okD] at h
  | _ + 1, .fnv _ _ _, h => by simp [okD] at h
theorem ok_shaped {d : D} (h : okD 60 d = true) : SeqAt.shaped (toPy d) = true := by
  obtain ⟨a, b⟩ := toPy_depth 60 d h
  unfold SeqAt.shaped
  rw [b, decide_eq_true (by omega)]; rfl
mutual
theorem Rep.dp {K : PySem.W.Frag} {H : Hp} {O : Own} : ∀ (n : Nat) {v : V} {d : D}, okD n d = true → Vw K H O v d → Dp K H v (toPy d)
  | n, v, .con c, h, r => by
    rw [r.con]
    cases c with
    | non => exact .non
    | bl b => exact .bl b
    | int i => exact .int i
    | str s => exact .str s
    | _ => simp [okD] at h
  | n + 1, v, .lst xs, h, r => by
    obtain ⟨a, vs, rfl, s, q⟩ := r.lst
    exact .lst s (Reps.dp n (by unfold okD at h; exact h) q)
  | n + 1, v, .tup xs, h, r => by
    obtain ⟨a, vs, rfl, s, q⟩ := r.tup
    exact .tup s (Reps.dp n (by unfold okD at h; exact h) q)
  | 0, v, .lst xs, h, r => by simp [okD] at h
  | 0, v, .tup xs, h, r => by simp [okD] at h
  | 0, v, .dic xs, h, r => by simp [okD] at h
  | 0, v, .dit xs, h, r => by simp [okD] at h
  | 0, v, .own xs, h, r => by simp [okD] at h
  | 0, v, .exv _, h, r => by simp [okD] at h
  | 0, v, .tre _, h, r => by simp [okD] at h
  | 0, v, .dix _, h, r => by simp [okD] at h
  | 0, v, .fnv _ _ _, h, r => by simp [okD] at h
  | _ + 1, v, .dic xs, h, r => by simp [okD] at h
  | _ + 1, v, .dit xs, h, r => by simp [okD] at h
  | _ + 1, v, .own xs, h, r => by simp [okD] at h
  | _ + 1, v, .exv _, h, r => by simp [okD] at h
  | _ + 1, v, .tre _, h, r => by simp [okD] at h
  | _ + 1, v, .dix _, h, r => by simp [okD] at h
  | _ + 1, v, .fnv _ _ _, h, r => by simp [okD] at h
theorem Reps.dp {K : PySem.W.Frag} {H : Hp} {O : Own} : ∀ (n : Nat) {vs : List V} {ds : List D}, ds.all (okD n) = true → Reps K H (lin O) vs ds → DpAll K H vs (toPys ds)
  | n, _, [], h, r => by cases r; exact .nil
  | n, _, d :: ds, h, r => by
    rw [List.all_cons, Bool.and_eq_true] at h
    cases r with
    | cons a b => exact .cons (Rep.dp n h.1 (.inl a)) (Reps.dp n h.2 b)
end
theorem same_con {n : Nat} {a b : V} (h1 : okD n (.con a) = true) (h2 : okD n (.con b) = true) : PyData.eqv (toPy (.con a)) (toPy (.con b)) = sameV a b := by
  cases a <;> first
    | (simp [okD] at h1; done)
    | (cases b <;> first
        | (simp [okD] at h2; done)
        | (simp [toPy, PyData.eqv, sameV]; done)
        | (simp only [toPy, PyData.eqv, sameV]; rfl)
        | (simp only [toPy, PyData.eqv, sameV, Bool.beq_eq_decide_eq]))
mutual
theorem same_eqv : ∀ (n m : Nat) (x y : D), okD n x = true → okD m y = true → PyData.eqv (toPy x) (toPy y) = same x y
  | n, m, .con a, .con b, h1, h2 => by
    have e1 : okD 0 (.con a) = true := by cases a <;> first | (simp only [okD] at h1 ⊢; done) | (simp only [okD] at h1 ⊢; exact h1) | (simp [okD] at h1)
    have e2 : okD 0 (.con b) = true := by cases b <;> first | (simp only [okD] at h2 ⊢; done) | (simp only [okD] at h2 ⊢; exact h2) | (simp [okD] at h2)
    rw [same_con e1 e2]
    simp only [same]
  | n + 1, m + 1, .lst xs, .lst ys, h1, h2 => by
    simp only [toPy, PyData.eqv, same]
    exact same_eqvs n m xs ys (by unfold okD at h1; exact h1) (by unfold okD at h2; exact h2)
  | n + 1, m + 1, .tup xs, .tup ys, h1, h2 => by
    simp only [toPy, PyData.eqv, same]
    exact same_eqvs n m xs ys (by unfold okD at h1; exact h1) (by unfold okD at h2; exact h2)
  | n, m, .con a, .lst ys, h1, h2 => by cases a <;> simp [toPy, PyData.eqv, same]
  | n, m, .con a, .tup ys, h1, h2 => by cases a <;> simp [toPy, PyData.eqv, same]
  | n, m, .lst xs, .con b, h1, h2 => by cases b <;> simp [toPy, PyData.eqv, same]
  | n, m, .tup xs, .con b, h1, h2 => by cases b <;> simp [toPy, PyData.eqv, same]
  | n, m, .lst xs, .tup ys, h1, h2 => by simp [toPy, PyData.eqv, same]
  | n, m, .tup xs, .lst ys, h1, h2 => by simp [toPy, PyData.eqv, same]
  | 0, m, .lst xs, .lst ys, h1, h2 => by simp [okD] at h1
  | 0, m, .tup xs, .tup ys, h1, h2 => by simp [okD] at h1
  | n, 0, .lst xs, .lst ys, h1, h2 => by simp [okD] at h2
  | n, 0, .tup xs, .tup ys, h1, h2 => by simp [okD] at h2
  | n, m, .dic xs, y, h1, h2 => by cases n <;> simp [okD] at h1
  | n, m, .dit xs, y, h1, h2 => by cases n <;> simp [okD] at h1
  | n, m, .own xs, y, h1, h2 => by cases n <;> simp [okD] at h1
  | n, m, .exv _, y, h1, h2 => by cases n <;> simp [okD] at h1
  | n, m, .tre _, y, h1, h2 => by cases n <;> simp [okD] at h1
  | n, m, .dix _, y, h1, h2 => by cases n <;> simp [okD] at h1
  | n, m, .fnv _ _ _, y, h1, h2 => by cases n <;> simp [okD] at h1
  | n, m, .con a, .dic ys, h1, h2 => by cases m <;> simp [okD] at h2
  | n, m, .con a, .dit ys, h1, h2 => by cases m <;> simp [okD] at h2
  | n, m, .con a, .own ys, h1, h2 => by cases m <;> simp [okD] at h2
  | n, m, .con a, .exv _, h1, h2 => by cases m <;> simp [okD] at h2
  | n, m, .con a, .tre _, h1, h2 => by cases m <;> simp [okD] at h2
  | n, m, .con a, .dix _, h1, h2 => by cases m <;> simp [okD] at h2
  | n, m, .con a, .fnv _ _ _, h1, h2 => by cases m <;> simp [okD] at h2
  | n, m, .lst xs, .dic ys, h1, h2 => by cases m <;> simp [okD] at h2
  | n, m, .lst xs, .dit ys, h1, h2 => by cases m <;> simp [okD] at h2
  | n, m, .lst xs, .own ys, h1, h2 => by cases m <;> simp [okD] at h2
  | n, m, .lst xs, .exv _, h1, h2 => by cases m <;> simp [okD] at h2
  | n, m, .lst xs, .tre _, h1, h2 => by cases m <;> simp [okD] at h2
  | n, m, .lst xs, .dix _, h1, h2 => by cases m <;> simp [okD] at h2
  | n, m, .lst xs, .fnv _ _ _, h1, h2 => by cases m <;> simp [okD] at h2
  | n, m, .tup xs, .dic ys, h1, h2 => by cases m <;> simp [okD] at h2
  | n, m, .tup xs, .dit ys, h1, h2 => by cases m <;> simp [okD] at h2
  | n, m, .tup xs, .own ys, h1, h2 => by cases m <;> simp [okD] at h2
  | n, m, .tup xs, .exv _, h1, h2 => by cases m <;> simp [okD] at h2
  | n, m, .tup xs, .tre _, h1, h2 => by cases m <;> simp [okD] at h2
  | n, m, .tup xs, .dix _, h1, h2 => by cases m <;> simp [okD] at h2
  | n, m, .tup xs, .fnv _ _ _, h1, h2 => by cases m <;> simp [okD] at h2
theorem same_eqvs : ∀ (n m : Nat) (xs ys : List D), xs.all (okD n) = true → ys.all (okD m) = true → PyData.eqvAll (toPys xs) (toPys ys) = sameL xs ys
  | n, m, [], [], h1, h2 => by simp [toPys, PyData.eqvAll, sameL]
  | n, m, [], _ :: _, h1, h2 => by simp [toPys, PyData.eqvAll, sameL]
  | n, m, _ :: _, [], h1, h2 => by simp [toPys, PyData.eqvAll, sameL]
  | n, m, x :: xs, y :: ys, h1, h2 => by
    rw [List.all_cons, Bool.and_eq_true] at h1 h2
    simp only [toPys, PyData.eqvAll, sameL]
    rw [same_eqv n m x y h1.1 h2.1, same_eqvs n m xs ys h1.2 h2.2]
end
abbrev rEqA (K : PySem.W.Frag) : R2 := fun x y H Q => rEq x y H Q ∨ rEqD K x y H Q
abbrev rNeA (K : PySem.W.Frag) : R2 := fun x y H Q => rNe x y H Q ∨ rNeD K x y H Q
theorem op_eqA {k : Nat} (hr : Room k X.A) : OpR X (compareOp .Eq) (rEqA X.K) := OpR.or op_eq (op_eqD hr.units)
theorem op_neA {k : Nat} (hr : Room k X.A) : OpR X (compareOp .NotEq) (rNeA X.K) := OpR.or op_ne (op_neD hr.units)
theorem eqD_of {K : PySem.W.Frag} {a b : V} {H : Hp} {x y : D} {k : Bool} {O : Own} (v1 : Vw K H O a x) (v2 : Vw K H O b y) (e : eqD x y = some k) : (scal a b = true ∧ decide (a = b) = k) ∨ ∃ d e, Dp K H a d ∧ Dp K H b e ∧ SeqAt.shaped d = true ∧ SeqAt.shaped e = true ∧ PyData.eqv d e = k := by
  have py : ∀ k, (if (okD 60 x && okD 60 y) = true then some (same x y) else none) = some k → ∃ d e, Dp K H a d ∧ Dp K H b e ∧ SeqAt.shaped d = true ∧ SeqAt.shaped e = true ∧ PyData.eqv d e = k := fun k e => by
    split at e
    · rename_i h
      rw [Bool.and_eq_true] at h
      cases e
      exact ⟨toPy x, toPy y, Rep.dp 60 h.1 v1, Rep.dp 60 h.2 v2, ok_shaped h.1, ok_shaped h.2, same_eqv 60 60 x y h.1 h.2⟩
    · cases e
  unfold eqD at e
  split at e
  · rename_i a' b'
    split at e
    · rename_i hs
      cases e
      rw [v1.con, v2.con]
      exact .inl ⟨hs, rfl⟩
    · exact .inr (py k e)
  · exact .inr (py k e)
theorem cs_eq {K : PySem.W.Frag} : CmpS K (rEqA K) eqD := fun a b H x y k O Q v1 v2 e q => by
  rcases eqD_of v1 v2 e with ⟨h1, h2⟩ | ⟨d, e', h1, h2, h3, h4, h5⟩
  · exact .inl ⟨h1, by rw [h2]; exact q⟩
  · exact .inr ⟨d, e', h1, h2, h3, h4, by rw [h5]; exact q⟩
def neD (x y : D) : Option Bool := (eqD x y).map not
theorem cs_ne {K : PySem.W.Frag} : CmpS K (rNeA K) neD := fun a b H x y k O Q v1 v2 e q => by
  obtain ⟨k', e1, e2⟩ := Option.map_eq_some_iff.mp e
  rcases eqD_of v1 v2 e1 with ⟨h1, h2⟩ | ⟨d, e', h1, h2, h3, h4, h5⟩
  · exact .inl ⟨h1, by rw [h2, e2]; exact q⟩
  · exact .inr ⟨d, e', h1, h2, h3, h4, by rw [h5, e2]; exact q⟩
end
end L2.VL
end
section
set_option Elab.async false
set_option linter.all false
set_option maxRecDepth 100000
namespace L2.VL
open PySem PySem.Spec PyProof.Rows
section
variable {X : Cx} {a b c e o : Expr} {es : List Expr} {ra rb rc r : DE} {l : List (Bool × DE)} {pos p : Pos}
def isNonD (d : D) : Option Bool := match d with
  | .con .non => some true
  | .con _ => some false
  | .lst _ => some false
  | .tup _ => some false
  | .dic _ => some false
  | .dit _ => some false
  | .own _ => none
  | .exv _ => some false
  | .dix _ => some false
  | .fnv _ _ _ => none
  | .tre _ => none
theorem isNon_of {K : PySem.W.Frag} {H : Hp} {O : Own} {v : V} {d : D} {k : Bool} (h : Vw K H O v d) (e : isNonD d = some k) : decide (v = .non) = k := by
  have ref : ∀ {ho : HO} {d : D}, Cont K H (lin O) ho d → True := fun _ => trivial
  unfold isNonD at e
  split at e
  · cases e; rw [h.con]; rfl
  · rename_i c hc
    cases e
    rw [h.con]
    exact decide_eq_false hc
  · cases e
    obtain ⟨a, vs, rfl, _⟩ := h.lst
    rfl
  · cases e
    obtain ⟨a, vs, rfl, _⟩ := h.tup
    rfl
  · cases e
    rcases h with h | ⟨a, ho, rfl, _⟩ | ⟨_, _, _, z⟩
    · cases h; rfl
    · rfl
    · cases z
  · cases e
    rcases h with h | ⟨a, ho, rfl, _⟩ | ⟨_, _, _, z⟩
    · cases h; rfl
    · rfl
    · cases z
  · cases e
  · cases e
    obtain ⟨a, d, rfl, _⟩ := h.exv
    rfl
  · cases e
    rcases h with h | ⟨a, ho, rfl, _⟩ | ⟨_, _, _, z⟩
    · cases h; rfl
    · rfl
    · cases z
  · cases e
  · cases e
def isNC (x y : D) : Option Bool := match y with
  | .con .non => isNonD x
  | _ => none
def notNC (x y : D) : Option Bool := (isNC x y).map not
theorem cs_isN {K : PySem.W.Frag} : CmpS K (fun x y H Q => y = .non ∧ Q (.bl (decide (x = .non))) H) isNC := fun a b H x y k O Q v1 v2 e q => by
  unfold isNC at e
  split at e
  · exact ⟨v2.con, by rw [isNon_of v1 e]; exact q⟩
  · cases e
theorem cs_notN {K : PySem.W.Frag} : CmpS K (fun x y H Q => y = .non ∧ Q (.bl (!decide (x = .non))) H) notNC := fun a b H x y k O Q v1 v2 e q => by
  obtain ⟨k', e1, e2⟩ := Option.map_eq_some_iff.mp e
  unfold isNC at e1
  split at e1
  · exact ⟨v2.con, by rw [isNon_of v1 e1, e2]; exact q⟩
  · cases e1
def flatD (d : D) : Option V := match d with
  | .con v => if flatV v then some v else none
  | _ => none
def flatDs : List D → Option (List V)
  | [] => some []
  | d :: ds => match flatD d with
    | some v => (flatDs ds).map (v :: ·)
    | none => none
theorem flatD_of {d : D} {v : V} (e : flatD d = some v) : d = .con v ∧ flatV v = true := by
  unfold flatD at e
  split at e
  · split at e
    · rename_i h; cases e; exact ⟨rfl, h⟩
    · cases e
  · cases e
theorem flatDs_of {K : PySem.W.Frag} {H : Hp} {L : Addr → Prop} : ∀ {ds : List D} {vs us : List V}, flatDs ds = some vs → Reps K H L us ds → us = vs ∧ vs.all flatV = true
  | [], _, _, e, r => by cases e; cases r; exact ⟨rfl, rfl⟩
  | d :: ds, vs, us, e, r => by
    unfold flatDs at e
    split at e
    · rename_i v hv
      obtain ⟨ws, e1, rfl⟩ := Option.map_eq_some_iff.mp e
      obtain ⟨rfl, hf⟩ := flatD_of hv
      cases r with
      | cons a b =>
        obtain ⟨h1, h2⟩ := flatDs_of e1 b
        rw [a.con_inv, h1]
        exact ⟨rfl, by rw [List.all_cons, hf, h2]; rfl⟩
    · cases e
def inD (x y : D) : Option Bool := match y with
  | .lst ds => match flatD x, flatDs ds with
    | some v, some vs => some (inV v vs)
    | _, _ => none
  | .tup ds => match flatD x, flatDs ds with
    | some v, some vs => some (inV v vs)
    | _, _ => none
  | _ => none
theorem inD_of {K : PySem.W.Frag} {H : Hp} {O : Own} {u w : V} {x y : D} {k : Bool} (v1 : Vw K H O u x) (v2 : Vw K H O w y) (e : inD x y = some k) :
    ∃ p xs, w = .ref p ∧ (SqL K H p xs ∨ SqT K H p xs) ∧ flatV u = true ∧ xs.all flatV = true ∧ inV u xs = k := by
  unfold inD at e
  split at e
  · split at e
    · rename_i v vs h1 h2
      cases e
      obtain ⟨rfl, hf⟩ := flatD_of h1
      obtain ⟨a, us, rfl, s, r⟩ := v2.lst
      obtain ⟨rfl, hf2⟩ := flatDs_of h2 r
      rw [v1.con]
      exact ⟨a, _, rfl, .inl s, hf, hf2, rfl⟩
    · cases e
  · split at e
    · rename_i v vs h1 h2
      cases e
      obtain ⟨rfl, hf⟩ := flatD_of h1
      obtain ⟨a, us, rfl, s, r⟩ := v2.tup
      obtain ⟨rfl, hf2⟩ := flatDs_of h2 r
      rw [v1.con]
      exact ⟨a, _, rfl, .inr s, hf, hf2, rfl⟩
    · cases e
  · cases e
theorem cs_in {K : PySem.W.Frag} : CmpS K (rIn K false) inD := fun a b H x y k O Q v1 v2 e q => by
  obtain ⟨p, xs, rfl, s, h1, h2, h3⟩ := inD_of v1 v2 e
  exact ⟨p, xs, rfl, s, h1, h2, by simpa [h3] using q⟩
def ixD (x y : D) : Option (D × Kd) := match x, y with
  | .lst ds, .con (.int i) => (atI ds i).map fun d => (d, .shr)
  | .tup ds, .con (.int i) => (atI ds i).map fun d => (d, .shr)
  | .con (.str z), .con (.int i) => if z.length ≤ cap then (atI z.cps.toList i).map fun c => (.str ⟨#[c]⟩, .shr) else none
  | _, _ => none
theorem atI_reps {K : PySem.W.Frag} {H : Hp} {L : Addr → Prop} {vs : List V} {ds : List D} {i : Int} {d : D} (r : Reps K H L vs ds) (e : atI ds i = some d) : ∃ v, atI vs i = some v ∧ Rep K H L v d := by
  unfold atI at e ⊢
  obtain ⟨j, e1, e2⟩ := Option.bind_eq_some_iff.mp e
  obtain ⟨v, h1, h2⟩ := r.get e2
  rw [r.len, e1]
  exact ⟨v, h1, h2⟩
theorem os_ix {K : PySem.W.Frag} : OpS2 K (rIx K) ixD := by
  intro G O σ H ρ a b x y z Q hK R v1 v2 e q
  unfold ixD at e
  split at e
  · obtain ⟨d, e1, rfl⟩ := Option.map_eq_some_iff.mp e
    obtain ⟨a1, vs, rfl, s1, r1⟩ := v1.lst
    obtain ⟨v, h1, h2⟩ := atI_reps r1 e1
    rw [← hK] at h2
    exact .inl ⟨a1, vs, _, v, rfl, v2.con, s1, h1, q O v H (R.push h2)⟩
  · obtain ⟨d, e1, rfl⟩ := Option.map_eq_some_iff.mp e
    obtain ⟨a1, vs, rfl, s1, r1⟩ := v1.tup
    obtain ⟨v, h1, h2⟩ := atI_reps r1 e1
    rw [← hK] at h2
    exact .inr (.inl ⟨a1, vs, _, v, rfl, v2.con, s1, h1, q O v H (R.push h2)⟩)
  · split at e
    · rename_i hz
      obtain ⟨d, e1, rfl⟩ := Option.map_eq_some_iff.mp e
      exact .inr (.inr ⟨_, _, d, v1.con, v2.con, by rw [← cap_eq]; exact hz, e1, q O _ H (R.con _)⟩)
    · cases e
  · cases e
/-- a part of a slice -/
def dPart (o : Option DE) : M (Option Int) := match o with
  | none => pure none
  | some r => do
    let x ← r
    let d ← dcur x
    mOpt (match d with
      | .con (.int i) => some (some i)
      | _ => none)
def tP (K : PySem.W.Frag) (W : WX) (r : M (Option Int)) : TO := fun σ H Q => ∃ G O ρ T, G.K = K ∧ Rel G O σ H ρ T ∧ (r ρ).post (fun i ρ' => ∀ O' H', Rel G O' σ H' ρ' T → Q i H') (EX G σ W)
theorem PO.imp {X : Cx} {e : Option Expr} {t t' : TO} (h : PO X e t) (i : ∀ σ H Q, t' σ H Q → t σ H Q) : PO X e t' := ⟨fun pins s σ H Q I q => h.run pins s σ H Q I (i σ H Q q)⟩
def SP_ (X : Cx) (e : Option Expr) (r : M (Option Int)) : Prop := ∀ W, Takes X W → PO X e (tP X.K W r)
theorem sp_none : SP_ X none (dPart none) := fun W tk => PO.imp po_none fun σ H Q ⟨G, O, ρ, T, hK, R, h⟩ => h O H R
theorem sp_some (ha : SE X a ra) : SP_ X (some a) (dPart (some ra)) := fun W tk => PO.imp (po_some (ha W tk)) fun σ H Q ⟨G, O, ρ, T, hK, R, h⟩ => by
  refine tE.at hK R (Res.post_ok ((post_bind _ _).mp h) fun x ρ1 q O1 v H1 R1 => ?_)
  obtain ⟨d, e1, q2⟩ := post_cur.mp ((post_bind _ _).mp q)
  obtain ⟨i, e2, q3⟩ := (post_opt _).mp q2
  have v1 := R1.view R1.tm.1 e1
  split at e2
  · cases e2
    exact ⟨_, v1.con, q3 O1 H1 R1.pop⟩
  · cases e2
def cutD (ds : List D) (lo hi : Option Int) : List D := (ds.drop (HT.sIx ds.length 0 lo)).take (HT.sIx ds.length ds.length hi - HT.sIx ds.length 0 lo)
theorem Reps.cut {K : PySem.W.Frag} {H : Hp} {L : Addr → Prop} {vs : List V} {ds : List D} (r : Reps K H L vs ds) (lo hi : Option Int) : Reps K H L (cutV vs lo hi) (cutD ds lo hi) := by
  unfold cutV cutD
  rw [r.len]
  exact (r.drop _).take _
/-- a slice of a list -/
def dSlL (ra : DE) (lo hi : Option DE) : DE := do
  let x ← ra
  let i ← dPart lo
  let j ← dPart hi
  let d ← dcur x
  mOpt (match d with
    | .lst ds => some (.lst (cutD ds i j), .fr)
    | _ => none)
theorem se_slL {lo hi : Option Expr} {rl rh : Option DE} {p2 : Pos} (ha : SE X a ra) (hl : SP_ X lo (dPart rl)) (hh : SP_ X hi (dPart rh)) : SE X (.Subscript a (.Slice lo hi none p2) pos) (dSlL ra rl rh) := fun W tk =>
  PE.imp (pe_slice sl_list (ha W tk) (hl W tk) (hh W tk)) fun σ H Q ⟨G, O, ρ, hK, R, h⟩ => by
    refine tE.at hK R (Res.post_ok ((post_bind _ _).mp h) fun x ρ1 q O1 v H1 R1 => ?_)
    refine ⟨G, O1, ρ1, _, hK, R1, Res.post_ok ((post_bind _ _).mp q) fun i ρ2 q2 O2 H2 R2 => ?_⟩
    refine ⟨G, O2, ρ2, _, hK, R2, Res.post_ok ((post_bind _ _).mp q2) fun j ρ3 q3 O3 H3 R3 => ?_⟩
    obtain ⟨d, e1, q4⟩ := post_cur.mp ((post_bind _ _).mp q3)
    obtain ⟨z, e2, q5⟩ := (post_opt _).mp q4
    have v1 := R3.view R3.tm.1 e1
    split at e2
    · rename_i ds
      cases e2
      obtain ⟨a1, vs, rfl, s1, r1⟩ := v1.lst
      rw [hK] at s1
      refine ⟨a1, vs, rfl, s1, fun p hp => ?_⟩
      obtain ⟨O4, R4⟩ := R3.pop.fresh (d := .lst (cutD ds i j)) hp (.lst (r1.cut i j))
      exact q5 O4 _ _ R4
    · cases e2
def lenD (ds : List D) : Option (D × Kd) := match ds with
  | [.lst xs] => some (.int xs.length, .shr)
  | [.tup xs] => some (.int xs.length, .shr)
  | [.con (.str z)] => if z.length ≤ cap then some (.int z.length, .shr) else none
  | _ => none
theorem os_len {K : PySem.W.Frag} : OpS K (fun xs H Q => ∃ x n, xs = [x] ∧ LenV K x H n ∧ Q (.int n) H) lenD := by
  intro G O σ H ρ vs ds z Q hK R w e q
  unfold lenD at e
  split at e
  · cases e
    obtain ⟨v, rfl, v1⟩ := w.one
    obtain ⟨a1, us, rfl, s1, r1⟩ := v1.lst
    exact ⟨_, _, rfl, .inl ⟨us, s1, r1.len.symm⟩, q O _ H (R.con _)⟩
  · cases e
    obtain ⟨v, rfl, v1⟩ := w.one
    obtain ⟨a1, us, rfl, s1, r1⟩ := v1.tup
    exact ⟨_, _, rfl, .inr ⟨us, s1, r1.len.symm⟩, q O _ H (R.con _)⟩
  · split at e
    · rename_i hz
      cases e
      obtain ⟨v, rfl, v1⟩ := w.one
      rw [v1.con]
      exact ⟨_, _, rfl, ⟨by rw [← cap_eq]; exact hz, rfl⟩, q O _ H (R.con _)⟩
    · cases e
  · cases e
/-- a built-in of scalars -/
theorem OpS.sc {K : PySem.W.Frag} {rr : List V → Hp → VK → Prop} {g : List D → Option V} (h : ∀ (H : Hp) (vs : List V) (ds : List D) (v : V) (O : Own) (Q : VK), Vws K H O vs ds → g ds = some v → Q v H → rr vs H Q) : OpS K rr (fun ds => (g ds).map fun v => (.con v, .shr)) := by
  intro G O σ H ρ vs ds z Q hK R w e q
  obtain ⟨v, e1, rfl⟩ := Option.map_eq_some_iff.mp e
  exact h H vs ds v O Q w e1 (q O v H (R.con v))
def scB (g : List D → Option V) (ds : List D) : Option (D × Kd) := (g ds).map fun v => (.con v, .shr)
def absV (ds : List D) : Option V := match ds with
  | [.con (.int i)] => some (.int (if i < 0 then -i else i))
  | _ => none
theorem os_abs {K : PySem.W.Frag} : OpS K (fun xs H Q => ∃ i, xs = [.int i] ∧ Q (.int (if i < 0 then -i else i)) H) (scB absV) := OpS.sc fun H vs ds v O Q w e q => by
  unfold absV at e
  split at e
  · cases e
    obtain ⟨v, rfl, v1⟩ := w.one
    exact ⟨_, by rw [v1.con], q⟩
  · cases e
def maxV (ds : List D) : Option V := match ds with
  | [.con (.int i), .con (.int j)] => some (.int (if j > i then j else i))
  | _ => none
theorem os_max {K : PySem.W.Frag} : OpS K (fun xs H Q => ∃ i j, xs = [.int i, .int j] ∧ Q (.int (if j > i then j else i)) H) (scB maxV) := OpS.sc fun H vs ds v O Q w e q => by
  unfold maxV at e
  split at e
  · cases e
    obtain ⟨v, u, rfl, v1, v2⟩ := w.two
    exact ⟨_, _, by rw [v1.con, v2.con], q⟩
  · cases e
def minV (ds : List D) : Option V := match ds with
  | [.con (.int i), .con (.int j)] => some (.int (if j < i then j else i))
  | _ => none
theorem os_min {K : PySem.W.Frag} : OpS K (fun xs H Q => ∃ i j, xs = [.int i, .int j] ∧ Q (.int (if j < i then j else i)) H) (scB minV) := OpS.sc fun H vs ds v O Q w e q => by
  unfold minV at e
  split at e
  · cases e
    obtain ⟨v, u, rfl, v1, v2⟩ := w.two
    exact ⟨_, _, by rw [v1.con, v2.con], q⟩
  · cases e
def intV (ds : List D) : Option V := match ds with
  | [.con (.int i)] => some (.int i)
  | [.con (.bl k)] => some (.int (if k then 1 else 0))
  | _ => none
theorem os_int {K : PySem.W.Frag} : OpS K (fun xs H Q => (∃ i, xs = [.int i] ∧ Q (.int i) H) ∨ ∃ k, xs = [.bl k] ∧ Q (.int (if k then 1 else 0)) H) (scB intV) := OpS.sc fun H vs ds v O Q w e q => by
  unfold intV at e
  split at e
  · cases e
    obtain ⟨v, rfl, v1⟩ := w.one
    exact .inl ⟨_, by rw [v1.con], q⟩
  · cases e
    obtain ⟨v, rfl, v1⟩ := w.one
    exact .inr ⟨_, by rw [v1.con], q⟩
  · cases e
def blsD : List D → Option (List Bool)
  | [] => some []
  | .con (.bl b) :: ds => (blsD ds).map (b :: ·)
  | _ => none
theorem blsD_of : ∀ {ds : List D} {bs : List Bool}, blsD ds = some bs → ds = bs.map fun b => .con (.bl b)
  | [], _, e => by cases e; rfl
  | .con (.bl b) :: ds, bs, e => by
    obtain ⟨r, e1, rfl⟩ := Option.map_eq_some_iff.mp (show (blsD ds).map (b :: ·) = some bs from e)
    rw [blsD_of e1]; rfl
def intsD : List D → Option (List Int)
  | [] => some []
  | .con (.int b) :: ds => (intsD ds).map (b :: ·)
  | _ => none
theorem intsD_of : ∀ {ds : List D} {bs : List Int}, intsD ds = some bs → ds = bs.map fun b => .con (.int b)
  | [], _, e => by cases e; rfl
  | .con (.int b) :: ds, bs, e => by
    obtain ⟨r, e1, rfl⟩ := Option.map_eq_some_iff.mp (show (intsD ds).map (b :: ·) = some bs from e)
    rw [intsD_of e1]; rfl
def strsD : List D → Option (List Str)
  | [] => some []
  | .con (.str b) :: ds => (strsD ds).map (b :: ·)
  | _ => none
theorem strsD_of : ∀ {ds : List D} {bs : List Str}, strsD ds = some bs → ds = bs.map fun b => .con (.str b)
  | [], _, e => by cases e; rfl
  | .con (.str b) :: ds, bs, e => by
    obtain ⟨r, e1, rfl⟩ := Option.map_eq_some_iff.mp (show (strsD ds).map (b :: ·) = some bs from e)
    rw [strsD_of e1]; rfl
@[simp] theorem blsD_map {α : Type} (f : α → Bool) : ∀ xs : List α, blsD (xs.map fun x => .con (.bl (f x))) = some (xs.map f)
  | [] => rfl
  | x :: xs => by simp [blsD, blsD_map f xs]
@[simp] theorem intsD_map {α : Type} (f : α → Int) : ∀ xs : List α, intsD (xs.map fun x => .con (.int (f x))) = some (xs.map f)
  | [] => rfl
  | x :: xs => by simp [intsD, intsD_map f xs]
@[simp] theorem strsD_map {α : Type} (f : α → Str) : ∀ xs : List α, strsD (xs.map fun x => .con (.str (f x))) = some (xs.map f)
  | [] => rfl
  | x :: xs => by simp [strsD, strsD_map f xs]
def allV (ds : List D) : Option V := match ds with
  | [.lst xs] => (blsD xs).map fun bs => .bl (bs.all id)
  | _ => none
theorem os_all {K : PySem.W.Frag} : OpS K (rAll K) (scB allV) := OpS.sc fun H vs ds v O Q w e q => by
  unfold allV at e
  split at e
  · obtain ⟨bs, e1, rfl⟩ := Option.map_eq_some_iff.mp e
    obtain ⟨v, rfl, v1⟩ := w.one
    obtain ⟨a1, us, rfl, s1, r1⟩ := v1.lst
    rw [blsD_of e1] at r1
    rw [r1.con_inv] at s1
    exact ⟨a1, bs, rfl, s1, q⟩
  · cases e
def listD (ds : List D) : Option (D × Kd) := match ds with
  | [.lst xs] => some (.lst xs, .fr)
  | [.tup xs] => some (.lst xs, .fr)
  | _ => none
theorem os_list {K : PySem.W.Frag} : OpS K (fun xs H Q => ∃ p ys, xs = [.ref p] ∧ (SqL K H p ys ∨ SqT K H p ys) ∧ ∀ l, H l = none → Q (.ref l) (upd H l (.lst ys))) listD := by
  intro G O σ H ρ vs ds z Q hK R w e q
  unfold listD at e
  split at e
  · rename_i xs
    cases e
    obtain ⟨v, rfl, v1⟩ := w.one
    obtain ⟨a1, us, rfl, s1, r1⟩ := v1.lst
    rw [← hK] at r1
    refine ⟨a1, us, rfl, .inl s1, fun l hl => ?_⟩
    obtain ⟨O4, R4⟩ := R.fresh (d := .lst xs) hl (.lst r1)
    exact q O4 _ _ R4
  · rename_i xs
    cases e
    obtain ⟨v, rfl, v1⟩ := w.one
    obtain ⟨a1, us, rfl, s1, r1⟩ := v1.tup
    rw [← hK] at r1
    refine ⟨a1, us, rfl, .inr s1, fun l hl => ?_⟩
    obtain ⟨O4, R4⟩ := R.fresh (d := .lst xs) hl (.lst r1)
    exact q O4 _ _ R4
  · cases e
/-- sorted of ints -/
def sortI (ns : List Int) : List Int := ns.mergeSort fun a b => decide (a ≤ b)
theorem sortI_unique {ns ms : List Int} (h : ms.Perm ns) (s : ms.Pairwise (· ≤ ·)) : ms = sortI ns := by
  have p := List.mergeSort_perm ns fun a b => decide (a ≤ b)
  have s2 := List.pairwise_mergeSort (le := fun a b : Int => decide (a ≤ b)) (fun a b c h1 h2 => by simp at *; omega) (fun a b => by simp; omega) ns
  refine List.Perm.eq_of_pairwise (fun a b _ _ h1 h2 => ?_) s (s2.imp fun h => by simpa using h) (h.trans p.symm)
  omega
def sortedD (ds : List D) : Option (D × Kd) := match ds with
  | [.lst xs] => (intsD xs).map fun ns => (.lst ((sortI ns).map fun n => .con (.int n)), .fr)
  | _ => none
theorem os_sorted {K : PySem.W.Frag} : OpS K (rSortedI K) sortedD := by
  intro G O σ H ρ vs ds z Q hK R w e q
  unfold sortedD at e
  split at e
  · obtain ⟨bs, e1, rfl⟩ := Option.map_eq_some_iff.mp e
    obtain ⟨v, rfl, v1⟩ := w.one
    obtain ⟨a1, us, rfl, s1, r1⟩ := v1.lst
    rw [intsD_of e1] at r1
    rw [r1.con_inv] at s1
    refine ⟨a1, bs, rfl, s1, fun ns' l pe so hl => ?_⟩
    rw [sortI_unique pe so]
    obtain ⟨O4, R4⟩ := R.fresh (d := .lst ((sortI bs).map fun n => .con (.int n))) hl (.lst (Reps.cons_map V.int _))
    exact q O4 _ _ R4
  · cases e
/-- isinstance of a built-in class -/
inductive Ty where
  | none | bool | int | str | list | tuple | dict
  deriving DecidableEq
def Ty.name : Ty → String
  | .none => "NoneType" | .bool => "bool" | .int => "int" | .str => "str" | .list => "list" | .tuple => "tuple" | .dict => "dict"
def tyOf (d : D) : Option Ty := match d with
  | .con .non => some .none
  | .con (.bl _) => some .bool
  | .con (.int _) => some .int
  | .con (.str _) => some .str
  | .lst _ => some .list
  | .tup _ => some .tuple
  | .dic _ => some .dict
  | _ => Option.none
def isiT : Ty → Ty → Bool
  | .none, .none => true
  | .bool, .bool => true
  | .bool, .int => true
  | .int, .int => true
  | .str, .str => true
  | .list, .list => true
  | .tuple, .tuple => true
  | .dict, .dict => true
  | _, _ => false
theorem isi_kit : ∀ t u : Ty, u ≠ .none → kitB t.name u.name = some (isiT t u) := by
  intro t u hu
  cases u <;> first
    | exact absurd rfl hu
    | (cases t <;> decide +kernel)
theorem tyx_of {K : PySem.W.Frag} {H : Hp} {O : Own} {v : V} {d : D} {t : Ty} (h : Vw K H O v d) (e : tyOf d = some t) : TyX K H v (.type t.name) := by
  unfold tyOf at e
  split at e
  · cases e; rw [h.con]; exact .base .non
  · cases e; rw [h.con]; exact .base (.bl _)
  · cases e; rw [h.con]; exact .base (.int _)
  · cases e; rw [h.con]; exact .base (.str _)
  · cases e
    obtain ⟨a1, us, rfl, s1, r1⟩ := h.lst
    rcases s1 with (s1 | ⟨ob, s1⟩) | ⟨ob, its, n, h1, h2, _⟩
    · exact .base (.lst s1)
    · exact .base (.frz s1)
    · exact .kList h1 h2
  · cases e
    obtain ⟨a1, us, rfl, s1, r1⟩ := h.tup
    rcases s1 with (s1 | ⟨ob, s1⟩) | ⟨ob, its, n, h1, h2, _⟩
    · exact .base (.tup s1)
    · exact .fTuple s1
    · exact .kTuple h1 h2
  · cases e
    have : ∃ a vs, v = .ref a ∧ Rd H a (.dK vs) := by
      rcases h with r | ⟨a, ho, ev, g, c⟩ | ⟨_, _, _, z⟩
      · cases r with
        | obj n r c => cases c with | dic c => exact ⟨_, _, rfl, r⟩
      · cases c with | dic c => exact ⟨a, _, ev, .inl g⟩
      · cases z
    obtain ⟨a, vs, rfl, r⟩ := this
    rcases r with r | ⟨o, r⟩
    · exact .base (.dK r)
    · exact .fDict r
  · cases e
/-- isinstance(e, T), T a built-in class -/
def dIsi (u : Ty) (r : DE) : DE := do
  let x ← r
  let d ← dcur x
  let t ← mOpt (tyOf d)
  pure (.bl (isiT t u), .shr)
theorem se_isi (u : Ty) {p1 p2 : Pos} {x : Str} (ha : SE X a ra) (h1 : X.mg "isinstance" = none) (h2 : X.mg x = none) (hu : u ≠ .none := by decide) (hx : bootBuiltins x = some (.type u.name) := by decide +kernel) (hg1 : Gl X "isinstance" := by rfl) (hg2 : Gl X x := by rfl)
    (hn : x ≠ "__name__" := by decide) (hdb : (x == ("__debug__" : Str)) = false := by decide)
    (he : starEach [a, .Name x p2] X.env = (false, eval a X.env) :: starEach [.Name x p2] X.env := by rfl) (he2 : starEach [.Name x p2] X.env = (false, eval (.Name x p2) X.env) :: starEach [] X.env := by rfl) (hpl : (backTo pos (starEach [.Name x p2] X.env)).any (·.1) = false := by rfl) :
    SE X (.Call (.Name "isinstance" p1) [a, .Name x p2] [] pos) (dIsi u ra) := fun W tk =>
  PE.imp (pe_callB call_isi hg1 h1 (by decide +kernel) (pa_cons (ha W tk) (pa_cons (pe_bltn (v := .ty u.name) hg2 h2 hx rfl hn hdb) pa_nil he2) he) (by decide) (by decide) he hpl) fun σ H Q ⟨G, O, ρ, hK, R, h⟩ => by
    refine tE.at hK R (Res.post_ok ((post_bind _ _).mp h) fun y ρ1 q O1 v H1 R1 => ?_)
    obtain ⟨d, e1, q2⟩ := post_cur.mp ((post_bind _ _).mp q)
    obtain ⟨t, e2, q3⟩ := (post_opt _).mp ((post_bind _ _).mp q2)
    have v1 := R1.view R1.tm.1 e1
    rw [hK] at v1
    exact ⟨v, .ty u.name, _, _, _, rfl, .ty _, tyx_of v1 e2, kit_ty (isi_kit t u hu), q3 O1 _ H1 (R1.pop.con _)⟩
/-- a method that changes nothing -/
def OpM (K : PySem.W.Frag) (T : String) (rr : V → List V → Hp → VK → Prop) (ty : D → Bool) (g : D → List D → Option (D × Kd)) : Prop :=
  (∀ H O v d, Vw K H O v d → ty d = true → tyV K T v H) ∧ ∀ (G : Fix) (O : Own) (σ : St) (H : Hp) (ρ : Rho) (v : V) (vs : List V) (d : D) (ds : List D) (z : D × Kd) (Q : VK), G.K = K → Rel G O σ H ρ [] → Vw K H O v d → Vws K H O vs ds →
    g d ds = some z → (∀ O' v H', Rel G O' σ H' ρ [⟨v, z.1, z.2⟩] → Q v H') → rr v vs H Q
def dMt (ty : D → Bool) (g : D → List D → Option (D × Kd)) (ro : DE) (l : List (Bool × DE)) : DE := do
  let x ← ro
  let d0 ← dcur x
  mOpt (if ty d0 then some () else none)
  let xs ← dA l
  let d ← dcur x
  let ds ← dcurs xs
  mOpt (g d ds)
theorem se_mt {T id : String} {name : Str} {rr : V → List V → Hp → VK → Prop} {ty : D → Bool} {g : D → List D → Option (D × Kd)} {ro : DE} {apos : Pos} (pa : PlainAttrs T) (slot : PySem.Slot T name id) (hty : typeOf (.builtin id) = pure (.type "method_descriptor")) (hm : MtR X id rr)
    (hs : OpM X.K T rr ty g) (ho : SE X o ro) (ha : SA X (e :: es) l)
    (hbase : attributeBase o name X.env (eval o X.env) = eval o X.env := by rfl)
    (hfew : ((backTo pos (starEach (e :: es) X.env)).all (fun x => !x.1) && (backToKw pos (keywordEach [] X.env)).all (fun x => x.1.isSome)
      && decide ((e :: es).length + ([] : List Keyword).length + (if ([] : List Keyword).isEmpty then 0 else 1) < 30)) = true := by rfl)
    (hline : (apos.endLine == pos.line) = true := by rfl) (hst : starEach (e :: es) X.env = (false, eval e X.env) :: starEach es X.env := by rfl) (hplain : (backTo pos (starEach es X.env)).any (·.1) = false := by rfl) :
    SE X (.Call (.Attribute o name apos) (e :: es) [] pos) (dMt ty g ro l) := fun W tk =>
  PE.imp (pe_bm pa slot hty hm (ho W tk) (ha W tk) hbase hfew hline hst hplain) fun σ H Q ⟨G, O, ρ, hK, R, h⟩ => by
    refine tE.at hK R (Res.post_ok ((post_bind _ _).mp h) fun y ρ1 q O1 v H1 R1 => ?_)
    obtain ⟨d0, e1, q2⟩ := post_cur.mp ((post_bind _ _).mp q)
    obtain ⟨_, e2, q3⟩ := (post_opt _).mp ((post_bind _ _).mp q2)
    have v1 := R1.view R1.tm.1 e1
    rw [hK] at v1
    have ht : ty d0 = true := by
      split at e2
      · assumption
      · cases e2
    refine ⟨hs.1 _ _ _ _ v1 ht, G, O1, ρ1, _, hK, R1, Res.post_ok ((post_bind _ _).mp q3) fun xs ρ2 q4 O2 vs H2 hl R2 => ?_⟩
    obtain ⟨d, e3, q5⟩ := post_cur.mp ((post_bind _ _).mp q4)
    obtain ⟨ds, e4, q6⟩ := post_curs.mp ((post_bind _ _).mp q5)
    obtain ⟨z, e5, q7⟩ := (post_opt _).mp q6
    have R3 := pushC_pop R2
    have v2 := R3.view R3.tm.1 e3
    have w2 := pushC_vws hl R2 e4
    rw [hK] at v2 w2
    exact hs.2 G O2 σ H2 ρ2 v vs d ds z Q hK R3.nil v2 w2 e5 q7
def isStr (d : D) : Bool := match d with
  | .con (.str _) => true
  | _ => false
theorem ty_str {K : PySem.W.Frag} (H : Hp) (O : Own) (v : V) (d : D) (h : Vw K H O v d) (e : isStr d = true) : tyV K "str" v H := by
  unfold isStr at e
  split at e
  · rw [h.con]; rfl
  · cases e
def joinD (d : D) (ds : List D) : Option (D × Kd) := match d, ds with
  | .con (.str a), [.lst xs] => match strsD xs with
    | some ys => if (ys.map (·.length)).sum + ys.length * a.length ≤ 16777216 then some (.str (Txt.join a ys), .shr) else none
    | none => none
  | _, _ => none
theorem om_join {K : PySem.W.Frag} : OpM K "str" (fun x xs H Q => ∃ a p, ∃ ys : List Str, x = .str a ∧ xs = [.ref p] ∧ (SqL K H p (ys.map V.str) ∨ SqT K H p (ys.map V.str)) ∧ (ys.map (·.length)).sum + ys.length * a.length ≤ 16777216 ∧ Q (.str (Txt.join a ys)) H) isStr joinD := ⟨ty_str, by
  intro G O σ H ρ v vs d ds z Q hK R v1 w e q
  unfold joinD at e
  split at e
  · split at e
    · rename_i ys hys
      split at e
      · rename_i hz
        cases e
        obtain ⟨u, rfl, v2⟩ := w.one
        obtain ⟨a1, us, rfl, s1, r1⟩ := v2.lst
        rw [strsD_of hys] at r1
        rw [r1.con_inv] at s1
        exact ⟨_, a1, ys, v1.con, rfl, .inl s1, hz, q O _ H (R.con _)⟩
      · cases e
    · cases e
  · cases e⟩
def MutS (K : PySem.W.Frag) (rr : V → List V → Hp → VK → Prop) (g : List D → List D → Option (List D × D)) : Prop := ∀ (H : Hp) (L : Addr → Prop) (a : Addr) (vs as : List V) (ys ds : List D) (ys' : List D) (rt : D) (Q : VK),
  H a = some (.lst vs) → Reps K H L vs ys → Reps K H L as ds → g ys ds = some (ys', rt) → ∃ vs' rv, Reps K H L vs' ys' ∧ Rep K H L rv rt ∧ (Q rv (upd H a (.lst vs')) → rr (.ref a) as H Q)
def getOwn (ρ : Rho) (i : Nat) : Option (List D × Bool) := match ρ[i]? with
  | some (some ⟨.lst ys, true, p⟩) => some (ys, p)
  | _ => none
def chkOwn (i : Nat) : M Unit := fun ρ => match getOwn ρ i with
  | some _ => .ok () ρ
  | none => .stuck
theorem post_chk {i : Nat} {ρ : Rho} {Q : Unit → Rho → Prop} {E : Exn → Rho → Prop} : ((chkOwn i) ρ).post Q E ↔ ∃ z, getOwn ρ i = some z ∧ Q () ρ := by
  unfold chkOwn
  cases getOwn ρ i with
  | none => exact ⟨fun h => h.elim, fun ⟨_, e, _⟩ => by cases e⟩
  | some z => exact ⟨fun h => ⟨z, rfl, h⟩, fun ⟨_, _, h⟩ => h⟩
def mutEnd (i : Nat) (g : List D → Option (List D × D)) : DE := fun ρ => match getOwn ρ i with
  | none => .stuck
  | some z => match g z.1 with
    | some w => .ok (w.2, .shr) (ρ.set i (some ⟨.lst w.1, true, z.2⟩))
    | none => .stuck
theorem post_mutEnd {i : Nat} {g : List D → Option (List D × D)} {ρ : Rho} {Q : D × Kd → Rho → Prop} {E : Exn → Rho → Prop} : ((mutEnd i g) ρ).post Q E ↔ ∃ z w, getOwn ρ i = some z ∧ g z.1 = some w ∧ Q (w.2, .shr) (ρ.set i (some ⟨.lst w.1, true, z.2⟩)) := by
  unfold mutEnd
  cases getOwn ρ i with
  | none => exact ⟨fun h => h.elim, fun ⟨_, _, e, _⟩ => by cases e⟩
  | some z =>
    dsimp only
    cases q : g z.1 with
    | none => exact ⟨fun h => h.elim, fun ⟨_, _, e, e2, _⟩ => by cases e; rw [q] at e2; cases e2⟩
    | some w => exact ⟨fun h => ⟨z, w, rfl, q, h⟩, fun ⟨_, _, e, e2, h⟩ => by cases e; rw [q] at e2; cases e2; exact h⟩
def dMut (i : Nat) (g : List D → List D → Option (List D × D)) (l : List (Bool × DE)) : DE := do
  chkOwn i
  let xs ← dA l
  let ds ← mOpt (shrs xs)
  mutEnd i fun ys => g ys ds
theorem getOwn_of {ρ : Rho} {i : Nat} {z : List D × Bool} (e : getOwn ρ i = some z) : ρ[i]? = some (some ⟨.lst z.1, true, z.2⟩) := by
  unfold getOwn at e
  split at e
  · rename_i h; cases e; exact h
  · cases e
theorem own_at {G : Fix} {O : Own} {σ : St} {H : Hp} {ρ : Rho} {T : List Tmp} {i : Nat} {ys : List D} {p : Bool} (R : Rel G O σ H ρ T) (e : ρ[i]? = some (some ⟨.lst ys, true, p⟩)) : ∃ a vs, σ[i]? = some (some (.ref a)) ∧ H a = some (.lst vs) ∧ Reps G.K H (lin O) vs ys := by
  obtain ⟨v, h1, h2⟩ := R.sl i _ e
  obtain ⟨a, ho, rfl, h3, h4, c⟩ := (OwnX.flat (show OwnX _ _ _ _ _ _ from h2))
  cases c with
  | lst r => exact ⟨a, _, h1, h4, r⟩
theorem dMut_of {W : WX} {rr : V → List V → Hp → VK → Prop} {i : Nat} {g : List D → List D → Option (List D × D)} (hs : MutS X.K rr g) (σ : St) (H : Hp) (Q : VK) (h : tE X.K W (dMut i g l) σ H Q) : tBM X.K "list" rr (tVar i) (tA X.K W (dA l)) σ H Q := by
  obtain ⟨G, O, ρ, hK, R, h⟩ := h
  obtain ⟨z0, q0, h⟩ := post_chk.mp ((post_bind _ _).mp h)
  obtain ⟨a, vs0, h1, h2, _⟩ := own_at R (getOwn_of q0)
  refine ⟨.ref a, h1, .inl ⟨rfl, vs0, .inl (.inl h2)⟩, G, O, ρ, [], hK, R, Res.post_ok ((post_bind _ _).mp h) fun xs ρ1 q O1 as H1 hl R1 => ?_⟩
  obtain ⟨ds, e1, q2⟩ := (post_opt _).mp ((post_bind _ _).mp q)
  obtain ⟨z, w, q1, qg, q3⟩ := post_mutEnd.mp q2
  have R2 := pushC_pop R1
  have eo := getOwn_of q1
  obtain ⟨a2, vs1, h3, h4, r4⟩ := own_at R2 eo
  rw [h1] at h3
  cases h3
  have ra := pushC_reps hl R1 e1
  rw [hK] at ra r4
  obtain ⟨vs', rv, k1, k2, k3⟩ := hs H1 (lin O1) a vs1 as z.1 ds w.1 w.2 Q h4 r4 ra qg
  rw [← hK] at k1 k2
  obtain ⟨R3, oa⟩ := R2.write (d := .lst w.1) eo rfl h1 h4 (.lst k1)
  refine k3 (q3 O1 rv _ (R3.push ?_))
  refine Rep.mono (fun b ob n eb => ⟨?_, n⟩) k2
  rw [upd_ne]
  · exact eb
  · exact fun z => n (by rw [z]; unfold lin; rw [oa]; simp)
theorem se_mut (i : Nat) {id : String} {name x : Str} {rr : V → List V → Hp → VK → Prop} {g : List D → List D → Option (List D × D)} {apos xpos : Pos} (slot : PySem.Slot "list" name id) (hty : typeOf (.builtin id) = pure (.type "method_descriptor")) (hm : MtR X id rr)
    (hs : MutS X.K rr g) (ha : SA X (e :: es) l) (hN : X.N[i]? = some x := by rfl) (hv : Vis X.env.scope x := by first | exact Or.inl rfl | exact Or.inr (Or.inl rfl) | exact Or.inr (Or.inr rfl)) (hd : (x == ("__debug__" : Str)) = false := by decide)
    (hcd : (x == ("__classdict__" : Str)) = false := by decide)
    (hbase : attributeBase (.Name x xpos) name X.env (eval (.Name x xpos) X.env) = eval (.Name x xpos) X.env := by rfl)
    (hfew : ((backTo pos (starEach (e :: es) X.env)).all (fun x => !x.1) && (backToKw pos (keywordEach [] X.env)).all (fun x => x.1.isSome)
      && decide ((e :: es).length + ([] : List Keyword).length + (if ([] : List Keyword).isEmpty then 0 else 1) < 30)) = true := by rfl)
    (hline : (apos.endLine == pos.line) = true := by rfl) (hst : starEach (e :: es) X.env = (false, eval e X.env) :: starEach es X.env := by rfl) (hplain : (backTo pos (starEach es X.env)).any (·.1) = false := by rfl) :
    SE X (.Call (.Attribute (.Name x xpos) name apos) (e :: es) [] pos) (dMut i g l) := fun W tk =>
  PE.imp (pe_bm PySem.F.plainAttrs_list slot hty hm (pe_var hN hv hd hcd) (ha W tk) hbase hfew hline hst hplain) (dMut_of hs)
def appG (ys ds : List D) : Option (List D × D) := match ds with
  | [d] => if ys.length < cap then some (ys ++ [d], .non) else none
  | _ => none
theorem ms_append {K : PySem.W.Frag} : MutS K rAppend appG := fun H L a vs as ys ds ys' rt Q h1 r1 r2 e => by
  unfold appG at e
  split at e
  · split at e
    · rename_i hz
      cases e
      cases r2 with
      | cons c1 c2 =>
        cases c2
        exact ⟨_, .non, r1.append (.cons c1 .nil), .con _, fun q => ⟨a, vs, _, rfl, rfl, h1, by rw [r1.len, ← cap_eq]; exact hz, q⟩⟩
    · cases e
  · cases e
/-- x[k] = e -/
def setG (kd : D) (d : D) (ys : List D) : Option (List D × D) := match kd with
  | .con (.int n) => (ixN ys.length n).map fun j => (ys.set j d, .non)
  | _ => none
def dSetIx (i : Nat) (rk rv : DE) : DS := do
  let x ← rv
  let y ← keep false x
  chkOwn i
  let k ← rk
  let kd ← dcur k
  let _ ← mutEnd i (setG kd y.1)
  pure .nx
theorem ss_setIx {pj : VK → VK} (i : Nat) {x : Str} {xpos tpos : Pos} {ke ve : Expr} {rk rv : DE} (hv : SE X ve rv) (hk : SE X ke rk) (hN : X.N[i]? = some x := by rfl) (hvis : Vis X.env.scope x := by first | exact Or.inl rfl | exact Or.inr (Or.inl rfl) | exact Or.inr (Or.inr rfl)) (hd : (x == ("__debug__" : Str)) = false := by decide)
    (hcd : (x == ("__classdict__" : Str)) = false := by decide)
    (ha : ∀ v, assign (.Subscript (.Name x xpos) ke tpos) X.env v = (do
      let ov ← holding [v] (eval (.Name x xpos) X.env)
      let iv ← holding [v, ov] (eval ke X.env)
      standAt tpos
      holding [v, ov, iv] (setItem ov iv v)
      release [v, ov, iv] []) := by intro _; rfl)
    (hs : swapsWithSole [.Subscript (.Name x xpos) ke tpos] ve pos.line X.env = pure false := by rfl) (hw : swappedStores [.Subscript (.Name x xpos) ke tpos] ve X.env = pure none := by rfl)
    (h1 : (assignEach [.Subscript (.Name x xpos) ke tpos] X.env).map (·.2) = [assign (.Subscript (.Name x xpos) ke tpos) X.env] := by rfl) : SSf pj X (.Assign [.Subscript (.Name x xpos) ke tpos] ve pos) (dSetIx i rk rv) := fun W tk =>
  PS.imp (ps_asg (hv W tk) (pg_sub (pe_var hN hvis hd hcd) (hk W tk) set_list ha) hs hw h1) fun D σ H ⟨G, O, ρ, hK, R, h⟩ => by
    refine tE.at hK R (Res.post_mono ((post_bind _ _).mp h) (fun y ρ1 q O1 v H1 R1 => ?_) fun x ρ' q => q σ)
    obtain ⟨d, e1, q2⟩ := keep_false ((post_bind _ _).mp q)
    obtain ⟨O2, R2⟩ := R1.settle (d := d) e1
    obtain ⟨z0, q0, q3⟩ := post_chk.mp ((post_bind _ _).mp q2)
    obtain ⟨a, vs0, h1, h2, _⟩ := own_at R2 (getOwn_of q0)
    refine ⟨.ref a, h1, tE.at hK R2 (Res.post_mono ((post_bind _ _).mp q3) (fun k ρ2 q4 O3 u H3 R3 => ?_) fun x ρ' q => q σ)⟩
    obtain ⟨kd, e2, q5⟩ := post_cur.mp ((post_bind _ _).mp q4)
    obtain ⟨z, w, q6, qg, q7⟩ := post_mutEnd.mp ((post_bind _ _).mp q5)
    have vk := R3.view R3.tm.1 e2
    have R4 := R3.pop
    have eo := getOwn_of q6
    obtain ⟨a2, vs1, h3, h4, r4⟩ := own_at R4 eo
    rw [h1] at h3
    cases h3
    unfold setG at qg
    split at qg
    · rename_i n
      obtain ⟨j, e3, rfl⟩ := Option.map_eq_some_iff.mp qg
      have rd : Rep G.K H3 (lin O3) v d := R4.tm.1
      refine ⟨a, vs1, n, j, rfl, vk.con, h4, by rw [r4.len]; exact e3, ?_⟩
      exact q7 O3 σ _ (R4.nil.write (d := .lst (z.1.set j d)) eo rfl h1 h4 (.lst (Reps.set rd j r4))).1
    · cases qg
end
end L2.VL
end
section
set_option Elab.async false
set_option linter.all false
set_option maxRecDepth 100000
namespace L2.VL
open PySem PySem.Spec PyProof.Rows
section
variable {X : Cx} {a b c e o : Expr} {es : List Expr} {st : Stmt} {sts : List Stmt} {ra rb rc r : DE} {sa sb : DS} {l : List (Bool × DE)} {pos p : Pos}
theorem se_gint {x : Str} {i : Int} (h : ∃ t, X.mg x = some (.int i t)) (hg : Gl X x := by rfl) (hd : (x == ("__debug__" : Str)) = false := by decide) : SE X (.Name x pos) (dCon (.int i)) := by
  obtain ⟨t, h⟩ := h
  exact se_glob h ⟨t, rfl⟩ hg hd
theorem se_gstr {x : Str} {i : Str} (h : ∃ t, X.mg x = some (.str i t)) (hg : Gl X x := by rfl) (hd : (x == ("__debug__" : Str)) = false := by decide) : SE X (.Name x pos) (dCon (.str i)) := by
  obtain ⟨t, h⟩ := h
  exact se_glob h ⟨t, rfl⟩ hg hd
/-- a statement that is not served: it may not be reached -/
theorem ss_never {pj : VK → VK} : SSf pj X st mStuck := fun W tk => PS.imp ps_never fun D σ H ⟨G, O, ρ, hK, R, h⟩ => h
/-- dead slots are forgotten -/
def forgetR (ρ : Rho) : List Nat → Rho
  | [] => ρ
  | i :: is => if pinned (forgetR ρ is) i then forgetR ρ is else (forgetR ρ is).set i none
theorem Rel.unset {G : Fix} {O : Own} {σ : St} {H : Hp} {ρ : Rho} {T : List Tmp} {i : Nat} (R : Rel G O σ H ρ T) (hp : pinned ρ i = false) : Rel G O σ H (ρ.set i none) T := by
  refine ⟨by simpa using R.len, R.fr, R.ot, R.tr, fun j v e => ?_, fun j s e => ?_, R.tm⟩
  · obtain ⟨h1, s, h2, h3⟩ := R.pn j v e
    refine ⟨h1, s, ?_, h3⟩
    rw [List.getElem?_set_ne (fun z => ?_)]
    · exact h2
    · subst z
      unfold pinned at hp
      rw [h2] at hp
      dsimp only at hp
      rw [h3] at hp
      cases hp
  · by_cases z : j = i
    · subst z
      by_cases hl : j < ρ.length
      · rw [List.getElem?_set_self hl] at e; cases e
      · rw [List.getElem?_eq_none (by simpa using hl)] at e; cases e
    · rw [List.getElem?_set_ne (Ne.symm z)] at e
      exact R.sl j s e
theorem Rel.forget {G : Fix} {O : Own} {σ : St} {H : Hp} {ρ : Rho} {T : List Tmp} (R : Rel G O σ H ρ T) : ∀ is : List Nat, Rel G O σ H (forgetR ρ is) T
  | [] => R
  | i :: is => by
    have ih := R.forget is
    unfold forgetR
    split
    · exact ih
    · rename_i h; exact ih.unset (by simpa using h)
def forgetM (is : List Nat) : M Unit := fun ρ => .ok () (forgetR ρ is)
def dFgE (is : List Nat) (sa : DS) : DS := do
  let f ← sa
  forgetM is
  pure f
def dFgB (is : List Nat) (sa : DS) : DS := do
  forgetM is
  sa
theorem sss_fgE {pj : VK → VK} (is : List Nat) (h : SSsf pj X sts sa) : SSsf pj X sts (dFgE is sa) := fun W tk => PSs.imp (h W tk) fun D σ H ⟨G, O, ρ, hK, R, h⟩ => ⟨G, O, ρ, hK, R, Res.post_ok ((post_bind _ _).mp h) fun f ρ1 q => by
  replace q : FlOk G (D.re pj) [] f (forgetR ρ1 is) := q
  cases f with
  | nx => exact fun O' σ' H' R' => q O' σ' H' (R'.forget is)
  | brk => exact fun O' σ' H' R' => q O' σ' H' (R'.forget is)
  | cnt => exact fun O' σ' H' R' => q O' σ' H' (R'.forget is)
  | ret d b => exact fun O' σ' v H' R' => q O' σ' v H' (R'.forget is)⟩
theorem ss_fgB {pj : VK → VK} (is : List Nat) (h : SSf pj X st sa) : SSf pj X st (dFgB is sa) := fun W tk => PS.imp (h W tk) fun D σ H ⟨G, O, ρ, hK, R, h⟩ => ⟨G, O, forgetR ρ is, hK, R.forget is, h⟩
/-- a, b = e1, e2 -/
def nonm (x : D × Kd) : Option Unit := match x.2 with
  | .nm _ => none
  | _ => some ()
def dPar (i j : Nat) (bi bj : Bool) (ra rb : DE) : DS := do
  let xs ← dA [(bi, ra), (bj, rb)]
  match xs with
  | [x, y] => do
    let _ ← mOpt (nonm x)
    dPut j y
    dPut i x
    pure .nx
  | _ => mStuck
theorem ss_par {pj : VK → VK} (i j : Nat) (bi bj : Bool) {x y : Str} {px py pt : Pos} {kt k2 : Nat} {pt2 : Pos} (hx : CxG X) (ha : SE X a ra) (hb : SE X b rb) (hi : X.N[i]? = some x := by rfl) (hj : X.N[j]? = some y := by rfl) (hij : i ≠ j := by decide)
    (hlx : X.env.scope.names.lookup x = some .local := by rfl) (hly : X.env.scope.names.lookup y = some .local := by rfl)
    (he1 : starEach [a, b] X.env = (false, eval a X.env) :: starEach [b] X.env := by rfl) (he2 : starEach [b] X.env = (false, eval b X.env) :: starEach [] X.env := by rfl)
    (hw : swappedStores [.Tuple [.Name x px, .Name y py] kt pt] (.Tuple [a, b] k2 pt2) X.env = pure (some [x, y]) := by rfl)
    (hs : swapsWithSole [.Tuple [.Name x px, .Name y py] kt pt] (.Tuple [a, b] k2 pt2) pos.line X.env = pure false := by rfl) :
    SSf pj X (.Assign [.Tuple [.Name x px, .Name y py] kt pt] (.Tuple [a, b] k2 pt2) pos) (dPar i j bi bj ra rb) := fun W tk =>
  PS.imp (ps_par hx.calm hx.nd hi hj hij hlx hly (sa_cons (b := bi) ha (sa_cons (b := bj) hb sa_nil he2) he1 W tk) hw hs) fun D σ H ⟨G, O, ρ, hK, R, h⟩ => by
    refine ⟨G, O, ρ, [], hK, R, Res.post_mono ((post_bind _ _).mp h) (fun xs ρ1 q O1 vs H1 hl R1 => ?_) fun x ρ' q => q σ⟩
    split at q
    · rename_i z w
      match vs, hl with
      | [v, u], _ =>
        refine ⟨_, _, rfl, ?_⟩
        obtain ⟨_, e1, q2⟩ := (post_opt _).mp ((post_bind _ _).mp q)
        have R2 : Rel G O1 σ H1 ρ1 [⟨u, w.1, w.2⟩, ⟨v, z.1, z.2⟩] := R1
        have hn : NoNm [⟨v, z.1, z.2⟩] := NoNm.nil.cons fun i e => by
          unfold nonm at e1
          have e' : z.2 = .nm i := e
          rw [e'] at e1
          cases e1
        obtain ⟨O3, ρ3, R3, q3⟩ := put_post hn R2 ((post_bind _ _).mp q2)
        obtain ⟨O4, ρ4, R4, q4⟩ := put_post .nil R3 ((post_bind _ _).mp q3)
        refine q4 O4 _ _ ?_
        rw [List.set_comm _ _ hij]
        exact R4
    · exact q.elim
end
theorem tbk_none {K : PySem.W.Frag} {P : Addr} {q : Str} (h : lamN = []) : tbk K P ≠ some q := by
  unfold tbk
  rw [h]
  exact fun z => nomatch z
theorem law_sp {K : PySem.W.Frag} {F : Fn} {H : Hp} {a : Addr} {ns : List Int} (hS : SqL K H a (ns.map V.int)) (h : FRes.post (F [shA (.lst (ns.map fun n => .con (.int n)))]) (fun d _ _ => d = .bl true) fun _ _ => False)
    (hT : ∀ P q, tbk K P = some q → LamX.TabS H P q) : spF K F 1 [.ref a] H (fun v _ => v = .bl true) E0 := by
  have out : ∀ b, ownT K b = some .out ↔ (tbk K b).isSome = true := fun b => by
    unfold ownT
    split
    · rename_i c; exact ⟨fun _ => c, fun _ => rfl⟩
    · rename_i c; exact ⟨fun z => (by cases z), fun z => absurd z c⟩
  refine ⟨rfl, frzT K H (fun _ => none), ownT K, [shA (.lst (ns.map fun n => .con (.int n)))], rfl, rfl, ⟨rfl, fun b o e => ?_, out, fun a w e => ?_, fun i v e => (by cases e), fun i s e => ?_, trivial⟩, ?_⟩
  · replace e : (if (tbk K b).isSome = true then none else H b) = some o := e
    split at e
    · cases e
    · rename_i c
      exact ⟨e, .inl (if_neg c)⟩
  · unfold ownT at e
    split at e
    · rename_i c
      obtain ⟨q, hq⟩ := Option.isSome_iff_exists.mp c
      obtain ⟨ps, h1, h2⟩ := hT a q hq
      exact ⟨⟨_, h1⟩, fun q' hq' => by
        have hq' : tbk K a = some q' := hq'
        rw [hq] at hq'
        cases hq'
        exact ⟨ps, h1, h2⟩⟩
    · cases e
  · cases i with
    | zero =>
      cases e
      refine ⟨_, rfl, ?_⟩
      show Rep K H (lin (ownT K)) (.ref a) (.lst _)
      rcases hS with hS | hS
      · refine .obj (fun z => z ?_) hS (.lst (Reps.cons_map V.int ns))
        unfold ownT
        refine if_neg fun c => ?_
        obtain ⟨q, hq⟩ := Option.isSome_iff_exists.mp c
        obtain ⟨ps, h1, _⟩ := hT a q hq
        rcases hS with hS | ⟨o, hS⟩
        · rw [h1] at hS; cases hS
        · rw [h1] at hS; cases hS
      · exact .kl hS (Reps.cons_map V.int ns)
    | succ i => simp at e
  · unfold FRes.post at h ⊢
    cases hF : F [shA (.lst (ns.map fun n => .con (.int n)))] with
    | none => rw [hF] at h; exact h
    | some r =>
      rw [hF] at h
      cases r with
      | exc x outs => exact h.elim
      | ret d b outs =>
        dsimp only at h ⊢
        subst h
        intro O' σ' v H' R'
        have : Vw K H' O' v (.bl true) := R'.view R'.tm.1 (by unfold cur; cases b <;> rfl)
        exact this.con
/-- THE HEAD: the law is called on its script, no repr under way -/
theorem headG {P : Program} {w : World} {K : PySem.W.Frag} {mg mb : Str → Option Value} {k : Nat} {fa a : Addr} {fd : FuncData} {x : Str} {F : Fn} {s1 : Shared} {vs : List Value} {ns : List Int}
    (X : K.In s1.heap) (gl : s1.heap.Ns mainGlobals mg) (bl : s1.heap.Ns builtinsNs mb) (bb : ∀ y : Str, y ≠ "__name__" → mb y = bootBuiltins y) (lim : s1.heap.NoLimit) (gens : s1.gens = #[])
    (script : s1.heap.get? a = some { cls := .type "list", data := .seq vs.toArray }) (iar : IntsAre vs ns) (short : ns.length ≤ sizeLine) (room : Room k callerA)
    (fn : ∀ base : Heap, FnG P w K mg base (L2.CX P w) k fa fd [x] (spF K F 1)) (bind : ∀ (s : Shared) (u : Value), BindsTo s fd ⟨[u], []⟩ [(x, u)])
    (sp : ∀ H : Hp, SqL K H a (ns.map V.int) → spF K F 1 [.ref a] H (fun v _ => v = .bl true) E0) :
    codeAny (model P w) callerA (.call (.ref fa) ⟨[.ref a], []⟩) (fun r s' => r = .ok (.ret (.bool true)) ∧ OldK s1.heap s'.heap ∧ s'.os = s1.os ∧ AllBare s'.gens) s1 := by
  have vals := vals_ints iar
  -- H tracks the script at most
  have main : ∀ H : Hp, (∀ b u, H b = some u → b = a ∧ u = .frz { cls := .type "list", data := .seq vs.toArray } (.lst (ns.map V.int)) ∧ K.lookup a = none) → SqL K H a (ns.map V.int) →
      codeAny (model P w) callerA (.call (.ref fa) ⟨[.ref a], []⟩) (fun r s' => r = .ok (.ret (.bool true)) ∧ OldK s1.heap s'.heap ∧ s'.os = s1.os ∧ AllBare s'.gens) s1 := by
    intro H only sq
    have free : ∀ b, b ≠ a ∨ K.lookup b ≠ none → H b = none := fun b z => by
      cases q : H b with
      | none => rfl
      | some u =>
        obtain ⟨e, _, n⟩ := only b u q
        subst e
        exact (z.elim (fun z => z rfl) (fun z => z n)).elim
    have names : ∀ {b : Addr} {m : Str → Option Value}, s1.heap.Ns b m → (hidT s1.heap H).Ns b m := fun {b m} ⟨o, es, n, g, d, r⟩ => ⟨o, es, n, hidT_get g (free b (.inl fun e => by
      subst e
      rw [script] at g
      cases g
      cases d)), d, r⟩
    have inK : K.In (hidT s1.heap H) := fun b o l => hidT_get (X b o l) (free b (.inr (by rw [l]; exact fun z => by cases z)))
    have ok : HOk P w H s1.heap := fun b u z => by
      obtain ⟨rfl, rfl, _⟩ := only b u z
      exact ⟨script, by rw [List.length_map]; exact short, vs, _, vals, script⟩
    have env : Env0 P w K mg (hidT s1.heap H) callerA [] s1 H :=
      ⟨rfl, ⟨inK, names gl, ⟨mb, names bl, bb⟩, lim.elim fun mc q => ⟨mc, names q.1, q.2⟩⟩, fun _ _ z => of_hidT z, Nat.le_of_eq (hidT_size _ _), trivial, fun _ z => (nomatch (show _ ∈ ([] : List Addr) from z)), ok, .of_eq gens⟩
    refine codeAny_mono ((fn _).run callerA rfl room [] s1 H env ⟨[.ref a], []⟩ [.ref a] (bind s1 (.ref a)) [.ref a] (.cons rfl .nil) _ _ (sp H sq)) fun r s' q => ?_
    match r, q with
    | .error e, q => obtain ⟨_, _, _, _, _, _, _, _, _, _, _, _, z⟩ := q; exact z.elim
    | .ok .next, q => exact q.elim
    | .ok .brk, q => exact q.elim
    | .ok .cont, q => exact q.elim
    | .ok (.ret u), ⟨v, H', os, bare, un, ok', rv, q⟩ =>
      subst q
      cases (show u = Value.bool true from rv)
      refine ⟨rfl, OldK.of_keep fun b o g => ?_, os, bare⟩
      cases hb : H b with
      | none => exact un.keep b o g hb (fun z => nomatch (show b ∈ ([] : List Addr) from z)) (fun z => nomatch z)
      | some u =>
        obtain ⟨rfl, rfl, _⟩ := only b u hb
        rw [script] at g
        cases g
        exact (ok' b _ (un.frzs b _ _ hb)).1
  cases hk : K.lookup a with
  | some o =>
    have g := X a o hk
    rw [script] at g
    cases g
    exact main (fun _ => none) (fun _ _ z => nomatch z) (.inr ⟨_, vs.toArray, _, hk, rfl, rfl, rfl, by rw [List.size_toArray, iar.length]; exact short, by simpa using vals⟩)
  | none =>
    refine main (fun b => if b = a then some (.frz { cls := .type "list", data := .seq vs.toArray } (.lst (ns.map V.int))) else none) (fun b u z => ?_) (.inl (.inr ⟨_, if_pos rfl⟩))
    split at z
    · rename_i e
      cases z
      exact ⟨e, rfl, hk⟩
    · cases z
theorem walkG {l : PySem.W.OpenLaw} {n k : Nat} {q : Program} {loose : List Str} {XP : (Str → Option Value) → Heap → Prop} {YP : World → Heap → Prop} {d : DefRec} {x : Str} (most : l.most = some n) (small : n ≤ sizeLine) (df : d.params.defaults = []) (room : Room k callerA)
    (G : ∀ (w : World) (mg : Str → Option Value) (fa : Addr) (h : Heap), YP w h → h.Ns mainGlobals mg → mg d.name = some (.ref fa) → ∃ (K : PySem.W.Frag) (fd : FuncData) (F : Fn), K.In h ∧ (∀ (s : Shared) (u : Value), BindsTo s fd ⟨[u], []⟩ [(x, u)]) ∧
      (∀ (H : Hp) (a : Addr) (ns : List Int), ns.length ≤ n → SqL K H a (ns.map V.int) → spF K F 1 [.ref a] H (fun v _ => v = .bl true) E0) ∧ ∀ base : Heap, FnG l.prog w K mg base (L2.CX l.prog w) k fa fd [x] (spF K F 1)) :
    PySem.W.WalkO q loose XP YP l.row.toRowW d [] (fun f vs => PySem.call f vs) :=
  Att.attach_call most df fun w s0 s1 mg mb fa o pm cd doc a vs ns Gr Y _ _ _ hmg script iar len gens => by
    obtain ⟨K, fd, F, X, bind, sp, fn⟩ := G w mg fa _ Y Gr.T.g hmg
    exact headG X Gr.T.g Gr.T.b Gr.T.builtins Gr.T.nolimit gens script iar (Nat.le_trans len small) room fn bind fun H sq => sp H a ns len sq
end L2.VL
end
section
set_option Elab.async false
set_option linter.all false
set_option maxRecDepth 100000
namespace L2.VL
open PySem PySem.Spec PyProof.Rows
theorem FRes.mono {r : Option FRes} {Q Q' : D → Bool → Rho → Prop} {E E' : Exn → Rho → Prop} (h : FRes.post r Q E) (h1 : ∀ d b o, Q d b o → Q' d b o) (h2 : ∀ x o, E x o → E' x o) : FRes.post r Q' E' := by
  unfold FRes.post at h ⊢
  cases r with
  | none => exact h
  | some r => cases r with
    | ret d b o => exact h1 d b o h
    | exc x o => exact h2 x o h
/-- .. where nothing is raised -/
theorem FRes.go {r : Option FRes} {Q Q' : D → Bool → Rho → Prop} {E' : Exn → Rho → Prop} (h : FRes.post r Q fun _ _ => False) (h1 : ∀ d b o, Q d b o → Q' d b o) : FRes.post r Q' E' := FRes.mono h h1 fun _ _ z => z.elim
end L2.VL
end
section
set_option Elab.async false
set_option linter.all false
set_option maxRecDepth 100000
namespace L2.VL
open PySem PySem.Spec PyProof.Rows
section
variable {P : D × Kd → Prop} {B : Bool → Prop} {W : V → Prop} {i j : Int} {xs ys : List D} {s t : Str}
theorem eqD_int : eqD (.con (.int i)) (.con (.int j)) = some (decide (i = j)) := by
  have e : eqD (.con (.int i)) (.con (.int j)) = some (decide (V.int i = V.int j)) := by
    unfold eqD
    dsimp only
    rw [if_pos (by rfl)]
  rw [e]
  simp
theorem eqD_str : eqD (.con (.str s)) (.con (.str t)) = some (decide (s = t)) := by
  have e : eqD (.con (.str s)) (.con (.str t)) = some (decide (V.str s = V.str t)) := by
    unfold eqD
    dsimp only
    rw [if_pos (by rfl)]
  rw [e]
  simp
end
end L2.VL
end
section
set_option Elab.async false
set_option linter.all false
set_option maxRecDepth 100000
namespace L2.VL
open PySem PySem.Spec PyProof.Rows
def lent (o : Option Slot) : Option Slot := o.map fun s => ⟨s.d, false, s.pin⟩
def dBor (r : DE) : DE := fun ρ => match (r >>= dcur) (ρ.map lent) with
  | .ok (.con c) _ => .ok (.con c, .shr) ρ
  | _ => .stuck
theorem Rel.lend {G : Fix} {O : Own} {σ : St} {H : Hp} {ρ : Rho} (R : Rel G O σ H ρ []) : Rel (frzT G.K H G.Pin) (ownT G.K) σ H (ρ.map lent) [] := by
  have off : ∀ a, O a ≠ some .out → ownT G.K a = none := fun a n => if_neg (by rw [tb_sl R n]; simp)
  have st : Stay H H (lin O) (lin (ownT G.K)) := fun a o n e => ⟨e, fun z => z (off a (fun y => n (by unfold lin; rw [y]; simp)))⟩
  refine ⟨by rw [List.length_map]; exact R.len, fun b o e => ?_, fun b => ?_, fun a w e => ?_, fun i v e => ?_, fun i s e => ?_, trivial⟩
  · replace e : (if (tbk G.K b).isSome = true then none else H b) = some o := e
    split at e
    · cases e
    · rename_i c
      exact ⟨e, .inl (if_neg c)⟩
  · show ownT G.K b = some .out ↔ (tbk G.K b).isSome = true
    unfold ownT
    split
    · rename_i c; exact ⟨fun _ => c, fun _ => rfl⟩
    · rename_i c; exact ⟨fun z => (by cases z), fun z => absurd z c⟩
  · unfold ownT at e
    split at e
    · rename_i c
      exact R.tr a _ (tb_is R c)
    · cases e
  · obtain ⟨h1, s, h2, h3⟩ := R.pn i v e
    exact ⟨h1, ⟨s.d, false, s.pin⟩, by rw [List.getElem?_map, h2]; rfl, h3⟩
  · rw [List.getElem?_map] at e
    obtain ⟨o, e1, e2⟩ := Option.map_eq_some_iff.mp e
    obtain ⟨s', rfl, rfl⟩ := Option.map_eq_some_iff.mp e2
    obtain ⟨v, h1, h2⟩ := R.sl i s' e1
    refine ⟨v, h1, ?_⟩
    show Rep G.K H _ v s'.d
    unfold SlotOk at h2
    cases q : s'.own with
    | false => rw [q] at h2; exact h2.mono st
    | true =>
      rw [q] at h2
      exact OwnX.rep st h2 fun a o e1 e2 => ⟨off a (by rw [e1]; simp), e2⟩
/-- what a frozen frame keeps -/
theorem Rel.frzUpT {G : Fix} {O O' : Own} {σ σ' : St} {H H' : Hp} {ρ ρ' : Rho} {T T' : List Tmp} {Pn : Nat → Option V} (_R : Rel G O σ H ρ T') (R' : Rel (frzT G.K H Pn) O' σ' H' ρ' T) {a : Addr} {o : HO} (n : G.Tb a = none) (e : H a = some o) : H' a = some o ∧ O' a = none := by
  obtain ⟨p, q⟩ := R'.fr a o (show (if (tbk G.K a).isSome = true then none else H a) = some o by rw [if_neg (by rw [show tbk G.K a = none from n]; simp)]; exact e)
  refine ⟨p, q.resolve_right fun z => ?_⟩
  have y : (tbk G.K a).isSome = true := (R'.ot a).mp z
  rw [show tbk G.K a = none from n] at y
  cases y
theorem Rel.frzUp {G : Fix} {O O' : Own} {σ σ' : St} {H H' : Hp} {ρ ρ' : Rho} {T T' : List Tmp} {Pn : Nat → Option V} (R : Rel G O σ H ρ T') (R' : Rel (frzT G.K H Pn) O' σ' H' ρ' T) : (∀ a o, O a ≠ some .out → H a = some o → H' a = some o) ∧ ∀ a w, O a = some w → TrOk G H' a := by
  refine ⟨fun a o n e => (R.frzUpT R' (tb_ne R n) e).1, fun a w e => ?_⟩
  cases q : G.Tb a with
  | none =>
    obtain ⟨o, ho⟩ := (R.tr a w e).1
    exact ⟨⟨o, (R.frzUpT R' q ho).1⟩, fun z hz => by rw [q] at hz; cases hz⟩
  | some z => exact R'.tr a .out ((R'.ot a).mpr (by show (tbk G.K a).isSome = true; rw [show tbk G.K a = some z from q]; rfl))
theorem Rel.unlend {G : Fix} {O O' : Own} {σ : St} {H H' : Hp} {ρ ρ' : Rho} {T : List Tmp} {c v : V} (R : Rel G O σ H ρ []) (R' : Rel (frzT G.K H G.Pin) O' σ H' ρ' T) : Rel G O σ H' ρ [⟨c, .con c, .shr⟩] := by
  obtain ⟨up, tt⟩ := R.frzUp R'
  have st : Stay H H' (lin O) (lin O) := fun a o n e => ⟨up a o (fun z => n (by unfold lin; rw [z]; simp)) e, n⟩
  refine ⟨R.len, fun b o e => ⟨(R.frzUpT R' (tb_none e) (R.fr b o e).1).1, (R.fr b o e).2⟩, R.ot, tt, R.pn, fun i s e => ?_, ⟨Rep.con c, trivial⟩⟩
  · obtain ⟨v, h1, h2⟩ := R.sl i s e
    exact ⟨v, h1, slot_mono st (fun a o e1 e2 => ⟨e1, up a o (by rw [e1]; simp) e2⟩) h2⟩
theorem se_bor {X : Cx} {e : Expr} {r : DE} (h : SE X e r) : SE X e (dBor r) := fun W tk => PE.imp (h W tk) fun σ H Q ⟨G, O, ρ, hK, R, h⟩ => by
  refine ⟨(frzT G.K H G.Pin), _, _, hK, R.lend, ?_⟩
  unfold dBor at h
  have key : ((r >>= dcur) (ρ.map lent)).post (fun d ρ' => ∃ c, d = .con c ∧ ∀ O' v H', Rel G O' σ H' ρ [⟨v, .con c, .shr⟩] → Q v H') fun _ _ => False := by
    cases q : (r >>= dcur) (ρ.map lent) with
    | stuck => rw [q] at h; exact h.elim
    | ex x ρ' => rw [q] at h; exact h.elim
    | ok d ρ' =>
      rw [q] at h
      cases d with
      | con c => exact ⟨c, rfl, h⟩
      | lst _ => exact h.elim
      | tup _ => exact h.elim
      | dic _ => exact h.elim
      | dit _ => exact h.elim
      | own _ => exact h.elim
      | exv _ => exact h.elim
      | tre _ => exact h.elim
      | dix _ => exact h.elim
      | fnv _ _ _ => exact h.elim
  refine Res.post_mono ((post_bind _ _).mp key) (fun x ρ1 q O1 v H1 R1 => ?_) fun _ _ z => z.elim
  obtain ⟨d, e1, c, rfl, q2⟩ := post_cur.mp q
  have v1 : v = c := (R1.view R1.tm.1 e1).con
  subst v1
  exact q2 O v H1 (R.unlend (v := v) R1)
theorem ix_nat {n p : Nat} (h : p < n) : ixN n (p : Int) = some p := by
  unfold ixN
  rw [if_pos (by omega), if_pos (by omega)]
  simp
end L2.VL
end
section
set_option Elab.async false
set_option linter.all false
set_option maxRecDepth 100000
namespace L2.VL
open PySem PySem.Spec PyProof.Rows
end L2.VL
end
section
set_option Elab.async false
set_option linter.all false
set_option maxRecDepth 100000
namespace L2.VL
open PySem PySem.Spec PyProof.Rows
section
variable {X : Cx} {pos : Pos} {a b e : Expr} {ra rb r : DE}
def lrgD (d : D) : Option (D × Kd) := match d with
  | .con (.int n) => if 0 ≤ n ∧ n ≤ 16777216 then some (.lst (rngD 0 n.toNat), .fr) else none
  | _ => none
def dLrg (ra : DE) : DE := do
  let x ← ra
  let d ← dcur x
  mOpt (lrgD d)
theorem rg_reps {K : PySem.W.Frag} {H : Hp} {L : Addr → Prop} {n : Int} : Reps K H L (rgV 0 n) (rngD 0 n.toNat) := by
  unfold rgV rngD
  rw [show n - 0 = n by omega]
  have : ∀ xs : List Nat, Reps K H L (xs.map fun i => V.int (0 + (i : Nat))) (xs.map fun (k : Nat) => D.int (0 + k)) := by
    intro xs
    induction xs with
    | nil => exact .nil
    | cons x xs ih => exact .cons (.con _) ih
  exact this _
theorem se_lrg {p p2 pos2 : Pos} (hc : X.calm = true) (hm : X.mg "list" = none) (hm2 : X.mg "range" = none) (ha : SE X a ra) (hg : Gl X "list" := by rfl) (hg2 : Gl X "range" := by rfl)
    (na2 : starEach [a] X.env = (false, eval a X.env) :: starEach [] X.env := by rfl)
    (na : starEach [.Call (.Name "range" p) [a] [] pos2] X.env = (false, eval (.Call (.Name "range" p) [a] [] pos2) X.env) :: starEach [] X.env := by rfl) :
    SE X (.Call (.Name "list" p2) [.Call (.Name "range" p) [a] [] pos2] [] pos) (dLrg ra) := fun W tk =>
  PE.imp (pe_listRg hc hg hm (prg_1 hg2 hm2 (ha W tk) na2) na) fun σ H Q ⟨G, O, ρ, hK, R, h⟩ => by
    refine tE.at hK R (Res.post_ok ((post_bind _ _).mp h) fun x ρ1 q O1 v H1 R1 => ?_)
    obtain ⟨d, e1, q3⟩ := post_cur.mp ((post_bind _ _).mp q)
    obtain ⟨z, e2, q4⟩ := (post_opt _).mp q3
    have v1 := R1.view R1.tm.1 e1
    unfold lrgD at e2
    split at e2
    · rename_i n
      split at e2
      · rename_i hn
        cases e2
        refine ⟨n, v1.con, RgOk.of_le (by omega) (by omega) (by omega) (by omega), fun p hp => ?_⟩
        obtain ⟨O4, R4⟩ := R1.pop.fresh (d := .lst (rngD 0 n.toNat)) hp (.lst rg_reps)
        exact q4 O4 _ _ R4
      · cases e2
    · cases e2
def popG (ys ds : List D) : Option (List D × D) := match ds with
  | [.con (.int i)] => if small62 i then (ixN ys.length i).bind fun k => (ys[k]?).map fun y => (ys.eraseIdx k, y) else none
  | _ => none
theorem Reps.erase {K : PySem.W.Frag} {H : Hp} {L : Addr → Prop} : ∀ {vs : List V} {ds : List D} {k : Nat}, Reps K H L vs ds → Reps K H L (vs.eraseIdx k) (ds.eraseIdx k)
  | _, _, _, .nil => .nil
  | _, _, 0, .cons _ b => b
  | _, _, k + 1, .cons a b => .cons a b.erase
theorem Reps.at? {K : PySem.W.Frag} {H : Hp} {L : Addr → Prop} : ∀ {vs : List V} {ds : List D} {k : Nat} {d : D}, Reps K H L vs ds → ds[k]? = some d → ∃ v, vs[k]? = some v ∧ Rep K H L v d
  | _, _, 0, d, .cons a b, h => ⟨_, rfl, by cases (Option.some.inj h); exact a⟩
  | _, _, k + 1, d, .cons a b, h => by
    obtain ⟨v, h1, h2⟩ := b.at? (k := k) (by simpa using h)
    exact ⟨v, by simpa using h1, h2⟩
theorem ms_pop {K : PySem.W.Frag} : MutS K rPopAt popG := fun H L a vs as ys ds ys' rt Q h1 r1 r2 e => by
  unfold popG at e
  split at e
  · rename_i i
    split at e
    · rename_i hs
      obtain ⟨k, e1, e2⟩ := Option.bind_eq_some_iff.mp e
      obtain ⟨y, e3, e4⟩ := Option.map_eq_some_iff.mp e2
      cases e4
      obtain ⟨v, h2, h3⟩ := r1.at? e3
      cases r2 with
      | cons c1 c2 =>
        cases c2
        have e5 := c1.con_inv
        subst e5
        rw [← r1.len] at e1
        obtain ⟨q1, q2, q3, q4⟩ := ixN_seq e1
        unfold small62 at hs
        simp only [Bool.and_eq_true, decide_eq_true_eq] at hs
        exact ⟨_, v, r1.erase, h3, fun q => ⟨a, vs, i, k, v, rfl, rfl, h1, by omega, by omega, q1, h2, q⟩⟩
    · cases e
  · cases e
theorem rmulW (i : Int) (t : Tok) (l : Addr) (its : Array Value) (n : Nat) (sl : Array (Option Value)) :
    Meets (Builtin.«int.__rmul__» ⟨[.int i t, .ref l], []⟩) (fun _ R s => s.heap.get? l = some { cls := .type "list", dict := none, data := .seq its n, slots := sl } ∧
      R (.ok (.ret Value.notImplemented)) s) :=
  .of_wp fun prog w A R s h => by
    obtain ⟨hp, g, d, tk, os⟩ := s
    obtain ⟨hl, h⟩ := h
    wp_walk
    exact ⟨_, rfl, h⟩
theorem lmulW (l : Addr) (its : Array Value) (n : Nat) (sl : Array (Option Value)) (k : Int) (u : Tok) (h0 : ¬(!Builtin.List.listFitsIndex k) = true) (h1 : ¬its.size * k.toNat > (2 ^ 63 - 1) / 8) (h2 : ¬Builtin.List.listTooLong (its.size * k.toNat) = true) :
    Meets (Builtin.«list.__mul__» ⟨[.ref l, .int k u], []⟩) (fun _ R s => s.heap.get? l = some { cls := .type "list", dict := none, data := .seq its n, slots := sl } ∧
      R (.ok (.ret (Value.ref s.heap.objs.size))) { s with heap := s.heap.push { cls := Value.type "list", data := Data.seq (List.foldl (fun x1 x2 => x1 ++ x2) #[] (List.replicate (if its.isEmpty = true then 0 else k.toNat) its)) }, toks := s.toks }) :=
  .of_wp fun prog w A R s h => by
    obtain ⟨hp, g, d, tk, os⟩ := s
    obtain ⟨hl, h⟩ := h
    have hsz := AutoListH.joined_fits h2
    wp_walk
    refine wpAny_ite_false (decide_eq_false (Nat.not_lt.mpr hsz)) ?_
    wp_walk
    exact ⟨_, rfl, h⟩
def rRepL (K : PySem.W.Frag) : R2 := fun x y H Q => ∃ l k xs, x = .ref l ∧ y = .int k ∧ SqL K H l xs ∧ -(2 ^ 63) ≤ k ∧ k < 2 ^ 63 ∧ xs.length * k.toNat ≤ sizeLine ∧
  ∀ p, H p = none → Q (.ref p) (upd H p (.lst (List.replicate k.toNat xs).flatten))
theorem op_repL : OpR X (binaryOp .Mult) (rRepL X.K) := by
  intro pins s σ H x y v u Q I rx ry h
  obtain ⟨p, c, xs, rfl, rfl, hH, h1, h2, hz, q⟩ := h
  cases rx
  obtain ⟨t, rfl⟩ := ry
  obtain ⟨us, r, ⟨o1, n, e, c1, d1, k1⟩, _⟩ := I.list hH
  obtain ⟨cls1, dd1, dt1, sl1⟩ := o1
  dsimp only at c1 d1 k1
  subst c1 d1 k1
  have hl := r.length
  have lenO : us.toArray.size * c.toNat ≤ sizeLine := by rw [List.size_toArray, ← hl]; exact hz
  have capO : ¬ us.toArray.size * c.toNat > (2 ^ 63 - 1) / 8 := by
    have : (sizeLine : Nat) ≤ (2 ^ 63 - 1) / 8 := by decide
    omega
  have fitO : ¬ (!Builtin.List.listFitsIndex c) = true := by
    rw [fitsIndex_both h1 h2]
    exact Bool.false_ne_true
  have tooL : ¬ Builtin.List.listTooLong (us.toArray.size * c.toNat) = true := by
    rw [notLongL lenO]
    exact Bool.false_ne_true
  have newO : List.foldl (fun x1 x2 => x1 ++ x2) #[] (List.replicate (if us.toArray.isEmpty = true then 0 else c.toNat) us.toArray) = (List.replicate c.toNat us).flatten.toArray := by
    have f0 : ∀ m : Nat, List.foldl (fun x1 x2 => x1 ++ x2) #[] (List.replicate m us.toArray) = (List.replicate m us).flatten.toArray := fun m => by
      have w := foldl_rep us m []
      rwa [List.nil_append] at w
    rw [f0]
    cases us with
    | nil => simp
    | cons a r' => rw [if_neg (by simp)]
  refine wpAny_binaryOp_repeat_ref (T := "list") (U := "int") (by decide) ⟨_, e, rfl⟩ (fun s' => typeIs_int s' c t) noFill_list_mul F.fills_int_mul F.slot_int_rmul repeat_list F.slot_int_index.lookup
    (call_meets F.slot_int_rmul (typeIs_int s c t) F.entry_int_rmul (F.args_int_rmul_2 _ _) (rmulW c t p us.toArray n sl1)
      ⟨e, rfl, ⟨_, e, rfl⟩, call_meets F.slot_list_mul ⟨_, e, rfl⟩ F.entry_list_mul (F.args_list_mul_2 _ _) (lmulW p us.toArray n sl1 c t fitO capO tooL) ⟨e, ?_⟩⟩)
  rw [newO]
  exact ⟨.ref _, _, I.lnew (t' := s.toks) (r.rep c.toNat) (by rw [PyProof.Rows.lm_len_rep_flat, Nat.mul_comm]; exact hz), rfl, q _ I.fresh⟩
def mulA (x y : D) : Option (D × Kd) := match x, y with
  | .con (.int i), .con (.int j) => if CMulB i j then some (.con (.int (i * j)), .shr) else none
  | .lst xs, .con (.int k) => if small62 k && decide (xs.length * k.toNat ≤ cap) then some (.lst (List.replicate k.toNat xs).flatten, .fr) else none
  | _, _ => none
theorem Reps.rep {K : PySem.W.Frag} {H : Hp} {L : Addr → Prop} {vs : List V} {ds : List D} (h : Reps K H L vs ds) : ∀ n : Nat, Reps K H L (List.replicate n vs).flatten (List.replicate n ds).flatten
  | 0 => .nil
  | n + 1 => by
    rw [List.replicate_succ, List.replicate_succ, List.flatten_cons, List.flatten_cons]
    exact h.append (h.rep n)
abbrev rMulA (K : PySem.W.Frag) : R2 := fun x y H Q => rI CMul (fun i j => .int (i * j)) x y H Q ∨ rRepL K x y H Q
theorem op_mulA : OpR X (binaryOp .Mult) (rMulA X.K) := OpR.or op_mul op_repL
theorem os_mulA {K : PySem.W.Frag} : OpS2 K (rMulA K) mulA := by
  intro G O σ H ρ a b x y z Q hK R v1 v2 e q
  unfold mulA at e
  split at e
  · rename_i i j
    exact .inl (os_mul G O σ H ρ a b _ _ z Q hK R v1 v2 e q)
  · rename_i xs k
    split at e
    · rename_i hs
      cases e
      rw [Bool.and_eq_true, decide_eq_true_eq] at hs
      obtain ⟨hs1, hs2⟩ := hs
      unfold small62 at hs1
      simp only [Bool.and_eq_true, decide_eq_true_eq] at hs1
      obtain ⟨a1, vs, rfl, s1, r1⟩ := v1.lst
      refine .inr ⟨a1, k, vs, rfl, v2.con, s1, by omega, by omega, by rw [r1.len, ← cap_eq]; exact hs2, fun p hp => ?_⟩
      rw [← hK] at r1
      obtain ⟨O4, R4⟩ := R.fresh (d := .lst (List.replicate k.toNat xs).flatten) hp (.lst (r1.rep _))
      exact q O4 _ _ R4
    · cases e
  · cases e
def chrs (z : Str) : List D := z.cps.toList.map fun c => .con (.str ⟨#[c]⟩)
def strOf (d : D) : Option (List D) := match d with
  | .con (.str z) => some (chrs z)
  | _ => none
def iStrD (r : DE) : M (List D) := do
  let x ← r
  let y ← keep false x
  mOpt (strOf y.1)
theorem walk_str {K : PySem.W.Frag} {T : List Tmp} {z : Str} : WalkOk K T (Its z) (chrs z) := by
  intro G O σ H ρ i T' U hK R
  have hl : (chrs z).length = z.cps.size := by simp [chrs]
  refine ⟨fun hi => by rw [hl] at hi; exact hi, fun hi => by rw [hl] at hi; exact hi, fun x hx v H' y => ?_⟩
  obtain ⟨rfl, c, hc, rfl⟩ := y
  unfold chrs at hx
  rw [List.getElem?_map] at hx
  obtain ⟨c', h1, rfl⟩ := Option.map_eq_some_iff.mp hx
  rw [Array.getElem?_toList] at h1
  rw [h1] at hc
  cases hc
  exact ⟨O, R.con _⟩
theorem si_str {tg : Expr} (he : SE X e r) : SI X tg e (iStrD r) := fun W tk => PI.imp (pi_str (he W tk)) fun σ H Q ⟨G, O, ρ, hK, R, h⟩ =>
  ⟨G, O, ρ, hK, R, Res.post_ok ((post_bind _ _).mp h) fun x ρ1 q O1 v H1 R1 => by
    obtain ⟨d, e1, q2⟩ := keep_false ((post_bind _ _).mp q)
    obtain ⟨xs, e2, q3⟩ := (post_opt _).mp q2
    obtain ⟨O2, R2⟩ := R1.settle (d := d) e1
    unfold strOf at e2
    dsimp only at e2
    split at e2
    · rename_i z
      cases e2
      have v1 : v = .str z := (show Vw G.K H1 O2 v (.con (.str z)) from .inl R2.tm.1).con
      exact ⟨z, v1, q3 O2 H1 _ _ (NoNm.nil.cons fun i z => by cases z) R2 (walk_str.f hK)⟩
    · cases e2⟩
theorem PI.or {tg : Expr} {t t' : TI} (h : PI X tg e t) (h' : PI X tg e t') : PI X tg e fun σ H R => t σ H R ∨ t' σ H R := ⟨fun pins s σ H R I q => by
  rcases q with q | q
  · exact h.run pins s σ H R I q
  · exact h'.run pins s σ H R I q⟩
def anyOf (d : D) : Option (List D) := match d with
  | .lst xs => some xs
  | .tup xs => some xs
  | .con (.str z) => some (chrs z)
  | _ => none
def iAny (r : DE) : M (List D) := do
  let x ← r
  let y ← keep false x
  mOpt (anyOf y.1)
theorem iAny_split {ρ : Rho} {Q : List D → Rho → Prop} {E : Exn → Rho → Prop} (h : ((iAny r) ρ).post Q E) : ((iLst r) ρ).post Q E ∨ ((iTuple r) ρ).post Q E ∨ ((iStrD r) ρ).post Q E := by
  have h1 := (post_bind _ _).mp h
  unfold iLst iTuple iStrD
  simp only [post_bind]
  cases e1 : r ρ with
  | stuck => rw [e1] at h1; exact h1.elim
  | ex x ρ1 => exact .inl (by rw [e1] at h1; exact h1)
  | ok x ρ1 =>
    rw [e1] at h1
    have h2 := (post_bind _ _).mp h1
    simp only [Res.post]
    cases e2 : keep false x ρ1 with
    | stuck => rw [e2] at h2; exact h2.elim
    | ex x ρ1 => exact .inl (by rw [e2] at h2; exact h2)
    | ok y ρ2 =>
      rw [e2] at h2
      obtain ⟨xs, e3, h3⟩ := (post_opt _).mp h2
      unfold anyOf at e3
      split at e3
      · rename_i ys e4
        cases e3
        exact .inl ((post_opt (lstOf y.1)).mpr ⟨_, by rw [e4]; rfl, h3⟩)
      · rename_i ys e4
        cases e3
        exact .inr (.inl ((post_opt (tupOf y.1)).mpr ⟨_, by rw [e4]; rfl, h3⟩))
      · rename_i z e4
        cases e3
        exact .inr (.inr ((post_opt (strOf y.1)).mpr ⟨_, by rw [e4]; rfl, h3⟩))
      · cases e3
theorem si_any {tg : Expr} (he : SE X e r) : SI X tg e (iAny r) := fun W tk => PI.imp (PI.or (si_lst he W tk) (PI.or (si_tup he W tk) (si_str he W tk))) fun σ H Q ⟨G, O, ρ, hK, R, h⟩ => by
  rcases iAny_split h with h | h | h
  · exact .inl ⟨G, O, ρ, hK, R, h⟩
  · exact .inr (.inl ⟨G, O, ρ, hK, R, h⟩)
  · exact .inr (.inr ⟨G, O, ρ, hK, R, h⟩)
theorem vals_pair {a b : Int} {us : List Value} (h : Vals [.int a, .int b] us) : ∃ t1 t2, us = [.int a t1, .int b t2] := by
  cases h with
  | cons r1 h =>
    cases h with
    | cons r2 h =>
      cases h
      obtain ⟨t1, rfl⟩ := r1
      obtain ⟨t2, rfl⟩ := r2
      exact ⟨t1, t2, rfl⟩
theorem eqAt_dec {A : Around} {s : Shared} (i j : Int) (t u : Tok) : SeqAt.EqAt A s (.int i t) (.int j u) (decide (i = j)) := by
  have z : (i == j) = decide (i = j) := by
    by_cases q : i = j
    · rw [decide_eq_true q, q]; simp
    · rw [decide_eq_false q]; simp [q]
  rw [← z]
  exact SeqAt.EqAt.int_int _ _ _ _
def strIn (a b : Str) : Bool := !(Builtin.Str.occurrences b a 0 b.length 1).isEmpty
def inS (x y : D) : Option Bool := match x, y with
  | .con (.str a), .con (.str b) => some (strIn a b)
  | _, _ => none
def inA (x y : D) : Option Bool := (inD x y).or (inS x y)
abbrev rInS : R2 := fun x y H Q => ∃ i j, x = .str i ∧ y = .str j ∧ Q (.bl (!(Builtin.Str.occurrences j i 0 j.length 1).isEmpty)) H
theorem op_inA : OpR X (compareOp .In) (fun x y H Q => rIn X.K false x y H Q ∨ rInS x y H Q) := OpR.or op_in_seq op_in_str
theorem inS_of {K : PySem.W.Frag} {H : Hp} {O : Own} {u w : V} {x y : D} {k : Bool} (v1 : Vw K H O u x) (v2 : Vw K H O w y) (e : inS x y = some k) : ∃ i j, u = .str i ∧ w = .str j ∧ strIn i j = k := by
  unfold inS at e
  split at e
  · cases e
    exact ⟨_, _, v1.con, v2.con, rfl⟩
  · cases e
theorem cs_inA {K : PySem.W.Frag} : CmpS K (fun x y H Q => rIn K false x y H Q ∨ rInS x y H Q) inA := fun a b H x y k O Q v1 v2 e q => by
  unfold inA at e
  cases h : inD x y with
  | some j =>
    rw [h] at e
    cases e
    exact .inl (cs_in a b H x y k O Q v1 v2 h q)
  | none =>
    rw [h] at e
    obtain ⟨i, j, e1, e2, e3⟩ := inS_of v1 v2 (show inS x y = some k from e)
    exact .inr ⟨i, j, e1, e2, by subst e3; exact q⟩
end
end L2.VL
end
section
set_option Elab.async false
set_option linter.all false
set_option maxRecDepth 100000
namespace L2.VL
open PySem PySem.Spec PyProof.Rows
inductive PairsAt (K : PySem.W.Frag) (H : Hp) : List V → List (Int × Int) → Prop
  | nil : PairsAt K H [] []
  | cons {t : Addr} {a b : Int} {xs : List V} {ps : List (Int × Int)} : SqT K H t [.int a, .int b] → PairsAt K H xs ps → PairsAt K H (.ref t :: xs) ((a, b) :: ps)
/-- the pair that stands at a reference -/
def pairIn (h : Heap) (u : Value) : Int × Int := match u with
  | .ref t => match h.get? t with
    | some o => match o.data with
      | .seq its _ => match its.toList with
        | [.int a _, .int b _] => (a, b)
        | _ => (0, 0)
      | _ => (0, 0)
    | none => (0, 0)
  | _ => (0, 0)
def lexLe (p q : Int × Int) : Bool := !SrtO.lexB q p
def rSortP (K : PySem.W.Frag) : List V → Hp → VK → Prop := fun vs H Q => ∃ (a : Addr) (xs : List V) (ps : List (Int × Int)), vs = [V.ref a] ∧ SqL K H a xs ∧ PairsAt K H xs ps ∧
  ∀ (zs : List (V × (Int × Int))) (p : Addr), zs.Perm (xs.zip ps) → (zs.map (·.2)).Pairwise (fun u v => lexLe u v = true) → H p = none → Q (.ref p) (upd H p (.lst (zs.map (·.1))))
section
variable {X : Cx} {pins : List (Addr × Obj)} {σ : St} {H : Hp} {s : Shared}
theorem pairs_in (I : Inv X pins σ H s) : ∀ {xs : List V} {ps : List (Int × Int)} {us : List Value}, PairsAt X.K H xs ps → Vals xs us →
    xs.zip ps = us.map (fun u => (backV u, pairIn s.heap u)) ∧ xs = us.map backV ∧ ∀ u ∈ us, Srt.IsPair s.heap u (pairIn s.heap u).1 (pairIn s.heap u).2 ∧ ∃ a, u = .ref a
  | _, _, _, .nil, .nil => ⟨rfl, rfl, fun u hu => (nomatch hu)⟩
  | _, _, _ :: us, .cons (t := t) (a := a) (b := b) h1 h2, .cons r rr => by
    cases r
    obtain ⟨e1, e2, e3⟩ := pairs_in I h2 rr
    obtain ⟨its, r1, ⟨o, ho, hc, n, hd⟩, _⟩ := I.tuple h1
    obtain ⟨k1, k2, rfl⟩ := vals_pair r1
    have pe : pairIn s.heap (.ref t) = (a, b) := by
      unfold pairIn
      dsimp only
      rw [ho]
      dsimp only
      rw [hd]
    refine ⟨?_, ?_, fun u hu => ?_⟩
    · rw [List.zip_cons_cons, List.map_cons, e1, pe]
      rfl
    · rw [List.map_cons, ← e2]
      rfl
    · rcases List.mem_cons.mp hu with e | e
      · subst e
        rw [pe]
        exact ⟨⟨t, o, k1, k2, n, rfl, ho, hc, hd⟩, t, rfl⟩
      · exact e3 u e
theorem cr_sortP : CallR X (.builtin "sorted") (rSortP X.K) := by
  intro pins s σ H vs us Q I r h
  obtain ⟨a, xs, ps, rfl, hs, hx, q⟩ := h
  obtain ⟨its, rv, hl, hz⟩ := I.list hs
  obtain ⟨u, rfl, ru⟩ := vals1 r
  obtain rfl : u = Value.ref a := ru
  obtain ⟨e1, e2, e3⟩ := pairs_in I hx rv
  refine SrtO.sorted_pairsO (k := pairIn s.heap) hl.isList (by rw [← rv.length]; exact hz) (fun v hv => (e3 v hv).1) fun h' d out h1 h2 kp hd hn => ?_
  obtain ⟨n, hn⟩ := hn
  have h3 : ∀ u ∈ out, ∃ a, u = Value.ref a := fun u hu => (e3 u (h2.perm.mem_iff.mp hu)).2
  have pz : (out.map fun u => (backV u, pairIn s.heap u)).Perm (xs.zip ps) := by
    rw [e1]
    exact h2.perm.map _
  have sz : ((out.map fun u => (backV u, pairIn s.heap u)).map (·.2)).Pairwise (fun u v => lexLe u v = true) := by
    rw [List.map_map, List.pairwise_map]
    refine List.Pairwise.imp ?_ h1
    intro x y hxy
    unfold lexLe
    show (!SrtO.lexB (pairIn s.heap y) (pairIn s.heap x)) = true
    rw [show SrtO.lexB (pairIn s.heap y) (pairIn s.heap x) = false from hxy]
    rfl
  have q' := q _ d pz sz (I.hok.fresh hd)
  have e4 : (out.map fun u => (backV u, pairIn s.heap u)).map (·.1) = out.map backV := by
    rw [List.map_map]
    rfl
  rw [e4] at q'
  refine ⟨.ref d, upd H d (.lst (out.map backV)), I.laid (t' := s.toks) kp hd ⟨?_, out, n, vals_back h3, hn⟩, rfl, q'⟩
  rw [List.length_map, h2.perm.length_eq, ← rv.length]
  exact hz
end
def pairsD : List D → Option (List (Int × Int))
  | [] => some []
  | .tup [.con (.int a), .con (.int b)] :: ds => (pairsD ds).map ((a, b) :: ·)
  | _ => none
abbrev pairD (p : Int × Int) : D := .tup [.con (.int p.1), .con (.int p.2)]
theorem pairsD_of : ∀ {ds : List D} {ps : List (Int × Int)}, pairsD ds = some ps → ds = ps.map pairD
  | [], _, e => by cases e; rfl
  | .tup [.con (.int a), .con (.int b)] :: ds, ps, e => by
    obtain ⟨r, e1, rfl⟩ := Option.map_eq_some_iff.mp (show (pairsD ds).map ((a, b) :: ·) = some ps from e)
    rw [List.map_cons, ← pairsD_of e1]
def sortP (ps : List (Int × Int)) : List (Int × Int) := ps.mergeSort lexLe
theorem lexLe_iff {p q : Int × Int} : lexLe p q = true ↔ p.1 < q.1 ∨ (p.1 = q.1 ∧ p.2 ≤ q.2) := by
  unfold lexLe
  rw [Bool.not_eq_true', SrtO.lexB_no]
  omega
theorem sortP_unique {ps zs : List (Int × Int)} (hp : zs.Perm ps) (hs : zs.Pairwise fun u v => lexLe u v = true) : zs = sortP ps := by
  have p := List.mergeSort_perm ps lexLe
  have s2 := List.pairwise_mergeSort (le := lexLe) (fun a b c h1 h2 => by rw [lexLe_iff] at *; omega) (fun a b => by
    rw [Bool.or_eq_true, lexLe_iff, lexLe_iff]; omega) ps
  refine List.Perm.eq_of_pairwise (fun a b _ _ h1 h2 => ?_) hs s2 (hp.trans p.symm)
  rw [lexLe_iff] at h1 h2
  exact Prod.ext (by omega) (by omega)
theorem Rep.tupAt {K : PySem.W.Frag} {H : Hp} {L : Addr → Prop} {v : V} {ds : List D} (h : Rep K H L v (.tup ds)) : ∃ a vs, v = .ref a ∧ SqT K H a vs ∧ Reps K H L vs ds := by
  cases h with
  | obj n r c =>
    cases c with
    | tup q => exact ⟨_, _, rfl, .inl r, q⟩
  | kt k q => exact ⟨_, _, rfl, .inr k, q⟩
theorem reps_pairs {K : PySem.W.Frag} {H : Hp} {L : Addr → Prop} : ∀ {xs : List V} {ps : List (Int × Int)}, Reps K H L xs (ps.map pairD) → PairsAt K H xs ps ∧ ∀ z ∈ xs.zip ps, Rep K H L z.1 (pairD z.2)
  | _, [], .nil => ⟨.nil, fun z hz => (nomatch hz)⟩
  | _, (a, b) :: ps, .cons c1 c2 => by
    obtain ⟨h1, h2⟩ := reps_pairs c2
    obtain ⟨t, vs, rfl, s1, r1⟩ := Rep.tupAt c1
    have e1 := Reps.con_inv (f := V.int) (xs := [a, b]) r1
    rw [e1] at s1
    refine ⟨.cons s1 h1, fun z hz => ?_⟩
    rw [List.zip_cons_cons] at hz
    rcases List.mem_cons.mp hz with e | e
    · subst e; exact c1
    · exact h2 z e
theorem reps_of {K : PySem.W.Frag} {H : Hp} {L : Addr → Prop} : ∀ {zs : List (V × (Int × Int))}, (∀ z ∈ zs, Rep K H L z.1 (pairD z.2)) → Reps K H L (zs.map (·.1)) ((zs.map (·.2)).map pairD)
  | [], _ => .nil
  | z :: zs, h => .cons (h z List.mem_cons_self) (reps_of fun w hw => h w (List.mem_cons_of_mem _ hw))
def sortPD (ds : List D) : Option (D × Kd) := match ds with
  | [.lst xs] => (pairsD xs).map fun ps => (.lst ((sortP ps).map pairD), .fr)
  | _ => none
theorem zip_snd {α β : Type} : ∀ {xs : List α} {ys : List β}, xs.length = ys.length → (xs.zip ys).map (·.2) = ys
  | [], [], _ => rfl
  | x :: xs, y :: ys, h => by
    rw [List.zip_cons_cons, List.map_cons, zip_snd (Nat.succ.inj h)]
theorem PairsAt.len {K : PySem.W.Frag} {H : Hp} : ∀ {xs : List V} {ps : List (Int × Int)}, PairsAt K H xs ps → xs.length = ps.length
  | _, _, .nil => rfl
  | _, _, .cons _ h => congrArg Nat.succ h.len
theorem os_sortP {K : PySem.W.Frag} : OpS K (rSortP K) sortPD := by
  intro G O σ H ρ vs ds z Q hK R w e q
  unfold sortPD at e
  split at e
  · obtain ⟨ps, e1, rfl⟩ := Option.map_eq_some_iff.mp e
    obtain ⟨v, rfl, v1⟩ := w.one
    obtain ⟨a1, us, rfl, s1, r1⟩ := v1.lst
    rw [pairsD_of e1] at r1
    obtain ⟨h1, h2⟩ := reps_pairs r1
    refine ⟨a1, us, ps, rfl, s1, h1, fun zs p hp hs hl => ?_⟩
    have e2 : zs.map (·.2) = sortP ps := by
      refine sortP_unique ?_ hs
      have := hp.map (fun z : V × (Int × Int) => z.2)
      rwa [zip_snd h1.len] at this
    have r2 := reps_of (K := K) (H := H) (L := lin O) (zs := zs) fun z hz => h2 z (hp.mem_iff.mp hz)
    rw [e2, ← hK] at r2
    obtain ⟨O4, R4⟩ := R.fresh (d := .lst ((sortP ps).map pairD)) hl (.lst r2)
    exact q O4 _ _ R4
  · cases e
def sortA (ds : List D) : Option (D × Kd) := (sortedD ds).or (sortPD ds)
theorem OpS.or {K : PySem.W.Frag} {r1 r2 : List V → Hp → VK → Prop} {g1 g2 : List D → Option (D × Kd)} (h1 : OpS K r1 g1) (h2 : OpS K r2 g2) : OpS K (fun vs H Q => r1 vs H Q ∨ r2 vs H Q) fun ds => (g1 ds).or (g2 ds) := by
  intro G O σ H ρ vs ds z Q hK R w e q
  dsimp only at e
  cases h : g1 ds with
  | some y =>
    rw [h] at e
    cases e
    exact .inl (h1 G O σ H ρ vs ds _ Q hK R w h q)
  | none =>
    rw [h] at e
    exact .inr (h2 G O σ H ρ vs ds z Q hK R w e q)
abbrev rSortA (K : PySem.W.Frag) : List V → Hp → VK → Prop := fun vs H Q => rSortedI K vs H Q ∨ rSortP K vs H Q
theorem os_sortA {K : PySem.W.Frag} : OpS K (rSortA K) sortA := OpS.or os_sorted os_sortP
theorem cr_sortA {X : Cx} : CallR X (.builtin "sorted") (rSortA X.K) := fun pins s σ H vs us Q I r h => by
  rcases h with h | h
  · exact cr_sortedI pins s σ H vs us Q I r h
  · exact cr_sortP pins s σ H vs us Q I r h
end L2.VL
end
section
set_option Elab.async false
set_option linter.all false
set_option maxRecDepth 100000
namespace L2.VL
open PySem PySem.Spec PyProof.Rows
end L2.VL
end
section
set_option Elab.async false
set_option linter.all false
set_option maxRecDepth 100000
namespace L2.VL
open PySem PySem.Spec PyProof.Rows
end L2.VL
end
section
set_option Elab.async false
set_option linter.all false
set_option maxRecDepth 100000
namespace L2.VL
open PySem PySem.Spec PyProof.Rows
section
variable {α : Type} {own : List Nat} {t : Tg} {q : M Bool} {r : DE} {xs : List D} {ρ : Rho} {V1 : D × Kd → Rho → Prop} {E : Exn → Rho → Prop}
theorem rng_map (lo : Int) (n : Nat) : rngD lo n = (List.range n).map fun (k : Nat) => D.int (lo + k) := rfl
theorem zip_map {α β : Type} (f : α → D) (g : β → D) (as : List α) (bs : List β) : (((as.map f).zip (bs.map g)).map fun p => D.tup [p.1, p.2]) = (as.zip bs).map fun p => D.tup [f p.1, g p.2] := by
  rw [List.zip_map, List.map_map]
  rfl
theorem sameV_self (v : V) (n : Nat) (h : okD n (.con v) = true) : sameV v v = true := by
  cases v <;> first | rfl | (simp [sameV]; done) | (simp [okD] at h; done) | (cases n <;> simp [okD] at h)
mutual
theorem same_self : ∀ (d : D) (n : Nat), okD n d = true → VL.same d d = true
  | .con v, n, h => sameV_self v n h
  | .lst xs, 0, h => by simp [okD] at h
  | .tup xs, 0, h => by simp [okD] at h
  | .lst xs, n + 1, h => by unfold okD at h; exact sameL_self xs n h
  | .tup xs, n + 1, h => by unfold okD at h; exact sameL_self xs n h
  | .dic _, n, h => by cases n <;> simp [okD] at h
  | .dit _, n, h => by cases n <;> simp [okD] at h
  | .own _, n, h => by cases n <;> simp [okD] at h
  | .exv _, n, h => by cases n <;> simp [okD] at h
  | .tre _, n, h => by cases n <;> simp [okD] at h
  | .dix _, n, h => by cases n <;> simp [okD] at h
  | .fnv _ _ _, n, h => by cases n <;> simp [okD] at h
theorem sameL_self : ∀ (xs : List D) (n : Nat), xs.all (okD n) = true → sameL xs xs = true
  | [], _, _ => rfl
  | x :: xs, n, h => by
    rw [List.all_cons, Bool.and_eq_true] at h
    show (VL.same x x && sameL xs xs) = true
    rw [same_self x n h.1, sameL_self xs n h.2]
    rfl
end
def cutL {α : Type} (as : List α) (lo hi : Option Int) : List α := (as.drop (HT.sIx as.length 0 lo)).take (HT.sIx as.length as.length hi - HT.sIx as.length 0 lo)
theorem cutD_map (f : α → D) (as : List α) (lo hi : Option Int) : cutD (as.map f) lo hi = (cutL as lo hi).map f := by
  unfold cutD cutL
  rw [List.length_map, ← List.map_drop, ← List.map_take]
theorem okL_fs {cs : List Nat} (h : ∀ c ∈ cs, c < 0x110000) (n : Nat) : okD n (.con (.str ⟨cs.toArray⟩)) = true := by
  have : PyData.strOk ⟨cs.toArray⟩ = true := by
    unfold PyData.strOk
    simp only [List.all_toArray, List.all_eq_true, decide_eq_true_eq]
    exact h
  cases n <;> exact this
theorem okL_map {α : Type} {f : α → D} (as : List α) (n : Nat) (h : ∀ a ∈ as, okD n (f a) = true) : okD (n + 1) (.lst (as.map f)) = true := by
  unfold okD
  rw [List.all_eq_true]
  intro d hd
  obtain ⟨a, ha, rfl⟩ := List.mem_map.mp hd
  exact h a ha
end
end L2.VL
end
section
set_option Elab.async false
set_option linter.all false
set_option maxRecDepth 100000
namespace L2.VL
open PySem PySem.Spec PyProof.Rows
section
variable {X : Cx} {pos : Pos}
def keyD (d : D) : Option Key := match d with
  | .con (.int i) => some (.inl i)
  | .con (.str s) => some (.inr s)
  | _ => none
def findK (kvs : List (Key × D)) (k : Key) : Option D := (kvs.find? fun kv => decide (kv.1 = k)).map (·.2)
theorem Vw.dic {K : PySem.W.Frag} {H : Hp} {O : Own} {v : V} {ds : List (Key × D)} (h : Vw K H O v (.dic ds)) : ∃ a vs, v = .ref a ∧ Rd H a (.dK vs) ∧ RepK K H (lin O) vs ds := by
  rcases h with h | ⟨a, ho, e, h1, c⟩ | ⟨_, _, _, z⟩
  · cases h with
    | obj n r c =>
      cases c with
      | dic q => exact ⟨_, _, rfl, r, q⟩
  · cases c with
    | dic q => exact ⟨a, _, e, .inl h1, q⟩
  · cases z
end
end L2.VL
end
section
set_option Elab.async false
set_option linter.all false
set_option maxRecDepth 100000
namespace L2.VL
open PySem PySem.Spec PyProof.Rows
end L2.VL
end
section
set_option Elab.async false
set_option linter.all false
set_option maxRecDepth 100000
namespace L2.VL
open PySem PySem.Spec PyProof.Rows
def repS (s : Str) (n : Nat) : Str := ⟨(List.replicate n s.cps.toList).flatten.toArray⟩
def rMulS : R2 := fun x y H Q => ∃ s k, x = .str s ∧ y = .int k ∧ 0 ≤ k ∧ k ≤ 1000 ∧ s.length ≤ 1000 ∧ Q (.str (repS s k.toNat)) H
theorem foldl_app (n : Nat) (a : Array Nat) (acc : Array Nat) : (List.replicate n a).foldl (· ++ ·) acc = acc ++ (List.replicate n a.toList).flatten.toArray := by
  induction n generalizing acc with
  | zero => simp
  | succ n ih =>
    rw [List.replicate_succ, List.foldl_cons, ih, List.replicate_succ, List.flatten_cons]
    apply Array.toList_inj.mp
    simp
theorem op_mulS {X : Cx} : OpR X (binaryOp .Mult) rMulS := by
  intro pins s σ H x y v u Q I rx ry h
  obtain ⟨z, k, rfl, rfl, h0, h1, hl, q⟩ := h
  obtain ⟨t1, rfl⟩ := rx
  obtain ⟨t2, rfl⟩ := ry
  refine P.mul_str (by simp; omega) (fun a b => ?_) (fun a b => ?_) ?_
  · have hk : 0 < k := by omega
    have : (9223372036854775807 : Int) / k ≥ 9223372036854775 := by
      refine Int.le_ediv_of_mul_le hk ?_
      have : (9223372036854775 : Int) * k ≤ 9223372036854775 * 1000 := by omega
      omega
    have e : ((2 : Int) ^ 63 - 1) = 9223372036854775807 := by decide
    rw [e]
    omega
  · have : z.length * k.toNat ≤ 1000 * 1000 := Nat.mul_le_mul hl (by omega)
    unfold Builtin.Str.tooLong
    rw [decide_eq_false_iff_not]
    have e := sizeLine_eq
    omega
  · by_cases a : k < 1
    · rw [if_pos a]
      have : k = 0 := by omega
      subst this
      exact ⟨by decide, .str Str.empty, _, I.tok _, ⟨_, rfl⟩, q⟩
    · rw [if_neg a]
      by_cases b : (k == 1 || z.length == 0) = true
      · rw [if_pos b]
        refine ⟨.str z, H, I, ⟨_, rfl⟩, ?_⟩
        have e : repS z k.toNat = z := by
          rw [Bool.or_eq_true] at b
          unfold repS
          rcases b with b | b
          · have : k = 1 := by simpa using b
            subst this
            simp
          · have b : z.cps.size = 0 := by have b : (z.length == 0) = true := b; exact eq_of_beq b
            have : z.cps = #[] := Array.eq_empty_of_size_eq_zero b
            have e2 : (List.replicate k.toNat ([] : List Nat)).flatten = [] := by simp
            cases z
            simp at this
            subst this
            simp
        rw [e] at q
        exact q
      · rw [if_neg b]
        refine ⟨?_, .str _, _, I.tok _, ⟨_, rfl⟩, ?_⟩
        · show (_ : Array Nat).size ≤ _
          rw [foldl_app]
          rw [Array.empty_append, List.size_toArray, List.length_flatten, List.map_replicate, List.sum_replicate_nat]
          have : k.toNat * z.cps.toList.length ≤ 1000 * 1000 := Nat.mul_le_mul (by omega) hl
          have e := sizeLine_eq
          omega
        · rw [foldl_app]
          simpa [repS] using q
def mulSD (x y : D) : Option (D × Kd) := match x, y with
  | .con (.str s), .con (.int k) => if 0 ≤ k ∧ k ≤ 1000 ∧ s.length ≤ 1000 then some (.con (.str (repS s k.toNat)), .shr) else none
  | _, _ => none
theorem os_mulS {K : PySem.W.Frag} : OpS2 K rMulS mulSD := by
  intro G O σ H ρ a b x y z Q hK R v1 v2 e q
  unfold mulSD at e
  split at e
  · rename_i s k
    split at e
    · rename_i h
      cases e
      rw [v1.con, v2.con]
      exact ⟨s, k, rfl, rfl, h.1, h.2.1, h.2.2, q O _ H (R.con _)⟩
    · cases e
  · cases e
def mulT (x y : D) : Option (D × Kd) := (mulA x y).or (mulSD x y)
theorem op_mulT {X : Cx} : OpR X (binaryOp .Mult) fun x y H Q => rMulA X.K x y H Q ∨ rMulS x y H Q := OpR.or op_mulA op_mulS
theorem os_mulT {K : PySem.W.Frag} : OpS2 K (fun x y H Q => rMulA K x y H Q ∨ rMulS x y H Q) mulT := OpS2.or os_mulA os_mulS
end L2.VL
end
section
set_option Elab.async false
set_option linter.all false
set_option maxRecDepth 100000
namespace L2.VL
open PySem PySem.Spec PyProof.Rows
end L2.VL
end
section
set_option Elab.async false
set_option linter.all false
set_option maxRecDepth 100000
namespace L2.VL
open PySem PySem.Spec PyProof.Rows
def tBor (q : M Bool) : M Bool := fun ρ => match q (ρ.map lent) with
  | .ok b _ => .ok b ρ
  | _ => .stuck
theorem st_bor {X : Cx} {e : Expr} {q : M Bool} (h : ST X e q) : ST X e (tBor q) := fun W tk => PT.imp (h W tk) fun σ H Q ⟨G, O, ρ, hK, R, h⟩ => by
  refine ⟨(frzT G.K H G.Pin), _, _, hK, R.lend, ?_⟩
  unfold tBor at h
  have key : (q (ρ.map lent)).post (fun b ρ' => ∀ O' H', Rel G O' σ H' ρ [] → Q b H') fun _ _ => False := by
    cases e1 : q (ρ.map lent) with
    | stuck => rw [e1] at h; exact h.elim
    | ex x ρ' => rw [e1] at h; exact h.elim
    | ok b ρ' => rw [e1] at h; exact h
  exact Res.post_mono key (fun b ρ1 q O1 H1 R1 => q O H1 (R.unlend (v := .non) (c := .non) R1).nil) fun _ _ z => z.elim
end L2.VL
end
section
set_option Elab.async false
set_option linter.all false
set_option maxRecDepth 100000
namespace L2.VL
open PySem PySem.Spec PyProof.Rows
def hidG (G : Fix) (a : Addr) (o : HO) : Fix :=
  { K := G.K, Fr := fun b => if b = a ∧ G.Tb b = none then some o else G.Fr b, Out := fun b => b = a ∨ G.Out b, Pin := G.Pin, tbo := fun P q h => by
        have h : G.Tb P = some q := h
        exact ⟨.inr (G.tbo P q h).1, by rw [if_neg (fun z => by rw [h] at z; cases z.2)]; exact (G.tbo P q h).2⟩ }
theorem hidG_ne {G : Fix} {a b : Addr} {o : HO} (z : b ≠ a) : (hidG G a o).Fr b = G.Fr b := if_neg fun y => z y.1
theorem hidG_eq {G : Fix} {a : Addr} {o : HO} (z : G.Tb a = none) : (hidG G a o).Fr a = some o := if_pos ⟨rfl, z⟩
section
variable {G : Fix} {O : Own} {σ : St} {H : Hp} {ρ : Rho} {T : List Tmp} {a : Addr} {o o' : HO}
theorem Rel.hid (R : Rel G O σ H ρ T) (ha : H a = none) : Rel (hidG G a o) (oset O a (some .out)) σ (upd H a o) ρ T := by
  have oa : O a = none := R.lout a ha
  have nt : G.Tb a = none := tb_ne R (by rw [oa]; simp)
  have na : ∀ {b : Addr} {u : HO}, H b = some u → b ≠ a := fun e z => by rw [z, ha] at e; cases e
  have up : ∀ {b : Addr} {u : HO}, H b = some u → upd H a o b = some u := fun e => by rw [upd_ne (na e)]; exact e
  have st : Stay H (upd H a o) (lin O) (lin (oset O a (some .out))) := fun b u n e => ⟨up e, by
    unfold lin; rw [oset_ne (na e)]; exact n⟩
  refine ⟨R.len, fun b u e => ?_, fun b => ?_, fun b w e => ?_, R.pn, fun i s e => ?_, ?_⟩
  · by_cases z : b = a
    · rw [z, hidG_eq nt] at e
      cases e
      exact ⟨by unfold upd; rw [if_pos z], .inr (oset_eq z)⟩
    · rw [hidG_ne z] at e
      obtain ⟨p, q⟩ := R.fr b u e
      exact ⟨up p, by rw [oset_ne z]; exact q⟩
  · by_cases z : b = a
    · rw [oset_eq z]
      exact ⟨fun _ => .inl z, fun _ => rfl⟩
    · rw [oset_ne z]
      exact ⟨fun h => .inr ((R.ot b).mp h), fun h => (R.ot b).mpr (h.resolve_left z)⟩
  · by_cases z : b = a
    · subst z; exact ⟨⟨o, upd_same⟩, fun q hq => by rw [show G.Tb b = some q from hq] at nt; cases nt⟩
    · rw [oset_ne z] at e
      exact (R.tr b w e).fresh ha
  · obtain ⟨v, p, q⟩ := R.sl i s e
    exact ⟨v, p, slot_mono st (fun b u e1 e2 => ⟨by rw [oset_ne (na e2)]; exact e1, up e2⟩) q⟩
  · exact tmps_mono st (fun b u n _ e1 e2 => ⟨by rw [oset_ne (na e2)]; exact e1, up e2⟩) R.tm
theorem Rel.hidAt (R : Rel (hidG G a o) O σ H ρ T) (nt : G.Tb a = none) : H a = some o ∧ O a = some .out :=
  ⟨(R.fr a o (hidG_eq nt)).1, (R.ot a).mpr (.inl rfl)⟩
theorem Rel.unhid (R : Rel (hidG G a o) O σ H ρ T) (hf : G.Fr a = none) (ho : ¬ G.Out a) : Rel G (oset O a none) σ H ρ T := by
  have nt : G.Tb a = none := by
    cases e : G.Tb a with
    | none => rfl
    | some q => exact absurd (G.tbo a q e).1 ho
  obtain ⟨h1, h2⟩ := R.hidAt nt
  have st : Stay H H (lin O) (lin (oset O a none)) := fun b u n e => ⟨e, by
    unfold lin
    by_cases z : b = a
    · rw [oset_eq z]; simp
    · rw [oset_ne z]; exact n⟩
  refine ⟨R.len, fun b u e => ?_, fun b => ?_, fun b w e => ?_, R.pn, fun i s e => ?_, ?_⟩
  · have z : b ≠ a := fun z => by rw [z, hf] at e; cases e
    obtain ⟨p, q⟩ := R.fr b u (by rw [hidG_ne z]; exact e)
    exact ⟨p, by rw [oset_ne z]; exact q⟩
  · by_cases z : b = a
    · rw [oset_eq z]
      exact ⟨fun h => (by cases h), fun h => absurd (by rw [← z]; exact h) ho⟩
    · rw [oset_ne z]
      exact ⟨fun h => ((R.ot b).mp h).resolve_left z, fun h => (R.ot b).mpr (.inr h)⟩
  · by_cases z : b = a
    · rw [oset_eq z] at e; cases e
    · rw [oset_ne z] at e
      exact R.tr b w e
  · obtain ⟨v, p, q⟩ := R.sl i s e
    exact ⟨v, p, slot_mono st (fun b u e1 e2 => ⟨by rw [oset_ne (fun z => by rw [z, h2] at e1; cases e1)]; exact e1, e2⟩) q⟩
  · exact tmps_mono st (fun b u n _ e1 e2 => ⟨by rw [oset_ne (fun z => by rw [z, h2] at e1; cases e1)]; exact e1, e2⟩) R.tm
end
end L2.VL
end
section
set_option Elab.async false
set_option linter.all false
set_option maxRecDepth 100000
set_option maxHeartbeats 2000000
namespace L2.VL
open PySem PySem.Spec PyProof.Rows L2 PpSet
section
variable {X : Cx}
variable {elt tg iter : Expr} {ifs : List Expr} {scope : Scope} {own : List (Str × Nat)} {pos : Pos} {wi : TI} {g : TG} {tt : TT} {te : TE}
/-- sorted(a set of ints), any number of members -/
def rSortSI (w : World) : List V → Hp → VK → Prop := fun vs H Q => ∃ (a : Addr) (S : Int → Bool) (n : Nat), vs = [V.ref a] ∧ H a = some (SetO w a S n) ∧
  ∀ (ns : List Int) (p : Addr), ns.Pairwise (· < ·) → (∀ k : Int, k ∈ ns ↔ S k = true) → ns.length = n → H p = none → Q (.ref p) (upd H p (.lst (ns.map V.int)))
theorem sorted_setI {P : Program} {w : World} {A : Around} {E : Value → Shared → Prop} {s : Shared} {a : Addr} {S : Int → Bool} {n : Nat} {Q : Value → Shared → Prop} (R : SetR w s.heap a S n) (calm : A.handled = none)
    (h : ∀ s' p (out : Array Value) (c : Nat) (ns : List Int), (∀ b o, s.heap.get? b = some o → s'.heap.get? b = some o) → s'.gens = s.gens → s'.os = s.os → s.heap.objs.size ≤ p →
      s'.heap.get? p = some (seqObj "list" out c) → IntsAre out.toList ns → ns.Pairwise (· < ·) → (∀ k, k ∈ ns ↔ S k = true) → ns.length = n → Q (.ref p) s') :
    wpAny (model P w) A (call (.builtin "sorted") [.ref a]) Q E s := by
  obtain ⟨o, es, ep, t, ho, ex, hd, good, nd, mem, lt, fits, en, ris, led⟩ := R
  refine Calls.call_function_entry kind_sorted plain_sorted entry_sorted (args_sorted1 _) ?_
  unfold Builtin.«sorted»
  refine wpAny_bind (m := checkCount "sorted" 1 1 _) (wpAny_pure (wpAny_bind ?_))
  refine collect_set (A := A.in1) calm ⟨o, ho, ex.1, hd⟩ fits lt ris led fun s1 vs keep big gs os pm => ?_
  have all : IntsAre vs (vs.map SrtO.iv) := SrtO.ints_iv fun v hv => by
    obtain ⟨e, he, rfl⟩ := List.mem_map.mp (pm.mem_iff.mp hv)
    obtain ⟨k, tk, ek, _⟩ := good e he
    exact ⟨k, tk, ek⟩
  have keys : (vs.map SrtO.iv).Perm (es.toList.map keyOf) := by
    have z := pm.map SrtO.iv
    rw [List.map_map] at z
    exact z
  have len : vs.length = n := by rw [← en, pm.length_eq, List.length_map, Array.length_toList]
  have short : vs.length ≤ sizeLine := by rw [len, sizeLine_eq]; unfold scanBound at lt; omega
  refine wpAny_bind (wpAny_newList ?_ short)
  have at1 : (s1.heap.push (seqObj "list" vs.toArray 0)).get? s1.heap.objs.size = some (seqObj "list" vs.toArray 0) := Heap.get?_push_size _ rfl
  refine wpAny_bind (wpAny_holding (wpAny_call_entry slot_list_sort ⟨_, at1, rfl⟩ entry_list_sort (SrtO.list_sort_ord SrtO.swo_int at1 short (fun two => SrtO.ints_sortable all two) fun out so st => ⟨_, rfl, ?_⟩) (args_list_sort _)))
  obtain ⟨i1, i2, i3⟩ := SrtO.ints_out all so st
  obtain ⟨c, hc⟩ := sortedHeap_at (vs := vs) (out := out.toArray) at1
  have pk := i2.trans keys
  refine wpAny_pure ⟨_, rfl, h _ s1.heap.objs.size out.toArray c (out.map SrtO.iv) (fun b u e => ?_) gs os big hc (by simpa using i1) (lt_of_le_nodup _ i3 (pk.nodup_iff.mpr nd)) (fun k => by rw [pk.mem_iff, ← mem k]) (by rw [pk.length_eq, List.length_map, Array.length_toList]; exact en)⟩
  · have u1 := keep b u e
    have u2 := Heap.lt_size u1
    show (sortedHeap (s1.heap.push (seqObj "list" vs.toArray 0)) s1.heap.objs.size vs out.toArray).get? b = some u
    rw [sortedHeap_old (Nat.ne_of_lt u2) (by rw [size_push']; exact Nat.lt_succ_of_lt u2)]
    exact Heap.get?_push_of_some _ u1
theorem cr_sortSI (hc : X.calm = true) : CallR X (.builtin "sorted") (rSortSI X.w) := by
  intro pins s σ H vs us Q I r hq
  obtain ⟨a, S, n, rfl, ha, q⟩ := hq
  have R := setO_get I ha
  have small : n ≤ sizeLine := by
    obtain ⟨_, es, _, _, _, _, _, _, _, _, lt, _, en, _⟩ := R
    rw [sizeLine_eq, ← en]
    unfold scanBound at lt
    omega
  rw [Vals.ref1 r]
  refine sorted_setI R (I.ok.hd hc) fun s' p out c ns keep gs os big at1 inz rise mem len => ?_
  have np : H p = none := I.hok.fresh big
  have es : s' = { s with heap := s'.heap, gens := s'.gens, drawn := s'.drawn, toks := s'.toks } := by
    obtain ⟨h1, g1, d1, t1, o1⟩ := s'
    cases os
    rfl
  refine ⟨.ref p, upd H p (.lst (ns.map V.int)), ?_, rfl, q ns p rise mem len np⟩
  rw [es]
  exact I.call (ch := []) (Un.laid keep big np) (I.hok.laid keep big ⟨by rw [List.length_map, len]; exact small, out.toList, c, vals_of_ints inz, at1⟩) (by rw [gs]; exact I.bare) (fun _ z => nomatch z)
end
end L2.VL
end
section
set_option Elab.async false
set_option linter.all false
set_option maxRecDepth 100000
namespace L2.VL
open PySem PySem.Spec PyProof.Rows L2
/-- each number once, as first met -/
def nubI (ns : List Int) : List Int := ns.foldl (fun l k => if k ∈ l then l else l ++ [k]) []
theorem nubI_snoc (ns : List Int) (k : Int) : nubI (ns ++ [k]) = if k ∈ nubI ns then nubI ns else nubI ns ++ [k] := by
  unfold nubI
  rw [List.foldl_append]
  rfl
theorem snoc_ind {α : Type} {P : List α → Prop} (h0 : P []) (h1 : ∀ l a, P l → P (l ++ [a])) (l : List α) : P l := by
  rw [← List.reverse_reverse l]
  generalize l.reverse = r
  induction r with
  | nil => exact h0
  | cons a r ih => rw [List.reverse_cons]; exact h1 _ a ih
theorem nubI_mem (ns : List Int) : ∀ k, k ∈ nubI ns ↔ k ∈ ns := by
  refine snoc_ind (P := fun ns => ∀ k, k ∈ nubI ns ↔ k ∈ ns) (fun k => Iff.rfl) (fun l a ih k => ?_) ns
  rw [nubI_snoc]
  by_cases h : a ∈ nubI l
  · rw [if_pos h, ih, List.mem_append, List.mem_singleton]
    exact ⟨.inl, fun z => z.elim id fun e => by rw [e]; exact (ih a).mp h⟩
  · rw [if_neg h, List.mem_append, List.mem_append, ih]
def memS (ns : List Int) : Int → Bool := fun k => decide (k ∈ ns)
/-- rising lists with the same members are the same -/
theorem rise_uniq : ∀ {xs ys : List Int}, xs.Pairwise (· < ·) → ys.Pairwise (· < ·) → (∀ k, k ∈ xs ↔ k ∈ ys) → xs = ys
  | [], [], _, _, _ => rfl
  | [], y :: ys, _, _, h => absurd ((h y).mpr List.mem_cons_self) (by simp)
  | x :: xs, [], _, _, h => absurd ((h x).mp List.mem_cons_self) (by simp)
  | x :: xs, y :: ys, hx, hy, h => by
    obtain ⟨a1, a2⟩ := List.pairwise_cons.mp hx
    obtain ⟨b1, b2⟩ := List.pairwise_cons.mp hy
    have e : x = y := by
      rcases List.mem_cons.mp ((h x).mp List.mem_cons_self) with z | z
      · exact z
      · rcases List.mem_cons.mp ((h y).mpr List.mem_cons_self) with w | w
        · exact w.symm
        · have := b1 x z
          have := a1 y w
          omega
    subst e
    rw [rise_uniq a2 b2 fun k => ?_]
    constructor
    · intro q
      rcases List.mem_cons.mp ((h k).mp (List.mem_cons_of_mem _ q)) with z | z
      · have := a1 k q
        omega
      · exact z
    · intro q
      rcases List.mem_cons.mp ((h k).mpr (List.mem_cons_of_mem _ q)) with z | z
      · have := b1 k q
        omega
      · exact z
def sortU (ns : List Int) : List Int := (nubI ns).mergeSort fun a b => decide (a ≤ b)
theorem nubI_nodup (ns : List Int) : (nubI ns).Nodup := by
  refine snoc_ind (P := fun ns => (nubI ns).Nodup) List.nodup_nil (fun l a ih => ?_) ns
  rw [nubI_snoc]
  split
  · exact ih
  · rename_i h
    rw [List.nodup_append]
    exact ⟨ih, by simp, fun x hx y hy e => h (by rw [List.mem_singleton] at hy; rw [← hy, ← e]; exact hx)⟩
theorem sortU_mem (ns : List Int) (k : Int) : k ∈ sortU ns ↔ k ∈ ns := by
  unfold sortU
  rw [List.mem_mergeSort, nubI_mem]
theorem sortU_rise (ns : List Int) : (sortU ns).Pairwise (· < ·) := by
  have h1 : (sortU ns).Pairwise (fun a b => decide (a ≤ b) = true) := List.pairwise_mergeSort (fun a b c h1 h2 => by simp only [decide_eq_true_eq] at *; omega) (fun a b => by simp only [Bool.or_eq_true, decide_eq_true_eq]; omega) _
  have h2 : (sortU ns).Nodup := ((List.mergeSort_perm _ _).nodup_iff).mpr (nubI_nodup ns)
  exact List.Pairwise.imp₂ (fun a b h1 h2 => by have := of_decide_eq_true h1; have h2 : a ≠ b := h2; omega) h1 h2
def ssEnd (ds : List D) : Option (D × Kd) := (intsD ds).bind fun ns => if ns.length ≤ 4000 then some (.lst ((sortU ns).map fun n => .con (.int n)), .fr) else none
end L2.VL
end
section
set_option Elab.async false
set_option linter.all false
set_option maxRecDepth 100000
namespace L2.VL
open PySem PySem.Spec PyProof.Rows L2
end L2.VL
end
section
set_option Elab.async false
set_option linter.all false
set_option maxRecDepth 100000
namespace L2.VL
open PySem PySem.Spec PyProof.Rows L2
/-- where k stands first -/
def at1 : List Int → Int → Option Nat
  | [], _ => none
  | a :: r, k => if a = k then some 0 else (at1 r k).map (· + 1)
end L2.VL
end
section
set_option Elab.async false
set_option linter.all false
set_option maxRecDepth 100000
namespace L2.VL
open PySem PySem.Spec PyProof.Rows L2
/-- greater by the first place that differs; of two of which one begins the other, the longer one -/
def lexG : List Int → List Int → Bool
  | [], _ => false
  | _ :: _, [] => true
  | a :: r, b :: s => if a = b then lexG r s else decide (b < a)
theorem first_lexG (f : Nat → Nat) (e r : Nat → Bool) (hf : True) : ∀ (ns ms : List Int) (k : Nat), (∀ j, j < ns.length → j < ms.length → e (k + j) = decide (ns.getD j 0 = ms.getD j 0)) → (∀ j, j < ns.length → j < ms.length → r (k + j) = decide (ms.getD j 0 < ns.getD j 0)) →
    SeqAt.firstLt e r (decide (ns.length > ms.length)) (List.range' k (min ns.length ms.length)) = lexG ns ms
  | [], ms, k, _, _ => by simp [SeqAt.firstLt, lexG]
  | a :: ns, [], k, _, _ => by simp [SeqAt.firstLt, lexG]
  | a :: ns, b :: ms, k, he, hr => by
    have e0 := he 0 (by simp) (by simp)
    have r0 := hr 0 (by simp) (by simp)
    have ih := first_lexG f e r hf ns ms (k + 1) (fun j h1 h2 => by
      have := he (j + 1) (by simp; omega) (by simp; omega)
      rw [show k + 1 + j = k + (j + 1) by omega, this]
      simp) (fun j h1 h2 => by
      have := hr (j + 1) (by simp; omega) (by simp; omega)
      rw [show k + 1 + j = k + (j + 1) by omega, this]
      simp)
    simp only [List.getD_cons_zero, Nat.add_zero] at e0 r0
    rw [show min (a :: ns).length (b :: ms).length = min ns.length ms.length + 1 by simp only [List.length_cons]; omega, List.range'_succ]
    unfold SeqAt.firstLt lexG
    rw [e0, r0]
    by_cases h : a = b
    · rw [if_pos (decide_eq_true h), if_pos h, ← ih]
      congr 1
      rw [decide_eq_decide]
      simp only [List.length_cons]
      omega
    · rw [if_neg (fun z => h (of_decide_eq_true z)), if_neg h]
def rGtL (K : PySem.W.Frag) : R2 := fun x y H Q => ∃ (p p2 : Addr) (ns ms : List Int), x = .ref p ∧ y = .ref p2 ∧ SqL K H p (ns.map V.int) ∧ SqL K H p2 (ms.map V.int) ∧ Q (.bl (lexG ns ms)) H
theorem ints_get : ∀ {vs : List Value} {ns : List Int}, IntsAre vs ns → ∀ (j : Nat) (h : j < vs.length), ∃ t, vs[j] = Value.int (ns.getD j 0) t
  | _, _, .cons n t r, 0, _ => ⟨t, rfl⟩
  | _, _, .cons n t r, j + 1, h => by
    obtain ⟨u, e⟩ := ints_get r j (by simpa using h)
    exact ⟨u, by simpa using e⟩
theorem op_gtL {X : Cx} (hu : X.A.units < cLine) : OpR X (compareOp .Gt) (rGtL X.K) := by
  intro pins s σ H x y v u Q I rx ry h
  obtain ⟨p, p2, ns, ms, rfl, rfl, h1, h2, q⟩ := h
  cases rx
  cases ry
  obtain ⟨us, r1, t1, _⟩ := I.list h1
  obtain ⟨ws, r2, t2, _⟩ := I.list h2
  have i1 := r1.ints
  have i2 := r2.ints
  have l1 : us.length = ns.length := by rw [← r1.length, List.length_map]
  have l2 : ws.length = ms.length := by rw [← r2.length, List.length_map]
  have R := SeqAt.RcOp.lists_gt (A := X.A) (s := s) (e := fun j => decide (ns.getD j 0 = ms.getD j 0)) (r := fun j => decide (ms.getD j 0 < ns.getD j 0)) t1.isList t2.isList hu
    (fun j g1 g2 => by
      obtain ⟨k1, e1⟩ := ints_get i1 j (by simpa using g1)
      obtain ⟨k2, e2⟩ := ints_get i2 j (by simpa using g2)
      simp only [List.getElem_toArray, e1, e2]
      exact eqAt_dec _ _ _ _)
    (fun j g1 g2 _ => by
      obtain ⟨k1, e1⟩ := ints_get i1 j (by simpa using g1)
      obtain ⟨k2, e2⟩ := ints_get i2 j (by simpa using g2)
      simp only [List.getElem_toArray, e1, e2]
      exact fun _ _ _ _ h => PyProof.Rows.gt_int h)
  refine R X.prog X.w X.xe (EP X pins σ Q) ⟨.bl _, H, I, rfl, ?_⟩
  have e := first_lexG id (fun j => decide (ns.getD j 0 = ms.getD j 0)) (fun j => decide (ms.getD j 0 < ns.getD j 0)) trivial ns ms 0 (fun j _ _ => by rw [Nat.zero_add]) (fun j _ _ => by rw [Nat.zero_add])
  rw [← List.range_eq_range'] at e
  rw [show us.toArray.size = ns.length by rw [List.size_toArray]; exact l1, show ws.toArray.size = ms.length by rw [List.size_toArray]; exact l2, e]
  exact q
def gtA (x y : D) : Option Bool := match x, y with
  | .con (.int i), .con (.int j) => some (decide (j < i))
  | .lst xs, .lst ys => (intsD xs).bind fun ns => (intsD ys).map fun ms => lexG ns ms
  | _, _ => none
abbrev rGtA (K : PySem.W.Frag) : R2 := fun x y H Q => rI0 (fun i j => .bl (decide (j < i))) x y H Q ∨ rGtL K x y H Q
theorem op_gtA {X : Cx} {k : Nat} (hr : Room k X.A) : OpR X (compareOp .Gt) (rGtA X.K) := OpR.or op_gt (op_gtL (by have := hr.units; omega))
theorem cs_gtA {K : PySem.W.Frag} : CmpS K (rGtA K) gtA := fun x y H d1 d2 k O Q v1 v2 e q => by
  unfold gtA at e
  split at e
  · cases e
    exact .inl ⟨_, _, v1.con, v2.con, q⟩
  · rename_i xs ys
    obtain ⟨ns, e1, e2⟩ := Option.bind_eq_some_iff.mp e
    obtain ⟨ms, e3, rfl⟩ := Option.map_eq_some_iff.mp e2
    obtain ⟨a1, vs, rfl, s1, r1⟩ := v1.lst
    obtain ⟨a2, us, rfl, s2, r2⟩ := v2.lst
    rw [intsD_of e1] at r1
    rw [intsD_of e3] at r2
    rw [r1.con_inv] at s1
    rw [r2.con_inv] at s2
    exact .inr ⟨a1, a2, _, _, rfl, rfl, s1, s2, q⟩
  · cases e
end L2.VL
end
section
set_option Elab.async false
set_option linter.all false
set_option maxRecDepth 100000
namespace L2.VL
open PySem PySem.Spec PyProof.Rows L2
end L2.VL
end
section
set_option Elab.async false
set_option linter.all false
set_option maxRecDepth 100000
namespace L2.VL
open PySem PySem.Spec PyProof.Rows L2
theorem readsAll_zip {h : Heap} : ∀ {us : List Value} {ds : List PyData} {as : List Addr}, ReadsAll h us ds as → us.length = ds.length ∧ ∀ q ∈ us.zip ds, ∃ bs, Reads h q.1 q.2 bs
  | [], [], _, _ => ⟨rfl, fun q hq => by cases hq⟩
  | u :: us, d :: ds, _, r => by
    cases r with
    | cons r1 r2 =>
      obtain ⟨h1, h2⟩ := readsAll_zip r2
      refine ⟨by simp [h1], fun q hq => ?_⟩
      rcases List.mem_cons.mp hq with rfl | hq
      · exact ⟨_, r1⟩
      · exact h2 q hq
  | [], _ :: _, _, r => by cases r
  | _ :: _, [], _, r => by cases r
def rInN (K : PySem.W.Frag) (neg : Bool) : R2 := fun x y H Q => ∃ d p xs ds, Dp K H x d ∧ y = .ref p ∧ SqL K H p xs ∧ DpAll K H xs ds ∧ SeqAt.shaped d = true ∧ ds.all SeqAt.shaped = true ∧ Q (.bl (if neg then !(ds.any fun e => PyData.eqv e d) else ds.any fun e => PyData.eqv e d)) H
open Classical in
theorem in_pick {A : Around} {s : Shared} {u : Value} {d : PyData} {as bs : List Addr} {us : List Value} {ds : List PyData} (hu : A.units + 64 < cLine) (ra : Reads s.heap u d as) (rb : ReadsAll s.heap us ds bs) (hd : SeqAt.shaped d = true) (hs : ds.all SeqAt.shaped = true) :
    ∃ e : Value → Bool, (∀ y ∈ us, SeqAt.EqAt A s y u (e y)) ∧ us.any e = ds.any fun e => PyData.eqv e d := by
  obtain ⟨hl, hz⟩ := readsAll_zip rb
  have at_ : ∀ q ∈ us.zip ds, SeqAt.EqAt A s q.1 u (PyData.eqv q.2 d) := fun q hq => by
    obtain ⟨cs, rq⟩ := hz q hq
    have sq : SeqAt.shaped q.2 = true := List.all_eq_true.mp hs q.2 (List.of_mem_zip hq).2
    exact SeqAt.eqAt_reads q.2 d A s q.1 u cs as rq ra (SeqAt.canLay_of_shaped sq) (SeqAt.canLay_of_shaped hd) (SeqAt.room_of_shaped sq hu)
  have left : ∀ y ∈ us, ∃ q ∈ us.zip ds, q.1 = y := fun y hy => by
    obtain ⟨i, hi, e⟩ := List.mem_iff_getElem.mp hy
    exact ⟨(us[i], ds[i]'(by omega)), List.mem_iff_getElem.mpr ⟨i, by rw [List.length_zip]; omega, by rw [List.getElem_zip]⟩, e⟩
  have right : ∀ z ∈ ds, ∃ q ∈ us.zip ds, q.2 = z := fun y hy => by
    obtain ⟨i, hi, e⟩ := List.mem_iff_getElem.mp hy
    exact ⟨(us[i]'(by omega), ds[i]), List.mem_iff_getElem.mpr ⟨i, by rw [List.length_zip]; omega, by rw [List.getElem_zip]⟩, e⟩
  refine ⟨fun y => decide (∃ q ∈ us.zip ds, q.1 = y ∧ PyData.eqv q.2 d = true), fun y hy => ?_, ?_⟩
  · by_cases h : ∃ q ∈ us.zip ds, q.1 = y ∧ PyData.eqv q.2 d = true
    · obtain ⟨q, h1, h2, h3⟩ := id h
      dsimp only
      rw [decide_eq_true h, ← h3, ← h2]
      exact at_ q h1
    · obtain ⟨q, h1, h2⟩ := left y hy
      have h3 : PyData.eqv q.2 d = false := by
        cases e : PyData.eqv q.2 d with
        | false => rfl
        | true => exact absurd ⟨q, h1, h2, e⟩ h
      dsimp only
      rw [decide_eq_false h, ← h3, ← h2]
      exact at_ q h1
  · rw [Bool.eq_iff_iff, List.any_eq_true, List.any_eq_true]
    constructor
    · rintro ⟨y, _, h⟩
      obtain ⟨q, h1, _, h3⟩ := of_decide_eq_true h
      exact ⟨q.2, (List.of_mem_zip h1).2, h3⟩
    · rintro ⟨z, hz, h⟩
      obtain ⟨q, h1, rfl⟩ := right z hz
      exact ⟨q.1, (List.of_mem_zip h1).1, decide_eq_true ⟨q, h1, rfl, h⟩⟩
section
variable {X : Cx}
theorem op_inN (hu : X.A.units + 65 < cLine) : OpR X (compareOp .In) (rInN X.K false) := by
  intro pins s σ H x y v u Q I rx ry h
  obtain ⟨d, p, xs, ds, hd, rfl, hq, hds, sd, sds, q⟩ := h
  cases ry
  obtain ⟨its, r, pl, hz⟩ := I.list hq
  obtain ⟨as, ra⟩ := Dp.reads I d x v hd rx
  obtain ⟨bs, rb⟩ := Dp.readsAll I ds xs its hds r
  obtain ⟨e, h1, h2⟩ := in_pick (A := X.A.in1) (by show X.A.units + 1 + 64 < _; omega) ra rb sd sds
  refine SeqAt.in_listAt e pl.isList (fun w hw => h1 w (by simpa using hw)) ⟨.bl _, H, I, rfl, ?_⟩
  rw [show its.toArray.any e = its.any e by simp, h2]
  exact q
end
def inN (x y : D) : Option Bool := match y with
  | .lst ds => if (okD 60 x && ds.all (okD 60)) = true then some (ds.any fun d => same d x) else none
  | _ => none
theorem reps_dp {K : PySem.W.Frag} {H : Hp} {O : Own} : ∀ {vs : List V} {ds : List D}, Reps K H (lin O) vs ds → ds.all (okD 60) = true → DpAll K H vs (ds.map toPy)
  | [], [], .nil, _ => .nil
  | v :: vs, d :: ds, .cons a b, h => by
    rw [List.all_cons, Bool.and_eq_true] at h
    exact .cons (Rep.dp 60 h.1 (.inl a)) (reps_dp b h.2)
theorem inN_of {K : PySem.W.Frag} {H : Hp} {O : Own} {u w : V} {x y : D} {k : Bool} (v1 : Vw K H O u x) (v2 : Vw K H O w y) (e : inN x y = some k) :
    ∃ d p xs ds, Dp K H u d ∧ w = .ref p ∧ SqL K H p xs ∧ DpAll K H xs ds ∧ SeqAt.shaped d = true ∧ ds.all SeqAt.shaped = true ∧ (ds.any fun e => PyData.eqv e d) = k := by
  unfold inN at e
  split at e
  · rename_i ds
    split at e
    · rename_i h
      rw [Bool.and_eq_true] at h
      cases e
      obtain ⟨a, vs, rfl, s, r⟩ := v2.lst
      have up : ∀ d, okD 60 d = true → okD 60 d = true := fun d h => h
      refine ⟨toPy x, a, vs, ds.map toPy, Rep.dp 60 h.1 v1, rfl, s, reps_dp r h.2, ok_shaped (up _ h.1), ?_, ?_⟩
      · rw [List.all_map, List.all_eq_true]
        intro d hd
        exact ok_shaped (up _ (List.all_eq_true.mp h.2 d hd))
      · rw [List.any_map]
        have : ∀ l : List D, l.all (okD 60) = true → (l.any ((fun e => PyData.eqv e (toPy x)) ∘ toPy)) = l.any fun d => same d x := by
          intro l
          induction l with
          | nil => intro _; rfl
          | cons d l ih =>
            intro hl
            rw [List.all_cons, Bool.and_eq_true] at hl
            rw [List.any_cons, List.any_cons, ih hl.2]
            show (PyData.eqv (toPy d) (toPy x) || _) = _
            rw [same_eqv 60 60 d x hl.1 h.1]
        exact this ds h.2
    · cases e
  · cases e
def inB (x y : D) : Option Bool := (inA x y).or (inN x y)
abbrev rInB (K : PySem.W.Frag) : R2 := fun x y H Q => (rIn K false x y H Q ∨ rInS x y H Q) ∨ rInN K false x y H Q
theorem op_inB {X : Cx} {k : Nat} (hr : Room k X.A) : OpR X (compareOp .In) (rInB X.K) := OpR.or op_inA (op_inN (by have := hr.un; omega))
theorem cs_inB {K : PySem.W.Frag} : CmpS K (rInB K) inB := fun a b H x y k O Q v1 v2 e q => by
  unfold inB at e
  cases h : inA x y with
  | some j =>
    rw [h] at e
    cases e
    exact .inl (cs_inA a b H x y k O Q v1 v2 h q)
  | none =>
    rw [h] at e
    obtain ⟨d, p, xs, ds, e1, e2, e3, e4, e5, e6, e7⟩ := inN_of v1 v2 (show inN x y = some k from e)
    exact .inr ⟨d, p, xs, ds, e1, e2, e3, e4, e5, e6, by rw [e7]; exact q⟩
end L2.VL
end
section
set_option Elab.async false
set_option linter.all false
set_option maxRecDepth 100000
set_option maxHeartbeats 2000000
namespace L2.VL
open PySem PySem.Spec PyProof.Rows L2
section
variable {G : Fix} {O : Own} {σ : St} {H : Hp} {ρ : Rho} {T : List Tmp}
/-- a new object that the data do not show -/
theorem Rel.freshX {p : Addr} {ho : HO} (R : Rel G O σ H ρ T) (hp : H p = none) : Rel G O σ (upd H p ho) ρ T := by
  have ne : ∀ {a : Addr} {o : HO}, H a = some o → a ≠ p := fun e z => by rw [z, hp] at e; cases e
  have hs : Stay H (upd H p ho) (lin O) (lin O) := fun a o n e => ⟨by rw [upd_ne (ne e)]; exact e, n⟩
  refine ⟨R.len, fun b o e => ?_, R.ot, fun a w e => ?_, R.pn, fun i s e => ?_, ?_⟩
  · obtain ⟨h1, h2⟩ := R.fr b o e
    rw [upd_ne (ne h1)]; exact ⟨h1, h2⟩
  · exact (R.tr a w e).fresh hp
  · obtain ⟨v, h1, h2⟩ := R.sl i s e
    refine ⟨v, h1, slot_mono hs (fun a o e1 e2 => ?_) h2⟩
    rw [upd_ne (ne e2)]; exact ⟨e1, e2⟩
  · refine tmps_mono hs (fun a o n _ e1 e2 => ?_) R.tm
    rw [upd_ne (ne e2)]; exact ⟨e1, e2⟩
end
theorem CxG.tr {X : Cx} (c : CxG X) {pn : List (Addr × Obj)} {xe : Value → Shared → Prop} (h : PassesOwn (model X.prog X.w) X.A X.env xe) : CxG (X.tr pn xe) := ⟨c.calm, c.nd, h, c.gu⟩
theorem FnCx.tr {X : Cx} {k : Nat} (c : FnCx X k) {pn : List (Addr × Obj)} {xe : Value → Shared → Prop} (h : PassesOwn (model X.prog X.w) X.A X.env xe) : FnCx (X.tr pn xe) k := ⟨c.g.tr h, c.room⟩
end L2.VL
end
section
set_option Elab.async false
set_option linter.all false
set_option maxRecDepth 100000
namespace L2.VL
open PySem PySem.Spec PyProof.Rows L2
def oexB (K : PySem.W.Frag) (C : Addr) : Bool := match K.lookup C with
  | some ⟨.type "type", _, .cls cd, sl⟩ => (match cd.mro, sl.toList with
    | .ref C' :: bm, [_, _, _, _, some (.builtin n), _] => C' == C && n == "ValueError.__new__" && !cd.hasDel && cd.hasDict && PySem.HandSPX.refsVE bm
    | _, _ => false)
  | _ => false
inductive Fc where
  | rk (x : Str)
  | ini (x f : Str)
  /-- isinstance may ask its instances; the answer for an own class, for a built-in one -/
  | kx (x : Str)
  | ko (x t : Str) (b : Bool)
  | kb (x : Str) (t : String) (b : Bool)
def valB (r : Option PySem.W.CFound) (v : Value) : Bool := match r with
  | some (.val u) => u == v
  | _ => false
def Fc.ok (K : PySem.W.Frag) : Fc → Bool
  | .rk x => He.eqO (PySem.W.specialIn K (.ref (He.ga K x)) "__getattribute__") (some (some (.builtin "type.__getattribute__"))) && (PySem.W.readsIn K (He.ga K x) (.type "type") && valB (PySem.W.findCls K (.ref (He.ga K x)) (.type "type") "__init__") (.builtin "ValueError.__init__"))
  | .ini x f => oexB K (He.ga K x) && (He.eqO (PySem.W.findIn K (.ref (He.ga K x)) "__setattr__") (some (some (.builtin "object.__setattr__"))) && (decide (PySem.W.subIn K (.ref (He.ga K x)) (.type "BaseException") = some true) && (decide (PySem.W.typeIn K (.ref (He.ga K x)) = some (.type "type")) && (PySem.W.keepIn K (.ref (He.ga K x)) &&
      (He.eqO (PySem.W.findIn K (.ref (He.ga K x)) "__init__") (some (some (.ref (He.ma K (He.ga K x) "__init__")))) && (decide (PySem.W.typeIn K (.ref (He.ma K (He.ga K x) "__init__")) = some (.type "function")) && (He.eqO (PySem.W.findIn K (.ref (He.ga K x)) f) (some none) && xfB K (He.ga K x))))))))
  | .kx x => (PySem.W.clsIn K (He.ga K x)).isSome && (He.eqO (PySem.W.findIn K (.ref (He.ga K x)) "__getattribute__") (some (some (.builtin "BaseException.__getattribute__"))) && (He.eqO (PySem.W.findIn K (.ref (He.ga K x)) "__getattr__") (some none) && (decide (PySem.W.subIn K (.ref (He.ga K x)) (.type "BaseException") = some true) &&
      (He.eqO (PySem.W.findIn K (.ref (He.ga K x)) "__class__") (some (some (.builtin "object.__class__"))) && (He.eqO (PySem.W.specialIn K (.builtin "object.__class__") "__get__") (some (some (.builtin "getset_descriptor.__get__"))) && (decide (PySem.W.takesIn K (.builtin "object.__class__") = some true) && decide (PySem.W.mroIn K (He.ga K x) (.type "object") = some true)))))))
  | .ko x t b => decide (PySem.W.kitOne K (.ref (He.ga K x)) (.ref (He.ga K t)) = some b)
  | .kb x t b => decide (PySem.W.kitOne K (.ref (He.ga K x)) (.type t) = some b)
end L2.VL
end
section
set_option Elab.async false
set_option linter.all false
set_option maxRecDepth 100000
namespace L2.VL
open PySem PySem.Spec PyProof.Rows L2
def isCon : D → Bool
  | .con _ => true
  | _ => false
theorem conL_map {α : Type} (f : α → V) : ∀ as : List α, (as.map fun a => D.con (f a)).all isCon = true
  | [] => rfl
  | _ :: as => by rw [List.map_cons, List.all_cons, conL_map f as]; rfl
theorem reps_con {K : PySem.W.Frag} {H H' : Hp} {L L' : Addr → Prop} : ∀ {vs : List V} {ds : List D}, ds.all isCon = true → Reps K H L vs ds → Reps K H' L' vs ds
  | [], [], _, .nil => .nil
  | v :: vs, d :: ds, h, .cons a b => by
    rw [List.all_cons, Bool.and_eq_true] at h
    cases d with
    | con c => rw [a.con_inv]; exact .cons (.con c) (reps_con h.2 b)
    | lst _ => cases h.1
    | tup _ => cases h.1
    | dic _ => cases h.1
    | dit _ => cases h.1
    | own _ => cases h.1
    | exv _ => cases h.1
    | tre _ => cases h.1
    | dix _ => cases h.1
    | fnv _ _ _ => cases h.1
def dLnd (r : DE) : DE := fun ρ => match r (ρ.map lent) with
  | .ok (.lst ds, .fr) _ => if ds.all isCon = true then .ok (.lst ds, .fr) ρ else .stuck
  | _ => .stuck
theorem Rel.unlendL {G : Fix} {O O' : Own} {σ : St} {H H' : Hp} {ρ ρ' : Rho} {v : V} {ds : List D} (R : Rel G O σ H ρ []) (R' : Rel (frzT G.K H G.Pin) O' σ H' ρ' [⟨v, .lst ds, .fr⟩]) (hc : ds.all isCon = true) : ∃ O2, Rel G O2 σ H' ρ [⟨v, .lst ds, .fr⟩] := by
  obtain ⟨up, tt⟩ := R.frzUp R'
  have ow : Owned G.K H' O' (.tp 0) v (.lst ds) := OwnX.flat (show OwnX _ _ _ _ _ _ from R'.tm.1)
  obtain ⟨a, ho, rfl, h1, h2, c⟩ := ow
  have ha : H a = none := by
    cases e : H a with
    | none => rfl
    | some o =>
      have nt : G.Tb a = none := by
        cases et : G.Tb a with
        | none => rfl
        | some q =>
          have y := (R'.ot a).mpr (show (tbk G.K a).isSome = true by rw [show tbk G.K a = some q from et]; rfl)
          rw [h1] at y; cases y
      rw [(R.frzUpT R' nt e).2] at h1
      cases h1
  have oa : O a = none := R.lout a ha
  have ne : ∀ {b : Addr} {o : HO}, H b = some o → b ≠ a := fun e z => by rw [z, ha] at e; cases e
  have st : Stay H H' (lin O) (lin (oset O a (some (.tp 0)))) := fun b o n e => ⟨up b o (fun z => n (by unfold lin; rw [z]; simp)) e, by
    unfold lin at n ⊢
    rw [oset_ne (ne e)]; exact n⟩
  refine ⟨oset O a (some (.tp 0)), R.len, fun b o e => ?_, fun b => ?_, fun b w e => ?_, R.pn, fun i s e => ?_, .inl ⟨a, ho, rfl, oset_eq rfl, h2, ?_⟩, trivial⟩
  · obtain ⟨p, q⟩ := R.fr b o e
    rw [oset_ne (ne p)]
    exact ⟨(R.frzUpT R' (tb_none e) p).1, q⟩
  · by_cases z : b = a
    · rw [oset_eq z]
      constructor
      · intro y; cases y
      · intro y
        have := (R.ot b).mpr y
        rw [z, oa] at this; cases this
    · rw [oset_ne z]; exact R.ot b
  · by_cases z : b = a
    · refine ⟨⟨ho, by rw [z]; exact h2⟩, fun q hq => ?_⟩
      have := tb_out R hq
      rw [z, oa] at this; cases this
    · rw [oset_ne z] at e
      exact tt b w e
  · obtain ⟨u, p, q⟩ := R.sl i s e
    refine ⟨u, p, slot_mono st (fun b o e1 e2 => ⟨?_, up b o (by rw [e1]; simp) e2⟩) q⟩
    rw [oset_ne (ne e2)]; exact e1
  · cases c with
    | lst r => exact .lst (reps_con hc r)
theorem se_lnd {X : Cx} {e : Expr} {r : DE} (h : SE X e r) : SE X e (dLnd r) := fun W tk => PE.imp (h W tk) fun σ H Q ⟨G, O, ρ, hK, R, h⟩ => by
  refine ⟨(frzT G.K H G.Pin), _, _, hK, R.lend, ?_⟩
  unfold dLnd at h
  cases q : r (ρ.map lent) with
  | stuck => rw [q] at h; exact h.elim
  | ex x ρ' => rw [q] at h; exact h.elim
  | ok x ρ' =>
    rw [q] at h
    obtain ⟨d, k⟩ := x
    cases d with
    | lst ds =>
      cases k with
      | fr =>
        dsimp only at h
        by_cases hc : ds.all isCon = true
        · rw [if_pos hc] at h
          intro O1 v H1 R1
          obtain ⟨O2, R2⟩ := R.unlendL R1 hc
          exact h O2 v H1 R2
        · rw [if_neg hc] at h
          exact h.elim
      | shr => exact h.elim
      | nm i => exact h.elim
    | con _ => exact h.elim
    | tup _ => exact h.elim
    | dic _ => exact h.elim
    | dit _ => exact h.elim
    | own _ => exact h.elim
    | exv _ => exact h.elim
    | tre _ => exact h.elim
    | dix _ => exact h.elim
    | fnv _ _ _ => exact h.elim
end L2.VL
end
section
set_option Elab.async false
set_option linter.all false
set_option maxRecDepth 100000
set_option maxHeartbeats 2000000
namespace L2.VL
open PySem PySem.Spec PyProof.Rows L2 PySem.W
end L2.VL
end
section
set_option Elab.async false
set_option linter.all false
set_option maxRecDepth 100000
set_option maxHeartbeats 2000000
namespace L2.VL
open PySem PySem.Spec PyProof.Rows L2
def putD (kvs : List (Key × D)) (k : Key) (d : D) : List (Key × D) :=
  if (kvs.any fun kv => decide (kv.1 = k)) = true then kvs.map (fun kv => if kv.1 = k then (kv.1, d) else kv) else kvs ++ [(k, d)]
theorem RepK.any {K : PySem.W.Frag} {H : Hp} {L : Addr → Prop} {k : Key} : ∀ {vs : List (Key × V)} {ds : List (Key × D)}, RepK K H L vs ds → (vs.any fun kv => decide (kv.1 = k)) = ds.any fun kv => decide (kv.1 = k)
  | _, _, .nil => rfl
  | _, _, .cons _ rs => by rw [List.any_cons, List.any_cons, RepK.any rs]
theorem RepK.mapK {K : PySem.W.Frag} {H : Hp} {L : Addr → Prop} {k : Key} {v : V} {d : D} (r : Rep K H L v d) : ∀ {vs : List (Key × V)} {ds : List (Key × D)}, RepK K H L vs ds → RepK K H L (vs.map fun kv => if kv.1 = k then (kv.1, v) else kv) (ds.map fun kv => if kv.1 = k then (kv.1, d) else kv)
  | _, _, .nil => .nil
  | (a, _) :: _, _, .cons r0 rs => by
    rw [List.map_cons, List.map_cons]
    by_cases q : a = k
    · rw [if_pos q, if_pos q]
      exact .cons r (RepK.mapK r rs)
    · rw [if_neg q, if_neg q]
      exact .cons r0 (RepK.mapK r rs)
theorem RepK.snoc {K : PySem.W.Frag} {H : Hp} {L : Addr → Prop} {k : Key} {v : V} {d : D} (r : Rep K H L v d) : ∀ {vs : List (Key × V)} {ds : List (Key × D)}, RepK K H L vs ds → RepK K H L (vs ++ [(k, v)]) (ds ++ [(k, d)])
  | _, _, .nil => .cons r .nil
  | _, _, .cons r0 rs => .cons r0 (RepK.snoc r rs)
theorem RepK.put {K : PySem.W.Frag} {H : Hp} {L : Addr → Prop} {k : Key} {v : V} {d : D} (r : Rep K H L v d) {vs : List (Key × V)} {ds : List (Key × D)} (rs : RepK K H L vs ds) : RepK K H L (putK vs k v) (putD ds k d) := by
  unfold putK putD
  rw [RepK.any rs]
  split
  · exact RepK.mapK r rs
  · exact RepK.snoc r rs
theorem RepK.len {K : PySem.W.Frag} {H : Hp} {L : Addr → Prop} : ∀ {vs : List (Key × V)} {ds : List (Key × D)}, RepK K H L vs ds → vs.length = ds.length
  | _, _, .nil => rfl
  | _, _, .cons _ rs => congrArg Nat.succ (RepK.len rs)
end L2.VL
end
section
set_option Elab.async false
set_option linter.all false
set_option maxRecDepth 100000
namespace L2.VL
open PySem PySem.Spec PyProof.Rows L2
end L2.VL
end
section
set_option Elab.async false
set_option linter.all false
set_option maxRecDepth 100000
namespace L2.VL
open PySem PySem.Spec PyProof.Rows L2
section
variable {X : Cx} {a b : Expr} {ra rb : DE} {pos : Pos}
theorem ss_parC {pj : VK → VK} (i j : Nat) (bi bj : Bool) {x y : Str} {px py pt : Pos} {kt k2 : Nat} {pt2 : Pos} (hx : CxG X) (ha : SE X a ra) (hb : SE X b rb) (hi : X.N[i]? = some x := by rfl) (hj : X.N[j]? = some y := by rfl) (hij : i ≠ j := by decide)
    (hlx : Loc X.env.scope x := by first | exact Or.inl rfl | exact Or.inr rfl) (hly : Loc X.env.scope y := by first | exact Or.inl rfl | exact Or.inr rfl)
    (hfx : X.fn x = true ∨ X.env.scope.names.lookup x = some .local := by first | exact .inl rfl | exact .inr rfl) (hfy : X.fn y = true ∨ X.env.scope.names.lookup y = some .local := by first | exact .inl rfl | exact .inr rfl)
    (he1 : starEach [a, b] X.env = (false, eval a X.env) :: starEach [b] X.env := by rfl) (he2 : starEach [b] X.env = (false, eval b X.env) :: starEach [] X.env := by rfl)
    (hw : swappedStores [.Tuple [.Name x px, .Name y py] kt pt] (.Tuple [a, b] k2 pt2) X.env = pure none := by rfl)
    (hs : swapsWithSole [.Tuple [.Name x px, .Name y py] kt pt] (.Tuple [a, b] k2 pt2) pos.line X.env = pure false := by rfl)
    (hz1 : (assignEach [.Name x px, .Name y py] X.env).map (·.2) = assign (.Name x px) X.env :: (assignEach [.Name y py] X.env).map (·.2) := by rfl) (hz2 : (assignEach [.Name y py] X.env).map (·.2) = assign (.Name y py) X.env :: (assignEach [] X.env).map (·.2) := by rfl)
    (hn2 : (assignEach [.Name x px, .Name y py] X.env).length = 2 := by rfl) (hst : (assignEach [.Name x px, .Name y py] X.env).findIdx? (·.1) = none := by rfl)
    (h1 : (assignEach [.Tuple [.Name x px, .Name y py] kt pt] X.env).map (·.2) = [assign (.Tuple [.Name x px, .Name y py] kt pt) X.env] := by rfl) :
    SSf pj X (.Assign [.Tuple [.Name x px, .Name y py] kt pt] (.Tuple [a, b] k2 pt2) pos) (dPar i j bi bj ra rb) := fun W tk =>
  PS.imp (ps_asg (pe_tup (sa_cons (b := bi) ha (sa_cons (b := bj) hb sa_nil he2) he1 W tk)) (pg_tup hx.calm (pgs_cons (pg_name hx.nd hi hlx hfx) (pgs_cons (pg_name hx.nd hj hly hfy) pgs_nil hz2) hz1) hn2 hst) hs hw h1) fun D σ H ⟨G, O, ρ, hK, R, h⟩ => by
    refine ⟨G, O, ρ, [], hK, R, Res.post_mono ((post_bind _ _).mp h) (fun xs ρ1 q O1 vs H1 hl R1 => ?_) fun x ρ' q => q σ⟩
    split at q
    · rename_i z w
      match vs, hl with
      | [v, u], _ =>
        refine ⟨by show 2 ≤ sizeLine; decide, fun p hp => ⟨p, [v, u], rfl, .inl (.inl upd_same), rfl, v, [u], rfl, u, [], rfl, rfl, ?_⟩⟩
        obtain ⟨_, e1, q2⟩ := (post_opt _).mp ((post_bind _ _).mp q)
        have R2 : Rel G O1 σ (upd H1 p (.tup [v, u])) ρ1 [⟨u, w.1, w.2⟩, ⟨v, z.1, z.2⟩] := Rel.freshX (show Rel G O1 σ H1 ρ1 [⟨u, w.1, w.2⟩, ⟨v, z.1, z.2⟩] from R1) hp
        have hn : NoNm [⟨v, z.1, z.2⟩] := NoNm.nil.cons fun i e => by
          unfold nonm at e1
          have e' : z.2 = .nm i := e
          rw [e'] at e1
          cases e1
        obtain ⟨O3, ρ3, R3, q3⟩ := put_post hn R2 ((post_bind _ _).mp q2)
        obtain ⟨O4, ρ4, R4, q4⟩ := put_post .nil R3 ((post_bind _ _).mp q3)
        refine q4 O4 _ _ ?_
        rw [List.set_comm _ _ hij]
        exact R4
    · exact q.elim
end
end L2.VL
end
section
set_option Elab.async false
set_option linter.all false
set_option maxRecDepth 100000
namespace L2.VL
open PySem PySem.Spec PyProof.Rows L2
end L2.VL
end
section
set_option Elab.async false
set_option linter.all false
set_option maxRecDepth 100000
namespace L2.VL
open PySem PySem.Spec PyProof.Rows L2
def optAll {α β : Type} (f : α → Option β) : List α → Option (List β)
  | [] => some []
  | x :: xs => match f x with
    | some y => (optAll f xs).map (y :: ·)
    | none => none
theorem optAll_cons {α β : Type} {f : α → Option β} {x : α} {xs : List α} {zs : List β} (h : optAll f (x :: xs) = some zs) : ∃ y ys, f x = some y ∧ optAll f xs = some ys ∧ zs = y :: ys := by
  unfold optAll at h
  split at h
  · rename_i y e
    obtain ⟨ys, e2, rfl⟩ := Option.map_eq_some_iff.mp h
    exact ⟨y, ys, e, e2, rfl⟩
  · cases h
def keyPy : Key → PyData
  | .inl i => .int i
  | .inr x => .str x
def entPy (f : D → Option PyData) (e : Key × D) : Option (PyData × PyData) := (f e.2).map fun y => (keyPy e.1, y)
/-- data as plain Python data, at most n deep -/
def toPyN : Nat → D → Option PyData
  | _, .con .non => some .none
  | _, .con (.bl b) => some (.bool b)
  | _, .con (.int i) => some (.int i)
  | _, .con (.str x) => some (.str x)
  | n + 1, .lst ds => (optAll (toPyN n) ds).map .list
  | n + 1, .tup ds => (optAll (toPyN n) ds).map .tuple
  | n + 1, .dic kvs => (optAll (entPy (toPyN n)) kvs).map .dict
  | _, _ => none
def Shw (P : Program) (w : World) (h : Heap) (u : Value) (p : PyData) : Prop := (∃ as, Reads h u p as) ∧ ∃ bs, ReadAtMost h p.depth bs ∧ ReprK P w bs h p.depth u p.shown
def ShwA (P : Program) (w : World) (h : Heap) (us : List Value) (ps : List PyData) : Prop := (∃ as, ReadsAll h us ps as) ∧ ∃ bs, ReadAtMost h (PyData.depthAll ps) bs ∧ ReprAllK P w bs h (PyData.depthAll ps) us (PyData.shownAll ps)
section
variable {P : Program} {w : World} {h : Heap} {u : Value} {us : List Value} {p : PyData} {ps : List PyData}
theorem ShwA.nil : ShwA P w h [] [] := ⟨⟨[], .nil⟩, [], (fun _ z => nomatch z), by simp only [PyData.shownAll]; exact .nil⟩
theorem ShwA.cons (h1 : Shw P w h u p) (h2 : ShwA P w h us ps) : ShwA P w h (u :: us) (p :: ps) := by
  obtain ⟨⟨as, r⟩, bs, m, k⟩ := h1
  obtain ⟨⟨as2, r2⟩, bs2, m2, k2⟩ := h2
  refine ⟨⟨_, .cons r r2⟩, bs ++ bs2, ?_, ?_⟩
  · simp only [PyData.depthAll]
    exact (m.mono (Nat.le_max_left _ _)).append (m2.mono (Nat.le_max_right _ _))
  · simp only [PyData.depthAll, PyData.shownAll]
    exact .cons ((k.more fun b z => List.mem_append_left _ z).level_le (Nat.le_max_left _ _)) (k2.more_le (fun b z => List.mem_append_right _ z) (Nat.le_max_right _ _))
theorem shw_list {a : Addr} {o : Obj} {its : List Value} {n : Nat} (g : h.get? a = some o) (c : o.cls = .type "list") (d : o.data = .seq its.toArray n) (A : ShwA P w h its ps) : Shw P w h (.ref a) (.list ps) := by
  obtain ⟨⟨as, r⟩, bs, m, k⟩ := A
  have rd : Reads h (.ref a) (.list ps) (a :: as) := .list g c d (by simpa using r)
  have far : a ∉ bs := not_mem_of_deeper rd (by simp only [PyData.depth]; omega) m
  refine ⟨⟨_, rd⟩, a :: bs, ReadAtMost.cons rd (by simp only [PyData.depth]; omega) m, ?_⟩
  simp only [PyData.depth, PyData.shown]
  cases its with
  | nil =>
    cases r
    simp only [PyData.shownAll, listText_nil]
    exact ReprK.listEmpty g c d
  | cons x l => exact ReprK.list g c d far (by simpa using k.length_eq) fun i y e => k.item i y (by simpa using e)
theorem shw_tuple {a : Addr} {o : Obj} {its : List Value} {n : Nat} (g : h.get? a = some o) (c : o.cls = .type "tuple") (d : o.data = .seq its.toArray n) (A : ShwA P w h its ps) : Shw P w h (.ref a) (.tuple ps) := by
  obtain ⟨⟨as, r⟩, bs, m, k⟩ := A
  have rd : Reads h (.ref a) (.tuple ps) as := .tuple g c d (by simpa using r)
  have far : a ∉ bs := not_mem_of_deeper rd (by simp only [PyData.depth]; omega) m
  refine ⟨⟨_, rd⟩, a :: bs, ReadAtMost.cons rd (by simp only [PyData.depth]; omega) m, ?_⟩
  simp only [PyData.depth, PyData.shown]
  exact ReprK.tuple g c d far (by simpa using k)
theorem shw_key {k : Key} (e : keyIs k u = true) (hs : (keyPy k).showable = true) (hz : (keyPy k).shown.length ≤ sizeLine) : Shw P w h u (keyPy k) := by
  rcases keyIs_shape e with ⟨i, t, rfl, rfl⟩ | ⟨x, t, rfl, rfl⟩
  · refine ⟨⟨[], .int i t⟩, [], (fun _ z => nomatch z), ?_⟩
    show ReprK P w [] h _ _ (PyData.shown (.int i))
    simp only [PyData.shown]
    exact .of_is (ReprIs.int t (by simpa [PyData.showable, keyPy] using hs)) _ _ _
  · refine ⟨⟨[], .str x t⟩, [], (fun _ z => nomatch z), ?_⟩
    show ReprK P w [] h _ _ (PyData.shown (.str x))
    simp only [PyData.shown]
    exact .of_is (ReprIs.str x t (by simpa only [PyData.shown, keyPy] using hz)) _ _ _
theorem shw_dict {a : Addr} {o : Obj} {es : Array DictEntry} {n : Nat} {kvs : List (PyData × PyData)} (g : h.get? a = some o) (c : o.cls = .type "dict") (d : o.data = .dict es n) (low : (a == sysModules) = false) (K : ShwA P w h (es.toList.map (·.key)) (kvs.map (·.1))) (V : ShwA P w h (es.toList.map (·.val)) (kvs.map (·.2))) :
    Shw P w h (.ref a) (.dict kvs) := by
  obtain ⟨⟨as, r⟩, bs, m, k⟩ := K
  obtain ⟨⟨as2, r2⟩, bs2, m2, k2⟩ := V
  have rd : Reads h (.ref a) (.dict kvs) _ := .dict g c d r r2
  have mm : ReadAtMost h (PyData.depthKv kvs) (bs ++ bs2) := (m.mono (PyData.depthAll_keys_le kvs)).append (m2.mono (PyData.depthAll_vals_le kvs))
  have far : a ∉ bs ++ bs2 := not_mem_of_deeper rd (by simp only [PyData.depth]; omega) mm
  refine ⟨⟨_, rd⟩, a :: (bs ++ bs2), ReadAtMost.cons rd (by simp only [PyData.depth]; omega) mm, ?_⟩
  simp only [PyData.depth, PyData.shown, PyData.shownKv_eq]
  exact ReprK.dict g c d low far (ReprEntriesK.of_two es.toList _ _ (k.more_le (fun b z => List.mem_append_left _ z) (PyData.depthAll_keys_le kvs)) (k2.more_le (fun b z => List.mem_append_right _ z) (PyData.depthAll_vals_le kvs)))
end
section
variable {X : Cx} {pins : List (Addr × Obj)} {σ : St} {H : Hp} {s : Shared} {O : Own}
theorem shw_all (f : D → Option PyData) (ih : ∀ v d u p, Vw X.K H O v d → RelV v u → f d = some p → p.showable = true → p.shown.length ≤ sizeLine → Shw X.prog X.w s.heap u p) :
    ∀ {vs : List V} {ds : List D} {us : List Value} {ps : List PyData}, Reps X.K H (lin O) vs ds → Vals vs us → optAll f ds = some ps → PyData.showableAll ps = true → (∀ t ∈ PyData.shownAll ps, t.length ≤ sizeLine) → ShwA X.prog X.w s.heap us ps
  | _, _, _, _, .nil, .nil, e, _, _ => by cases e; exact .nil
  | _, _, _, _, .cons r rs, .cons v vs, e, hs, hz => by
    obtain ⟨p, ps, e1, e2, rfl⟩ := optAll_cons e
    simp only [PyData.showableAll, Bool.and_eq_true] at hs
    simp only [PyData.shownAll, List.mem_cons, forall_eq_or_imp] at hz
    exact .cons (ih _ _ _ _ (.inl r) v e1 hs.1 hz.1) (shw_all f ih rs vs e2 hs.2 hz.2)
theorem shw_ents (f : D → Option PyData) (ih : ∀ v d u p, Vw X.K H O v d → RelV v u → f d = some p → p.showable = true → p.shown.length ≤ sizeLine → Shw X.prog X.w s.heap u p) :
    ∀ {vs : List (Key × V)} {ds : List (Key × D)} {us : List (Key × Value)} {es : List DictEntry} {ps : List (PyData × PyData)}, RepK X.K H (lin O) vs ds → KV vs us → Pairs (mixKind X.prog X.w) es us → optAll (entPy f) ds = some ps → PyData.showableKv ps = true →
      (∀ t ∈ PyData.shownKv ps, t.length ≤ sizeLine) → ShwA X.prog X.w s.heap (es.map (·.key)) (ps.map (·.1)) ∧ ShwA X.prog X.w s.heap (es.map (·.val)) (ps.map (·.2))
  | _, _, _, _, _, .nil, .nil, .nil, e, _, _ => by cases e; exact ⟨.nil, .nil⟩
  | _, _, _, _, _, .cons r rs, .cons v vs, .cons k q es, e, hs, hz => by
    obtain ⟨p, ps, e1, e2, rfl⟩ := optAll_cons e
    obtain ⟨y, e3, rfl⟩ := Option.map_eq_some_iff.mp e1
    simp only [PyData.showableKv, Bool.and_eq_true] at hs
    simp only [PyData.shownKv, List.mem_cons, forall_eq_or_imp, strLen_append] at hz
    obtain ⟨A, B⟩ := shw_ents f ih rs vs es e2 hs.2 hz.2
    have hz1 := hz.1
    obtain ⟨v1, v2⟩ := v
    rw [← v1] at k
    dsimp only at k q v2 e3 hs hz ⊢
    rw [← q] at v2
    exact ⟨.cons (shw_key k hs.1.1 (by omega)) A, .cons (ih _ _ _ _ (.inl r) v2 e3 hs.1.2 (by show y.shown.length ≤ _; omega)) B⟩
theorem shw_of (I : Inv X pins σ H s) : ∀ (n : Nat) (v : V) (d : D) (u : Value) (p : PyData), Vw X.K H O v d → RelV v u → toPyN n d = some p → p.showable = true → p.shown.length ≤ sizeLine → Shw X.prog X.w s.heap u p := by
  have plain : ∀ (c : V) (v : V) (u : Value) (p : PyData), Vw X.K H O v (.con c) → RelV v u → toPyN 0 (.con c) = some p → p.showable = true → p.shown.length ≤ sizeLine → Shw X.prog X.w s.heap u p := by
    intro c v u p vw rv e hs hz
    have ev := vw.con
    subst ev
    cases v <;> try (cases e; done)
    case non => cases e; cases (show u = Value.none from rv); exact ⟨⟨[], .none⟩, [], (fun _ z => nomatch z), by simp only [PyData.shown]; exact .of_is ReprIs.none _ _ _⟩
    case bl b => cases e; cases (show u = Value.bool b from rv); exact ⟨⟨[], .bool b⟩, [], (fun _ z => nomatch z), by simp only [PyData.shown]; exact .of_is (ReprIs.bool b) _ _ _⟩
    case int i => cases e; obtain ⟨t, rfl⟩ := rv; exact ⟨⟨[], .int i t⟩, [], (fun _ z => nomatch z), by simp only [PyData.shown]; exact .of_is (ReprIs.int t (by simpa [PyData.showable] using hs)) _ _ _⟩
    case str x => cases e; obtain ⟨t, rfl⟩ := rv; exact ⟨⟨[], .str x t⟩, [], (fun _ z => nomatch z), by simp only [PyData.shown]; exact .of_is (ReprIs.str x t (by simpa only [PyData.shown] using hz)) _ _ _⟩
  intro n
  induction n with
  | zero =>
    intro v d u p vw rv e hs hz
    cases d with
    | con c => exact plain c v u p vw rv e hs hz
    | _ => cases e
  | succ n ih =>
    intro v d u p vw rv e hs hz
    cases d with
    | con c => exact plain c v u p vw rv (by cases c <;> exact e) hs hz
    | dit _ => cases e
    | own _ => cases e
    | exv _ => cases e
    | tre _ => cases e
    | dix _ => cases e
    | fnv _ _ _ => cases e
    | lst ds =>
      obtain ⟨ps, e1, rfl⟩ := Option.map_eq_some_iff.mp e
      obtain ⟨a, vs, rfl, sq, rp⟩ := vw.lst
      cases (show u = Value.ref a from rv)
      obtain ⟨its, vals, ⟨o, k, g, c, _, dt⟩, _⟩ := I.list sq
      exact shw_list g c dt (shw_all (toPyN n) ih rp vals e1 (by simpa [PyData.showable] using hs) fun t m => Nat.le_trans (listText_mem_le m) (by simpa only [PyData.shown] using hz))
    | tup ds =>
      obtain ⟨ps, e1, rfl⟩ := Option.map_eq_some_iff.mp e
      obtain ⟨a, vs, rfl, sq, rp⟩ := vw.tup
      cases (show u = Value.ref a from rv)
      obtain ⟨its, vals, tupO, _⟩ := I.tuple sq
      obtain ⟨o, g, c, k, dt⟩ := tupO
      exact shw_tuple g c dt (shw_all (toPyN n) ih rp vals e1 (by simpa [PyData.showable] using hs) fun t m => Nat.le_trans (tupleText_mem_le m) (by simpa only [PyData.shown] using hz))
    | dic ds =>
      obtain ⟨ps, e1, rfl⟩ := Option.map_eq_some_iff.mp e
      have : ∃ a vs, v = .ref a ∧ Rd H a (.dK vs) ∧ RepK X.K H (lin O) vs ds := by
        rcases vw with r | ⟨a, ho, ev, g, c⟩ | ⟨_, _, _, z⟩
        · cases r with
          | obj n r c => cases c with | dic c => exact ⟨_, _, rfl, r, c⟩
        · cases c with | dic c => exact ⟨a, _, ev, .inl g, c⟩
        · cases z
      obtain ⟨a, vs, rfl, rd, rp⟩ := this
      cases (show u = Value.ref a from rv)
      obtain ⟨_, low, us, kv, o, es, k, g, c, dt, _, prs, _⟩ := dk_rd I.hok rd
      obtain ⟨A, B⟩ := shw_ents (toPyN n) ih rp kv prs e1 (by simpa [PyData.showable] using hs) fun t m => Nat.le_trans (dictText_mem_le m) (by simpa only [PyData.shown] using hz)
      exact shw_dict g c.1 dt low A B
/-- repr(e) -/
def rRepr (K : PySem.W.Frag) : List V → Hp → VK → Prop := fun xs H Q => ∃ v O d p, xs = [v] ∧ Vw K H O v d ∧ toPyN 60 d = some p ∧ p.showable = true ∧ p.shown.length ≤ sizeLine ∧ p.depth ≤ 100 ∧ (∀ kvs, p ≠ .dict kvs) ∧ Q (.str p.shown) H
theorem cr_repG {X : Cx} (gu : X.A.guards = some []) (room : Room 0 X.A) : CallR X (.builtin "repr") (rRepr X.K) := by
  intro pins s σ H xs us Q I r h
  obtain ⟨v, O, d, p, rfl, vw, e, hs, hz, dp, nd, q⟩ := h
  cases r with
  | cons r0 rr =>
    cases rr
    rename_i u
    have fin : ∀ (h' : Heap) (t tk : Nat), (∀ b o, s.heap.get? b = some o → h'.get? b = some o) → EP X pins σ Q (.str p.shown t) { s with heap := h', toks := tk } := fun h' t tk kp => ⟨.str p.shown, H, I.kept kp, ⟨t, rfl⟩, q⟩
    have un := room.un
    cases d with
    | dit _ => cases e
    | own _ => cases e
    | exv _ => cases e
    | tre _ => cases e
    | dix _ => cases e
    | fnv _ _ _ => cases e
    | dic ds =>
      obtain ⟨ps, _, rfl⟩ := Option.map_eq_some_iff.mp e
      exact absurd rfl (nd _)
    | con c =>
      have ev := vw.con
      subst ev
      cases v <;> try (cases e; done)
      case non => cases e; cases (show u = Value.none from r0); simp only [PyData.shown] at fin; exact PySem.P.repr_of_none (fin _ _ _ fun _ _ z => z)
      case bl b => cases e; cases (show u = Value.bool b from r0); simp only [PyData.shown] at fin; exact PySem.P.repr_of_bool (fin _ _ _ fun _ _ z => z)
      case int i => cases e; obtain ⟨t, rfl⟩ := r0; simp only [PyData.shown] at fin; exact PySem.P.repr_of_int (by simpa [PyData.showable] using hs) (fin _ _ _ fun _ _ z => z)
      case str x => cases e; obtain ⟨t, rfl⟩ := r0; simp only [PyData.shown] at fin hz; exact PySem.P.repr_of_str (fin _ _ _ fun _ _ z => z) hz
    | lst ds =>
      obtain ⟨ps, e1, rfl⟩ := Option.map_eq_some_iff.mp e
      obtain ⟨a, vs, rfl, sq, rp⟩ := vw.lst
      cases (show u = Value.ref a from r0)
      obtain ⟨its, vals, ⟨o, k, g, c, _, dt⟩, _⟩ := I.list sq
      obtain ⟨⟨as, rd⟩, bs, m, al⟩ := shw_all (toPyN 59) (shw_of I 59) rp vals e1 (by simpa [PyData.showable] using hs) fun t m => Nat.le_trans (listText_mem_le m) (by simpa only [PyData.shown] using hz)
      have far : a ∉ bs := not_mem_of_deeper (Reads.list g c dt (by simpa using rd)) (by simp only [PyData.depth]; omega) m
      simp only [PyData.depth] at dp
      simp only [PyData.shown] at fin hz
      refine call_repr_slot (by omega) ⟨o, g, c⟩ F.slot_list_repr.toG ?_
      cases its with
      | nil =>
        cases rd
        simp only [PyData.shownAll, listText_nil] at fin
        exact call_list_repr_empty ⟨o, g, c⟩ g dt ⟨_, _, rfl, fin _ _ _ fun _ _ z => z⟩
      | cons x l => exact call_list_reprK g c dt far (by simpa using al.length_eq) (fun i y e => al.item i y (by simpa using e)) gu (fun b _ => Clear.nil b) (by show X.A.units + 1 + _ < _; omega) (fun _ _ z => z) (fun h' t tk kp => ⟨_, _, rfl, fin h' t tk kp⟩) hz
    | tup ds =>
      obtain ⟨ps, e1, rfl⟩ := Option.map_eq_some_iff.mp e
      obtain ⟨a, vs, rfl, sq, rp⟩ := vw.tup
      cases (show u = Value.ref a from r0)
      obtain ⟨its, vals, tupO, _⟩ := I.tuple sq
      obtain ⟨o, g, c, k, dt⟩ := tupO
      obtain ⟨⟨as, rd⟩, bs, m, al⟩ := shw_all (toPyN 59) (shw_of I 59) rp vals e1 (by simpa [PyData.showable] using hs) fun t m => Nat.le_trans (tupleText_mem_le m) (by simpa only [PyData.shown] using hz)
      have far : a ∉ bs := not_mem_of_deeper (Reads.tuple g c dt (by simpa using rd)) (by simp only [PyData.depth]; omega) m
      simp only [PyData.depth] at dp
      simp only [PyData.shown] at fin hz
      exact call_repr_slot (by omega) ⟨o, g, c⟩ F.slot_tuple_repr (call_tuple_reprK g c dt far (by simpa using al) gu (fun b _ => Clear.nil b) (by show X.A.units + 1 + _ < _; omega) (fun _ _ z => z) (fun h' t tk kp => ⟨_, _, rfl, fin h' t tk kp⟩) hz)
def isDic : PyData → Bool
  | .dict _ => true
  | _ => false
/-- the text of data, where there is one -/
def reprOf (d : D) : Option Str := match toPyN 60 d with
  | some p => if p.showable = true ∧ p.shown.length ≤ sizeLine ∧ p.depth ≤ 100 ∧ isDic p = false then some p.shown else none
  | none => none
def reprGD (ds : List D) : Option (D × Kd) := match ds with
  | [d] => (reprOf d).map fun t => (.con (.str t), .shr)
  | _ => none
theorem os_repG {K : PySem.W.Frag} : OpS K (rRepr K) reprGD := fun G O σ H ρ vs ds z Q hK R w e q => by
  unfold reprGD at e
  split at e
  · obtain ⟨t, e1, e2⟩ := Option.map_eq_some_iff.mp e
    subst e2
    obtain ⟨u, rfl, v1⟩ := w.one
    unfold reprOf at e1
    split at e1
    · rename_i p ep
      split at e1
      · rename_i hl
        cases e1
        exact ⟨_, O, _, p, rfl, hK ▸ v1, ep, hl.1, hl.2.1, hl.2.2.1, fun kvs z => by (have := hl.2.2.2; rw [z] at this; cases this), q O _ H (R.con _)⟩
      · cases e1
    · cases e1
  · cases e
end
end L2.VL
end
section
set_option Elab.async false
set_option linter.all false
set_option maxRecDepth 100000
namespace L2.VL
open PySem PySem.Spec PyProof.Rows L2
def strGD (ds : List D) : Option (D × Kd) := match ds with
  | [.con (.int i)] => if i.natAbs.log2 < 1920 then some (.con (.str (toString i)), .shr) else none
  | _ => none
theorem os_strG {K : PySem.W.Frag} : OpS K (fun xs H Q => ∃ i, xs = [.int i] ∧ i.natAbs.log2 < 1920 ∧ Q (.str (toString i)) H) strGD := fun G O σ H ρ vs ds z Q hK R w e q => by
  unfold strGD at e
  split at e
  · rename_i i
    split at e
    · rename_i hl
      cases e
      obtain ⟨v, rfl, v1⟩ := w.one
      exact ⟨i, by rw [v1.con], hl, q O _ H (R.con _)⟩
    · cases e
  · cases e
end L2.VL
end
section
set_option Elab.async false
set_option linter.all false
set_option maxRecDepth 100000
namespace L2.VL
open PySem PySem.Spec PyProof.Rows L2
end L2.VL
end
section
set_option Elab.async false
set_option linter.all false
set_option maxRecDepth 100000
namespace L2.VL
open PySem PySem.Spec PyProof.Rows L2
section
variable {X : Cx} {e o : Expr} {st : Stmt} {sts : List Stmt} {r ro : DE} {sa sb : DS} {pos : Pos}
theorem PET.imp {t t' : TE} (h : PET X e t) (i : ∀ σ H Q, t' σ H Q → t σ H Q) : PET X e t' := fun pins s σ H Q h0 I q => h pins s σ H Q h0 I (i σ H Q q)
theorem PST.imp {t t' : TS} (h : PST X st t) (i : ∀ D σ H, t' D σ H → t D σ H) : PST X st t' := fun pins s σ H D h0 I q => h pins s σ H D h0 I (i D σ H q)
theorem PSsT.imp {t t' : TS} (h : PSsT X sts t) (i : ∀ D σ H, t' D σ H → t D σ H) : PSsT X sts t' := fun pins s σ H D h0 I q => h pins s σ H D h0 I (i D σ H q)
end
end L2.VL
end
section
set_option Elab.async false
set_option linter.all false
set_option maxRecDepth 100000
set_option maxHeartbeats 3200000
namespace L2.VL
open PySem PySem.Spec PyProof.Rows L2 PpSet
section
variable {P : Program} {w : World} {A : Around} {E : Value → Shared → Prop} {s : Shared}
/-- set(xs), xs a list of ints: the library's loop over set_update_ints, walked over a list -/
theorem call_set_listR {l : Addr} {items : Array Value} (ns : List Int) {Q : Value → Shared → Prop} (calm : A.handled = none) (hl : s.heap.IsList l items) (hi : IntsAre items.toList ns) (few : ns.length + 1 < scanBound)
    (h : ∀ (h' : Heap) (tk c : Nat), SetR w h' s.heap.objs.size (memS ns) c → c ≤ ns.length → (∀ b o, s.heap.get? b = some o → h'.get? b = some o) → Q (.ref s.heap.objs.size) { s with heap := h', toks := tk }) :
    wpAny (model P w) A (call (.type "set") [.ref l]) Q E s := by
  have len : items.size = ns.length := by
    have q := IntsAre.length hi
    rwa [Array.length_toList] at q
  obtain ⟨c, tl, hmro⟩ := PySem.F.called_set.mro
  have a1 := PySem.F.called_set.made
  have a2 := PySem.F.called_set.sub
  have a3 := PySem.F.called_set.notType
  have a4 := PySem.F.called_set.canCreate
  have a5 := PySem.F.typeCall_set_1 (.ref l)
  refine wpAny_call (codeAny_of_tree ?_)
  show wpAny _ _ (callAny (.type "set") _) _ _ _
  refine wpAny_pure ⟨Code.quiet_builtin _ (by decide +kernel), codeAny_builtin PySem.F.entry_type_call ?_⟩
  rw [Around.under_plain (weight_type_call_type "set" [.ref l] []) rfl]
  repeat (any_goals (first | assumption | wp_step))
  refine codeAny_mono (code_set_led1 (.ref l) (E := E) (Q₁ := fun u t => u = .ref s.heap.objs.size ∧ t = { s with heap := s.heap.push ({ cls := .type "set", dict := none, data := .set #[] 0 (.fresh 0 0 (!w.params.followText "set-order")) } : Obj) }) ⟨rfl, rfl⟩) fun r t hr => ?_
  cases r with
  | error e => exact hr
  | ok f =>
    cases f with
    | next | brk | cont => exact hr.elim
    | ret u =>
      obtain ⟨rfl, rfl⟩ := hr
      have at0 : (s.heap.push ({ cls := .type "set", dict := none, data := .set #[] 0 (.fresh 0 0 (!w.params.followText "set-order")) } : Obj)).get? s.heap.objs.size = some ({ cls := .type "set", dict := none, data := .set #[] 0 (.fresh 0 0 (!w.params.followText "set-order")) } : Obj) := Heap.get?_push_size _ rfl
      have ty : Shared.TypeIs { s with heap := s.heap.push ({ cls := .type "set", dict := none, data := .set #[] 0 (.fresh 0 0 (!w.params.followText "set-order")) } : Obj) } (.ref s.heap.objs.size) "set" := ⟨_, at0, rfl⟩
      have b1 := PySem.F.called_set.init.lookup
      have b2 := PySem.F.called_set.init.bind (.ref s.heap.objs.size)
      repeat (any_goals (first | assumption | wp_step))
      refine codeAny_mono (codeAny_call_builtin (R := wants (fun r t => r = .none ∧ ∃ h' tk c, t = { s with heap := h', toks := tk } ∧ SetR w h' s.heap.objs.size (memS ns) c ∧ c ≤ ns.length ∧ (∀ b o, s.heap.get? b = some o → h'.get? b = some o)) E)
        PySem.F.called_set.init.plain PySem.F.entry_set_init (check_set_init_1 ty ?_)) fun r2 t2 hr2 => ?_
      · obtain ⟨⟨cls, dd, dat, sl⟩, hol, hc, nl, hd⟩ := hl
        simp only at hc hd
        subst hc; subst hd
        have old : (s.heap.push ({ cls := .type "set", dict := none, data := .set #[] 0 (.fresh 0 0 (!w.params.followText "set-order")) } : Obj)).get? l = some { cls := .type "list", dict := dd, data := .seq items nl, slots := sl } := Heap.get?_push_of_some _ hol
        have c1 := PySem.F.sub_list_set
        have c2 := PySem.F.sub_list_frozenset
        have c3 : (Value.type "list" == Value.type "dict") = false := by decide
        have lst : (s.heap.push ({ cls := .type "set", dict := none, data := .set #[] 0 (.fresh 0 0 (!w.params.followText "set-order")) } : Obj)).IsList l items := ⟨_, old, rfl, nl, rfl⟩
        unfold Builtin.«set.__init__» noKeywords Builtin.Frozenset.updateFrom
        generalize hPI : pyIter = PI
        wp_walk
        subst hPI
        refine wpAny_pyIter_list lst (wpAny_bind (wpAny_runValue ?_))
        have lo : l < s.heap.objs.size := Heap.lt_size hol
        have calm3 : A.in1.in1.in1.handled = none := by simp [calm]
        have sz : (s.heap.push ({ cls := .type "set", dict := none, data := .set #[] 0 (.fresh 0 0 (!w.params.followText "set-order")) } : Obj)).objs.size = s.heap.objs.size + 1 := Heap.size_push ..
        have off : s.heap.objs.size ∉ [(s.heap.push ({ cls := .type "set", dict := none, data := .set #[] 0 (.fresh 0 0 (!w.params.followText "set-order")) } : Obj)).objs.size, l] := by
          rw [sz]; simp only [List.mem_cons, List.not_mem_nil, or_false, not_or]; exact ⟨Nat.ne_of_lt (Nat.lt_succ_self _), Nat.ne_of_gt lo⟩
        refine set_update_ints ((Walks.list calm3 _ l (by rw [sz]; exact Nat.ne_of_lt (Nat.lt_succ_of_lt lo)) items).toS) s.heap.objs.size off ns len few (fun i v hv => ?_) (items.size - 0) 0 _ (by omega) (Nat.zero_le _) ⟨⟨_, Heap.get?_push_size _ rfl, rfl, rfl⟩, (lst.push _)⟩ ⟨0, Nat.le_refl 0, setR_new_at (Heap.get?_push_of_some _ at0)⟩ fun t' c' hm hc' r' => ?_
        · have il : i < ns.length := by rw [← len]; exact (Array.getElem?_eq_some_iff.mp hv).1
          obtain ⟨k, e⟩ := PyProof.Rows.IntsAre.int_at hi i v (by rw [Array.getElem?_toList]; exact hv)
          refine ⟨ns[i], k, List.getElem?_eq_getElem il, ?_⟩
          rw [e, List.getD_eq_getElem?_getD, List.getElem?_eq_getElem il] <;> rfl
        · obtain ⟨h', g', d', k', o'⟩ := t'
          obtain rfl : g' = s.gens := hm.gens
          obtain rfl : d' = s.drawn := hm.drawn
          obtain rfl : o' = s.os := hm.os
          refine wpAny_pure (wpAny_pure ⟨rfl, h', k', c', rfl, r', by rwa [len] at hc', fun b o e => ?_⟩)
          have lt := Heap.lt_size e
          exact hm.heap b o (by rw [sz]; simp only [List.mem_cons, List.not_mem_nil, or_false, not_or]; exact ⟨Nat.ne_of_lt lt, Nat.ne_of_lt (Nat.lt_succ_of_lt lt)⟩) (Heap.get?_push_of_some _ (Heap.get?_push_of_some _ e))
      · cases r2 with
        | error e => exact hr2
        | ok f2 =>
          cases f2 with
          | next | brk | cont => exact hr2.elim
          | ret r =>
            obtain ⟨rfl, h', tk, c', rfl, r', hc', kp⟩ := hr2
            repeat (any_goals (first | assumption | wp_step))
            exact h _ _ _ r' hc' kp
end
end L2.VL
end
section
set_option Elab.async false
set_option linter.all false
set_option maxRecDepth 100000
namespace L2.VL
open PySem PySem.Spec PyProof.Rows L2 PpSet
/-- set(xs) -/
def rSetQ (K : PySem.W.Frag) (w : World) : List V → Hp → VK → Prop := fun vs H Q => ∃ (a : Addr) (ns : List Int), vs = [V.ref a] ∧ SqL K H a (ns.map V.int) ∧ ns.length + 1 < scanBound ∧
  ∀ (U : Addr) (c : Nat), H U = none → c ≤ ns.length → Q (.ref U) (upd H U (SetO w U (memS ns) c))
theorem cr_setQ {X : Cx} (hc : X.calm = true) : CallR X (.type "set") (rSetQ X.K X.w) := by
  intro pins s σ H vs us Q I r h
  obtain ⟨a, ns, rfl, hs, few, q⟩ := h
  obtain ⟨its, rv, hl, _⟩ := I.list hs
  rw [Vals.ref1 r]
  refine call_set_listR ns (I.ok.hd hc) hl.isList (by simpa using rv.ints) few fun h' tk c new hc kp => ?_
  exact ⟨.ref _, upd H s.heap.objs.size (SetO X.w s.heap.objs.size (memS ns) c), I.laid (t' := tk) kp (Nat.le_refl _) (setO_new new), rfl, q _ c (I.hok.fresh (Nat.le_refl _)) hc⟩
def ssG (ds : List D) : Option (D × Kd) := match ds with
  | [.lst xs] => ssEnd xs
  | _ => none
def rSSL (K : PySem.W.Frag) (w : World) : List V → Hp → VK → Prop := fun vs H Q => rSetQ K w vs H fun v H1 => rSortSI w [v] H1 Q
theorem os_ssG {K : PySem.W.Frag} {w : World} : OpS K (rSSL K w) ssG := fun G O σ H ρ vs ds z Q hK R wv e q => by
  unfold ssG at e
  split at e
  · rename_i xs
    unfold ssEnd at e
    obtain ⟨ns, e1, e2⟩ := Option.bind_eq_some_iff.mp e
    split at e2
    · rename_i few
      cases e2
      obtain ⟨v, rfl, v1⟩ := wv.one
      obtain ⟨a1, us, rfl, s1, r1⟩ := v1.lst
      rw [intsD_of e1] at r1
      rw [r1.con_inv] at s1
      refine ⟨a1, ns, rfl, s1, by unfold scanBound; omega, fun U c hU hc => ⟨U, memS ns, c, rfl, by unfold upd; rw [if_pos rfl], fun ms p m1 m2 m3 np => ?_⟩⟩
      have fU : G.Fr U = none := by
        cases e : G.Fr U with
        | none => rfl
        | some o => have := (R.fr U o e).1; rw [hU] at this; cases this
      have oU : ¬ G.Out U := fun z => by
        have := (R.ot U).mpr z
        rw [R.lout U hU] at this
        cases this
      have R2 := (R.hid (o := SetO w U (memS ns) c) hU).unhid fU oU
      have en : ms = sortU ns := rise_uniq m1 (sortU_rise ns) fun k => by rw [m2, sortU_mem]; unfold memS; rw [decide_eq_true_eq]
      subst en
      obtain ⟨O6, R6⟩ := R2.fresh (d := .lst ((sortU ns).map fun n => .con (.int n))) np (.lst (Reps.cons_map V.int _))
      exact q O6 _ _ R6
    · cases e2
  · cases e
section
variable {X : Cx} {e : Expr} {l : List (Bool × DE)} {p1 p2 p3 pos : Pos}
theorem se_sset (hx : CxG X) (hm : X.mg "sorted" = none) (hm2 : X.mg "set" = none) (ha : SA X [e] l) (hg : Gl X "sorted" := by rfl) (hg2 : Gl X "set" := by rfl)
    (he : starEach [e] X.env = (false, eval e X.env) :: starEach [] X.env := by rfl) (hpl : (backTo p3 (starEach [] X.env)).any (·.1) = false := by rfl)
    (he1 : starEach [.Call (.Name "set" p2) [e] [] p3] X.env = (false, eval (.Call (.Name "set" p2) [e] [] p3) X.env) :: starEach [] X.env := by rfl) (hpl1 : (backTo pos (starEach [] X.env)).any (·.1) = false := by rfl) :
    SE X (.Call (.Name "sorted" p1) [.Call (.Name "set" p2) [e] [] p3] [] pos) (dBi ssG l) := fun W tk =>
  PE.imp (pe_callB (cr_sortSI hx.calm) hg hm (by decide +kernel) (pa_cons (pe_callTy (cr_setQ hx.calm) hg2 hm2 (by decide +kernel) (ha W tk) (by decide) (by decide) he hpl) pa_nil he1) (by decide) (by decide) he1 hpl1)
    fun σ H Q h => (os_ssG (w := X.w)).tCB σ H Q h
end
end L2.VL
end
section
set_option Elab.async false
set_option linter.all false
set_option maxRecDepth 100000
namespace L2.VL
open PySem PySem.Spec PyProof.Rows L2
def CPw (i j : Int) : Prop := 0 ≤ j ∧ (Builtin.Int.intBits i : Int) * j ≤ 2 ^ 27
theorem op_powW {X : Cx} : OpR X (binaryOp .Pow) (rI CPw fun i j => .int (i ^ j.toNat)) := opI fun _ _ _ _ _ _ _ hc q => pow_int hc.1 hc.2 q
def CPwB (i j : Int) : Bool := decide (0 ≤ j) && (decide (j ≤ 1000) && decide (i.natAbs < 2 ^ 200))
theorem CPwB_of {i j : Int} (h : CPwB i j = true) : CPw i j := by
  unfold CPwB at h
  simp only [Bool.and_eq_true, decide_eq_true_eq] at h
  refine ⟨h.1, ?_⟩
  have hb : Builtin.Int.intBits i ≤ 200 := intBits_le h.2.2
  have h1 : (Builtin.Int.intBits i : Int) * j ≤ 200 * j := Int.mul_le_mul_of_nonneg_right (by omega) h.1
  omega
def powW := gIb CPwB fun i j => .int (i ^ j.toNat)
theorem os_powW {K : PySem.W.Frag} : OpS2 K (rI CPw fun i j => .int (i ^ j.toNat)) powW := os_Ib fun _ _ => CPwB_of
end L2.VL
end
section
set_option Elab.async false
set_option linter.all false
set_option maxRecDepth 100000
namespace L2.VL
open PySem PySem.Spec PyProof.Rows L2
/-- behind e a token is out -/
def PE1 (X : Cx) (e : Expr) (t : TE) : Prop := ∀ (pins : List (Addr × Obj)) (s : Shared) (σ : St) (H : Hp) (Q : VK), Inv X pins σ H s → t σ H Q → wpAny (model X.prog X.w) X.A (eval e X.env) (fun v s' => 1 ≤ s'.toks ∧ EP X pins σ Q v s') X.xe s
section
variable {X : Cx} {o e : Expr} {es : List Expr} {to te : TE} {ta : TA} {ro : DE} {cpos apos pos : Pos}
theorem PE1.imp {t t' : TE} (h : PE1 X e t) (i : ∀ σ H Q, t' σ H Q → t σ H Q) : PE1 X e t' := fun pins s σ H Q I q => h pins s σ H Q I (i σ H Q q)
end
end L2.VL
end
section
set_option Elab.async false
set_option linter.all false
set_option maxRecDepth 100000
namespace L2.VL
open PySem PySem.Spec PyProof.Rows L2
open PySem.W (keyToks keyToksAll dataLt minD alike alikeAll AlikeAll min_list_data reads_keeps)
/-- place by place, the shorter first -/
def lexI : List Int → List Int → Bool
  | [], [] => false
  | [], _ :: _ => true
  | _ :: _, [] => false
  | a :: r, b :: s => if a = b then lexI r s else decide (a < b)
end L2.VL
end
section
set_option Elab.async false
set_option linter.all false
set_option maxRecDepth 100000
set_option maxHeartbeats 1000000
namespace L2.VL
open PySem PySem.Spec PyProof.Rows L2
section
open PySem.SeqAt
theorem list_ne_dict (l b : Addr) (items : Array Value) (es : Array DictEntry) (n n2 : Nat) (dd dd2 : Option Addr) (sl sl2 : Array (Option Value)) :
    Meets (Builtin.«list.__ne__» ⟨[.ref l, .ref b], []⟩) (fun _ R s => s.heap.get? l = some { cls := .type "list", dict := dd, data := .seq items n, slots := sl } ∧ s.heap.get? b = some { cls := .type "dict", dict := dd2, data := .dict es n2, slots := sl2 } ∧ R (.ok (.ret .notImplemented)) s) :=
  .of_wp fun prog w A R s h => by obtain ⟨hp, g, d, tk, os⟩ := s; obtain ⟨hl, hb, h⟩ := h; have f1 := PySem.F.sub_dict_list; wp_walk using wpAny_loadPart' hl, wpAny_loadPart' hb; exact ⟨_, rfl, h⟩
theorem dict_ne_list (l b : Addr) (items : Array Value) (es : Array DictEntry) (n n2 : Nat) (dd dd2 : Option Addr) (sl sl2 : Array (Option Value)) :
    Meets (Builtin.«dict.__ne__» ⟨[.ref b, .ref l], []⟩) (fun _ R s => s.heap.get? l = some { cls := .type "list", dict := dd, data := .seq items n, slots := sl } ∧ s.heap.get? b = some { cls := .type "dict", dict := dd2, data := .dict es n2, slots := sl2 } ∧ R (.ok (.ret .notImplemented)) s) :=
  .of_wp fun prog w A R s h => by obtain ⟨hp, g, d, tk, os⟩ := s; obtain ⟨hl, hb, h⟩ := h; have f1 := PySem.F.sub_list_dict; wp_walk using wpAny_loadPart' hl, wpAny_loadPart' hb; exact ⟨_, rfl, h⟩
end
section
variable {prog : Program} {w : World} {A : Around} {E : Value → Shared → Prop} {s : Shared} {Q : Value → Shared → Prop}
theorem dict_not_list {d l : Addr} {od : Obj} {es : Array DictEntry} {k : Nat} {items : Array Value} (g : s.heap.get? d = some od) (c : od.cls = .type "dict") (dt : od.data = .dict es k) (hl : s.heap.IsList l items) (hu : A.units < cLine) (h : Q (.bool true) s) : wpAny (model prog w) A (richCompare .NotEq (.ref d) (.ref l)) Q E s := by
  obtain ⟨⟨cls, dd, data, sl⟩, ho, hc, n, hd⟩ := hl
  obtain ⟨cls2, dd2, data2, sl2⟩ := od
  simp only at hc hd c dt
  subst hc hd c dt
  have hne : d ≠ l := fun e => by
    rw [e, ho] at g
    injection g with g
    injection g with g1 g2 g3
    cases g3
  exact PySem.SeqAt.rc_ne_decline_or (k := false) ⟨_, g, rfl⟩ ⟨_, ho, rfl⟩ (by decide) PySem.F.sub_list_dict PySem.F.slot_dict_ne PySem.F.slot_list_ne_refl
    (fun _ hq => call_meets PySem.F.slot_dict_ne ⟨_, g, rfl⟩ PySem.F.entry_dict_ne (PySem.F.args_dict_ne_2 _ _) (dict_ne_list l d items es n k dd dd2 sl sl2) ⟨ho, g, hq⟩)
    (fun _ hq => call_meets PySem.F.slot_list_ne_refl ⟨_, ho, rfl⟩ PySem.F.entry_list_ne (PySem.F.args_list_ne_2 _ _) (list_ne_dict l d items es n k dd dd2 sl sl2) ⟨ho, g, hq⟩)
    (fun _ hq => PySem.SeqAt.wpAny_isSame_ref_other' hne g ho (by simp) hq) (.inr hu) h
end
def rNeDL (K : PySem.W.Frag) : R2 := fun x y H Q => ∃ p p2 vs ys, x = .ref p ∧ y = .ref p2 ∧ Rd H p (.dK vs) ∧ SqL K H p2 ys ∧ Q (.bl true) H
theorem op_neDL {X : Cx} (hu : X.A.units < cLine) : OpR X (compareOp .NotEq) (rNeDL X.K) := by
  intro pins s σ H x y v u Q I rx ry h
  obtain ⟨p, p2, vs, ys, rfl, rfl, rd, sq, q⟩ := h
  cases (show v = Value.ref p from rx)
  cases (show u = Value.ref p2 from ry)
  obtain ⟨_, low, us, kv, o, es, k, g, c, dt, _⟩ := dk_rd I.hok rd
  obtain ⟨its, vals, hl, _⟩ := I.list sq
  exact dict_not_list g c.1 dt hl.isList hu ⟨.bl true, H, I, rfl, q⟩
/-- x != y, also where x is a dict and y is a list -/
def neX (x y : D) : Option Bool := match neD x y with
  | some b => some b
  | none => match x, y with
    | .dic _, .lst _ => some true
    | _, _ => none
abbrev rNeX (K : PySem.W.Frag) : R2 := fun x y H Q => rNeA K x y H Q ∨ rNeDL K x y H Q
theorem op_neX {X : Cx} {k : Nat} (hr : Room k X.A) : OpR X (compareOp .NotEq) (rNeX X.K) := OpR.or (op_neA hr) (op_neDL (by have := hr.units; omega))
theorem cs_neX {K : PySem.W.Frag} : CmpS K (rNeX K) neX := fun a b H x y k O Q v1 v2 e q => by
  unfold neX at e
  split at e
  · rename_i c hc
    cases e
    exact .inl (cs_ne a b H x y k O Q v1 v2 hc q)
  · split at e
    · rename_i kvs xs
      cases e
      have : ∃ p vs, a = .ref p ∧ Rd H p (.dK vs) := by
        rcases v1 with r | ⟨p, ho, ev, g, c⟩ | ⟨_, _, _, z⟩
        · cases r with
          | obj n r c => cases c with | dic c => exact ⟨_, _, rfl, r⟩
        · cases c with | dic c => exact ⟨p, _, ev, .inl g⟩
        · cases z
      obtain ⟨p, vs, rfl, rd⟩ := this
      obtain ⟨p2, ys, rfl, sq, _⟩ := v2.lst
      exact .inr ⟨p, p2, vs, ys, rfl, rfl, rd, sq, q⟩
    · cases e
end L2.VL
end
section
set_option Elab.async false
set_option linter.all false
set_option maxRecDepth 100000
namespace L2.VL
open PySem PySem.Spec PyProof.Rows L2
end L2.VL
end
section
set_option Elab.async false
set_option linter.all false
set_option maxRecDepth 100000
namespace L2.VL
open PySem PySem.Spec PyProof.Rows
section
variable {K : PySem.W.Frag} {H H' : Hp} {O O' : Own} {w w' : Ow}
theorem Itm.at {u : V} {d : D} {b : Addr} (hs : Stay H H' (lin O) (lin O')) (h : Itm K H O w u d b) (hw : ∀ o, H b = some o → O' b = some w' ∧ H' b = some o) : Itm K H' O' w' u d b := by
  obtain ⟨h0, h⟩ := h
  have nl : ∀ c, O c = none → ¬ lin O c := fun c e z => z e
  rcases h with ⟨ho, es, he, h1, h2, h3⟩ | ⟨c, x, ho, d1, d2, h1, h2, h3, h4, h5, h6, h7⟩
  · exact ⟨(hw ho h2).1, .inl ⟨ho, es, he, h1, (hw ho h2).2, h3.mono hs⟩⟩
  · exact ⟨(hw ho h6).1, .inr ⟨c, x, ho, d1, d2, h1, h2, stay_none hs c _ h3 h4, (hs c _ (nl c h3) h4).1, h5.mono hs, (hw ho h6).2, h7.mono hs⟩⟩
theorem Itms.at (hs : Stay H H' (lin O) (lin O')) : ∀ {vs : List V} {ds : List D} {bs : List Addr}, Itms K H O w vs ds bs → (∀ b ∈ bs, ∀ o, H b = some o → O' b = some w' ∧ H' b = some o) → Itms K H' O' w' vs ds bs
  | _, _, _, .nil, _ => .nil
  | _, _, _, .cons a b, h => .cons (a.at hs (h _ List.mem_cons_self)) (Itms.at hs b fun c hc => h c (List.mem_cons_of_mem _ hc))
theorem Itms.snoc {u : V} {d : D} {b : Addr} (hi : Itm K H O w u d b) : ∀ {vs : List V} {ds : List D} {bs : List Addr}, Itms K H O w vs ds bs → Itms K H O w (vs ++ [u]) (ds ++ [d]) (bs ++ [b])
  | _, _, _, .nil => .cons hi .nil
  | _, _, _, .cons a b => .cons a (Itms.snoc hi b)
theorem Itms.len : ∀ {vs : List V} {ds : List D} {bs : List Addr}, Itms K H O w vs ds bs → vs.length = ds.length
  | _, _, _, .nil => rfl
  | _, _, _, .cons _ b => congrArg (· + 1) b.len
theorem Itms.owner : ∀ {vs : List V} {ds : List D} {bs : List Addr}, Itms K H O w vs ds bs → ∀ b ∈ bs, O b = some w
  | _, _, _, .nil, _, h => by cases h
  | _, _, _, .cons a b, c, h => by
    rcases List.mem_cons.mp h with e | e
    · rw [e]; exact a.1
    · exact b.owner c e
theorem Itms.get : ∀ {vs : List V} {ds : List D} {bs : List Addr} {j : Nat} {d : D}, Itms K H O w vs ds bs → ds[j]? = some d → ∃ u b, vs[j]? = some u ∧ bs[j]? = some b ∧ Itm K H O w u d b
  | _, _, _, _, _, .nil, e => by simp at e
  | _, _, _, 0, _, .cons a b, e => by simp at e; subst e; exact ⟨_, _, rfl, rfl, a⟩
  | _, _, _, j + 1, d, .cons a b, e => by
    obtain ⟨u, c, h1, h2, h3⟩ := Itms.get (j := j) (d := d) b (by simpa using e)
    exact ⟨u, c, by simpa using h1, by simpa using h2, h3⟩
/-- one item is written -/
theorem Itms.upd (hs : Stay H H' (lin O) (lin O)) {b : Addr} (hk : ∀ c o, c ≠ b → H c = some o → H' c = some o) : ∀ {vs : List V} {ds : List D} {bs : List Addr} {j : Nat} {u : V} {d' : D}, Itms K H O w vs ds bs → bs.Nodup → bs[j]? = some b → vs[j]? = some u → Itm K H' O w u d' b → Itms K H' O w vs (ds.set j d') bs
  | _, _, _, _, _, _, .nil, _, e, _, _ => by simp at e
  | _, _, _, 0, _, _, .cons a t, nd, e1, e2, hi => by
    simp at e1 e2
    subst e1 e2
    have nd := List.nodup_cons.mp nd
    exact .cons hi (t.at hs fun c hc o e => ⟨t.owner c hc, hk c o (fun z => nd.1 (z ▸ hc)) e⟩)
  | _, _, _, j + 1, _, _, .cons (b := b0) (bs := bs0) a t, nd, e1, e2, hi => by
    have nd := List.nodup_cons.mp nd
    have e1 : bs0[j]? = some b := by simpa using e1
    refine .cons (a.at hs fun o e => ⟨a.1, hk b0 o (fun z => nd.1 (z ▸ List.mem_of_getElem? e1)) e⟩) (Itms.upd hs hk t nd.2 e1 (by simpa using e2) hi)
end
end L2.VL
end
section
set_option Elab.async false
set_option linter.all false
set_option maxRecDepth 100000
namespace L2.VL
open PySem PySem.Spec PyProof.Rows
end L2.VL
end
section
set_option Elab.async false
set_option linter.all false
set_option maxRecDepth 100000
namespace L2.VL
open PySem PySem.Spec PyProof.Rows
end L2.VL
end
section
set_option Elab.async false
set_option linter.all false
set_option maxRecDepth 100000
namespace L2.VL
open PySem PySem.Spec PyProof.Rows L2
end L2.VL
end
section
set_option Elab.async false
set_option linter.all false
set_option maxRecDepth 100000
set_option maxHeartbeats 2000000
namespace L2.VL
open PySem PySem.Spec PyProof.Rows L2
def strsOf (ys : List Str) : List D := ys.map fun y => .con (.str y)
theorem reps_strs {K : PySem.W.Frag} {H : Hp} {L : Addr → Prop} (ys : List Str) : Reps K H L (ys.map V.str) (strsOf ys) := Reps.cons_map V.str ys
def splitD (d : D) (ds : List D) : Option (D × Kd) := match d, ds with
  | .con (.str a), [.con (.str b)] => if (b.length == 0) = false ∧ a.length + 2 ≤ 16777216 then some (.lst (strsOf (Txt.split a b)), .fr) else none
  | _, _ => none
theorem om_split {K : PySem.W.Frag} : OpM K "str" (fun x xs H Q => ∃ a b, x = .str a ∧ xs = [.str b] ∧ (b.length == 0) = false ∧ a.length + 2 ≤ sizeLine ∧ rNewStrs (Txt.split a b) H Q) isStr splitD := ⟨ty_str, by
  intro G O σ H ρ v vs d ds z Q hK R v1 w e q
  unfold splitD at e
  split at e
  · rename_i a b
    split at e
    · rename_i hz
      cases e
      obtain ⟨u, rfl, v2⟩ := w.one
      rw [v1.con, v2.con]
      refine ⟨a, b, rfl, rfl, hz.1, hz.2, fun p hp => ?_⟩
      obtain ⟨O4, R4⟩ := R.fresh (d := .lst (strsOf (Txt.split a b))) hp (.lst (reps_strs _))
      exact q O4 _ _ R4
    · cases e
  · cases e⟩
def partD (d : D) (ds : List D) : Option (D × Kd) := match d, ds with
  | .con (.str a), [.con (.str b)] => if (b.length == 0) = false ∧ a.length ≤ 16777216 then some (.tup [.con (.str (Txt.partition a b).1), .con (.str (Txt.partition a b).2.1), .con (.str (Txt.partition a b).2.2)], .fr) else none
  | _, _ => none
theorem om_part {K : PySem.W.Frag} : OpM K "str" (fun x xs H Q => ∃ a b, x = .str a ∧ xs = [.str b] ∧ (b.length == 0) = false ∧ a.length ≤ sizeLine ∧
    ∀ p, H p = none → Q (.ref p) (upd H p (.tup [.str (Txt.partition a b).1, .str (Txt.partition a b).2.1, .str (Txt.partition a b).2.2]))) isStr partD := ⟨ty_str, by
  intro G O σ H ρ v vs d ds z Q hK R v1 w e q
  unfold partD at e
  split at e
  · rename_i a b
    split at e
    · rename_i hz
      cases e
      obtain ⟨u, rfl, v2⟩ := w.one
      rw [v1.con, v2.con]
      refine ⟨a, b, rfl, rfl, hz.1, hz.2, fun p hp => ?_⟩
      obtain ⟨O4, R4⟩ := R.fresh (d := .tup [.con (.str (Txt.partition a b).1), .con (.str (Txt.partition a b).2.1), .con (.str (Txt.partition a b).2.2)]) hp (.tup (.cons (.con _) (.cons (.con _) (.cons (.con _) .nil))))
      exact q O4 _ _ R4
    · cases e
  · cases e⟩
section
variable {X : Cx}
theorem call_intS : CallR X (.type "int") (fun xs H Q => ∃ a n, xs = [.str a] ∧ PySem.intText? a = some n ∧ a.length ≤ 640 ∧ Q (.int n) H) := by
  intro pins s σ H xs us Q I rv h
  obtain ⟨a, n, rfl, hn, hl, q⟩ := h
  cases rv with
  | cons r1 r2 =>
    cases r2
    obtain ⟨t, rfl⟩ := r1
    exact PySem.W.KIN.call_text hn hl ⟨.int n, H, I.tok _, ⟨_, rfl⟩, q⟩
end
def intSD (ds : List D) : Option (D × Kd) := match ds with
  | [.con (.str a)] => if a.length ≤ 640 then (PySem.intText? a).map fun n => (.con (.int n), .shr) else none
  | _ => none
theorem os_intS {K : PySem.W.Frag} : OpS K (fun xs H Q => ∃ a n, xs = [.str a] ∧ PySem.intText? a = some n ∧ a.length ≤ 640 ∧ Q (.int n) H) intSD := by
  intro G O σ H ρ vs ds z Q hK R w e q
  unfold intSD at e
  split at e
  · split at e
    · rename_i a hl
      obtain ⟨n, hn, rfl⟩ := Option.map_eq_some_iff.mp e
      obtain ⟨v, rfl, v1⟩ := w.one
      rw [v1.con]
      exact ⟨a, n, rfl, hn, hl, q O _ H (R.con _)⟩
    · cases e
  · cases e
end L2.VL
end
section
set_option Elab.async false
set_option linter.all false
set_option maxRecDepth 100000
set_option maxHeartbeats 2000000
namespace L2.VL
open PySem PySem.Spec PyProof.Rows L2
end L2.VL
end
section
set_option Elab.async false
set_option linter.all false
set_option maxRecDepth 100000
set_option maxHeartbeats 2000000
namespace L2.VL
open PySem PySem.Spec PyProof.Rows L2
def shareL (ρ : Rho) : List Nat → Rho
  | [] => ρ
  | i :: is => shareL (shareR ρ i) is
section
variable {G : Fix} {O : Own} {σ : St} {H : Hp} {ρ : Rho} {T : List Tmp}
theorem Rel.shareAll : ∀ (is : List Nat) {O : Own} {ρ : Rho}, Rel G O σ H ρ T → ∃ O', Rel G O' σ H (shareL ρ is) T
  | [], O, ρ, R => ⟨O, R⟩
  | i :: is, O, ρ, R => by
    have one : ∃ O', Rel G O' σ H (shareR ρ i) T := by
      cases e : ρ[i]? with
      | none => exact ⟨O, by unfold shareR; rw [e]; exact R⟩
      | some o =>
        cases o with
        | none => exact ⟨O, by unfold shareR; rw [e]; exact R⟩
        | some s =>
          obtain ⟨O', v, R', _⟩ := R.share e
          exact ⟨O', R'⟩
    obtain ⟨O1, R1⟩ := one
    exact Rel.shareAll is R1
end
end L2.VL
end
section
set_option Elab.async false
set_option linter.all false
set_option maxRecDepth 100000
set_option maxHeartbeats 2000000
namespace L2.VL
open PySem PySem.Spec PyProof.Rows L2
/-- the arguments, a lambda behind them -/
structure PAl (X : Cx) (es : List Expr) (lam : Expr) (t : TA) : Prop where
  run : ∀ (pos : Pos) (pins : List (Addr × Obj)) (s : Shared) (σ : St) (H : Hp) (Q : List V → Hp → Prop) (Z : List Value → Shared → Prop), Inv X pins σ H s → t σ H Q →
    (∀ (vs : List V) (us : List Value) (H1 : Hp) (s1 : Shared), Inv X pins σ H1 s1 → Vals vs us → Q vs H1 → wpAny (model X.prog X.w) X.A (eval lam X.env) (fun v s2 => Z (us ++ [v]) s2) X.xe s1) →
    wpAny (model X.prog X.w) X.A (spliced (backTo pos (starEach (es ++ [lam]) X.env))) Z X.xe s
section
variable {X : Cx} {lam e : Expr} {es : List Expr} {t : TA} {te : TE} {r : DE} {l : List (Bool × DE)} {b : Bool}
theorem PAl.imp {t t' : TA} (h : PAl X es lam t) (i : ∀ σ H Q, t' σ H Q → t σ H Q) : PAl X es lam t' := ⟨fun pos pins s σ H Q Z I q go => h.run pos pins s σ H Q Z I (i σ H Q q) go⟩
end
end L2.VL
end
section
set_option Elab.async false
set_option linter.all false
set_option maxRecDepth 100000
namespace L2.VL
open PySem PySem.Spec PyProof.Rows L2
end L2.VL
end
section
set_option Elab.async false
set_option linter.all false
set_option maxRecDepth 100000
set_option maxHeartbeats 1000000
namespace L2.VL
open PySem PySem.Spec PyProof.Rows L2
section
variable {X : Cx}
def PTT (X : Cx) (e : Expr) (t : TT) : Prop := ∀ (pins : List (Addr × Obj)) (s : Shared) (σ : St) (H : Hp) (Q : Bool → Hp → Prop), 1 ≤ s.toks → Inv X pins σ H s → t σ H Q → wpAny (model X.prog X.w) X.A (isTrue e X.env (eval e X.env)) (TP X pins σ Q) X.xe s
theorem PTT.imp {e : Expr} {t t' : TT} (h : PTT X e t) (i : ∀ σ H Q, t' σ H Q → t σ H Q) : PTT X e t' := fun pins s σ H Q h0 I q => h pins s σ H Q h0 I (i σ H Q q)
end
end L2.VL
end
section
set_option Elab.async false
set_option linter.all false
set_option maxRecDepth 100000
set_option maxHeartbeats 2000000
namespace L2.VL
open PySem PySem.Spec PyProof.Rows L2
end L2.VL
end
section
set_option Elab.async false
set_option linter.all false
set_option maxRecDepth 100000
set_option maxHeartbeats 2000000
namespace L2.VL
open PySem PySem.Spec PyProof.Rows L2
open PySem.W (keyToks keyToksAll dataLt minD alike alikeAll AlikeAll reads_keeps cmpIn_lt iter_tupleW moved_old readsAll_atA)
end L2.VL
end
section
set_option Elab.async false
set_option linter.all false
set_option maxRecDepth 100000
set_option maxHeartbeats 2000000
namespace L2.VL
open PySem PySem.Spec PyProof.Rows L2
section
variable {X : Cx}
theorem RepK.some {K : PySem.W.Frag} {H : Hp} {L : Addr → Prop} {k : Key} {vs : List (Key × V)} {ds : List (Key × D)} (r : RepK K H L vs ds) : (valV vs k).isSome = (findK ds k).isSome := by
  have e1 := valV_any k vs
  have e2 : (ds.any fun kv => decide (kv.1 = k)) = (findK ds k).isSome := by
    unfold findK
    induction ds with
    | nil => rfl
    | cons p ds ih =>
      clear r e1 ih
      rw [Option.isSome_map]
      induction (p :: ds) with
      | nil => rfl
      | cons q l ih2 =>
        rw [List.any_cons, List.find?_cons]
        by_cases z : q.1 = k
        · simp [z]
        · rw [decide_eq_false z]; simpa using ih2
  rw [← e1, ← e2, r.any]
end
section
variable {X : Cx} {tg iter elt : Expr} {ifs : List Expr} {scope : Scope} {own : List (Str × Nat)} {t : Tg} {q : M Bool} {r : DE} {pos p : Pos} {x : Str} {body : List Stmt} {sb : DS}
theorem pe_or {e : Expr} {t1 t2 : TE} (h1 : PE X e t1) (h2 : PE X e t2) : PE X e fun σ H Q => t1 σ H Q ∨ t2 σ H Q := ⟨fun pins s σ H Q I h => h.elim (h1.run pins s σ H Q I) (h2.run pins s σ H Q I)⟩
end
end L2.VL
end
section
set_option Elab.async false
set_option linter.all false
set_option maxRecDepth 100000
set_option maxHeartbeats 4000000
namespace L2.Dc2
open PySem PySem.Spec PyProof.Rows L2
end L2.Dc2
end
section
set_option Elab.async false
set_option linter.all false
set_option maxRecDepth 100000
set_option maxHeartbeats 4000000
namespace L2.VL
open PySem PySem.Spec PyProof.Rows L2
theorem tIU.at {K : PySem.W.Frag} {W : WX} {it : M (List D)} {R' : It → Hp → Prop} {G : Fix} {O : Own} {σ : St} {H : Hp} {ρ : Rho} {T : List Tmp} (hK : G.K = K) (R : Rel G O σ H ρ T)
    (h : (it ρ).post (fun xs ρ' => ∀ O' H' J T1, NoNm T1 → Rel G O' σ H' ρ' (T1 ++ T) → WalkOk K T1 J xs → R' J H') (EX G σ W)) : tIU K W it σ H R' :=
  ⟨frG G O H, frO O, ρ, hK, R.frame, Res.post_mono h (fun xs ρ' q O' H' J T1 n R1 w => q _ H' J T1 n (R.unframe (fun _ _ _ _ => rfl) R1) w) fun x ρ' q => EX.unframe R q⟩
def pairOf (d : D) : Option (Key × D) := match d with
  | .tup [k, v] => (keyD k).map fun k => (k, v)
  | _ => none
end L2.VL
end
section
set_option Elab.async false
set_option linter.all false
set_option maxRecDepth 100000
set_option maxHeartbeats 4000000
namespace L2.VL
open PySem PySem.Spec PyProof.Rows L2
section
variable {vs vs1 : List Nat} {t t1 : Tg} {q q1 : M Bool} {it it1 : M (List D)} {r rk rv : DE}
def prs (acc : List D) : List (Key × D) := (optAll pairOf acc).getD []
end
end L2.VL
end
section
set_option Elab.async false
set_option linter.all false
set_option maxRecDepth 100000
set_option maxHeartbeats 2000000
namespace L2.VL
open PySem PySem.Spec PyProof.Rows L2
abbrev XRow := NestedKey × Addr × V
def stX (xs : List XRow) (k : NestedKey) (b : Addr) (v : V) : List XRow := if (xs.any fun x => decide (x.1 = k)) = true then xs.map (fun x => if x.1 = k then (x.1, x.2.1, v) else x) else xs ++ [(k, b, v)]
abbrev PX : List XRow → List (NestedKey × Addr × Value) → Prop := Paired fun x y => x.1 = y.1 ∧ x.2.1 = y.2.1 ∧ RelV x.2.2 y.2.2
theorem PX.any {xs : List XRow} {ys : List (NestedKey × Addr × Value)} (r : PX xs ys) (k : NestedKey) : (xs.any fun x => decide (x.1 = k)) = (atKey ys k).isSome := by
  unfold atKey
  rw [Option.isSome_map]
  induction r with
  | nil => rfl
  | @cons x y xs ys h t ih =>
    rw [List.any_cons, List.find?_cons, ih, h.1]
    by_cases e : y.1 = k
    · simp [e]
    · rw [decide_eq_false e]; rfl
theorem PX.putOld {xs : List XRow} {ys : List (NestedKey × Addr × Value)} (r : PX xs ys) (k : NestedKey) {v : V} {u : Value} (rv : RelV v u) : PX (xs.map (fun x => if x.1 = k then (x.1, x.2.1, v) else x)) (ys.map (putAt k u)) := by
  induction r with
  | nil => exact .nil
  | @cons x y xs ys h t ih =>
    rw [List.map_cons, List.map_cons]
    refine .cons ?_ ih
    unfold putAt
    obtain ⟨h1, h2, h3⟩ := h
    by_cases e : x.1 = k
    · rw [if_pos e, if_pos (h1.symm.trans e)]
      exact ⟨h1, h2, rv⟩
    · rw [if_neg e, if_neg (fun z => e (h1.trans z))]
      exact ⟨h1, h2, h3⟩
theorem PX.putNew {xs : List XRow} {ys : List (NestedKey × Addr × Value)} (r : PX xs ys) (k : NestedKey) (b : Addr) {v : V} {u : Value} (rv : RelV v u) : PX (xs ++ [(k, b, v)]) (ys ++ [(k, b, u)]) := by
  induction r with
  | nil => exact .cons ⟨rfl, rfl, rv⟩ .nil
  | cons h t ih => exact .cons h ih
theorem PX.put {xs : List XRow} {ys : List (NestedKey × Addr × Value)} (r : PX xs ys) (k : NestedKey) (b : Addr) {v : V} {u : Value} (rv : RelV v u) : PX (stX xs k b v) (storedH ys k b u) := by
  unfold stX storedH
  rw [PX.any r k]
  split
  · exact PX.putOld r k rv
  · exact PX.putNew r k b rv
theorem PX.len {xs : List XRow} {ys : List (NestedKey × Addr × Value)} (r : PX xs ys) : xs.length = ys.length := Paired.length r
theorem PX.mem {xs : List XRow} {ys : List (NestedKey × Addr × Value)} (r : PX xs ys) : ∀ y ∈ ys, ∃ x ∈ xs, x.1 = y.1 ∧ x.2.1 = y.2.1 := by
  induction r with
  | nil => intro y hy; cases hy
  | @cons x y xs ys h t ih =>
    intro z hz
    rcases List.mem_cons.mp hz with e | e
    · subst e; exact ⟨x, List.mem_cons_self, h.1, h.2.1⟩
    · obtain ⟨x', h1, h2⟩ := ih z e
      exact ⟨x', List.mem_cons_of_mem _ h1, h2⟩
end L2.VL
end
section
set_option Elab.async false
set_option linter.all false
set_option maxRecDepth 100000
set_option maxHeartbeats 2000000
namespace L2.VL
open PySem PySem.Spec PyProof.Rows L2 PySem.SeqAt PySem.W
end L2.VL
end
section
set_option Elab.async false
set_option linter.all false
set_option maxRecDepth 100000
namespace L2.VL
open PySem PySem.Spec PyProof.Rows L2
end L2.VL
end
section
set_option Elab.async false
set_option linter.all false
set_option maxRecDepth 100000
namespace L2.VL
open PySem PySem.Spec PyProof.Rows L2
end L2.VL
end
section
set_option Elab.async false
set_option linter.all false
set_option maxRecDepth 100000
namespace L2.VL
open PySem PySem.Spec PyProof.Rows L2
section
variable {X : Cx} {kws : List Keyword} {t t' : TA} {e : Expr} {r : DE} {nm : Option Str} {kpos : Pos}
theorem PK.imp (h : PK X kws t) (i : ∀ σ H Q, t' σ H Q → t σ H Q) : PK X kws t' := ⟨fun pos pins s σ H Q I z => h.run pos pins s σ H Q I (i σ H Q z)⟩
end
end L2.VL
end
section
set_option Elab.async false
set_option linter.all false
set_option maxRecDepth 100000
namespace L2.VL
open PySem PySem.Spec PyProof.Rows L2
end L2.VL
end
section
set_option Elab.async false
set_option linter.all false
set_option maxRecDepth 100000
namespace L2.VL
open PySem PySem.Spec PyProof.Rows L2
end L2.VL
end
section
set_option Elab.async false
set_option linter.all false
set_option maxRecDepth 100000
set_option maxHeartbeats 2000000
namespace L2.VL
open PySem PySem.Spec PyProof.Rows L2
open PySem.W (keyToks dataLt alike alikeAll AllAlike EachIs dataLe Sortable sorted_data)
end L2.VL
end
section
set_option Elab.async false
set_option linter.all false
set_option maxRecDepth 100000
set_option maxHeartbeats 2000000
namespace L2.VL
open PySem PySem.Spec PyProof.Rows L2
end L2.VL
end
section
set_option Elab.async false
set_option linter.all false
set_option maxRecDepth 100000
set_option maxHeartbeats 2000000
namespace L2.VL
open PySem PySem.Spec PyProof.Rows L2
end L2.VL
end
section
set_option Elab.async false
set_option linter.all false
set_option maxRecDepth 100000
set_option maxHeartbeats 2000000
namespace L2.VL
open PySem PySem.Spec PyProof.Rows L2 PySem.SeqAt PySem.W
end L2.VL
end
section
set_option Elab.async false
set_option linter.all false
set_option maxRecDepth 100000
set_option maxHeartbeats 2000000
namespace L2.VL
open PySem PySem.Spec PyProof.Rows L2
end L2.VL
end
section
set_option Elab.async false
set_option linter.all false
set_option maxRecDepth 100000
set_option maxHeartbeats 2000000
namespace L2.VL
open PySem PySem.Spec PyProof.Rows L2
theorem PX.val {xs : List XRow} {ys : List (NestedKey × Addr × Value)} (r : PX xs ys) (k : NestedKey) : RelO (valV (xs.map fun x => (x.1, x.2.2)) k) ((atKey ys k).map (·.2)) := by
  induction r with
  | nil => exact True.intro
  | @cons p q ps qs h t ih =>
    obtain ⟨h1, _, h2⟩ := h
    rw [List.map_cons]
    by_cases e : p.1 = k
    · have e' : q.1 = k := h1.symm.trans e
      have b : atKey (q :: qs) k = some q.2 := by simp [atKey, List.find?_cons, e']
      rw [valV_pos e, b]; exact h2
    · have e' : ¬ q.1 = k := fun z => e (h1.trans z)
      have b : atKey (q :: qs) k = atKey qs k := by simp [atKey, List.find?_cons, e']
      rw [valV_neg e, b]; exact ih
section
variable {K : PySem.W.Frag} {H : Hp} {O : Own} {v : V}
theorem Vw.dix {kvs : List (NestedKey × V)} (h : Vw K H O v (.dix kvs)) : ∃ a ho, v = .ref a ∧ Rd H a ho ∧ Cont K H (lin O) ho (.dix kvs) := by
  rcases h with h | ⟨a, ho, e, h1, c⟩ | ⟨_, _, _, z⟩
  · cases h with
    | obj n r c => exact ⟨_, _, rfl, r, c⟩
  · exact ⟨a, ho, e, .inl h1, c⟩
  · cases z
end
end L2.VL
end
section
set_option Elab.async false
set_option linter.all false
set_option maxRecDepth 100000
set_option maxHeartbeats 2000000
namespace L2.VL
open PySem PySem.Spec PyProof.Rows L2
end L2.VL
end
section
set_option Elab.async false
set_option linter.all false
set_option maxRecDepth 100000
set_option maxHeartbeats 2000000
namespace L2.VL
open PySem PySem.Spec PyProof.Rows L2
end L2.VL
end
section
set_option Elab.async false
set_option linter.all false
set_option maxRecDepth 100000
set_option maxHeartbeats 2000000
namespace L2.VL
open PySem PySem.Spec PyProof.Rows L2
/-- a target: its slots, and what it stores -/
def SGf (X : Cx) (tg : Expr) (is : List Nat) (f : D → M Unit) : Prop := PG X tg (tG X.K is f)
theorem SG.f {X : Cx} {tg : Expr} {t : Tg} (h : SG X tg t) : SGf X tg t.slots t.put := h
end L2.VL
end
section
set_option Elab.async false
set_option linter.all false
set_option maxRecDepth 100000
set_option maxHeartbeats 4000000
namespace L2.VL
open PySem PySem.Spec PyProof.Rows L2
end L2.VL
end
section
set_option Elab.async false
set_option linter.all false
set_option maxRecDepth 100000
set_option maxHeartbeats 4000000
namespace L2.VL
open PySem PySem.Spec PyProof.Rows L2
end L2.VL
end
section
set_option Elab.async false
set_option linter.all false
set_option maxRecDepth 100000
set_option maxHeartbeats 4000000
namespace L2.VL
open PySem PySem.Spec PyProof.Rows L2
/-- what is walked in step -/
inductive Src where
  | lst (a : Addr) | tup (a : Addr) | txt (x : Str)
def Src.v : Src → V
  | .lst a => .ref a
  | .tup a => .ref a
  | .txt x => .str x
def chV (x : Str) : List V := x.cps.toList.map fun c => .str ⟨#[c]⟩
def Src.is (K : PySem.W.Frag) (H : Hp) : Src → List V → Prop
  | .lst a, xs => SqL K H a xs
  | .tup a, xs => SqT K H a xs
  | .txt x, xs => xs = chV x
end L2.VL
end
section
set_option Elab.async false
set_option linter.all false
set_option maxRecDepth 100000
set_option maxHeartbeats 4000000
namespace L2.VL
open PySem PySem.Spec PyProof.Rows L2
end L2.VL
end
section
set_option Elab.async false
set_option linter.all false
set_option maxRecDepth 100000
set_option maxHeartbeats 4000000
namespace L2.VL
open PySem PySem.Spec PyProof.Rows L2
end L2.VL
end
section
set_option Elab.async false
set_option linter.all false
set_option maxRecDepth 100000
set_option maxHeartbeats 4000000
namespace L2.VL
open PySem PySem.Spec PyProof.Rows L2
end L2.VL
end
section
set_option Elab.async false
set_option linter.all false
set_option maxRecDepth 100000
set_option maxHeartbeats 2000000
namespace L2.VL
open PySem PySem.Spec PyProof.Rows L2
open PySem.W (keyToks dataLt alike alikeAll AllAlike EachIs dataLe Sortable sorted_data)
end L2.VL
end
section
set_option Elab.async false
set_option linter.all false
set_option maxRecDepth 100000
set_option maxHeartbeats 4000000
namespace L2.VL
open PySem PySem.Spec PyProof.Rows L2
end L2.VL
end
section
set_option Elab.async false
set_option linter.all false
set_option maxRecDepth 100000
set_option maxHeartbeats 4000000
namespace L2.Sc2
open PySem PySem.Spec PyProof.Rows L2 L2.VL PpSet
end L2.Sc2
end
section
set_option Elab.async false
set_option linter.all false
set_option maxRecDepth 100000
set_option maxHeartbeats 4000000
namespace L2.VL
open PySem PySem.Spec PyProof.Rows L2
end L2.VL
end
section
set_option Elab.async false
set_option linter.all false
set_option maxRecDepth 100000
set_option maxHeartbeats 4000000
namespace L2.VL
open PySem PySem.Spec PyProof.Rows L2
end L2.VL
end
section
set_option Elab.async false
set_option linter.all false
set_option maxRecDepth 100000
namespace L2.VL
open PySem PySem.Spec PyProof.Rows L2
def isCn : D → Bool
  | .con _ => true
  | _ => false
end L2.VL
end
section
set_option Elab.async false
set_option linter.all false
set_option maxRecDepth 100000
set_option maxHeartbeats 2000000
namespace L2.VL
open PySem PySem.Spec PyProof.Rows L2
end L2.VL
end
section
set_option Elab.async false
set_option linter.all false
set_option maxRecDepth 100000
set_option maxHeartbeats 2000000
namespace L2.VL
open PySem PySem.Spec PyProof.Rows L2
def dOpT (g : D → Option (D × Kd)) (ra : DE) : DE := do
  let x ← ra
  let d ← dcur x
  mOpt (g d)
def OpS1 (K : PySem.W.Frag) (r : V → Hp → VK → Prop) (g : D → Option (D × Kd)) : Prop := ∀ (G : Fix) (O : Own) (σ : St) (H : Hp) (ρ : Rho) (a : V) (x : D) (z : D × Kd) (Q : VK), G.K = K → Rel G O σ H ρ [] → Vw K H O a x →
  g x = some z → (∀ O' v H', Rel G O' σ H' ρ [⟨v, z.1, z.2⟩] → Q v H') → r a H Q
theorem OpS1.run {K : PySem.W.Frag} {W : WX} {r : V → Hp → VK → Prop} {g : D → Option (D × Kd)} {ra : DE} (hs : OpS1 K r g) (σ : St) (H : Hp) (Q : VK) (h : tE K W (dOpT g ra) σ H Q) : tE K W ra σ H fun x H1 => r x H1 Q := by
  obtain ⟨G, O, ρ, hK, R, h⟩ := h
  refine tE.at hK R (Res.post_ok ((post_bind _ _).mp h) fun x ρ1 q O1 v H1 R1 => ?_)
  obtain ⟨d, e1, q3⟩ := post_cur.mp ((post_bind _ _).mp q)
  obtain ⟨z, e3, q5⟩ := (post_opt _).mp q3
  have v1 := R1.view R1.tm.1 e1
  rw [hK] at v1
  exact hs G O1 σ H1 ρ1 v d z Q hK R1.nil v1 e3 q5
end L2.VL
end
section
set_option Elab.async false
set_option linter.all false
set_option maxRecDepth 100000
set_option maxHeartbeats 2000000
namespace L2.VL
open PySem PySem.Spec PyProof.Rows L2
end L2.VL
end
section
set_option Elab.async false
set_option linter.all false
set_option maxRecDepth 100000
namespace PySem
open Sem (wp)
end PySem
namespace PySem
open Sem (wp)
end PySem
namespace PySem
open Sem (wp)
end PySem
end
section
set_option Elab.async false
set_option linter.all false
set_option maxRecDepth 100000
set_option maxHeartbeats 4000000
namespace PySem
end PySem
namespace L2.VL
open PySem PySem.Spec PyProof.Rows L2
/-- new tuples, one behind another -/
inductive NewTs : Hp → List (V × V) → List Addr → Hp → Prop
  | nil {H : Hp} : NewTs H [] [] H
  | snoc {H H' : Hp} {ps : List (V × V)} {ts : List Addr} {p : V × V} {T : Addr} : NewTs H ps ts H' → H' T = none → NewTs H (ps ++ [p]) (ts ++ [T]) (upd H' T (.tup [p.1, p.2]))
section
variable {X : Cx} {pins : List (Addr × Obj)} {σ : St} {H H0 : Hp} {s : Shared} {A : Around} {R : Result → Shared → Prop} {s1 s2 : Src} {xs ys : List V} {z TI TO i1 i2 S : Addr} {res : Value}
theorem NewTs.len {H H' : Hp} {ps : List (V × V)} {ts : List Addr} (h : NewTs H ps ts H') : ts.length = ps.length := by
  induction h with
  | nil => rfl
  | snoc _ _ ih => rw [List.length_append, List.length_append, ih]; rfl
end
end L2.VL
end
section
set_option Elab.async false
set_option linter.all false
set_option maxRecDepth 100000
set_option maxHeartbeats 2000000
namespace L2.VL
open PySem PySem.Spec PyProof.Rows L2
end L2.VL
end
section
set_option Elab.async false
set_option linter.all false
set_option maxRecDepth 100000
set_option maxHeartbeats 2000000
namespace L2.VL
open PySem PySem.Spec PyProof.Rows L2
end L2.VL
end
section
set_option Elab.async false
set_option linter.all false
set_option maxRecDepth 100000
set_option maxHeartbeats 1000000
namespace L2.VL
open PySem PySem.Spec PyProof.Rows L2 Classical
section
def hidG' (X : Addr → Prop) (G : Fix) : Fix := { G with Out := fun b => X b ∨ G.Out b, tbo := fun P q h => ⟨.inr (G.tbo P q h).1, (G.tbo P q h).2⟩ }
noncomputable def shwO (X : Addr → Prop) (O O' : Own) : Own := fun b => if X b then O b else O' b
variable {G : Fix} {O O' : Own} {σ σ' : St} {H H' : Hp} {ρ ρ' : Rho} {T : List Tmp} {X : Addr → Prop}
/-- .. and told again -/
theorem Rel.show (R : Rel G O σ H ρ []) (R' : Rel (hidG' X G) O' σ' H' ρ' T) : Rel G (shwO X O O') σ' H' ρ' T := by
  have hx : ∀ b, X b → O' b = some .out := fun b c => (R'.ot b).mpr (.inl c)
  have st : Stay H' H' (lin O') (lin (shwO X O O')) := fun a o n e => ⟨e, fun z => n (by
    unfold lin shwO at z
    unfold lin
    split at z
    · rename_i c
      rw [hx a c]; simp
    · exact z)⟩
  have keep : ∀ {a : Addr} {w : Ow}, w ≠ .out → O' a = some w → shwO X O O' a = some w := fun {a w} hw e => by
    unfold shwO
    rw [if_neg fun c => hw (by rw [hx a c] at e; exact (Option.some.inj e).symm)]
    exact e
  refine ⟨R'.len, fun b o e => ?_, fun b => ?_, fun a w e => ?_, R'.pn, fun i s e => ?_, ?_⟩
  · obtain ⟨h1, h2⟩ := R'.fr b o e
    refine ⟨h1, ?_⟩
    unfold shwO
    split
    · exact (R.fr b o e).2
    · exact h2
  · unfold shwO
    split
    · exact R.ot b
    · rename_i c
      exact (R'.ot b).trans ⟨fun z => z.resolve_left c, .inr⟩
  · unfold shwO at e
    split at e
    · rename_i c
      have t := R'.tr a _ (hx a c)
      exact t
    · exact R'.tr a w e
  · obtain ⟨v, h1, h2⟩ := R'.sl i s e
    exact ⟨v, h1, slot_mono st (fun a o e1 e2 => ⟨keep (fun z => nomatch z) e1, e2⟩) h2⟩
  · exact tmps_mono st (fun a o n _ e1 e2 => ⟨keep (fun z => nomatch z) e1, e2⟩) R'.tm
end
end L2.VL
end
section
set_option Elab.async false
set_option linter.all false
set_option maxRecDepth 100000
set_option maxHeartbeats 1000000
namespace L2.VL
open PySem PySem.Spec PyProof.Rows L2
end L2.VL
end
section
set_option Elab.async false
set_option linter.all false
set_option maxRecDepth 100000
set_option maxHeartbeats 1000000
namespace L2.VL
open PySem PySem.Spec PyProof.Rows L2
end L2.VL
end
section
set_option Elab.async false
set_option linter.all false
set_option maxRecDepth 100000
set_option maxHeartbeats 1000000
namespace L2.VL
open PySem PySem.Spec PyProof.Rows L2
inductive BL (X : Cx) (pj : VK → VK) : List Stmt → DS → Prop
  | one {s : Stmt} {m : DS} : SSf pj X s m → BL X pj [s] m
  | cons {s : Stmt} {ss : List Stmt} {m1 m2 : DS} : SSf pj X s m1 → BL X pj ss m2 → BL X pj (s :: ss) (dSeq m1 m2)
end L2.VL
end
section
set_option Elab.async false
set_option linter.all false
set_option maxRecDepth 100000
set_option maxHeartbeats 1000000
namespace L2.VL
open PySem PySem.Spec PyProof.Rows L2
end L2.VL
end
section
set_option Elab.async false
set_option linter.all false
set_option maxRecDepth 100000
set_option maxHeartbeats 1000000
namespace L2.VL
open PySem PySem.Spec PyProof.Rows L2
section
variable {K : PySem.W.Frag} {G : Fix} {O O' : Own} {σ : St} {H H' : Hp} {ρ : Rho} {T : List Tmp} {w w' : Ow}
mutual
theorem TrO.at : ∀ {v : V} {d : D} {as : List Addr}, TrO H O w v d as → (∀ b ∈ as, ∀ o, H b = some o → O' b = some w' ∧ H' b = some o) → TrO H' O' w' v d as
  | _, _, _, .con c, _ => .con c
  | _, _, _, .lst h1 h2 h, k => .lst (k _ List.mem_cons_self _ h2).1 (k _ List.mem_cons_self _ h2).2 (TrOs.at h fun b hb => k b (List.mem_cons_of_mem _ hb))
  | _, _, _, .tup h1 h2 h, k => .tup (k _ List.mem_cons_self _ h2).1 (k _ List.mem_cons_self _ h2).2 (TrOs.at h fun b hb => k b (List.mem_cons_of_mem _ hb))
theorem TrOs.at : ∀ {vs : List V} {ds : List D} {as : List Addr}, TrOs H O w vs ds as → (∀ b ∈ as, ∀ o, H b = some o → O' b = some w' ∧ H' b = some o) → TrOs H' O' w' vs ds as
  | _, _, _, .nil, _ => .nil
  | _, _, _, .cons a b, k => .cons (TrO.at a fun c hc => k c (List.mem_append_left _ hc)) (TrOs.at b fun c hc => k c (List.mem_append_right _ hc))
end
mutual
theorem TrO.owner : ∀ {v : V} {d : D} {as : List Addr}, TrO H O w v d as → ∀ b ∈ as, O b = some w ∧ ∃ o, H b = some o
  | _, _, _, .con c => fun _ h => nomatch h
  | _, _, _, .lst h1 h2 h => fun b hb => by
    rcases List.mem_cons.mp hb with rfl | hb
    · exact ⟨h1, _, h2⟩
    · exact TrOs.owner h b hb
  | _, _, _, .tup h1 h2 h => fun b hb => by
    rcases List.mem_cons.mp hb with rfl | hb
    · exact ⟨h1, _, h2⟩
    · exact TrOs.owner h b hb
theorem TrOs.owner : ∀ {vs : List V} {ds : List D} {as : List Addr}, TrOs H O w vs ds as → ∀ b ∈ as, O b = some w ∧ ∃ o, H b = some o
  | _, _, _, .nil => fun _ h => nomatch h
  | _, _, _, .cons a r => fun b hb => (List.mem_append.mp hb).elim (TrO.owner a b) (TrOs.owner r b)
end
theorem TrOs.snoc {v : V} {d : D} {as : List Addr} (hi : TrO H O w v d as) : ∀ {vs : List V} {ds : List D} {bs : List Addr}, TrOs H O w vs ds bs → TrOs H O w (vs ++ [v]) (ds ++ [d]) (bs ++ as)
  | _, _, _, .nil => by
    have := TrOs.cons hi (TrOs.nil (H := H) (O := O) (w := w))
    rw [List.append_nil] at this
    exact this
  | _, _, _, .cons a r => by
    rw [List.append_assoc]
    exact .cons a (TrOs.snoc hi r)
theorem TrOs.len : ∀ {vs : List V} {ds : List D} {as : List Addr}, TrOs H O w vs ds as → vs.length = ds.length
  | _, _, _, .nil => rfl
  | _, _, _, .cons _ r => by rw [List.length_cons, List.length_cons, TrOs.len r]
/-- an item, and the tree with another one in its place -/
theorem TrOs.get : ∀ {vs : List V} {ds : List D} {as : List Addr} {j : Nat} {d : D}, TrOs H O w vs ds as → ds[j]? = some d → ∃ v as1 as2 as3, vs[j]? = some v ∧ TrO H O w v d as2 ∧ as = as1 ++ (as2 ++ as3) ∧
    ∀ H' d', TrO H' O w v d' as2 → (∀ b o, b ∈ as1 ∨ b ∈ as3 → H b = some o → H' b = some o) → TrOs H' O w vs (ds.set j d') as
  | _, _, _, j, d, .nil, e => by simp at e
  | _, _, _, 0, d, .cons (as := as) (bs := bs) a r, e => by
    simp at e
    subst e
    refine ⟨_, [], as, bs, rfl, a, rfl, fun H' d' h k => .cons h (r.at fun b hb o e => ⟨(r.owner b hb).1, k b o (.inr hb) e⟩)⟩
  | _, _, _, j + 1, d, .cons (as := as) (bs := bs) a r, e => by
    obtain ⟨v, as1, as2, as3, h1, h2, h3, h4⟩ := TrOs.get r (show _ from by simpa using e)
    refine ⟨v, as ++ as1, as2, as3, by simpa using h1, h2, by rw [h3, List.append_assoc], fun H' d' h k => ?_⟩
    exact .cons (a.at fun b hb o e => ⟨(a.owner b hb).1, k b o (.inl (List.mem_append_left _ hb)) e⟩) (h4 H' d' h fun b o hb e => k b o (hb.elim (fun z => .inl (List.mem_append_right _ z)) .inr) e)
theorem tre_of {v : V} {d : D} (h : OwnX K H O w v (.tre d)) : TreO H O w v d := by
  rcases h with ⟨_, _, _, _, _, c⟩ | ⟨_, e, _⟩ | ⟨d0, e, h⟩
  · cases c
  · cases e
  · cases e; exact h
theorem OwnX.tr {v : V} {d : D} (h : TreO H O w v d) : OwnX K H O w v (.tre d) := .inr (.inr ⟨d, rfl, h⟩)
theorem trs_con : ∀ {vs : List V} {ds : List D} {L : Addr → Prop}, ds.all isCn = true → Reps K H L vs ds → TrOs H O w vs ds []
  | [], _, _, _, .nil => .nil
  | v :: vs, d :: ds, L, hc, .cons a r => by
    rw [List.all_cons, Bool.and_eq_true] at hc
    cases d with
    | con c =>
      have := a.con_inv
      subst this
      exact .cons (as := []) (.con _) (trs_con hc.2 r)
    | _ => cases hc.1
/-- a list of constants is a tree -/
theorem Rel.toTre {v : V} {ds : List D} (hc : ds.all isCn = true) (R : Rel G O σ H ρ (⟨v, .lst ds, .fr⟩ :: T)) : Rel G O σ H ρ (⟨v, .tre (.lst ds), .fr⟩ :: T) := by
  obtain ⟨a, ho, rfl, h1, h2, c⟩ := OwnX.flat (show OwnX _ _ _ _ _ _ from R.tm.1)
  cases c with
  | lst rs => exact R.pop.push (OwnX.tr ⟨a, [], .lst h1 h2 (trs_con hc rs), by simp⟩)
/-- an item goes behind a pending tree -/
theorem Rel.tpush {Dl : Addr} {acc : List D} {u : V} {d : D} (R : Rel G O σ H ρ (⟨u, .tre d, .fr⟩ :: ⟨.ref Dl, .tre (.lst acc), .fr⟩ :: T)) :
    ∃ us O', H Dl = some (.lst us) ∧ us.length = acc.length ∧ Rel G O' σ (upd H Dl (.lst (us ++ [u]))) ρ (⟨.ref Dl, .tre (.lst (acc ++ [d])), .fr⟩ :: T) := by
  obtain ⟨c, cs, t1, n1⟩ := tre_of (show OwnX _ _ _ (.tp (T.length + 1)) _ _ from R.tm.1)
  obtain ⟨a, bs, t2, n2⟩ := tre_of (show OwnX _ _ _ (.tp T.length) _ _ from R.tm.2.1)
  cases t2 with
  | lst h1 h2 h4 =>
  rename_i us
  have ne : ∀ {c : Addr} {w : Ow}, O c = some w → w ≠ .tp T.length → c ≠ Dl := fun e n z => by
    rw [z, h1] at e
    exact n (Option.some.inj e).symm
  have tm : (Ow.tp T.length) ≠ .tp (T.length + 1) := fun z => by have := Ow.tp.inj z; omega
  have hs : Stay H (upd H Dl (.lst (us ++ [u]))) (lin O) (lin (reO O (.tp (T.length + 1)) (some (.tp T.length)))) := fun c o n e => by
    have nD : c ≠ Dl := fun z => n (by rw [z]; unfold lin; rw [h1]; simp)
    refine ⟨by rw [upd_ne nD]; exact e, ?_⟩
    unfold lin at n ⊢
    rw [reO_ne (fun z => n (by rw [z]; simp))]; exact n
  have nd := List.nodup_cons.mp n2
  have ow := t1.owner
  refine ⟨us, reO O (.tp (T.length + 1)) (some (.tp T.length)), h2, h4.len, R.len, fun c o e => ?_, fun c => ?_, fun c w e => ?_, R.pn, fun i s e => ?_, ⟨OwnX.tr ⟨Dl, bs ++ (c :: cs), .lst (reO_other h1 tm) upd_same ?_, ?_⟩, ?_⟩⟩
  · obtain ⟨p1, p2⟩ := R.fr c o e
    rw [reO_ne (fun z => ?_), upd_ne (fun z => ?_)]
    · exact ⟨p1, p2⟩
    · rw [z, h1] at p2
      rcases p2 with p2 | p2 <;> cases p2
    · rw [z] at p2
      rcases p2 with p2 | p2 <;> cases p2
  · by_cases z : O c = some (.tp (T.length + 1))
    · rw [reO_eq z]
      constructor
      · intro q; cases q
      · intro q
        have := (R.ot c).mpr q
        rw [z] at this; cases this
    · rw [reO_ne z]; exact R.ot c
  · have t : TrOk G H c := by
      by_cases z : O c = some (.tp (T.length + 1))
      · exact R.tr c _ z
      · rw [reO_ne z] at e; exact R.tr c w e
    exact t.upd h2 plain_lst
  · obtain ⟨v', p1, p2⟩ := R.sl i s e
    exact ⟨v', p1, slot_mono hs (fun c o e1 e2 => ⟨reO_other e1 fun y => (by cases y), by rw [upd_ne (ne e1 fun y => (by cases y))]; exact e2⟩) p2⟩
  · refine TrOs.snoc (t1.at fun b hb o e => ⟨reO_eq (ow b hb).1, by rw [upd_ne (ne (ow b hb).1 fun y => tm y.symm)]; exact e⟩) (h4.at fun b hb o e => ⟨reO_other (h4.owner b hb).1 tm, by rw [upd_ne (fun z => nd.1 (by rw [← z]; exact hb))]; exact e⟩)
  · refine List.nodup_cons.mpr ⟨fun z => ?_, List.nodup_append.mpr ⟨nd.2, n1, fun x hx y hy e => ?_⟩⟩
    · rcases List.mem_append.mp z with z | z
      · exact nd.1 z
      · have := (ow _ z).1
        rw [h1] at this
        exact tm (Option.some.inj this)
    · have e1 := (h4.owner x hx).1
      rw [e, (ow y hy).1] at e1
      exact tm (Option.some.inj e1).symm
  · exact tmps_mono hs (fun c o n hn e1 e2 => ⟨reO_other e1 fun y => (by have := Ow.tp.inj y; omega), by rw [upd_ne (ne e1 fun y => (by cases y; exact Nat.lt_irrefl _ hn))]; exact e2⟩) R.tm.2.2
def pkD (d : D) : D := match d with
  | .tre d => d
  | d => d
def PkT (t : Tmp) : Prop := (∃ c, t.d = .con c ∧ t.k = .shr) ∨ ∃ d, t.d = .tre d ∧ t.k = .fr
def packA (O : Own) (p : Addr) : Own := fun b => if b = p then some (.tp 0) else match O b with
  | some (.tp _) => some (.tp 0)
  | o => o
theorem packA_tp {p b : Addr} {k : Nat} (n : b ≠ p) (e : O b = some (.tp k)) : packA O p b = some (.tp 0) := by
  unfold packA
  rw [if_neg n, e]
theorem packs {p : Addr} {ho : HO} (hp : H p = none) : ∀ {T : List Tmp}, TmpsOk K H O σ T → (∀ t ∈ T, PkT t) →
    ∃ as, TrOs (upd H p ho) (packA O p) (.tp 0) (T.reverse.map (·.v)) (T.reverse.map fun t => pkD t.d) as ∧ as.Nodup ∧ ∀ b ∈ as, b ≠ p ∧ ∃ k, k < T.length ∧ O b = some (.tp k)
  | [], _, _ => ⟨[], .nil, by simp, fun _ h => nomatch h⟩
  | t :: T, ⟨h, hT⟩, hk => by
    obtain ⟨as, a1, a2, a3⟩ := packs hp hT fun t ht => hk t (List.mem_cons_of_mem _ ht)
    have ne : ∀ {b : Addr} {o : HO}, H b = some o → b ≠ p := fun e z => by rw [z, hp] at e; cases e
    rcases hk t List.mem_cons_self with ⟨c, e1, e2⟩ | ⟨d, e1, e2⟩
    · refine ⟨as, ?_, a2, fun b hb => ⟨(a3 b hb).1, by obtain ⟨k, k1, k2⟩ := (a3 b hb).2; exact ⟨k, Nat.lt_succ_of_lt k1, k2⟩⟩⟩
      unfold TmpOk at h
      rw [e2] at h
      dsimp only at h
      rw [e1] at h
      rw [List.reverse_cons, List.map_append, List.map_append]
      have := TrOs.snoc (TrO.con (H := upd H p ho) (O := packA O p) (w := .tp 0) c) a1
      rw [List.append_nil] at this
      show TrOs _ _ _ (_ ++ [t.v]) (_ ++ [pkD t.d]) as
      rw [e1, h.con_inv]
      exact this
    · unfold TmpOk at h
      rw [e2] at h
      dsimp only at h
      rw [e1] at h
      obtain ⟨a, bs, t1, n1⟩ := tre_of h
      have ow := t1.owner
      refine ⟨as ++ (a :: bs), ?_, List.nodup_append.mpr ⟨a2, n1, fun x hx y hy e => ?_⟩, fun b hb => ?_⟩
      · rw [List.reverse_cons, List.map_append, List.map_append]
        show TrOs _ _ _ (_ ++ [t.v]) (_ ++ [pkD t.d]) _
        rw [e1]
        exact TrOs.snoc (t1.at fun b hb o e => ⟨packA_tp (ne e) (ow b hb).1, by rw [upd_ne (ne e)]; exact e⟩) a1
      · obtain ⟨_, k, k1, k2⟩ := a3 x hx
        rw [e, (ow y hy).1] at k2
        cases k2
        exact Nat.lt_irrefl _ k1
      · rcases List.mem_append.mp hb with hb | hb
        · obtain ⟨b1, k, k1, k2⟩ := a3 b hb
          exact ⟨b1, k, Nat.lt_succ_of_lt k1, k2⟩
        · obtain ⟨b1, o, b2⟩ := ow b hb
          exact ⟨ne b2, _, Nat.lt_succ_self _, b1⟩
theorem Rel.pack {p : Addr} {ho : HO} {d : D} (R : Rel G O σ H ρ T) (hp : H p = none) (hk : ∀ t ∈ T, PkT t)
    (hd : (ho = .lst (T.reverse.map (·.v)) ∧ d = .lst (T.reverse.map fun t => pkD t.d)) ∨ (ho = .tup (T.reverse.map (·.v)) ∧ d = .tup (T.reverse.map fun t => pkD t.d))) : Rel G (packA O p) σ (upd H p ho) ρ [⟨.ref p, .tre d, .fr⟩] := by
  have op := R.lout p hp
  have ne : ∀ {a : Addr} {o : HO}, H a = some o → a ≠ p := fun e z => by rw [z, hp] at e; cases e
  have keep : ∀ {b : Addr} {w : Ow}, (∀ k, w ≠ .tp k) → (packA O p b = some w ↔ O b = some w) := fun {b w} hw => by
    unfold packA
    by_cases z : b = p
    · rw [if_pos z, z, op]
      exact ⟨fun e => absurd (Option.some.inj e).symm (hw 0), fun e => by cases e⟩
    · rw [if_neg z]
      split
      · rename_i k e
        rw [e]
        exact ⟨fun e => absurd (Option.some.inj e).symm (hw 0), fun e => absurd (Option.some.inj e).symm (hw k)⟩
      · exact Iff.rfl
  have no : ∀ {b : Addr}, b ≠ p → O b = none → packA O p b = none := fun {b} z e => by
    unfold packA
    rw [if_neg z, e]
  have st : Stay H (upd H p ho) (lin O) (lin (packA O p)) := fun a o n e => by
    refine ⟨by rw [upd_ne (ne e)]; exact e, fun z => z (no (ne e) ?_)⟩
    cases q : O a with
    | none => rfl
    | some w => exact absurd (show lin O a by unfold lin; rw [q]; simp) n
  obtain ⟨as, a1, a2, a3⟩ := packs (ho := ho) hp R.tm hk
  have pp : packA O p p = some (.tp 0) := by unfold packA; rw [if_pos rfl]
  refine ⟨R.len, fun b o e => ?_, fun b => (keep fun k z => by cases z).trans (R.ot b), fun a w e => ?_, R.pn, fun i s e => ?_, ⟨OwnX.tr ⟨p, as, ?_, List.nodup_cons.mpr ⟨fun z => (a3 p z).1 rfl, a2⟩⟩, trivial⟩⟩
  · obtain ⟨x1, x2⟩ := R.fr b o e
    rw [upd_ne (ne x1)]
    refine ⟨x1, ?_⟩
    rcases x2 with x2 | x2
    · exact .inl (no (ne x1) x2)
    · exact .inr ((keep fun k z => by cases z).mpr x2)
  · by_cases z : a = p
    · subst z
      refine ⟨⟨_, upd_same⟩, fun q hq => ?_⟩
      have := (R.ot a).mpr (G.tbo a q hq).1
      rw [op] at this; cases this
    · unfold packA at e
      rw [if_neg z] at e
      split at e
      · rename_i k q; exact (R.tr a _ q).fresh hp
      · exact (R.tr a w e).fresh hp
  · obtain ⟨v, x1, x2⟩ := R.sl i s e
    exact ⟨v, x1, slot_mono st (fun a o e1 e2 => ⟨(keep fun k z => by cases z).mpr e1, by rw [upd_ne (ne e2)]; exact e2⟩) x2⟩
  · rcases hd with ⟨rfl, rfl⟩ | ⟨rfl, rfl⟩
    · exact .lst pp upd_same a1
    · exact .tup pp upd_same a1
end
end L2.VL
end
section
set_option Elab.async false
set_option linter.all false
set_option maxRecDepth 100000
set_option maxHeartbeats 1000000
namespace L2.VL
open PySem PySem.Spec PyProof.Rows L2
theorem pushC_rev {α : Type} (f : Tmp → α) (g : V → D × Kd → α) (hg : ∀ v x, f ⟨v, x.1, x.2⟩ = g v x) : ∀ {vs : List V} {xs : List (D × Kd)} {T : List Tmp}, vs.length = xs.length → (pushC vs xs T).reverse.map f = T.reverse.map f ++ (vs.zip xs).map fun p => g p.1 p.2
  | [], [], T, _ => by simp [pushC]
  | v :: vs, x :: xs, T, h => by
    show (pushC vs xs (⟨v, x.1, x.2⟩ :: T)).reverse.map f = _
    rw [pushC_rev f g hg (Nat.succ.inj h), List.reverse_cons, List.map_append, List.append_assoc, List.zip_cons_cons, List.map_cons, List.map_cons, hg]
    rfl
  | [], _ :: _, _, h => by cases h
  | _ :: _, [], _, h => by cases h
theorem pushC_mem : ∀ {vs : List V} {xs : List (D × Kd)} {T : List Tmp} {t : Tmp}, vs.length = xs.length → t ∈ pushC vs xs T → t ∈ T ∨ ∃ x ∈ xs, t.d = x.1 ∧ t.k = x.2
  | [], [], T, t, _, h => .inl h
  | v :: vs, x :: xs, T, t, hl, h => by
    rcases pushC_mem (T := ⟨v, x.1, x.2⟩ :: T) (Nat.succ.inj hl) h with h | ⟨y, h1, h2⟩
    · rcases List.mem_cons.mp h with rfl | h
      · exact .inr ⟨x, List.mem_cons_self, rfl, rfl⟩
      · exact .inl h
    · exact .inr ⟨y, List.mem_cons_of_mem _ h1, h2⟩
  | [], _ :: _, _, _, h, _ => by cases h
  | _ :: _, [], _, _, h, _ => by cases h
/-- a constant, or a tree -/
def pkX (x : D × Kd) : Bool := match x with
  | (.con _, .shr) => true
  | (.tre _, .fr) => true
  | _ => false
def treE (f : List D → D) (xs : List (D × Kd)) : Option (D × Kd) := if (xs.all pkX && decide (xs.length ≤ cap)) = true then some (.tre (f (xs.map fun x => pkD x.1)), .fr) else none
/-- [e, ..] as a tree -/
def dLstT (l : List (Bool × DE)) : DE := do
  let xs ← dA l
  mOpt (treE .lst xs)
/-- (e, ..) as a tree -/
def dTupT (l : List (Bool × DE)) : DE := do
  let xs ← dA l
  mOpt (treE .tup xs)
theorem treE_of {f : List D → D} {xs : List (D × Kd)} {z : D × Kd} (h : treE f xs = some z) : (∀ x ∈ xs, pkX x = true) ∧ xs.length ≤ sizeLine ∧ z = (.tre (f (xs.map fun x => pkD x.1)), .fr) := by
  unfold treE at h
  split at h
  · rename_i c
    rw [Bool.and_eq_true, decide_eq_true_eq] at c
    cases h
    exact ⟨List.all_eq_true.mp c.1, by rw [← cap_eq]; exact c.2, rfl⟩
  · cases h
theorem pkT_of {t : Tmp} {x : D × Kd} (h : pkX x = true) (e1 : t.d = x.1) (e2 : t.k = x.2) : PkT t := by
  unfold pkX at h
  split at h
  · exact .inl ⟨_, e1, e2⟩
  · exact .inr ⟨_, e1, e2⟩
  · cases h
theorem zip_v : ∀ {vs : List V} {xs : List (D × Kd)}, vs.length = xs.length → ((vs.zip xs).map fun p => p.1) = vs
  | [], [], _ => rfl
  | v :: vs, x :: xs, h => by rw [List.zip_cons_cons, List.map_cons, zip_v (Nat.succ.inj h)]
  | [], _ :: _, h => by cases h
  | _ :: _, [], h => by cases h
theorem zip_x : ∀ {vs : List V} {xs : List (D × Kd)}, vs.length = xs.length → ((vs.zip xs).map fun p => pkD p.2.1) = xs.map fun x => pkD x.1
  | [], [], _ => rfl
  | v :: vs, x :: xs, h => by rw [List.zip_cons_cons, List.map_cons, zip_x (Nat.succ.inj h), List.map_cons]
  | [], _ :: _, h => by cases h
  | _ :: _, [], h => by cases h
section
variable {X : Cx} {es : List Expr} {pos : Pos} {e : Expr} {r : DE}
theorem se_lstT {l : List (Bool × DE)} (hs : SA X es l) : SE X (.List es pos) (dLstT l) := fun W tk => PE.imp (pe_lst (hs W tk)) fun σ H Q ⟨G, O, ρ, hK, R, h⟩ => by
  refine ⟨G, O, ρ, [], hK, R, Res.post_ok ((post_bind _ _).mp h) fun xs ρ1 q O1 vs H1 hl R1 => ?_⟩
  obtain ⟨z, e, q2⟩ := (post_opt _).mp q
  obtain ⟨e1, e2, rfl⟩ := treE_of e
  refine ⟨by rw [hl]; exact e2, fun p hp => ?_⟩
  have v1 := pushC_rev (T := []) (·.v) (fun v _ => v) (fun _ _ => rfl) hl
  have v2 := pushC_rev (T := []) (fun t => pkD t.d) (fun _ x => pkD x.1) (fun _ _ => rfl) hl
  rw [List.reverse_nil, List.map_nil, List.nil_append, zip_v hl] at v1
  rw [List.reverse_nil, List.map_nil, List.nil_append, zip_x hl] at v2
  exact q2 _ _ _ (R1.pack (ho := .lst vs) hp (fun t ht => (pushC_mem hl ht).elim (fun z => nomatch z) fun ⟨x, h1, h2, h3⟩ => pkT_of (e1 x h1) h2 h3) (.inl ⟨by rw [v1], by rw [v2]⟩))
theorem se_tupT {k} {l : List (Bool × DE)} (hs : SA X es l) : SE X (.Tuple es k pos) (dTupT l) := fun W tk => PE.imp (pe_tup (hs W tk)) fun σ H Q ⟨G, O, ρ, hK, R, h⟩ => by
  refine ⟨G, O, ρ, [], hK, R, Res.post_ok ((post_bind _ _).mp h) fun xs ρ1 q O1 vs H1 hl R1 => ?_⟩
  obtain ⟨z, e, q2⟩ := (post_opt _).mp q
  obtain ⟨e1, e2, rfl⟩ := treE_of e
  refine ⟨by rw [hl]; exact e2, fun p hp => ?_⟩
  have v1 := pushC_rev (T := []) (·.v) (fun v _ => v) (fun _ _ => rfl) hl
  have v2 := pushC_rev (T := []) (fun t => pkD t.d) (fun _ x => pkD x.1) (fun _ _ => rfl) hl
  rw [List.reverse_nil, List.map_nil, List.nil_append, zip_v hl] at v1
  rw [List.reverse_nil, List.map_nil, List.nil_append, zip_x hl] at v2
  exact q2 _ _ _ (R1.pack (ho := .tup vs) hp (fun t ht => (pushC_mem hl ht).elim (fun z => nomatch z) fun ⟨x, h1, h2, h3⟩ => pkT_of (e1 x h1) h2 h3) (.inr ⟨by rw [v1], by rw [v2]⟩))
/-- a name's own object, the name's no more -/
def dTk (i : Nat) : DE := fun ρ => match ρ[i]? with
  | some (some s) => if (s.own && !s.pin) = true then .ok (s.d, .fr) (ρ.set i none) else .stuck
  | _ => .stuck
theorem se_tk (i : Nat) {x : Str} (hN : X.N[i]? = some x := by rfl) (hv : Vis X.env.scope x := by first | exact Or.inl rfl | exact Or.inr (Or.inl rfl) | exact Or.inr (Or.inr rfl)) (hd : (x == ("__debug__" : Str)) = false := by decide)
    (hcd : (x == ("__classdict__" : Str)) = false := by decide) : SE X (.Name x pos) (dTk i) := fun W tk => PE.imp (pe_var hN hv hd hcd) fun σ H Q ⟨G, O, ρ, hK, R, h⟩ => by
  unfold dTk at h
  cases e : ρ[i]? with
  | none => rw [e] at h; exact h.elim
  | some o =>
    rw [e] at h
    cases o with
    | none => exact h.elim
    | some s =>
      dsimp only at h
      by_cases c : (s.own && !s.pin) = true
      · rw [if_pos c] at h
        rw [Bool.and_eq_true, Bool.not_eq_true'] at c
        obtain ⟨v, h1, _⟩ := R.sl i s e
        obtain ⟨O2, R2⟩ := R.take e c.1 c.2 h1
        exact ⟨v, h1, h O2 v H R2⟩
      · rw [if_neg c] at h; exact h.elim
/-- a new list of constants is a tree -/
def treF (x : D × Kd) : Option (D × Kd) := match x with
  | (.lst ds, .fr) => if ds.all isCn = true then some (.tre (.lst ds), .fr) else none
  | _ => none
def dTre (r : DE) : DE := do
  let x ← r
  mOpt (treF x)
theorem se_tre (he : SE X e r) : SE X e (dTre r) := fun W tk => PE.imp (he W tk) fun σ H Q ⟨G, O, ρ, hK, R, h⟩ =>
  ⟨G, O, ρ, hK, R, Res.post_ok ((post_bind _ _).mp h) fun x ρ1 q O1 v H1 R1 => by
    obtain ⟨z, e2, q3⟩ := (post_opt _).mp q
    unfold treF at e2
    split at e2
    · split at e2
      · rename_i ds c
        cases e2
        exact q3 O1 v H1 (Rel.toTre c R1)
      · cases e2
    · cases e2⟩
/-- a tree read as what it is -/
def unTreE (d : D) : Option (D × Kd) := match d with
  | .tre d => some (d, .shr)
  | _ => none
def dUnT (r : DE) : DE := do
  let x ← r
  let y ← keep false x
  mOpt (unTreE y.1)
theorem se_unT (he : SE X e r) : SE X e (dUnT r) := fun W tk => PE.imp (he W tk) fun σ H Q ⟨G, O, ρ, hK, R, h⟩ =>
  ⟨G, O, ρ, hK, R, Res.post_ok ((post_bind _ _).mp h) fun x ρ1 q O1 v H1 R1 => by
    obtain ⟨d, e1, q2⟩ := keep_false ((post_bind _ _).mp q)
    obtain ⟨z, e2, q3⟩ := (post_opt _).mp q2
    obtain ⟨O2, R2⟩ := R1.settle (d := d) e1
    unfold unTreE at e2
    dsimp only at e2
    split at e2
    · cases e2
      have rp : Rep G.K H1 (lin O2) v (.tre _) := R2.tm.1
      cases rp with
      | obj _ _ c => cases c
      | tre rp => exact q3 O2 v H1 (R2.pop.push rp)
    · cases e2⟩
end
end L2.VL
end
section
set_option Elab.async false
set_option linter.all false
set_option maxRecDepth 100000
set_option maxHeartbeats 1000000
namespace L2.VL
open PySem PySem.Spec PyProof.Rows L2
def lcTEnd (ds : List D) : Option (D × Kd) := if ds.length ≤ cap then some (.tre (.lst ds), .fr) else none
def newT (x : D × Kd) : Option D := match x with
  | (.tre d, .fr) => some d
  | _ => none
def lcTr (own : List Nat) (t : Tg) (q : M Bool) (r : DE) : List D → M (List D)
  | [] => pure []
  | x :: xs => do
    wipeM own
    t.put x
    let b ← noX q
    if b then do
      let y ← noX r
      let d ← mOpt (newT y)
      let rest ← lcTr own t q r xs
      pure (d :: rest)
    else lcTr own t q r xs
def dLcTr (own : List Nat) (it : M (List D)) (t : Tg) (q : M Bool) (r : DE) : DE := do
  let xs ← it
  okOwn own
  let ds ← lcTr own t q r xs
  wipeM own
  mOpt (lcTEnd ds)
theorem lcTr_noex {vs : List Nat} {t : Tg} {q : M Bool} {r : DE} : ∀ (xs : List D) (ρ : Rho) (x : Exn) (ρ' : Rho), (lcTr vs t q r xs) ρ ≠ .ex x ρ' := by
  intro xs
  induction xs with
  | nil => intro ρ x ρ' z; cases z
  | cons a xs ih =>
    intro ρ x ρ' z
    replace z : (M.bind (wipeM vs) fun _ => M.bind (t.put a) fun _ => M.bind (noX q) fun b => if b then M.bind (noX r) fun y => M.bind (mOpt (newT y)) fun z => M.bind (lcTr vs t q r xs) fun rest => M.ret (z :: rest) else lcTr vs t q r xs) ρ = .ex x ρ' := z
    unfold M.bind at z
    dsimp only [wipeM] at z
    cases h1 : (t.put a) (wipeR ρ vs) with
    | stuck => rw [h1] at z; cases z
    | ex y ρ2 => exact tg_noex _ _ _ h1
    | ok u ρ2 =>
      rw [h1] at z
      dsimp only at z
      cases h2 : (noX q) ρ2 with
      | stuck => rw [h2] at z; cases z
      | ex y ρ3 =>
        unfold noX at h2
        split at h2
        · cases h2
        · rename_i hn; exact hn _ _ h2
      | ok b ρ3 =>
        rw [h2] at z
        dsimp only at z
        cases b with
        | false => exact ih _ _ _ z
        | true =>
          simp only [↓reduceIte] at z
          cases h3 : (noX r) ρ3 with
          | stuck => rw [h3] at z; cases z
          | ex y ρ4 =>
            unfold noX at h3
            split at h3
            · cases h3
            · rename_i hn; exact hn _ _ h3
          | ok y ρ4 =>
            rw [h3] at z
            dsimp only at z
            unfold mOpt at z
            cases h4 : newT y with
            | none => rw [h4] at z; cases z
            | some w =>
              rw [h4] at z
              dsimp only at z
              cases h5 : (lcTr vs t q r xs) ρ4 with
              | stuck => rw [h5] at z; cases z
              | ex w2 ρ6 => exact ih _ _ _ h5
              | ok w2 ρ6 => rw [h5] at z; cases z
section
variable {X : Cx} {tg iter elt : Expr} {ifs : List Expr} {scope : Scope} {own : List (Str × Nat)} {it : M (List D)} {t : Tg} {q : M Bool} {r : DE} {pos : Pos}
theorem lcTr_imp {K : PySem.W.Frag} {W : WX} {vs : List Nat} (hsub : ∀ i ∈ t.slots, i ∈ vs) (σ : St) (H : Hp) (Q : VK) (h : tE K W (dLcTr vs it t q r) σ H Q) : tLc (tI K W it) (tG K t.slots t.put) (tT K WF q) (tE K WF r) vs σ H Q := by
  obtain ⟨G, O, ρ, hK, R, h⟩ := h
  refine ⟨G, O, ρ, hK, R, Res.post_ok ((post_bind _ _).mp h) fun xs ρ1 q1 O1 H1 J T hT R1 wk => ?_⟩
  intro Dl hD
  replace q1 := (post_bind _ _).mp q1
  unfold okOwn at q1
  by_cases hok : vs.all (fun i => !pinned ρ1 i) = true
  · rw [if_pos hok] at q1
    have hp : ∀ i ∈ vs, G.Pin i = none := fun i hi => by
      cases e : G.Pin i with
      | none => rfl
      | some v =>
        obtain ⟨_, s, h2, h3⟩ := R1.pn i v e
        have := List.all_eq_true.mp hok i hi
        unfold pinned at this
        rw [h2] at this
        dsimp only at this
        rw [h3] at this
        cases this
    replace q1 : ((lcTr vs t q r xs) ρ1).post (fun ds ρ' => ((do wipeM vs; mOpt (lcTEnd ds) : DE) ρ').post (fun x ρ' => ∀ O' v H', Rel G O' σ H' ρ' [⟨v, x.1, x.2⟩] → Q v H') (EX G σ W)) (EX G σ W) := (post_bind _ _).mp q1
    obtain ⟨O2, R2⟩ := R1.fresh (d := .lst []) hD (.lst .nil)
    have R2 : Rel G O2 σ (upd H1 Dl (.lst [])) ρ1 (⟨.ref Dl, .tre (.lst []), .fr⟩ :: T) := R2.toTre rfl
    let Fin : List D → Rho → Prop := fun ds ρ' => ((do wipeM vs; mOpt (lcTEnd ds) : DE) ρ').post (fun x ρ' => ∀ O' v H', Rel G O' σ H' ρ' [⟨v, x.1, x.2⟩] → Q v H') (EX G σ W)
    refine ⟨fun i m H => m = xs.length - i ∧ i ≤ xs.length ∧ ∃ (O : Own) (ρ : Rho) (acc : List D) (σ2 : St), L2.wipe σ2 vs = L2.wipe σ vs ∧ Rel G O σ2 H ρ (⟨.ref Dl, .tre (.lst acc), .fr⟩ :: T) ∧
      ((lcTr vs t q r (xs.drop i)) ρ).post (fun ds ρ' => Fin (acc ++ ds) ρ') (EX G σ W), ⟨xs.length, by simp, Nat.zero_le _, O2, ρ1, [], σ, rfl, R2, q1⟩, ?_⟩
    rintro i m H3 ⟨rfl, hi, O3, ρ3, acc, σ2, hw, R3, q3⟩
    have hT2 : NoNm (⟨.ref Dl, .tre (.lst acc), .fr⟩ :: T) := hT.cons fun i z => by cases z
    have hlen : σ2.length = σ.length := by
      have := congrArg List.length hw
      rw [wipe_length, wipe_length] at this; exact this
    obtain ⟨w1, w2, w3⟩ := wk G O3 σ2 H3 ρ3 i [_] rfl (fun _ _ e => e) R3
    have off : ∀ j, j ∉ vs → σ2[j]? = σ[j]? := fun j hj => by
      have z1 := wipe_at σ2 vs j
      have z2 := wipe_at σ vs j
      rw [if_neg hj] at z1 z2
      rw [← z1, ← z2, hw]
    by_cases hlt : i < xs.length
    · refine .inr ⟨w1 hlt, fun H' => ∃ (O : Own) (ρ : Rho) (acc : List D) (σ2 : St), L2.wipe σ2 vs = L2.wipe σ vs ∧ Rel G O σ2 H' ρ (⟨.ref Dl, .tre (.lst acc), .fr⟩ :: T) ∧
        ((lcTr vs t q r (xs.drop (i + 1))) ρ).post (fun ds ρ' => Fin (acc ++ ds) ρ') (EX G σ W), fun H' p => ⟨xs.length - (i + 1), by omega, rfl, hlt, p⟩, fun v H' y => ?_⟩
      obtain ⟨O4, R4⟩ := w3 xs[i] (List.getElem?_eq_getElem hlt) v H' y
      rw [List.drop_eq_getElem_cons hlt] at q3
      have q3a := (post_bind (wipeM vs) _).mp q3
      replace q3 := (post_bind (t.put xs[i]) _).mp (show Res.post ((t.put xs[i] >>= fun _ => _) (wipeR ρ3 vs)) _ _ from q3a)
      have R5 : Rel G O4 (L2.wipe σ vs) H' (wipeR ρ3 vs) (⟨v, xs[i], .shr⟩ :: ⟨.ref Dl, .tre (.lst acc), .fr⟩ :: T) := R4.wipe (hT2.cons fun i z => by cases z) hp (by rw [wipe_length, hlen]) fun j hj => by
        rw [wipe_at, if_neg hj]; exact (off j hj).symm
      refine ⟨G, O4, _, _, xs[i], hK, hT2, R5, noex (fun ρ x ρ' => tg_noex ρ x ρ') q3 fun ρ4 q4 O6 σ6 H6 ag R6 => ?_⟩
      have hw6 : L2.wipe σ6 vs = L2.wipe σ vs := (wipe_ag ag hsub).trans wipe_wipe
      refine ⟨hw6, tT.at hK R6 (Res.post_ok (post_noX ((post_bind _ _).mp q4) _) fun b ρ5 q5 O7 H7 R7 => ?_)⟩
      cases b with
      | false =>
        rw [if_neg Bool.false_ne_true] at q5 ⊢
        exact ⟨O7, ρ5, acc, σ6, hw6, R7, q5⟩
      | true =>
        rw [if_pos rfl] at q5 ⊢
        refine tE.at hK R7 (Res.post_ok (post_noX ((post_bind _ _).mp q5) _) fun y ρ6 q6 O8 v2 H8 R8 => ?_)
        obtain ⟨d, e1, q7⟩ := (post_opt _).mp ((post_bind _ _).mp q6)
        unfold newT at e1
        split at e1
        · skip
          cases e1
          obtain ⟨vs0, O9, g1, g2, R10⟩ := Rel.tpush R8
          have q8 := (post_bind _ _).mp q7
          -- the size
          have hz : acc.length < sizeLine := by
            cases qq : (lcTr vs t q r (xs.drop (i + 1))) ρ6 with
            | stuck => rw [qq] at q8; exact q8.elim
            | ok ds ρ7 =>
              rw [qq] at q8
              replace q8 : Fin (acc ++ (d :: ds)) ρ7 := q8
              replace q8 : ((mOpt (lcTEnd (acc ++ (d :: ds))) : DE) (wipeR ρ7 vs)).post (fun x ρ' => ∀ O' v H', Rel G O' σ H' ρ' [⟨v, x.1, x.2⟩] → Q v H') (EX G σ W) := q8
              obtain ⟨z, e3, _⟩ := (post_opt _).mp q8
              unfold lcTEnd at e3
              split at e3
              · rename_i hl
                rw [List.length_append, List.length_cons, cap_eq] at hl
                omega
              · cases e3
            | ex x ρ7 => exact absurd qq (lcTr_noex _ _ _ _)
          refine ⟨_, g1, by rw [g2]; exact hz, O9, ρ6, acc ++ [d], σ6, hw6, R10, Res.post_ok q8 fun ds ρ7 q9 => ?_⟩
          show Fin (acc ++ [_] ++ ds) ρ7
          rw [List.append_assoc]
          exact q9
        · cases e1
    · have e : i = xs.length := by omega
      subst e
      rw [List.drop_length] at q3
      replace q3 : Fin (acc ++ []) ρ3 := q3
      rw [List.append_nil] at q3
      replace q3 : ((mOpt (lcTEnd acc) : DE) (wipeR ρ3 vs)).post (fun x ρ' => ∀ O' v H', Rel G O' σ H' ρ' [⟨v, x.1, x.2⟩] → Q v H') (EX G σ W) := q3
      obtain ⟨z, e3, q4⟩ := (post_opt _).mp q3
      unfold lcTEnd at e3
      split at e3
      · cases e3
        obtain ⟨O6, R6⟩ := (R3.wipe (σ' := σ) hT2 hp hlen.symm fun j hj => (off j hj).symm).only
        exact .inl ⟨w2 (Nat.le_refl _), q4 O6 _ _ R6⟩
      · cases e3
  · rw [if_neg hok] at q1; exact q1.elim
theorem se_lcTr (own : List (Str × Nat)) (hx : CxG X) (hi : SI X tg iter it) (ok : blkC X.N X.env.scope scope own = true)
    (hg : ∀ (s : Shared) (H : Hp) (C : Addr) (cl : List (Str × Addr)) (fp : List Addr), SG (X.blk s H scope (compEnvC scope cl C X.env) fp) tg t) (ht : ∀ (s : Shared) (H : Hp) (C : Addr) (cl : List (Str × Addr)) (fp : List Addr), STs (X.blk s H scope (compEnvC scope cl C X.env) fp) ifs q)
    (he : ∀ (s : Shared) (H : Hp) (C : Addr) (cl : List (Str × Addr)) (fp : List Addr), SE (X.blk s H scope (compEnvC scope cl C X.env) fp) elt r) (hsub : ∀ i ∈ t.slots, i ∈ own.map (·.2) := by decide) (hs : ∀ x, foldedSetIterable iter X.env x = pure x := by intro _; rfl) :
    SE X (.ListComp elt [⟨tg, iter, ifs, 0⟩] scope pos) (dLcTr (own.map (·.2)) it t q r) := fun W tk =>
  PE.imp (pe_lc (g := tG X.K t.slots t.put) (tt := tT X.K WF q) (te := tE X.K WF r) hx.calm hx.nd (hi W tk) (blkOk_by ok) (fun s H C cl fp => hg s H C cl fp) (fun s H C cl fp => ht s H C cl fp WF takesF) (fun s H C cl fp => he s H C cl fp WF takesF) hs) (lcTr_imp hsub)
theorem ss_setLcTr {pj : VK → VK} (own : List (Str × Nat)) (i : Nat) {y : Str} {py spos : Pos} (hx : CxG X) (hi : SI X tg iter it) (ok : blkC X.N X.env.scope scope own = true)
    (hg : ∀ (s : Shared) (H : Hp) (C : Addr) (cl : List (Str × Addr)) (fp : List Addr), SG (X.blk s H scope (compEnvC scope cl C X.env) fp) tg t) (ht : ∀ (s : Shared) (H : Hp) (C : Addr) (cl : List (Str × Addr)) (fp : List Addr), STs (X.blk s H scope (compEnvC scope cl C X.env) fp) ifs q)
    (he : ∀ (s : Shared) (H : Hp) (C : Addr) (cl : List (Str × Addr)) (fp : List Addr), SE (X.blk s H scope (compEnvC scope cl C X.env) fp) elt r) (hsw : swapsWith (.ListComp elt [⟨tg, iter, ifs, 0⟩] scope pos) (some (.Name y py)) spos.line X.env = pure true)
    (hy : X.N[i]? = some y := by rfl) (hyl : X.env.scope.names.lookup y = some .local := by rfl) (hsub : ∀ i ∈ t.slots, i ∈ own.map (·.2) := by decide) (hs : ∀ x, foldedSetIterable iter X.env x = pure x := by intro _; rfl) :
    SSf pj X (.Assign [.Name y py] (.ListComp elt [⟨tg, iter, ifs, 0⟩] scope pos) spos) (dSet i (dLcTr (own.map (·.2)) it t q r)) := fun W tk =>
  PS.imp (ps_setLc (g := tG X.K t.slots t.put) (tt := tT X.K WF q) (te := tE X.K WF r) hx.calm hx.nd hy hyl hsw (hi W tk) (blkOk_by ok) (fun s H C cl fp => hg s H C cl fp) (fun s H C cl fp => ht s H C cl fp WF takesF) (fun s H C cl fp => he s H C cl fp WF takesF) hs) fun D σ H ⟨G, O, ρ, hK, R, h⟩ =>
    lcTr_imp (W := W) hsub σ H _ ⟨G, O, ρ, hK, R, Res.post_mono ((post_bind _ _).mp h) (fun y ρ1 q O' v H' R' => by
      obtain ⟨O2, ρ2, R2, q2⟩ := put_post .nil R' ((post_bind _ _).mp q)
      exact q2 O2 _ H' R2) fun x ρ' q => q σ⟩
end
end L2.VL
end
section
set_option Elab.async false
set_option linter.all false
set_option maxRecDepth 100000
set_option maxHeartbeats 1000000
namespace L2.VL
open PySem PySem.Spec PyProof.Rows L2
/-- the tree with c behind the list at the end of the path -/
def wrT (c : V) : List Nat → D → Option D
  | [], .lst es => if es.length < cap then some (.lst (es ++ [.con c])) else none
  | k :: p, .lst ds => (ds[k]?).bind fun d => (wrT c p d).map fun d' => .lst (ds.set k d')
  | k :: p, .tup ds => (ds[k]?).bind fun d => (wrT c p d).map fun d' => .tup (ds.set k d')
  | _, _ => none
/-- the object at the end of the path is b -/
def ReT (H : Hp) (b : Addr) : List Nat → V → Prop
  | [], v => v = .ref b
  | k :: p, v => ∃ a vs u, v = .ref a ∧ (H a = some (.lst vs) ∨ H a = some (.tup vs)) ∧ vs[k]? = some u ∧ ReT H b p u
section
variable {K : PySem.W.Frag} {G : Fix} {O O' : Own} {σ : St} {H H' : Hp} {ρ : Rho} {T : List Tmp} {w w' : Ow}
theorem TrO.write {c : V} : ∀ {p : List Nat} {v : V} {d d2 : D} {as : List Addr}, TrO H O w v d as → as.Nodup → wrT c p d = some d2 → ∃ b ws, ReT H b p v ∧ b ∈ as ∧ H b = some (.lst ws) ∧ ws.length < cap ∧ TrO (upd H b (.lst (ws ++ [c]))) O w v d2 as
  | [], _, _, d2, _, .lst (a := a) (vs := vs) (as := as) h1 h2 h, nd, e => by
    unfold wrT at e
    split at e
    · rename_i hl
      cases e
      refine ⟨a, vs, rfl, List.mem_cons_self, h2, by rw [h.len]; exact hl, .lst h1 upd_same ?_⟩
      have := TrOs.snoc (TrO.con (H := upd H a (.lst (vs ++ [c]))) (O := O) (w := w) c) (h.at (w' := w) (O' := O) (H' := upd H a (.lst (vs ++ [c]))) fun b hb o eb => ⟨(h.owner b hb).1, by rw [upd_ne (fun z => (List.nodup_cons.mp nd).1 (by rw [← z]; exact hb))]; exact eb⟩)
      rw [List.append_nil] at this
      exact this
    · cases e
  | [], _, _, _, _, .con _, _, e => by cases e
  | [], _, _, _, _, .tup _ _ _, _, e => by cases e
  | k :: p, _, _, _, _, .con _, _, e => by cases e
  | k :: p, _, _, d2, _, .lst (a := a) (vs := vs) (as := as) h1 h2 h, nd, e => by
    obtain ⟨d, e1, e2⟩ := Option.bind_eq_some_iff.mp (show (_ : Option D).bind _ = some d2 from e)
    obtain ⟨d', e3, rfl⟩ := Option.map_eq_some_iff.mp e2
    obtain ⟨u, as1, as2, as3, g1, g2, g3, g4⟩ := h.get e1
    have nd2 := List.nodup_cons.mp nd
    have n3 := nd2.2
    rw [g3] at n3
    obtain ⟨n4, n5, n6⟩ := List.nodup_append.mp n3
    obtain ⟨n7, n8, n9⟩ := List.nodup_append.mp n5
    obtain ⟨b, ws, r1, r2, r3, r4, r5⟩ := TrO.write g2 n7 e3
    have ab : a ≠ b := fun z => nd2.1 (by rw [g3, z]; exact List.mem_append_right _ (List.mem_append_left _ r2))
    refine ⟨b, ws, ⟨a, vs, u, rfl, .inl h2, g1, r1⟩, List.mem_cons_of_mem _ (by rw [g3]; exact List.mem_append_right _ (List.mem_append_left _ r2)), r3, r4, .lst h1 (by rw [upd_ne ab]; exact h2) (g4 _ _ r5 fun x o hx ex => ?_)⟩
    rw [upd_ne]
    · exact ex
    · intro z
      subst z
      rcases hx with hx | hx
      · exact n6 _ hx _ (List.mem_append_left _ r2) rfl
      · exact n9 _ r2 _ hx rfl
  | k :: p, _, _, d2, _, .tup (a := a) (vs := vs) (as := as) h1 h2 h, nd, e => by
    obtain ⟨d, e1, e2⟩ := Option.bind_eq_some_iff.mp (show (_ : Option D).bind _ = some d2 from e)
    obtain ⟨d', e3, rfl⟩ := Option.map_eq_some_iff.mp e2
    obtain ⟨u, as1, as2, as3, g1, g2, g3, g4⟩ := h.get e1
    have nd2 := List.nodup_cons.mp nd
    have n3 := nd2.2
    rw [g3] at n3
    obtain ⟨n4, n5, n6⟩ := List.nodup_append.mp n3
    obtain ⟨n7, n8, n9⟩ := List.nodup_append.mp n5
    obtain ⟨b, ws, r1, r2, r3, r4, r5⟩ := TrO.write g2 n7 e3
    have ab : a ≠ b := fun z => nd2.1 (by rw [g3, z]; exact List.mem_append_right _ (List.mem_append_left _ r2))
    refine ⟨b, ws, ⟨a, vs, u, rfl, .inr h2, g1, r1⟩, List.mem_cons_of_mem _ (by rw [g3]; exact List.mem_append_right _ (List.mem_append_left _ r2)), r3, r4, .tup h1 (by rw [upd_ne ab]; exact h2) (g4 _ _ r5 fun x o hx ex => ?_)⟩
    rw [upd_ne]
    · exact ex
    · intro z
      subst z
      rcases hx with hx | hx
      · exact n6 _ hx _ (List.mem_append_left _ r2) rfl
      · exact n9 _ r2 _ hx rfl
theorem Rel.twr {i : Nat} {d d2 : D} {q : Bool} {c : V} {p : List Nat} (R : Rel G O σ H ρ T) (e : ρ[i]? = some (some ⟨.tre d, true, q⟩)) (hw : wrT c p d = some d2) :
    ∃ v b ws, σ[i]? = some (some v) ∧ ReT H b p v ∧ H b = some (.lst ws) ∧ ws.length < cap ∧ Rel G O σ (upd H b (.lst (ws ++ [c]))) (ρ.set i (some ⟨.tre d2, true, q⟩)) T := by
  have hi : i < ρ.length := (List.getElem?_eq_some_iff.mp e).1
  obtain ⟨v, s1, s2⟩ := R.sl i _ e
  obtain ⟨a, as, t1, nd⟩ := tre_of (show OwnX _ _ _ _ _ _ from s2)
  obtain ⟨b, ws, r1, r2, r3, r4, r5⟩ := t1.write nd hw
  have ob := (t1.owner b r2).1
  refine ⟨v, b, ws, s1, r1, r3, r4, ?_⟩
  have hs : Stay H (upd H b (.lst (ws ++ [c]))) (lin O) (lin O) := fun y o n eb => by
    refine ⟨?_, n⟩
    rw [upd_ne]
    · exact eb
    · intro z; exact n (by unfold lin; rw [z, ob]; simp)
  have keep : ∀ y o, y ≠ b → H y = some o → upd H b (.lst (ws ++ [c])) y = some o := fun y o n e => by rw [upd_ne n]; exact e
  refine ⟨by simpa using R.len, fun y o eb => ?_, R.ot, fun y w eb => ?_, fun k u hk => ?_, fun k u hk => ?_, ?_⟩
  · obtain ⟨p1, p2⟩ := R.fr y o eb
    rw [upd_ne]
    · exact ⟨p1, p2⟩
    · intro z
      rw [z, ob] at p2
      rcases p2 with p2 | p2 <;> cases p2
  · exact (R.tr y w eb).upd r3 plain_lst
  · obtain ⟨p1, s', q1, q2⟩ := R.pn k u hk
    refine ⟨p1, ?_⟩
    by_cases z : k = i
    · subst z
      rw [e] at q1; cases q1
      exact ⟨_, List.getElem?_set_self hi, q2⟩
    · exact ⟨s', by rw [List.getElem?_set_ne (Ne.symm z)]; exact q1, q2⟩
  · by_cases z : k = i
    · subst z
      rw [List.getElem?_set_self hi] at hk
      cases hk
      exact ⟨v, s1, OwnX.tr ⟨a, as, r5, nd⟩⟩
    · rw [List.getElem?_set_ne (Ne.symm z)] at hk
      obtain ⟨v', p1, p2⟩ := R.sl k u hk
      refine ⟨v', p1, slot_mono hs (fun y o e1 e2 => ⟨e1, keep y o (fun q => ?_) e2⟩) p2⟩
      rw [q, ob] at e1
      cases e1
      exact z rfl
  · refine tmps_mono hs (fun y o n hn e1 e2 => ⟨e1, keep y o (fun q => ?_) e2⟩) R.tm
    rw [q, ob] at e1
    cases e1
end
def dWrT (i : Nat) (p : List Nat) (c : V) : DE := fun ρ => match ρ[i]? with
  | some (some ⟨.tre d, true, q⟩) => match wrT c p d with
    | some d2 => .ok (.con .non, .shr) (ρ.set i (some ⟨.tre d2, true, q⟩))
    | none => .stuck
  | _ => .stuck
theorem post_wrT {i : Nat} {p : List Nat} {c : V} {ρ : Rho} {Q : D × Kd → Rho → Prop} {E : Exn → Rho → Prop} (h : ((dWrT i p c) ρ).post Q E) : ∃ d d2 q, ρ[i]? = some (some ⟨.tre d, true, q⟩) ∧ wrT c p d = some d2 ∧ Q (.con .non, .shr) (ρ.set i (some ⟨.tre d2, true, q⟩)) := by
  unfold dWrT at h
  split at h
  · rename_i d q e
    split at h
    · rename_i d2 e2
      exact ⟨d, d2, q, e, e2, h⟩
    · exact h.elim
  · exact h.elim
theorem at_nat {vs : List V} {k : Nat} {u : V} (h : vs[k]? = some u) : atI vs (k : Int) = some u := by
  unfold atI
  rw [ix_nat (List.getElem?_eq_some_iff.mp h).1]
  exact h
theorem rix_of {K : PySem.W.Frag} {H : Hp} {a : Addr} {vs : List V} {k : Nat} {u : V} {Q : VK} (h : H a = some (.lst vs) ∨ H a = some (.tup vs)) (e : vs[k]? = some u) (q : Q u H) : rIx K (.ref a) (.int (k : Int)) H Q := by
  rcases h with h | h
  · exact .inl ⟨a, vs, k, u, rfl, rfl, .inl (.inl h), at_nat e, q⟩
  · exact .inr (.inl ⟨a, vs, k, u, rfl, rfl, .inl (.inl h), at_nat e, q⟩)
section
variable {X : Cx} {pos apos xpos opos o2 o3 : Pos} {x : Str} {c : V} {ce e1 e2 e3 : Expr}
theorem se_wr1 (i k : Nat) (hm : MtR X "list.append" rAppend) (hc : PE X ce (tC c)) (h1 : PE X e1 (tC (.int (k : Int)))) (hN : X.N[i]? = some x := by rfl) (hv : Vis X.env.scope x := by first | exact Or.inl rfl | exact Or.inr (Or.inl rfl) | exact Or.inr (Or.inr rfl)) (hd : (x == ("__debug__" : Str)) = false := by decide)
    (hcd : (x == ("__classdict__" : Str)) = false := by decide) (hp1 : PlainIx e1 := by exact fun _ _ => rfl)
    (hbase : attributeBase (.Subscript (.Name x xpos) e1 opos) "append" X.env (eval (.Subscript (.Name x xpos) e1 opos) X.env) = eval (.Subscript (.Name x xpos) e1 opos) X.env := by rfl)
    (hfew : ((backTo pos (starEach [ce] X.env)).all (fun x => !x.1) && (backToKw pos (keywordEach [] X.env)).all (fun x => x.1.isSome)
      && decide ([ce].length + ([] : List Keyword).length + (if ([] : List Keyword).isEmpty then 0 else 1) < 30)) = true := by rfl)
    (hline : (apos.endLine == pos.line) = true := by rfl) (hst : starEach [ce] X.env = (false, eval ce X.env) :: starEach [] X.env := by rfl) (hplain : (backTo pos (starEach [] X.env)).any (·.1) = false := by rfl) :
    SE X (.Call (.Attribute (.Subscript (.Name x xpos) e1 opos) "append" apos) [ce] [] pos) (dWrT i [k] c) := fun W tk =>
  PE.imp (pe_bm PySem.F.plainAttrs_list PySem.F.slot_list_append PySem.F.type_list_append hm (pe_ix ix_seq (pe_var hN hv hd hcd) h1 hp1) (pa_cons hc pa_nil hst) hbase hfew hline hst hplain) fun σ H Q ⟨G, O, ρ, hK, R, h⟩ => by
    obtain ⟨d, d2, q, z1, z2, z3⟩ := post_wrT h
    obtain ⟨v, b, ws, s1, ⟨a, vs, u, rfl, ha, hu, hb⟩, r3, r4, R5⟩ := R.twr z1 z2
    cases (show u = .ref b from hb)
    exact ⟨_, s1, rix_of ha hu ⟨.inl ⟨rfl, ws, .inl (.inl r3)⟩, b, ws, c, rfl, rfl, r3, by rw [← cap_eq]; exact r4, z3 O .non _ (R5.con _)⟩⟩
theorem se_wr2 (i k l : Nat) (hm : MtR X "list.append" rAppend) (hc : PE X ce (tC c)) (h1 : PE X e1 (tC (.int (k : Int)))) (h2 : PE X e2 (tC (.int (l : Int)))) (hN : X.N[i]? = some x := by rfl) (hv : Vis X.env.scope x := by first | exact Or.inl rfl | exact Or.inr (Or.inl rfl) | exact Or.inr (Or.inr rfl)) (hd : (x == ("__debug__" : Str)) = false := by decide)
    (hcd : (x == ("__classdict__" : Str)) = false := by decide) (hp1 : PlainIx e1 := by exact fun _ _ => rfl) (hp2 : PlainIx e2 := by exact fun _ _ => rfl)
    (hbase : attributeBase (.Subscript (.Subscript (.Name x xpos) e1 opos) e2 o2) "append" X.env (eval (.Subscript (.Subscript (.Name x xpos) e1 opos) e2 o2) X.env) = eval (.Subscript (.Subscript (.Name x xpos) e1 opos) e2 o2) X.env := by rfl)
    (hfew : ((backTo pos (starEach [ce] X.env)).all (fun x => !x.1) && (backToKw pos (keywordEach [] X.env)).all (fun x => x.1.isSome)
      && decide ([ce].length + ([] : List Keyword).length + (if ([] : List Keyword).isEmpty then 0 else 1) < 30)) = true := by rfl)
    (hline : (apos.endLine == pos.line) = true := by rfl) (hst : starEach [ce] X.env = (false, eval ce X.env) :: starEach [] X.env := by rfl) (hplain : (backTo pos (starEach [] X.env)).any (·.1) = false := by rfl) :
    SE X (.Call (.Attribute (.Subscript (.Subscript (.Name x xpos) e1 opos) e2 o2) "append" apos) [ce] [] pos) (dWrT i [k, l] c) := fun W tk =>
  PE.imp (pe_bm PySem.F.plainAttrs_list PySem.F.slot_list_append PySem.F.type_list_append hm (pe_ix ix_seq (pe_ix ix_seq (pe_var hN hv hd hcd) h1 hp1) h2 hp2) (pa_cons hc pa_nil hst) hbase hfew hline hst hplain) fun σ H Q ⟨G, O, ρ, hK, R, h⟩ => by
    obtain ⟨d, d2, q, z1, z2, z3⟩ := post_wrT h
    obtain ⟨v, b, ws, s1, ⟨a, vs, u, rfl, ha, hu, a2, vs2, u2, rfl, ha2, hu2, hb⟩, r3, r4, R5⟩ := R.twr z1 z2
    cases (show u2 = .ref b from hb)
    exact ⟨_, s1, rix_of ha hu (rix_of ha2 hu2 ⟨.inl ⟨rfl, ws, .inl (.inl r3)⟩, b, ws, c, rfl, rfl, r3, by rw [← cap_eq]; exact r4, z3 O .non _ (R5.con _)⟩)⟩
theorem se_wr3 (i k l m : Nat) (hm : MtR X "list.append" rAppend) (hc : PE X ce (tC c)) (h1 : PE X e1 (tC (.int (k : Int)))) (h2 : PE X e2 (tC (.int (l : Int)))) (h3 : PE X e3 (tC (.int (m : Int)))) (hN : X.N[i]? = some x := by rfl) (hv : Vis X.env.scope x := by first | exact Or.inl rfl | exact Or.inr (Or.inl rfl) | exact Or.inr (Or.inr rfl)) (hd : (x == ("__debug__" : Str)) = false := by decide)
    (hcd : (x == ("__classdict__" : Str)) = false := by decide) (hp1 : PlainIx e1 := by exact fun _ _ => rfl) (hp2 : PlainIx e2 := by exact fun _ _ => rfl) (hp3 : PlainIx e3 := by exact fun _ _ => rfl)
    (hbase : attributeBase (.Subscript (.Subscript (.Subscript (.Name x xpos) e1 opos) e2 o2) e3 o3) "append" X.env (eval (.Subscript (.Subscript (.Subscript (.Name x xpos) e1 opos) e2 o2) e3 o3) X.env) = eval (.Subscript (.Subscript (.Subscript (.Name x xpos) e1 opos) e2 o2) e3 o3) X.env := by rfl)
    (hfew : ((backTo pos (starEach [ce] X.env)).all (fun x => !x.1) && (backToKw pos (keywordEach [] X.env)).all (fun x => x.1.isSome)
      && decide ([ce].length + ([] : List Keyword).length + (if ([] : List Keyword).isEmpty then 0 else 1) < 30)) = true := by rfl)
    (hline : (apos.endLine == pos.line) = true := by rfl) (hst : starEach [ce] X.env = (false, eval ce X.env) :: starEach [] X.env := by rfl) (hplain : (backTo pos (starEach [] X.env)).any (·.1) = false := by rfl) :
    SE X (.Call (.Attribute (.Subscript (.Subscript (.Subscript (.Name x xpos) e1 opos) e2 o2) e3 o3) "append" apos) [ce] [] pos) (dWrT i [k, l, m] c) := fun W tk =>
  PE.imp (pe_bm PySem.F.plainAttrs_list PySem.F.slot_list_append PySem.F.type_list_append hm (pe_ix ix_seq (pe_ix ix_seq (pe_ix ix_seq (pe_var hN hv hd hcd) h1 hp1) h2 hp2) h3 hp3) (pa_cons hc pa_nil hst) hbase hfew hline hst hplain) fun σ H Q ⟨G, O, ρ, hK, R, h⟩ => by
    obtain ⟨d, d2, q, z1, z2, z3⟩ := post_wrT h
    obtain ⟨v, b, ws, s1, ⟨a, vs, u, rfl, ha, hu, a2, vs2, u2, rfl, ha2, hu2, a3, vs3, u3, rfl, ha3, hu3, hb⟩, r3, r4, R5⟩ := R.twr z1 z2
    cases (show u3 = .ref b from hb)
    exact ⟨_, s1, rix_of ha hu (rix_of ha2 hu2 (rix_of ha3 hu3 ⟨.inl ⟨rfl, ws, .inl (.inl r3)⟩, b, ws, c, rfl, rfl, r3, by rw [← cap_eq]; exact r4, z3 O .non _ (R5.con _)⟩))⟩
end
end L2.VL
end
section
set_option Elab.async false
set_option linter.all false
set_option maxRecDepth 100000
namespace L2.SG
open PySem PySem.Spec PyProof.Rows L2
def geo : Nat → Nat
  | 0 => 0
  | k + 1 => geo k * 5 + 1
theorem geo_add (a : Nat) : ∀ b, geo (a + b) = geo a * 5 ^ b + geo b
  | 0 => by simp [geo]
  | b + 1 => by
    show geo (a + b) * 5 + 1 = geo a * 5 ^ (b + 1) + (geo b * 5 + 1)
    rw [geo_add a b, Nat.pow_succ, Nat.add_mul, Nat.mul_assoc, Nat.add_assoc]
theorem geo_five : ∀ b, 5 ^ b = 4 * geo b + 1
  | 0 => rfl
  | b + 1 => by
    rw [Nat.pow_succ, geo_five b]
    show _ = 4 * (geo b * 5 + 1) + 1
    omega
/-- at 2^n it is an odd multiple of 2^n -/
theorem geo_two : ∀ n, ∃ q, geo (2 ^ n) = 2 ^ n * (2 * q + 1)
  | 0 => ⟨0, rfl⟩
  | n + 1 => by
    obtain ⟨q, e⟩ := geo_two n
    refine ⟨q + geo (2 ^ n) * (2 * q + 1), ?_⟩
    have h : geo (2 ^ (n + 1)) = geo (2 ^ n) * (2 * (2 * geo (2 ^ n) + 1)) := by
      rw [Nat.pow_succ, Nat.mul_two, geo_add, geo_five]
      have : geo (2 ^ n) * (4 * geo (2 ^ n) + 1) + geo (2 ^ n) = geo (2 ^ n) * (4 * geo (2 ^ n) + 1 + 1) := (Nat.mul_succ _ _).symm
      rw [this]
      congr 1
      omega
    rw [h]
    generalize hg : geo (2 ^ n) = g at e ⊢
    have h2 : 2 * (q + g * (2 * q + 1)) + 1 = (2 * q + 1) * (2 * g + 1) := by grind
    rw [h2, Nat.pow_succ]
    rw [show g * (2 * (2 * g + 1)) = g * 2 * (2 * g + 1) from (Nat.mul_assoc _ _ _).symm]
    rw [show 2 ^ n * 2 * ((2 * q + 1) * (2 * g + 1)) = 2 ^ n * (2 * q + 1) * 2 * (2 * g + 1) by
      rw [← Nat.mul_assoc, Nat.mul_right_comm (2 ^ n) 2 (2 * q + 1)], ← e]
theorem geo_hits : ∀ n j, j < 2 ^ n → ∃ b, b < 2 ^ n ∧ geo b % 2 ^ n = j
  | 0, j, h => ⟨0, by decide, by simp [geo]; omega⟩
  | n + 1, j, h => by
    have hp : 0 < 2 ^ n := Nat.pow_pos (by decide)
    have e2 : 2 ^ (n + 1) = 2 ^ n + 2 ^ n := by rw [Nat.pow_succ]; omega
    obtain ⟨b, hb, e⟩ := geo_hits n (j % 2 ^ n) (Nat.mod_lt _ hp)
    obtain ⟨q, eq⟩ := geo_two n
    -- the two candidates
    have two : geo (2 ^ n + b) = geo b + 2 ^ n * (2 * (q * 5 ^ b + 2 * geo b) + 1) := by
      rw [geo_add, eq, geo_five b]
      grind
    have split : ∀ x, x % 2 ^ n = j % 2 ^ n → x % 2 ^ (n + 1) = j ∨ (x + 2 ^ n) % 2 ^ (n + 1) = j := by
      intro x hx
      have m1 := Nat.mod_lt x (show 0 < 2 ^ (n + 1) by omega)
      have d1 : x % 2 ^ (n + 1) % 2 ^ n = x % 2 ^ n := by
        rw [Nat.pow_succ, Nat.mod_mul_right_mod]
      have hj : j % 2 ^ n = j ∨ j % 2 ^ n + 2 ^ n = j := by
        by_cases c : j < 2 ^ n
        · exact .inl (Nat.mod_eq_of_lt c)
        · right
          rw [Nat.mod_eq_sub_mod (by omega), Nat.mod_eq_of_lt (by omega)]; omega
      have hx2 : x % 2 ^ (n + 1) = j % 2 ^ n ∨ x % 2 ^ (n + 1) = j % 2 ^ n + 2 ^ n := by
        by_cases c : x % 2 ^ (n + 1) < 2 ^ n
        · left; rw [← Nat.mod_eq_of_lt c, d1, hx]
        · right
          rw [← hx, ← d1]
          generalize x % 2 ^ (n + 1) = y at m1 c
          rw [Nat.mod_eq_sub_mod (by omega), Nat.mod_eq_of_lt (show y - 2 ^ n < 2 ^ n by omega)]
          omega
      have ad : (x + 2 ^ n) % 2 ^ (n + 1) = (x % 2 ^ (n + 1) + 2 ^ n) % 2 ^ (n + 1) := by
        rw [Nat.mod_add_mod]
      rcases hx2 with a | a <;> rcases hj with c | c
      · left; omega
      · right; rw [ad, a, c, Nat.mod_eq_of_lt h]
      · right
        rw [ad, a, Nat.add_assoc, ← e2, Nat.add_mod_right, c, Nat.mod_eq_of_lt h]
      · left; omega
    rcases split (geo b) e with a | a
    · exact ⟨b, by omega, a⟩
    · refine ⟨2 ^ n + b, by omega, ?_⟩
      rw [two, ← a, Nat.mul_succ, Nat.add_comm (2 ^ n * _), ← Nat.add_assoc]
      rw [show 2 ^ n * (2 * (q * 5 ^ b + 2 * geo b)) = 2 ^ (n + 1) * (q * 5 ^ b + 2 * geo b) by rw [Nat.pow_succ, Nat.mul_assoc]]
      rw [Nat.add_mul_mod_self_left]
/-- one less than a power of two, at least 7 and at most 2047 -/
def Msk (m : Nat) : Prop := ∃ n, (n = 3 ∨ n = 5 ∨ n = 7 ∨ n = 9 ∨ n = 11) ∧ m + 1 = 2 ^ n
theorem Msk.bd {m : Nat} (h : Msk m) : 7 ≤ m ∧ m ≤ 2047 := by
  obtain ⟨n, h1, e⟩ := h
  have a := Nat.pow_le_pow_right (n := 2) (by decide) (show 3 ≤ n by omega)
  have b := Nat.pow_le_pow_right (n := 2) (by decide) (show n ≤ 11 by omega)
  simp only [Nat.reducePow] at a b
  omega
theorem lcg_geo (m : Nat) : ∀ k, lcgN m k = geo k % (m + 1)
  | 0 => by show 0 = 0 % _; rw [Nat.zero_mod]
  | k + 1 => by
    show (lcgN m k * 5 + 1) % (m + 1) = (geo k * 5 + 1) % (m + 1)
    rw [lcg_geo m k, Nat.add_mod, Nat.mod_mul_mod, ← Nat.add_mod]
theorem lcg_turn {m : Nat} (h : Msk m) : lcgN m (m + 1) = 0 := by
  obtain ⟨n, _, e⟩ := h
  rw [lcg_geo, e]
  obtain ⟨q, eq⟩ := geo_two n
  rw [eq, Nat.mul_mod_right]
theorem lcg_more {m : Nat} (h : Msk m) : ∀ k, lcgN m (m + 1 + k) = lcgN m k
  | 0 => lcg_turn h
  | k + 1 => by
    show (lcgN m (m + 1 + k) * 5 + 1) % (m + 1) = (lcgN m k * 5 + 1) % (m + 1)
    rw [lcg_more h k]
theorem lcg_from {m i j : Nat} (h : Msk m) (hi : i ≤ m) (hj : j ≤ m) : ∃ k, k ≤ m ∧ lcgI m i k = j := by
  have hh := h
  obtain ⟨n, _, e⟩ := h
  obtain ⟨a, ha, ea⟩ := geo_hits n i (by omega)
  obtain ⟨b, hb, eb⟩ := geo_hits n j (by omega)
  rw [← e, ← lcg_geo] at ea eb
  rw [← e] at ha hb
  by_cases c : a ≤ b
  · refine ⟨b - a, by omega, ?_⟩
    rw [← ea, lcgN_add, show a + (b - a) = b by omega, eb]
  · refine ⟨m + 1 + b - a, by omega, ?_⟩
    rw [← ea, lcgN_add, show a + (m + 1 + b - a) = m + 1 + b by omega, lcg_more hh, eb]
theorem run_hits {m j : Nat} (hm : Msk m) (h : Int) (hj : j ≤ m) : ∃ n, n ≤ m + 12 ∧ runI m (SetTable.bits h) n = j := by
  obtain ⟨k, hk, e⟩ := lcg_from hm (runI_le m (SetTable.bits h) 12) hj
  refine ⟨12 + k, by omega, ?_⟩
  rw [runI_tail (bits_lt h)]; exact e
theorem way_hits {m j : Nat} (hm : Msk m) (h : Int) (hj : j ≤ m) : ∃ k, k < 10 * SetTable.turns m ∧ way m h k = j := by
  obtain ⟨n, hn, e⟩ := run_hits hm h hj
  obtain ⟨k, hk, e2⟩ := run_nth m (SetTable.bits h) n
  refine ⟨k, ?_, ?_⟩
  · unfold SetTable.turns
    omega
  · show (nth m _ k).j = j
    rw [e2]; exact e
theorem way_in {m : Nat} {h : Int} {k : Nat} : way m h k ≤ m := by
  have hi : SetTable.bits h % (m + 1) ≤ m := Nat.le_of_lt_succ (Nat.mod_lt _ (Nat.succ_pos _))
  have b := runEnd_bd hi
  have c : (runAt m (SetTable.bits h % (m + 1)) (SetTable.bits h)).j + (runAt m (SetTable.bits h % (m + 1)) (SetTable.bits h)).more ≤ m := by
    show SetTable.bits h % (m + 1) + (SetTable.runEnd m (SetTable.bits h % (m + 1)) - SetTable.bits h % (m + 1)) ≤ m
    omega
  have := nth_in (m := m) k _ c
  exact Nat.le_trans (Nat.le_add_right _ _) this
structure Tab (t : SetTable) (hs : List Int) : Prop where
  ris : Ris t.place.toList
  dm : t.dummies = #[]
  sz : t.place.toList.length = hs.length
  msk : Msk t.mask
  bd : ∀ x ∈ t.place.toList, x ≤ t.mask
  met : ∀ (i : Nat) (h : Int) (j : Nat), hs[i]? = some h → t.place.toList[i]? = some j → ∃ k, way t.mask h k = j ∧ ∀ k', k' < k → way t.mask h k' ∈ t.place.toList
section
variable {t : SetTable} {hs : List Int} {h : Int} {K : Nat}
/-- the first slot of the way that is free -/
theorem Tab.free (T : Tab t hs) (hl : hs.length ≤ t.mask) (h : Int) : ∃ K, K < 10 * SetTable.turns t.mask ∧ way t.mask h K ∉ t.place.toList ∧ ∀ k, k < K → way t.mask h k ∈ t.place.toList := by
  obtain ⟨j, hj, out⟩ := st_missing t.place.toList (t.mask + 1) (by rw [T.sz]; omega)
  obtain ⟨k, hk, e⟩ := way_hits T.msk h (Nat.le_of_lt_succ hj)
  obtain ⟨K, a, b, c⟩ := st_least (p := fun k => way t.mask h k ∉ t.place.toList) k (fun z => out (e ▸ z))
  exact ⟨K, by omega, b, fun k' hk' => Classical.byContradiction fun z => c k' hk' z⟩
/-- one entry more, at the first free slot -/
theorem Tab.more (T : Tab t hs) (hK : way t.mask h K ∉ t.place.toList) (hb : ∀ k, k < K → way t.mask h k ∈ t.place.toList) (p : Nat) (hp : p = SetTable.below t.place (way t.mask h K)) :
    p ≤ hs.length ∧ Tab (t.put (way t.mask h K)).1 (hs.take p ++ h :: hs.drop p) ∧ (t.put (way t.mask h K)).1.fill = hs.length + 1 := by
  subst hp
  have hw : way t.mask h K ≤ t.mask := way_in
  generalize hj : way t.mask h K = j at hK hw ⊢
  obtain ⟨c, _, _⟩ := below_cut T.ris j
  have l1 : SetTable.below t.place j ≤ t.place.toList.length := by rw [Array.length_toList]; exact c
  have l2 : SetTable.below t.place j ≤ hs.length := by rw [← T.sz]; exact l1
  have new : t.place[SetTable.below t.place j]? ≠ some j := fun z => hK (List.mem_of_getElem? (i := SetTable.below t.place j) (by rw [Array.getElem?_toList]; exact z))
  have ep := put_place t j
  have len : (t.put j).1.place.toList.length = hs.length + 1 := by rw [ep, len_ins _ l1, T.sz]
  have up : ∀ x, x ∈ t.place.toList → x ∈ (t.put j).1.place.toList := fun x hx => by rw [ep]; exact mem_ins.2 (.inr hx)
  refine ⟨l2, ⟨ris_insert T.ris new, put_dm T.dm j, by rw [len, len_ins _ l2], T.msk, fun x hx => ?_, fun i h' j' h1 h2 => ?_⟩, ?_⟩
  · rw [ep] at hx
    rcases mem_ins.1 hx with z | z
    · rw [z]; exact hw
    · exact T.bd x z
  · rw [tins_get hs l2] at h1
    rw [ep, tins_get _ l1] at h2
    split at h1
    · rename_i q
      rw [if_pos q] at h2
      obtain ⟨k, e, z⟩ := T.met i h' j' h1 h2
      exact ⟨k, e, fun k' hk' => up _ (z k' hk')⟩
    · rename_i q
      rw [if_neg q] at h2
      split at h1
      · rename_i q2
        rw [if_pos q2] at h2
        cases h1; cases h2
        exact ⟨K, hj, fun k' hk' => up _ (hb k' hk')⟩
      · rename_i q2
        rw [if_neg q2] at h2
        obtain ⟨k, e, z⟩ := T.met (i - 1) h' j' h1 h2
        exact ⟨k, e, fun k' hk' => up _ (z k' hk')⟩
  · have : (t.put j).1.place.size = hs.length + 1 := by rw [← Array.length_toList]; exact len
    show (t.put j).1.place.size + (t.put j).1.dummies.size = _
    rw [this, put_dm T.dm j]
    rfl
end
end L2.SG
end
section
set_option Elab.async false
set_option linter.all false
set_option maxRecDepth 100000
set_option maxHeartbeats 1600000
namespace L2.SG
open PySem PySem.Spec PyProof.Rows L2
/-- what a kind of keys must tell beside hash and == -/
structure KX {P : Program} {w : World} {κ : Type} [DecidableEq κ] (knd : HeapKind P w κ) : Prop where
  ofA : ∀ {A : Around} {E : Value → Shared → Prop} {s : Shared} {k : κ} {b : Addr} {Q : Bool → Shared → Prop}, knd.is s.heap k b → Q false s → wpAny (model P w) A (ofAClassStatement 8 (.ref b)) Q E s
  hbv : ∀ {A : Around} {E : Value → Shared → Prop} {s : Shared} {k : κ} {b : Addr} {Q : Bool → Shared → Prop}, knd.is s.heap k b → Q true s → wpAny (model P w) A (hashByValue 8 (.ref b)) Q E s
  stay : ∀ {h h' : Heap} {k : κ} {a b : Addr} {o : Obj} {es : Array (Int × Value)} {ep : Nat} {t : SetTable}, knd.is h k b → h.get? a = some o → o.data = .set es ep t → Heap.SameBut a h h' → knd.is h' k b
  keep : ∀ {h h' : Heap} {k : κ} {b : Addr}, knd.is h k b → (∀ c o, h.get? c = some o → h'.get? c = some o) → knd.is h' k b
section
variable {P : Program} {w : World} {κ : Type} [DecidableEq κ] {knd : HeapKind P w κ} {A : Around} {E : Value → Shared → Prop} {s : Shared}
/-- the members' rows -/
abbrev rws (knd : HeapKind P w κ) (L : List (Addr × κ)) : List (Int × Value) := L.map fun p => (knd.hash p.2, Value.ref p.1)
abbrev hss (knd : HeapKind P w κ) (L : List (Addr × κ)) : List Int := L.map fun p => knd.hash p.2
structure KSet (knd : HeapKind P w κ) (h : Heap) (a : Addr) (L : List (Addr × κ)) (es : Array (Int × Value)) (ep : Nat) (t : SetTable) : Prop where
  ob : ∃ o, h.get? a = some o ∧ o.ExactSet ∧ o.data = .set es ep t
  rows : es.toList = rws knd L
  tab : Tab t (hss knd L)
  nd : (L.map (·.2)).Nodup
  key : ∀ p ∈ L, knd.is h p.2 p.1
  plain : t.plain = true
  led : w.params.followText "set-order" = true ∨ t.led = true
  room : L.length * 5 < t.mask * 3
  few : L.length < 1200
variable {a : Addr} {L : List (Addr × κ)} {es : Array (Int × Value)} {ep : Nat} {t : SetTable}
theorem KSet.size (R : KSet knd s.heap a L es ep t) : es.size = L.length := by
  rw [← Array.length_toList, R.rows, List.length_map]
theorem KSet.at (R : KSet knd s.heap a L es ep t) {i : Nat} {p : Addr × κ} (h : L[i]? = some p) : es[i]? = some (knd.hash p.2, Value.ref p.1) := by
  rw [← Array.getElem?_toList, R.rows, List.getElem?_map, h]; rfl
end
end L2.SG
end
section
set_option Elab.async false
set_option linter.all false
set_option maxRecDepth 100000
set_option maxHeartbeats 3200000
namespace L2.SG
open PySem PySem.Spec PyProof.Rows L2 PpSet
section
variable {P : Program} {w : World}
/-- at a stands the tuple (r, (..ns)) -/
def IsRT (h : Heap) (k : Int × List Int) (a : Addr) : Prop := ∃ (t : Addr) (o o2 : Obj) (its : Array Value) (n m : Nat) (tk : Tok), (h.get? a = some o ∧ o.cls = .type "tuple" ∧ o.data = .seq #[.int k.1 tk, .ref t] n) ∧
  (h.get? t = some o2 ∧ o2.cls = .type "tuple" ∧ o2.data = .seq its m) ∧ IntsAre its.toList k.2
abbrev rtKey (k : Int × List Int) : NestedKey := .tup [.num k.1, .tup (k.2.map .num)]
theorem nums_all {h : Heap} {vs : List Value} {ns : List Int} (x : IntsAre vs ns) : NestedAll h (ns.map .num) vs := by
  induction x with
  | nil => exact .nil
  | cons n t _ ih => exact .cons (.int _ _) ih
theorem IsRT.key {h : Heap} {k : Int × List Int} {a : Addr} (x : IsRT h k a) : NestedIs h (rtKey k) (.ref a) := by
  obtain ⟨t, o, o2, its, n, m, tk, ⟨h1, h2, h3⟩, ⟨g1, g2, g3⟩, r⟩ := x
  exact .tup h1 h2 h3 (.cons (.int _ _) (.cons (.tup g1 g2 g3 (nums_all r)) .nil))
theorem IsRT.moved {h h' : Heap} {k : Int × List Int} {a : Addr} (x : IsRT h k a) (hk : ∀ b o vs n, h.get? b = some o → o.data = .seq vs n → h'.get? b = some o) : IsRT h' k a := by
  obtain ⟨t, o, o2, its, n, m, tk, ⟨h1, h2, h3⟩, ⟨g1, g2, g3⟩, r⟩ := x
  exact ⟨t, o, o2, its, n, m, tk, ⟨hk _ _ _ _ h1 h3, h2, h3⟩, ⟨hk _ _ _ _ g1 g3, g2, g3⟩, r⟩
theorem IsRT.kept {h h' : Heap} {k : Int × List Int} {a : Addr} (x : IsRT h k a) (hk : ∀ b o, h.get? b = some o → h'.get? b = some o) : IsRT h' k a := x.moved fun b o _ _ e _ => hk b o e
end
section
variable {P : Program} {w : World} {κ : Type} [DecidableEq κ] {knd : HeapKind P w κ} {A : Around} {E : Value → Shared → Prop} {s : Shared}
theorem KSet.keep (X : KX knd) {h h' : Heap} {a : Addr} {L : List (Addr × κ)} {es : Array (Int × Value)} {ep : Nat} {t : SetTable} (R : KSet knd h a L es ep t) (k : ∀ o, h.get? a = some o → h'.get? a = some o) (kk : ∀ p ∈ L, knd.is h' p.2 p.1) : KSet knd h' a L es ep t := by
  obtain ⟨⟨o, ho, r⟩, b, c, d, e, f, g, i, j⟩ := R
  exact ⟨⟨o, k o ho, r⟩, b, c, d, kk, f, g, i, j⟩
end
end L2.SG
end
section
set_option Elab.async false
set_option linter.all false
set_option maxRecDepth 100000
set_option maxHeartbeats 3200000
namespace L2.SG
open PySem PySem.Spec PyProof.Rows L2 L2.VL SrtO
open PySem.W (keyToks keyToksAll dataLt alike alikeAll reads_keeps lt_data)
end L2.SG
end
section
set_option Elab.async false
set_option linter.all false
set_option maxRecDepth 100000
set_option maxHeartbeats 1600000
namespace L2.VL
open PySem PySem.Spec PyProof.Rows L2
open PySem.W (keyToks dataLt alike lt_data)
end L2.VL
end
section
set_option Elab.async false
set_option linter.all false
set_option maxRecDepth 100000
set_option maxHeartbeats 3200000
namespace L2.SG
open PySem PySem.Spec PyProof.Rows L2 L2.VL SrtO PySem.W
end L2.SG
end
section
set_option Elab.async false
set_option linter.all false
set_option maxRecDepth 100000
namespace L2.TX
open PySem PySem.Spec PyProof.Rows L2 L2.VL
abbrev rI (i : Int) : D := .con (.int i)
abbrev rB (b : Bool) : D := .con (.bl b)
abbrev sx (cs : List Nat) : Str := ⟨cs.toArray⟩
abbrev rS (cs : List Nat) : D := .con (.str (sx cs))
abbrev rN (_ : Unit) : D := .con .non
abbrev rU (d : D) : D := d
abbrev rL {α : Type} (f : α → D) (xs : List α) : D := .lst (xs.map f)
abbrev rP {α β : Type} (f : α → D) (g : β → D) (p : α × β) : D := .tup [f p.1, g p.2]
def rO {α : Type} (f : α → D) : Option α → D
  | none => .con .non
  | some a => f a
abbrev sl_ {α : Type} (f : α → D) (a : α) : Option Slot := some ⟨f a, false, false⟩
abbrev so_ {α : Type} (f : α → D) (a : α) : Option Slot := some ⟨f a, true, false⟩
abbrev sp_ {α : Type} (f : α → D) (a : α) : Option Slot := some ⟨f a, true, true⟩
abbrev sq_ {α : Type} (f : α → D) (a : α) : Option Slot := some ⟨f a, false, true⟩
/-- a name for a value -/
@[irreducible] def lt {α : Type} {β : Sort u} (v : α) (h : α → β) : β := h v
theorem lt_eq {α : Type} {β : Sort u} (v : α) (h : α → β) : lt v h = h v := by unfold lt; rfl
inductive Fw (σ α : Type) where
  | nx (s : σ) | brk (s : σ) | ret (a : α)
section
variable {α β γ σ τ : Type}
def fo (b : σ → β → Option σ) : List β → σ → Option σ
  | [], s => some s
  | x :: xs, s => (b s x).bind (fo b xs)
def fwNext (k : σ → Option (Fw σ α)) : Fw σ α → Option (Fw σ α)
  | .nx s => k s
  | .brk s => some (.nx s)
  | .ret a => some (.ret a)
def foW (b : σ → β → Option (Fw σ α)) : List β → σ → Option (Fw σ α)
  | [], s => some (.nx s)
  | x :: xs, s => (b s x).bind (fwNext (foW b xs))
def whN (t : σ → Option Bool) (b : σ → Option (Fw σ α)) : Nat → σ → Option (Fw σ α)
  | 0, _ => none
  | n + 1, s => (t s).bind fun c => if c then (b s).bind (fwNext (whN t b n)) else some (.nx s)
open Classical in
noncomputable def wh (t : σ → Option Bool) (b : σ → Option (Fw σ α)) (s : σ) : Option (Fw σ α) :=
  if h : ∃ n w, whN t b n s = some w then whN t b h.choose s else none
/-- behind a loop: on, or out -/
def fwOut {ω : Type} (k : σ → Option ω) (r : α → Option ω) : Fw σ α → Option ω
  | .nx s => k s
  | .brk s => k s
  | .ret a => r a
def chk (ys : List α) : Option (List α) := if ys.length ≤ cap then some ys else none
def lc (q : β → Option Bool) (e : β → Option γ) : List β → Option (List γ)
  | [] => some []
  | x :: xs => (q x).bind fun c => if c then (e x).bind fun y => (lc q e xs).bind fun ys => some (y :: ys) else lc q e xs
def lcC (q : β → Option Bool) (e : β → Option γ) (xs : List β) : Option (List γ) := (lc q e xs).bind chk
/-- .. with a state that goes along -/
def lcX (q : τ → β → Option (Bool × τ)) (e : τ → β → Option (γ × τ)) : List β → τ → Option (List γ × τ)
  | [], t => some ([], t)
  | x :: xs, t => (q t x).bind fun c => if c.1 then (e c.2 x).bind fun y => (lcX q e xs y.2).bind fun ys => some (y.1 :: ys.1, ys.2) else lcX q e xs c.2
def chkX (p : List α × τ) : Option (List α × τ) := if p.1.length ≤ cap then some p else none
def lcXC (q : τ → β → Option (Bool × τ)) (e : τ → β → Option (γ × τ)) (xs : List β) (t : τ) : Option (List γ × τ) := (lcX q e xs t).bind chkX
end
def mulI (i j : Int) : Option Int := if CMulB i j then some (i * j) else none
def divI (i j : Int) : Option Int := if CDivB i j then some (i / j) else none
def modI (i j : Int) : Option Int := if 0 < j then some (i % j) else none
def ixL {α : Type} (xs : List α) (i : Int) : Option α := atI xs i
def ixS (cs : List Nat) (i : Int) : Option (List Nat) := if cs.length ≤ cap then (atI cs i).map fun c => [c] else none
def lenS (cs : List Nat) : Option Int := if cs.length ≤ cap then some cs.length else none
def catS (xs ys : List Nat) : Option (List Nat) := if xs.length + ys.length ≤ cap then some (xs ++ ys) else none
def appL {α : Type} (xs : List α) (x : α) : Option (List α) := if xs.length < cap then some (xs ++ [x]) else none
def setL {α : Type} (xs : List α) (n : Int) (x : α) : Option (List α) := (ixN xs.length n).map fun k => xs.set k x
def popL {α : Type} (xs : List α) (i : Int) : Option (α × List α) := if small62 i then (ixN xs.length i).bind fun k => (xs[k]?).map fun x => (x, xs.eraseIdx k) else none
def rng (i j : Int) : Option (List Int) := if small62 i && small62 j then some ((List.range (j - i).toNat).map fun (k : Nat) => i + k) else none
def okS (cs : List Nat) : Bool := cs.all fun c => decide (c < 0x110000)
def chs (cs : List Nat) : List (List Nat) := cs.map fun c => [c]
def eqG {α : Type} [DecidableEq α] (ok : α → Bool) (a b : α) : Option Bool := if ok a && ok b then some (decide (a = b)) else none
section
variable {α β : Type} {m : M α} {f : α → M β} {ρ ρ1 ρ2 ρ3 : Rho} {a : α}
theorem bind_ok (h : m ρ = .ok a ρ1) : (m >>= f) ρ = f a ρ1 := by
  show M.bind m f ρ = _
  unfold M.bind
  rw [h]
theorem bind_ex {x : Exn} (h : m ρ = .ex x ρ1) : (m >>= f) ρ = .ex x ρ1 := by
  show M.bind m f ρ = _
  unfold M.bind
  rw [h]
theorem cur_ok {x : D × Kd} {d : D} (h : cur ρ x = some d) : dcur x ρ = .ok d ρ := by unfold dcur; rw [h]
theorem opt_ok {o : Option α} (h : o = some a) : (mOpt o) ρ = .ok a ρ := by subst h; rfl
end
section
variable {ρ ρ1 ρ2 ρ3 ρ4 : Rho} {ra rb rc r : DE} {da db dc d da0 db0 dc0 d0 e : D} {ka kb kc k : Kd} {z : D × Kd} {i : Nat} {o p : Bool} {l : List (Bool × DE)} {xs ys : List (D × Kd)} {qa qb q : M Bool} {a b c : Bool}
theorem q_var (h : ρ[i]? = some (some ⟨d, o, p⟩)) : dVar i ρ = .ok (d, .nm i) ρ := by unfold dVar; rw [h]
theorem q_con {v : V} : dCon v ρ = .ok (.con v, .shr) ρ := rfl
theorem q_op2 {g : D → D → Option (D × Kd)} (ha : ra ρ = .ok (da0, ka) ρ1) (hb : rb ρ1 = .ok (db0, kb) ρ2) (ca : cur ρ2 (da0, ka) = some da) (cb : cur ρ2 (db0, kb) = some db) (hg : g da db = some z) : dOp2 g ra rb ρ = .ok z ρ2 := by
  unfold dOp2
  rw [bind_ok ha, bind_ok hb, bind_ok (cur_ok ca), bind_ok (cur_ok cb), opt_ok hg]
theorem q_cmp {g : D → D → Option Bool} (ha : ra ρ = .ok (da0, ka) ρ1) (hb : rb ρ1 = .ok (db0, kb) ρ2) (ca : cur ρ2 (da0, ka) = some da) (cb : cur ρ2 (db0, kb) = some db) (hg : g da db = some b) : dCmp g ra rb ρ = .ok (.con (.bl b), .shr) ρ2 :=
  q_op2 ha hb ca cb (by show (g da db).map _ = _; rw [hg]; rfl)
theorem q_chain {g g' : D → D → Option Bool} (ha : ra ρ = .ok (da0, ka) ρ1) (hb : rb ρ1 = .ok (db0, kb) ρ2) (hc : rc ρ2 = .ok (dc0, kc) ρ2) (ca : cur ρ2 (da0, ka) = some da) (cb : cur ρ2 (db0, kb) = some db) (cc : cur ρ2 (dc0, kc) = some dc)
    (hg : g da db = some a) (hg' : g' db dc = some b) : dChain g g' ra rb rc ρ = .ok (.con (.bl (a && b)), .shr) ρ2 := by
  unfold dChain
  rw [bind_ok ha, bind_ok hb, bind_ok (cur_ok ca), bind_ok (cur_ok cb), bind_ok (opt_ok hg)]
  cases a with
  | false => rfl
  | true =>
    show (rc >>= _) ρ2 = _
    rw [bind_ok hc, bind_ok (cur_ok cb), bind_ok (cur_ok cc), bind_ok (opt_ok hg')]
    rfl
theorem q_dB (ha : ra ρ = .ok (da0, ka) ρ1) (ca : cur ρ1 (da0, ka) = some (.con (.bl b))) : dB ra ρ = .ok b ρ1 := by
  unfold dB
  rw [bind_ok ha, bind_ok (cur_ok ca)]
  rfl
theorem q_dTr (ha : ra ρ = .ok (da0, ka) ρ1) (ca : cur ρ1 (da0, ka) = some da) (hg : truthD da = some b) : dTr ra ρ = .ok b ρ1 := by
  unfold dTr
  rw [bind_ok ha, bind_ok (cur_ok ca), opt_ok hg]
theorem q_not (h : q ρ = .ok b ρ1) : dNot q ρ = .ok (!b) ρ1 := by unfold dNot; rw [bind_ok h]; rfl
theorem q_and (h1 : qa ρ = .ok a ρ1) (h2 : qb ρ1 = .ok b ρ1) : dAnd qa qb ρ = .ok (a && b) ρ1 := by
  unfold dAnd
  rw [bind_ok h1]
  cases a with
  | false => rfl
  | true => show qb ρ1 = _; rw [h2]; rfl
theorem q_or (h1 : qa ρ = .ok a ρ1) (h2 : qb ρ1 = .ok b ρ1) : dOr qa qb ρ = .ok (a || b) ρ1 := by
  unfold dOr
  rw [bind_ok h1]
  cases a with
  | true => rfl
  | false => show qb ρ1 = _; rw [h2]; rfl
/-- a partial reading: its value, its test -/
structure VT (ρ : Rho) (q : M Bool) (o : Option Bool) : Prop where
  run : ∀ c, o = some c → q ρ = .ok c ρ
structure VE {α : Type} (ρ : Rho) (r : DE) (f : α → D) (o : Option α) : Prop where
  run : ∀ y, o = some y → ∃ d0 k, r ρ = .ok (d0, k) ρ ∧ cur ρ (d0, k) = some (f y) ∧ settleR ρ k = ρ
theorem vt_ret (h : q ρ = .ok c ρ) : VT ρ q (some c) := ⟨fun _ e => by cases e; exact h⟩
theorem vt_bind {α : Type} {o : Option α} {h : α → Option Bool} (hh : ∀ a, o = some a → VT ρ q (h a)) : VT ρ q (o.bind h) := ⟨fun c e => by
  obtain ⟨a, e1, e2⟩ := Option.bind_eq_some_iff.mp e
  exact (hh a e1).run c e2⟩
theorem ve_ret {α : Type} {f : α → D} {y : α} (h : r ρ = .ok (d0, k) ρ) (hc : cur ρ (d0, k) = some (f y)) (hs : settleR ρ k = ρ) : VE ρ r f (some y) := ⟨fun _ e => by cases e; exact ⟨d0, k, h, hc, hs⟩⟩
theorem ve_bind {α β : Type} {f : α → D} {o : Option β} {h : β → Option α} (hh : ∀ a, o = some a → VE ρ r f (h a)) : VE ρ r f (o.bind h) := ⟨fun c e => by
  obtain ⟨a, e1, e2⟩ := Option.bind_eq_some_iff.mp e
  exact (hh a e1).run c e2⟩
theorem q_orP {ob : Option Bool} (h1 : qa ρ = .ok a ρ1) (h2 : VT ρ1 qb ob) (hv : (if a = true then some true else ob) = some b) : dOr qa qb ρ = .ok b ρ1 := by
  unfold dOr
  rw [bind_ok h1]
  cases a with
  | true => cases hv; rfl
  | false => exact h2.run b hv
/-- a value of a kind that says nothing of names: of a test that is a value -/
structure VB (ρ : Rho) (r : DE) (o : Option Bool) : Prop where
  run : ∀ c, o = some c → r ρ = .ok (.con (.bl c), .shr) ρ
theorem vb_ret (h : r ρ = .ok (.con (.bl c), .shr) ρ) : VB ρ r (some c) := ⟨fun _ e => by cases e; exact h⟩
theorem vb_bind {α : Type} {o : Option α} {h : α → Option Bool} (hh : ∀ a, o = some a → VB ρ r (h a)) : VB ρ r (o.bind h) := ⟨fun c e => by
  obtain ⟨a, e1, e2⟩ := Option.bind_eq_some_iff.mp e
  exact (hh a e1).run c e2⟩
theorem q_andVP {ob : Option Bool} (h1 : dB ra ρ = .ok a ρ1) (h2 : VB ρ1 rb ob) (hv : (if a = true then ob else some false) = some b) : dAndV ra rb ρ = .ok (.con (.bl b), .shr) ρ1 := by
  unfold dAndV
  rw [bind_ok h1]
  cases a with
  | false => cases hv; rfl
  | true => exact h2.run b hv
theorem q_orVP {ob : Option Bool} (h1 : dB ra ρ = .ok a ρ1) (h2 : VB ρ1 rb ob) (hv : (if a = true then some true else ob) = some b) : dOrV ra rb ρ = .ok (.con (.bl b), .shr) ρ1 := by
  unfold dOrV
  rw [bind_ok h1]
  cases a with
  | true => cases hv; rfl
  | false => exact h2.run b hv
/-- a if q else b: both made, or both shared -/
theorem q_ifx {α : Type} {f : α → D} {x y : α} (hq : q ρ = .ok c ρ1) (ha : ra ρ1 = .ok (f x, k) ρ1) (hb : rb ρ1 = .ok (f y, k) ρ1) : dIfx q ra rb ρ = .ok (f (if c = true then x else y), k) ρ1 := by
  unfold dIfx
  rw [bind_ok hq]
  cases c with
  | true => exact ha
  | false => exact hb
/-- shared at once -/
def dSh (r : DE) : DE := do
  let x ← r
  keep false x
theorem keep_ok {x : D × Kd} (hc : cur ρ x = some d) (hs : settleR ρ x.2 = ρ1) : keep false x ρ = .ok (d, .shr) ρ1 := by
  unfold keep
  show (dcur x >>= fun d => settleM x.2 >>= fun _ => pure (d, Kd.shr)) ρ = _
  rw [bind_ok (cur_ok hc)]
  show (settleM x.2 >>= _) ρ = _
  rw [bind_ok (show settleM x.2 ρ = .ok () (settleR ρ x.2) from rfl), hs]
  rfl
theorem q_sh (hr : r ρ = .ok (d0, k) ρ1) (hc : cur ρ1 (d0, k) = some d) (hs : settleR ρ1 k = ρ2) : dSh r ρ = .ok (d, .shr) ρ2 := by
  unfold dSh
  rw [bind_ok hr, keep_ok hc hs]
/-- a if q else b, shared -/
structure VSh {α : Type} (ρ : Rho) (r : DE) (f : α → D) (o : Option α) : Prop where
  run : ∀ y, o = some y → r ρ = .ok (f y, .shr) ρ
theorem vs_ret {α : Type} {f : α → D} {y : α} (h : r ρ = .ok (f y, .shr) ρ) : VSh ρ r f (some y) := ⟨fun _ e => by cases e; exact h⟩
theorem vs_bind {α β : Type} {f : α → D} {o : Option β} {h : β → Option α} (hh : ∀ a, o = some a → VSh ρ r f (h a)) : VSh ρ r f (o.bind h) := ⟨fun c e => by
  obtain ⟨a, e1, e2⟩ := Option.bind_eq_some_iff.mp e
  exact (hh a e1).run c e2⟩
theorem q_ifxP {α : Type} {f : α → D} {oa ob : Option α} {y : α} (hq : q ρ = .ok c ρ1) (ha : VSh ρ1 ra f oa) (hb : VSh ρ1 rb f ob) (hv : (if c = true then oa else ob) = some y) : dIfx q ra rb ρ = .ok (f y, .shr) ρ1 := by
  unfold dIfx
  rw [bind_ok hq]
  cases c with
  | true => exact ha.run y hv
  | false => exact hb.run y hv
theorem a_nil : dA [] ρ = .ok [] ρ := rfl
theorem a_F (ha : r ρ = .ok (d0, k) ρ1) (hc : cur ρ1 (d0, k) = some d) (hs : settleR ρ1 k = ρ2) (hl : dA l ρ2 = .ok ys ρ3) : dA ((false, r) :: l) ρ = .ok ((d, .shr) :: ys) ρ3 := by
  unfold dA
  rw [bind_ok ha, bind_ok (keep_ok hc hs), bind_ok hl]
  rfl
theorem a_T (ha : r ρ = .ok (d0, k) ρ1) (hl : dA l ρ1 = .ok ys ρ3) : dA ((true, r) :: l) ρ = .ok ((d0, k) :: ys) ρ3 := by
  unfold dA
  rw [bind_ok ha, bind_ok (show keep true (d0, k) ρ1 = .ok (d0, k) ρ1 from rfl), bind_ok hl]
  rfl
theorem q_lst {ds : List D} (ha : dA l ρ = .ok xs ρ1) (hs : shrs xs = some ds) (hl : decide (ds.length ≤ cap) = true) : dLst l ρ = .ok (.lst ds, .fr) ρ1 := by
  unfold dLst
  rw [bind_ok ha]
  exact opt_ok (by unfold gD; rw [hs]; exact if_pos (of_decide_eq_true hl))
theorem q_tup {ds : List D} (ha : dA l ρ = .ok xs ρ1) (hs : shrs xs = some ds) (hl : decide (ds.length ≤ cap) = true) : dTup l ρ = .ok (.tup ds, .shr) ρ1 := by
  unfold dTup
  rw [bind_ok ha]
  exact opt_ok (by unfold gD; rw [hs]; exact if_pos (of_decide_eq_true hl))
theorem q_bi {g : List D → Option (D × Kd)} {ds : List D} (ha : dA l ρ = .ok xs ρ1) (hc : curs ρ1 xs = some ds) (hg : g ds = some z) : dBi g l ρ = .ok z ρ1 := by
  unfold dBi
  rw [bind_ok ha, bind_ok (show dcurs xs ρ1 = .ok ds ρ1 by unfold dcurs; rw [hc]), opt_ok hg]
theorem q_mt {ty : D → Bool} {g : D → List D → Option (D × Kd)} {ds : List D} (hr : r ρ = .ok (d0, k) ρ1) (hc : cur ρ1 (d0, k) = some d) (ht : ty d = true) (ha : dA l ρ1 = .ok xs ρ2) (hc2 : cur ρ2 (d0, k) = some d) (hx : curs ρ2 xs = some ds) (hg : g d ds = some z) :
    dMt ty g r l ρ = .ok z ρ2 := by
  unfold dMt
  rw [bind_ok hr, bind_ok (cur_ok hc), bind_ok (opt_ok (a := ()) (if_pos ht)), bind_ok ha, bind_ok (cur_ok hc2), bind_ok (show dcurs xs ρ2 = .ok ds ρ2 by unfold dcurs; rw [hx]), opt_ok hg]
theorem q_isi {u t : Ty} (hr : r ρ = .ok (d0, k) ρ1) (hc : cur ρ1 (d0, k) = some d) (ht : tyOf d = some t) : dIsi u r ρ = .ok (.con (.bl (isiT t u)), .shr) ρ1 := by
  unfold dIsi
  rw [bind_ok hr, bind_ok (cur_ok hc), bind_ok (opt_ok ht)]
  rfl
theorem q_call {F : Fn} {np : Nat} {dfl : List D} {args : List VL.Arg} {kf : Bool} {outs : Rho} (ha : dA l ρ = .ok xs ρ1) (hu : (uniqW (wsOf ρ1 0 xs) && decide (xs.length + dfl.length = np)) = true) (hx : argsOf ρ1 xs = some args)
    (hF : F (args ++ dfl.map shA) = some (.ret d kf outs)) (hb : backs xs outs 0 ρ1 = ρ2) : dCall F np dfl l ρ = .ok (d, frK kf) ρ2 := by
  unfold dCall
  rw [bind_ok ha]
  unfold VL.callEnd
  rw [if_pos hu, hx]
  dsimp only
  rw [hF]
  dsimp only
  rw [hb]
theorem q_mut {i : Nat} {g : List D → List D → Option (List D × D)} {ys ys' ds : List D} {p p' : Bool} (hi : ρ[i]? = some (some ⟨.lst ys, true, p⟩)) (ha : dA l ρ = .ok xs ρ1) (hx : shrs xs = some ds) (hi1 : ρ1[i]? = some (some ⟨.lst ys', true, p'⟩)) {w : List D × D}
    (hg : g ys' ds = some w) (hS : ρ1.set i (some ⟨.lst w.1, true, p'⟩) = ρ2) : dMut i g l ρ = .ok (w.2, .shr) ρ2 := by
  unfold dMut
  rw [bind_ok (show chkOwn i ρ = .ok () ρ by unfold chkOwn getOwn; rw [hi]), bind_ok ha, bind_ok (opt_ok hx)]
  unfold mutEnd getOwn
  rw [hi1]
  dsimp only
  rw [hg]
  dsimp only
  rw [hS]
theorem q_part {j : Int} (hr : r ρ = .ok (d0, k) ρ1) (hc : cur ρ1 (d0, k) = some (.con (.int j))) : dPart (some r) ρ = .ok (some j) ρ1 := by
  unfold dPart
  show (r >>= _) ρ = _
  rw [bind_ok hr, bind_ok (cur_ok hc)]
  rfl
theorem q_part0 : dPart none ρ = .ok none ρ := rfl
theorem q_slL {lo hi : Option DE} {i j : Option Int} {ds : List D} (hr : r ρ = .ok (d0, k) ρ1) (h1 : dPart lo ρ1 = .ok i ρ2) (h2 : dPart hi ρ2 = .ok j ρ3) (hc : cur ρ3 (d0, k) = some (.lst ds)) : dSlL r lo hi ρ = .ok (.lst (cutD ds i j), .fr) ρ3 := by
  unfold dSlL
  rw [bind_ok hr, bind_ok h1, bind_ok h2, bind_ok (cur_ok hc)]
  rfl
theorem q_bor {cc : V} (hr : r (ρ.map lent) = .ok (d0, k) ρ1) (hc : cur ρ1 (d0, k) = some (.con cc)) : dBor r ρ = .ok (.con cc, .shr) ρ := by
  unfold dBor
  rw [bind_ok hr, cur_ok hc]
theorem q_tbor (h : q (ρ.map lent) = .ok b ρ1) : tBor q ρ = .ok b ρ := by unfold tBor; rw [h]
theorem q_lnd {ds : List D} (hr : r (ρ.map lent) = .ok (.lst ds, .fr) ρ1) (hc : ds.all isCon = true) : dLnd r ρ = .ok (.lst ds, .fr) ρ := by
  unfold dLnd
  rw [hr]
  exact if_pos hc
theorem q_put (hc : cur ρ (d0, k) = some d) (hp : pinned (settleR ρ k) i = false) (hS : (settleR ρ k).set i (some ⟨d, ownOf k, false⟩) = ρ1) : dPut i (d0, k) ρ = .ok () ρ1 := by
  unfold dPut
  rw [bind_ok (cur_ok hc)]
  show putEnd i k d ρ = _
  unfold putEnd
  rw [hp, ← hS]
  rfl
theorem q_set (hr : r ρ = .ok (d0, k) ρ1) (hc : cur ρ1 (d0, k) = some d) (hp : pinned (settleR ρ1 k) i = false) (hS : (settleR ρ1 k).set i (some ⟨d, ownOf k, false⟩) = ρ2) : dSet i r ρ = .ok .nx ρ2 := by
  unfold dSet
  rw [bind_ok hr, bind_ok (q_put hc hp hS)]
  rfl
theorem q_expr (hr : r ρ = .ok z ρ1) : dExpr r ρ = .ok .nx ρ1 := by
  unfold dExpr
  rw [bind_ok hr]
  rfl
theorem q_unp {t : Tg} (hr : r ρ = .ok (d0, k) ρ1) (hc : cur ρ1 (d0, k) = some d) (hs : settleR ρ1 k = ρ2) (ht : (t.put d) ρ2 = .ok () ρ3) : dUnp t r ρ = .ok .nx ρ3 := by
  unfold dUnp
  rw [bind_ok hr, bind_ok (keep_ok hc hs), bind_ok ht]
  rfl
theorem q_setIx {rk rv : DE} {i : Nat} {n : Int} {ys ys' ws : List D} {p : Bool} {dk0 : D} {kk : Kd} (hv : rv ρ = .ok (d0, k) ρ1) (hc : cur ρ1 (d0, k) = some d) (hs : settleR ρ1 k = ρ2) (hi : ρ2[i]? = some (some ⟨.lst ys, true, p⟩)) (hk : rk ρ2 = .ok (dk0, kk) ρ3)
    (ck : cur ρ3 (dk0, kk) = some (.con (.int n))) (hi3 : ρ3[i]? = some (some ⟨.lst ys', true, p⟩)) (hg : setG (.con (.int n)) d ys' = some (ws, .non)) (hS : ρ3.set i (some ⟨.lst ws, true, p⟩) = ρ4) : dSetIx i rk rv ρ = .ok .nx ρ4 := by
  unfold dSetIx
  rw [bind_ok hv, bind_ok (keep_ok hc hs), bind_ok (show chkOwn i ρ2 = .ok () ρ2 by unfold chkOwn getOwn; rw [hi]), bind_ok hk, bind_ok (cur_ok ck)]
  have : mutEnd i (setG (.con (.int n)) d) ρ3 = .ok (.non, .shr) ρ4 := by
    unfold mutEnd getOwn
    rw [hi3]
    dsimp only
    rw [hg]
    dsimp only
    rw [hS]
  rw [bind_ok this]
  rfl
theorem q_par {i j : Nat} {bi bj : Bool} {x y : D × Kd} (ha : dA [(bi, ra), (bj, rb)] ρ = .ok [x, y] ρ1) (hn : nonm x = some ()) (h1 : dPut j y ρ1 = .ok () ρ2) (h2 : dPut i x ρ2 = .ok () ρ3) : dPar i j bi bj ra rb ρ = .ok .nx ρ3 := by
  unfold dPar
  rw [bind_ok ha]
  show (mOpt (nonm x) >>= _) ρ1 = _
  rw [bind_ok (opt_ok hn), bind_ok h1, bind_ok h2]
  rfl
/-- slots are shared -/
def shareAll (ρ : Rho) : List Nat → Rho
  | [] => ρ
  | i :: is => shareR (shareAll ρ is) i
end
end L2.TX
end
section
set_option Elab.async false
set_option linter.all false
set_option maxRecDepth 100000
namespace L2.TX
open PySem PySem.Spec PyProof.Rows L2 L2.VL
section
variable {X : Cx} {pj : VK → VK} {st : Stmt} {sts : List Stmt} {sa : DS} {e : Expr} {r : DE}
theorem Rel.shareAll {G : Fix} {σ : St} {H : Hp} {ρ : Rho} {T : List Tmp} : ∀ (is : List Nat) {O : L2.VL.Own}, Rel G O σ H ρ T → ∃ O', Rel G O' σ H (shareAll ρ is) T
  | [], O, R => ⟨O, R⟩
  | i :: is, O, R => by
    obtain ⟨O1, R1⟩ := Rel.shareAll is R
    show ∃ O', Rel G O' σ H (shareR (TX.shareAll ρ is) i) T
    cases q : (TX.shareAll ρ is)[i]? with
    | none => exact ⟨O1, by unfold shareR; rw [q]; exact R1⟩
    | some o =>
      cases o with
      | none => exact ⟨O1, by unfold shareR; rw [q]; exact R1⟩
      | some s =>
        obtain ⟨O2, _, R2, _, _⟩ := R1.share q
        exact ⟨O2, R2⟩
def shareM (is : List Nat) : M Unit := fun ρ => .ok () (shareAll ρ is)
/-- shared behind a statement -/
def dShE (is : List Nat) (sa : DS) : DS := do
  let f ← sa
  shareM is
  pure f
theorem ss_shE (is : List Nat) (h : SSf pj X st sa) : SSf pj X st (dShE is sa) := fun W tk => PS.imp (h W tk) fun D σ H ⟨G, O, ρ, hK, R, h⟩ => ⟨G, O, ρ, hK, R, Res.post_ok ((post_bind _ _).mp h) fun f ρ1 q => by
  replace q : FlOk G (D.re pj) [] f (shareAll ρ1 is) := q
  cases f with
  | nx => exact fun O' σ' H' R' => let ⟨O2, R2⟩ := Rel.shareAll is R'; q O2 σ' H' R2
  | brk => exact fun O' σ' H' R' => let ⟨O2, R2⟩ := Rel.shareAll is R'; q O2 σ' H' R2
  | cnt => exact fun O' σ' H' R' => let ⟨O2, R2⟩ := Rel.shareAll is R'; q O2 σ' H' R2
  | ret d b => exact fun O' σ' v H' R' => let ⟨O2, R2⟩ := Rel.shareAll is R'; q O2 σ' v H' R2⟩
theorem q_shE {is : List Nat} {ρ ρ1 ρ2 : Rho} (h : sa ρ = .ok .nx ρ1) (hs : shareAll ρ1 is = ρ2) : dShE is sa ρ = .ok .nx ρ2 := by
  unfold dShE
  rw [bind_ok h]
  show (shareM is >>= _) ρ1 = _
  rw [bind_ok (show shareM is ρ1 = .ok () ρ2 by show Res.ok () (shareAll ρ1 is) = _; rw [hs])]
  rfl
theorem se_sh (h : SE X e r) : SE X e (dSh r) := fun W tk => PE.imp (h W tk) fun σ H Q ⟨G, O, ρ, hK, R, h⟩ => ⟨G, O, ρ, hK, R, Res.post_ok ((post_bind _ _).mp h) fun x ρ1 q O1 v H1 R1 => by
  obtain ⟨d, e1, q2⟩ := keep_false q
  obtain ⟨O2, R2⟩ := R1.settle (d := d) e1
  exact q2 O2 v H1 R2⟩
end
structure BL {ω : Type} (P : Res Fl → ω → Prop) (ρ : Rho) (m : DS) (o : Option ω) : Prop where
  run : ∀ w, o = some w → P (m ρ) w
def fgRes (fg : List Nat) : Res Fl → Res Fl
  | .ok f ρ => .ok f (forgetR ρ fg)
  | r => r
abbrev PF {ω : Type} (fg : List Nat) (P : Res Fl → ω → Prop) : Res Fl → ω → Prop := fun r w => P (fgRes fg r) w
abbrev PN {σ : Type} (S : σ → Rho) : Res Fl → σ → Prop := fun r s => r = .ok .nx (S s)
abbrev PL {σ : Type} (S : σ → Rho) : Res Fl → σ → Prop := fun r s => r = .ok .nx (S s) ∨ r = .ok .cnt (S s)
def PW {σ α : Type} (S : σ → Rho) (Q : Res Fl → α → Prop) (r : Res Fl) : Fw σ α → Prop
  | .nx s => r = .ok .nx (S s) ∨ r = .ok .cnt (S s)
  | .brk s => r = .ok .brk (S s)
  | .ret a => (∃ d b ρ', r = .ok (.ret d b) ρ') ∧ Q r a
def PR {α : Type} (f : α → D) (kf : Bool) : Res Fl → α → Prop := fun r a => ∃ ρ', r = .ok (.ret (f a) kf) ρ'
def PRt {α τ : Type} (f : α → D) (kf : Bool) (n : Nat) (g : τ → Rho) : Res Fl → α × τ → Prop := fun r p => ∃ ρ', r = .ok (.ret (f p.1) kf) ρ' ∧ ρ'.take n = g p.2
section
variable {ω ω' α β σ τ : Type} {P : Res Fl → ω → Prop} {ρ ρ1 ρ2 ρ3 : Rho} {a b s1 t m : DS} {o : Option ω} {r : DE} {d d0 : D} {k : Kd} {i : Nat} {S : σ → Rho} {q : M Bool} {c : Bool} {fg : List Nat} {f : Fl}
theorem seq_nx (h : a ρ = .ok .nx ρ1) : (dSeq a b) ρ = b ρ1 := by
  unfold dSeq
  rw [bind_ok h]
theorem seq_out (h : a ρ = .ok f ρ1) (hf : f ≠ .nx) : (dSeq a b) ρ = .ok f ρ1 := by
  unfold dSeq
  rw [bind_ok h]
  cases f with
  | nx => exact absurd rfl hf
  | brk => rfl
  | cnt => rfl
  | ret d b => rfl
theorem seq_ex {x : Exn} (h : a ρ = .ex x ρ1) : (dSeq a b) ρ = .ex x ρ1 := by
  unfold dSeq
  rw [bind_ex h]
theorem seq_stuck (h : a ρ = .stuck) : (dSeq a b) ρ = .stuck := by
  show M.bind a _ ρ = _
  unfold M.bind
  rw [h]
theorem seq_eq (h : a ρ = m ρ1) : (dSeq a b) ρ = (dSeq m b) ρ1 := by
  show M.bind a _ ρ = M.bind m _ ρ1
  unfold M.bind
  rw [h]
theorem seq_assoc : (dSeq (dSeq s1 t) b) ρ = (dSeq s1 (dSeq t b)) ρ := by
  cases e : s1 ρ with
  | stuck => rw [seq_stuck e, seq_stuck (seq_stuck e)]
  | ex x ρ1 => rw [seq_ex e, seq_ex (seq_ex e)]
  | ok f ρ1 =>
    by_cases hf : f = .nx
    · subst hf
      rw [seq_nx e]
      exact seq_eq (seq_nx e)
    · rw [seq_out e hf, seq_out (seq_out e hf) hf]
theorem seq_next : (dSeq m dNext) ρ = m ρ := by
  cases e : m ρ with
  | stuck => rw [seq_stuck e]
  | ex x ρ1 => rw [seq_ex e]
  | ok f ρ1 =>
    by_cases hf : f = .nx
    · subst hf
      rw [seq_nx e]
      rfl
    · rw [seq_out e hf]
theorem bl_eq {m' : DS} (e : m ρ = m' ρ1) (h : BL P ρ1 m' o) : BL P ρ m o := ⟨fun w q => by rw [e]; exact h.run w q⟩
theorem bl_last (h : BL P ρ (dSeq m dNext) o) : BL P ρ m o := bl_eq seq_next.symm h
theorem bl_assoc (h : BL P ρ (dSeq s1 (dSeq t b)) o) : BL P ρ (dSeq (dSeq s1 t) b) o := bl_eq seq_assoc h
theorem bl_nextS (h : BL P ρ b o) : BL P ρ (dSeq dNext b) o := bl_eq (seq_nx rfl) h
theorem bl_end {w : ω} (h : P (.ok .nx ρ) w) : BL P ρ dNext (some w) := ⟨fun _ e => by cases e; exact h⟩
theorem bl_bind {oa : Option α} {h : α → Option ω} (hh : ∀ a, oa = some a → BL P ρ m (h a)) : BL P ρ m (oa.bind h) := ⟨fun w e => by
  obtain ⟨x, e1, e2⟩ := Option.bind_eq_some_iff.mp e
  exact (hh x e1).run w e2⟩
theorem bl_seq (h : a ρ = .ok .nx ρ1) (hb : BL P ρ1 b o) : BL P ρ (dSeq a b) o := bl_eq (seq_nx h) hb
/-- a name for the value -/
theorem bl_set {v : α} {f : α → D} {S : α → Rho} {h : α → Option ω} (hr : r ρ = .ok (d0, k) ρ1) (hc : cur ρ1 (d0, k) = some (f v)) (hp : pinned (settleR ρ1 k) i = false) (hS : ∀ x, (settleR ρ1 k).set i (some ⟨f x, ownOf k, false⟩) = S x)
    (hb : ∀ x, BL P (S x) b (h x)) : BL P ρ (dSeq (dSet i r) b) (lt v h) := by
  rw [lt_eq]
  exact bl_seq (q_set hr hc hp (hS v)) (hb v)
theorem bl_setV (hr : r ρ = .ok (d0, k) ρ1) (hc : cur ρ1 (d0, k) = some d) (hp : pinned (settleR ρ1 k) i = false) (hS : (settleR ρ1 k).set i (some ⟨d, ownOf k, false⟩) = ρ2)
    (hb : BL P ρ2 b o) : BL P ρ (dSeq (dSet i r) b) o := bl_seq (q_set hr hc hp hS) hb
theorem bl_lt {v : α} {S : α → Rho} {h : α → Option ω} (hS : S v = ρ) (hb : ∀ x, BL P (S x) m (h x)) : BL P ρ m (lt v h) := by
  rw [lt_eq, ← hS]
  exact hb v
theorem bl_expr {z : D × Kd} (hr : r ρ = .ok z ρ1) (hb : BL P ρ1 b o) : BL P ρ (dSeq (dExpr r) b) o := bl_seq (q_expr hr) hb
theorem take_ok {x : D × Kd} {y : D × Bool} (hc : cur ρ x = some d) (h : (match x.2 with | .fr => (pure (d, true) : M (D × Bool)) | .shr => pure (d, false) | .nm i => takeNm d i) ρ = .ok y ρ1) : dTake x ρ = .ok y ρ1 := by
  unfold dTake
  rw [bind_ok (cur_ok hc)]
  exact h
theorem bl_ret {w : ω} {kf : Bool} (hr : r ρ = .ok (d0, k) ρ1) (hc : cur ρ1 (d0, k) = some d) (ht : (match k with | .fr => (pure (d, true) : M (D × Bool)) | .shr => pure (d, false) | .nm i => takeNm d i) ρ1 = .ok (d, kf) ρ2)
    (hP : P (.ok (.ret d kf) ρ2) w) : BL P ρ (dSeq (dRet r) b) (some w) := ⟨fun _ e => by
  cases e
  have : dRet r ρ = .ok (.ret d kf) ρ2 := by
    unfold dRet
    rw [bind_ok hr, bind_ok (take_ok (x := (d0, k)) hc ht)]
    rfl
  rw [seq_out this (fun z => by cases z)]
  exact hP⟩
/-- a statement that may not be reached -/
theorem bl_never : BL P ρ m none := ⟨fun _ e => by cases e⟩
theorem if_eq {b1 b2 : DS} (hq : q ρ = .ok c ρ1) : (dIf q b1 b2) ρ = if c = true then b1 ρ1 else b2 ρ1 := by
  unfold dIf
  rw [bind_ok hq]
  cases c <;> rfl
theorem bl_if {b1 b2 : DS} {oa ob : Option ω} (hq : q ρ = .ok c ρ1) (h1 : c = true → BL P ρ1 (dSeq b1 b) oa) (h2 : c = false → BL P ρ1 (dSeq b2 b) ob) : BL P ρ (dSeq (dIf q b1 b2) b) (if c = true then oa else ob) := by
  have e := if_eq (b1 := b1) (b2 := b2) hq
  cases c with
  | true => exact bl_eq (seq_eq e) (h1 rfl)
  | false => exact bl_eq (seq_eq e) (h2 rfl)
/-- an if that goes on in any case -/
theorem bl_ifJ {b1 b2 : DS} {oa ob : Option σ} {h : σ → Option ω} (S : σ → Rho) (hq : q ρ = .ok c ρ1) (h1 : c = true → BL (PN S) ρ1 b1 oa) (h2 : c = false → BL (PN S) ρ1 b2 ob) (hb : ∀ s, BL P (S s) b (h s)) : BL P ρ (dSeq (dIf q b1 b2) b) ((if c = true then oa else ob).bind h) := bl_bind fun s e => by
  have e2 := if_eq (b1 := b1) (b2 := b2) hq
  cases c with
  | true => exact bl_seq (e2.trans ((h1 rfl).run s e)) (hb s)
  | false => exact bl_seq (e2.trans ((h2 rfl).run s e)) (hb s)
theorem fgE_eq : (dFgE fg m) ρ = fgRes fg (m ρ) := by
  unfold dFgE
  show M.bind m _ ρ = _
  unfold M.bind
  cases e : m ρ with
  | stuck => rfl
  | ex x ρ1 => rfl
  | ok f ρ1 => rfl
theorem bl_fgE (h : BL (PF fg P) ρ m o) : BL P ρ (dFgE fg m) o := ⟨fun w e => by rw [fgE_eq]; exact h.run w e⟩
theorem bl_fgB (hs : forgetR ρ fg = ρ1) (h : BL P ρ1 (dSeq m b) o) : BL P ρ (dSeq (dFgB fg m) b) o := bl_eq (seq_eq (show dFgB fg m ρ = m ρ1 by
  unfold dFgB
  rw [bind_ok (show forgetM fg ρ = .ok () (forgetR ρ fg) from rfl), hs])) h
variable {t : Tg} {body : DS} {fb : β → D} {S1 : σ → β → Rho} {it : M (List D)} {xs : List β} {s0 : σ}
theorem for_fo {gb : σ → β → Option σ} (hp : ∀ s x, (t.put (fb x)) (S s) = .ok () (S1 s x)) (hb : ∀ s x, BL (PL S) (S1 s x) body (gb s x)) : ∀ (xs : List β) (s s' : σ), fo gb xs s = some s' → forD t body (xs.map fb) (S s) = .ok .nx (S s')
  | [], s, s', e => by cases e; rfl
  | x :: xs, s, s', e => by
    obtain ⟨s2, e1, e2⟩ := Option.bind_eq_some_iff.mp (show (gb s x).bind (fo gb xs) = some s' from e)
    show (t.put (fb x) >>= fun _ => body >>= _) (S s) = _
    rw [bind_ok (hp s x)]
    rcases (hb s x).run s2 e1 with q | q
    · rw [bind_ok q]
      exact for_fo hp hb xs s2 s' e2
    · rw [bind_ok q]
      exact for_fo hp hb xs s2 s' e2
theorem bl_for {gb : σ → β → Option σ} {h : σ → Option ω} (S : σ → Rho) (S1 : σ → β → Rho) (hB : forgetR ρ fg = ρ1) (hi : it ρ1 = .ok (xs.map fb) (S s0)) (hp : ∀ s x, (t.put (fb x)) (S s) = .ok () (S1 s x))
    (hb : ∀ s x, BL (PF fg (PL S)) (S1 s x) body (gb s x)) (hr : ∀ s, BL P (S s) b (h s)) : BL P ρ (dSeq (dFgB fg (dFor it t (dFgE fg body))) b) ((fo gb xs s0).bind h) := bl_fgB hB (bl_bind fun s e => bl_seq (by
  unfold dFor
  rw [bind_ok hi]
  exact for_fo hp (fun s x => bl_fgE (hb s x)) xs s0 s e) (hr s))
theorem for_foW {gb : σ → β → Option (Fw σ α)} {Q : Res Fl → α → Prop} (hp : ∀ s x, (t.put (fb x)) (S s) = .ok () (S1 s x)) (hb : ∀ s x, BL (PW S Q) (S1 s x) body (gb s x)) : ∀ (xs : List β) (s : σ) (w : Fw σ α), foW gb xs s = some w →
    match w with
    | .nx s' => forD t body (xs.map fb) (S s) = .ok .nx (S s')
    | .brk s' => False
    | .ret a => (∃ d b ρ', forD t body (xs.map fb) (S s) = .ok (.ret d b) ρ') ∧ Q (forD t body (xs.map fb) (S s)) a
  | [], s, w, e => by cases e; rfl
  | x :: xs, s, w, e => by
    obtain ⟨u, e1, e2⟩ := Option.bind_eq_some_iff.mp (show (gb s x).bind (fwNext (foW gb xs)) = some w from e)
    have hu := (hb s x).run u e1
    have key : forD t body ((x :: xs).map fb) (S s) = (body >>= fun f => match f with
      | .nx => forD t body (xs.map fb)
      | .cnt => forD t body (xs.map fb)
      | .brk => pure .nx
      | f => pure f) (S1 s x) := by
      show (t.put (fb x) >>= fun _ => body >>= _) (S s) = _
      rw [bind_ok (hp s x)]
      all_goals rfl
    rw [key]
    cases u with
    | nx s2 =>
      have ih := for_foW hp hb xs s2 w e2
      rcases hu with q | q
      · rw [bind_ok q]; exact ih
      · rw [bind_ok q]; exact ih
    | brk s2 =>
      cases e2
      rw [bind_ok (show body (S1 s x) = .ok .brk (S s2) from hu)]
      rfl
    | ret a =>
      cases e2
      obtain ⟨⟨d, k, ρ', q⟩, hQ⟩ := hu
      rw [bind_ok q]
      exact ⟨⟨d, k, ρ', rfl⟩, by rw [q] at hQ; exact hQ⟩
/-- what a loop's answer is, where it stands: handed back at once, or as a turn's end of the loop around -/
structure Out {α ω : Type} (Q : Res Fl → α → Prop) (P : Res Fl → ω → Prop) (rt : α → ω) : Prop where
  run : ∀ d k ρ' a, Q (.ok (.ret d k) ρ') a → P (.ok (.ret d k) ρ') (rt a)
theorem bl_forW {gb : σ → β → Option (Fw σ α)} {h : σ → Option ω} {Q : Res Fl → α → Prop} {rt : α → ω} (S : σ → Rho) (S1 : σ → β → Rho) (hB : forgetR ρ fg = ρ1) (hi : it ρ1 = .ok (xs.map fb) (S s0)) (hp : ∀ s x, (t.put (fb x)) (S s) = .ok () (S1 s x))
    (hb : ∀ s x, BL (PF fg (PW S Q)) (S1 s x) body (gb s x)) (hQ : Out Q P rt) (hr : ∀ s, BL P (S s) b (h s)) : BL P ρ (dSeq (dFgB fg (dFor it t (dFgE fg body))) b) ((foW gb xs s0).bind (fwOut h fun a => some (rt a))) := bl_fgB hB (bl_bind fun w e => by
  have q := for_foW hp (fun s x => bl_fgE (hb s x)) xs s0 w e
  have key : dFor it t (dFgE fg body) ρ1 = forD t (dFgE fg body) (xs.map fb) (S s0) := by
    unfold dFor
    rw [bind_ok hi]
  cases w with
  | nx s => exact bl_seq (key.trans q) (hr s)
  | brk s => exact q.elim
  | ret a =>
    obtain ⟨⟨d, k, ρ', q1⟩, q2⟩ := q
    refine ⟨fun w ew => ?_⟩
    cases ew
    rw [seq_out (key.trans q1) (fun z => by cases z)]
    rw [q1] at q2
    exact hQ.run d k ρ' a q2)
end
theorem out_R {α : Type} {Q : Res Fl → α → Prop} : Out Q Q id := ⟨fun _ _ _ _ h => h⟩
theorem out_W {α σ : Type} {S : σ → Rho} {Q : Res Fl → α → Prop} : Out Q (PW S Q) Fw.ret := ⟨fun d k ρ' _ h => ⟨⟨d, k, ρ', rfl⟩, h⟩⟩
/-- what is handed back does not hang on what is forgotten -/
theorem out_F {α ω : Type} {Q Q' : Res Fl → α → Prop} {P : Res Fl → ω → Prop} {fg : List Nat} {rt : α → ω} (h : Out Q' P rt) (hf : ∀ d k ρ' a, Q (.ok (.ret d k) ρ') a → Q' (.ok (.ret d k) (forgetR ρ' fg)) a) : Out Q (PF fg P) rt := ⟨fun d k ρ' a q => h.run d k _ a (hf d k ρ' a q)⟩
theorem fg_PR {α : Type} {f : α → D} {kf : Bool} {fg : List Nat} : ∀ d k ρ' a, PR f kf (.ok (.ret d k) ρ') a → PR f kf (.ok (.ret d k) (forgetR ρ' fg)) a := fun d k ρ' a ⟨ρ2, e⟩ => by
  cases e
  exact ⟨_, rfl⟩
end L2.TX
end
section
set_option Elab.async false
set_option linter.all false
set_option maxRecDepth 100000
namespace L2.TX
open PySem PySem.Spec PyProof.Rows L2 L2.VL
section
variable {α β γ σ τ : Type} {ρ ρ1 ρ2 ρ3 : Rho} {r : DE} {q : M Bool} {t : Tg} {own : List Nat} {it : M (List D)} {fb : β → D} {f : α → D} {xs : List β} {d d0 : D} {k : Kd}
theorem noX_ok {m : M α} {a : α} (h : m ρ = .ok a ρ1) : noX m ρ = .ok a ρ1 := by unfold noX; rw [h]
theorem lcD_lc {cq : β → Option Bool} {ce : β → Option α} {S1 : β → Rho} {ρ0 : Rho} (hp : ∀ x, (t.put (fb x)) ρ0 = .ok () (S1 x)) (hq : ∀ x, VT (S1 x) q (cq x)) (he : ∀ x, VE (S1 x) r f (ce x)) (hw : ∀ x, wipeR (S1 x) own = ρ0) :
    ∀ (xs : List β) (ys : List α) (ρ : Rho), wipeR ρ own = ρ0 → lc cq ce xs = some ys → ∃ ρ', lcD own t q r (xs.map fb) ρ = .ok (ys.map f) ρ' ∧ wipeR ρ' own = ρ0
  | [], ys, ρ, h0, e => by cases e; exact ⟨ρ, rfl, h0⟩
  | x :: xs, ys, ρ, h0, e => by
    obtain ⟨c, e1, e2⟩ := Option.bind_eq_some_iff.mp (show (cq x).bind _ = some ys from e)
    have k0 : lcD own t q r ((x :: xs).map fb) ρ = ((wipeM own >>= fun _ => t.put (fb x) >>= fun _ => noX q >>= fun b => if b = true then (noX r >>= fun y => keep false y >>= fun z => lcD own t q r (xs.map fb) >>= fun rest => pure (z.1 :: rest)) else lcD own t q r (xs.map fb)) : M (List D)) ρ := rfl
    have e0 : wipeM own ρ = .ok () ρ0 := by show Res.ok () (wipeR ρ own) = _; rw [h0]
    rw [k0, bind_ok e0, bind_ok (hp x), bind_ok (noX_ok ((hq x).run c e1))]
    cases c with
    | false =>
      rw [if_neg Bool.false_ne_true]
      exact lcD_lc hp hq he hw xs ys (S1 x) (hw x) e2
    | true =>
      rw [if_pos rfl]
      obtain ⟨y, e3, e4⟩ := Option.bind_eq_some_iff.mp (show (ce x).bind _ = some ys from e2)
      obtain ⟨zs, e5, e6⟩ := Option.bind_eq_some_iff.mp e4
      cases e6
      obtain ⟨d0, k, h1, h2, h3⟩ := (he x).run y e3
      obtain ⟨ρ', h4, h5⟩ := lcD_lc hp hq he hw xs zs (S1 x) (hw x) e5
      rw [bind_ok (noX_ok h1), bind_ok (keep_ok h2 h3), bind_ok h4]
      exact ⟨ρ', rfl, h5⟩
theorem chk_of {ys zs : List α} (h : chk ys = some zs) : zs = ys ∧ ys.length ≤ cap := by
  unfold chk at h
  split at h
  · cases h; exact ⟨rfl, by assumption⟩
  · cases h
theorem q_lc {cq : β → Option Bool} {ce : β → Option α} {ys : List α} (S1 : β → Rho) (hi : it ρ = .ok (xs.map fb) ρ1) (ho : own.all (fun i => !pinned ρ1 i) = true) (h0 : wipeR ρ1 own = ρ2) (hp : ∀ x, (t.put (fb x)) ρ2 = .ok () (S1 x)) (hw : ∀ x, wipeR (S1 x) own = ρ2)
    (hq : ∀ x, VT (S1 x) q (cq x)) (he : ∀ x, VE (S1 x) r f (ce x)) (h : lcC cq ce xs = some ys) : dLc own it t q r ρ = .ok (.lst (ys.map f), .fr) ρ2 := by
  obtain ⟨zs, e1, e2⟩ := Option.bind_eq_some_iff.mp (show (lc cq ce xs).bind chk = some ys from h)
  obtain ⟨rfl, hl⟩ := chk_of e2
  obtain ⟨ρ', h4, h5⟩ := lcD_lc hp hq he hw xs ys ρ1 h0 e1
  unfold dLc
  rw [bind_ok hi]
  show (okOwn own >>= _) ρ1 = _
  rw [bind_ok (show okOwn own ρ1 = .ok () ρ1 by unfold okOwn; rw [if_pos ho]), bind_ok h4]
  show (wipeM own >>= _) ρ' = _
  rw [bind_ok (show wipeM own ρ' = .ok () ρ2 by show Res.ok () (wipeR ρ' own) = _; rw [h5])]
  exact opt_ok (by unfold lcEnd; rw [List.length_map]; exact if_pos hl)
/-- .. with a state that goes along -/
structure XT (S : τ → Rho) (ρ : Rho) (q : M Bool) (o : Option (Bool × τ)) : Prop where
  run : ∀ p, o = some p → q ρ = .ok p.1 (S p.2)
structure XE (S : τ → Rho) (ρ : Rho) (r : DE) (f : α → D) (o : Option (α × τ)) : Prop where
  run : ∀ p, o = some p → ∃ d0 k, r ρ = .ok (d0, k) (S p.2) ∧ cur (S p.2) (d0, k) = some (f p.1) ∧ settleR (S p.2) k = S p.2
theorem xt_ret {S : τ → Rho} {p : Bool × τ} (h : q ρ = .ok p.1 (S p.2)) : XT S ρ q (some p) := ⟨fun _ e => by cases e; exact h⟩
theorem xe_ret {S : τ → Rho} {p : α × τ} (h : r ρ = .ok (d0, k) (S p.2)) (hc : cur (S p.2) (d0, k) = some (f p.1)) (hs : settleR (S p.2) k = S p.2) : XE S ρ r f (some p) := ⟨fun _ e => by cases e; exact ⟨d0, k, h, hc, hs⟩⟩
theorem xe_bind {S : τ → Rho} {o : Option γ} {h : γ → Option (α × τ)} (hh : ∀ a, o = some a → XE S ρ r f (h a)) : XE S ρ r f (o.bind h) := ⟨fun c e => by
  obtain ⟨a, e1, e2⟩ := Option.bind_eq_some_iff.mp e
  exact (hh a e1).run c e2⟩
theorem lcD_lcX {cq : τ → β → Option (Bool × τ)} {ce : τ → β → Option (α × τ)} {S : τ → Rho} {S1 : τ → β → Rho} (hp : ∀ s x, (t.put (fb x)) (S s) = .ok () (S1 s x)) (hq : ∀ s x, XT (fun s' => S1 s' x) (S1 s x) q (cq s x)) (he : ∀ s x, XE (fun s' => S1 s' x) (S1 s x) r f (ce s x)) (hw : ∀ s x, wipeR (S1 s x) own = S s) :
    ∀ (xs : List β) (s : τ) (w : List α × τ) (ρ : Rho), wipeR ρ own = S s → lcX cq ce xs s = some w → ∃ ρ', lcD own t q r (xs.map fb) ρ = .ok (w.1.map f) ρ' ∧ wipeR ρ' own = S w.2
  | [], s, w, ρ, h0, e => by cases e; exact ⟨ρ, rfl, h0⟩
  | x :: xs, s, w, ρ, h0, e => by
    obtain ⟨c, e1, e2⟩ := Option.bind_eq_some_iff.mp (show (cq s x).bind _ = some w from e)
    have k0 : lcD own t q r ((x :: xs).map fb) ρ = ((wipeM own >>= fun _ => t.put (fb x) >>= fun _ => noX q >>= fun b => if b = true then (noX r >>= fun y => keep false y >>= fun z => lcD own t q r (xs.map fb) >>= fun rest => pure (z.1 :: rest)) else lcD own t q r (xs.map fb)) : M (List D)) ρ := rfl
    have e0 : wipeM own ρ = .ok () (S s) := by show Res.ok () (wipeR ρ own) = _; rw [h0]
    rw [k0, bind_ok e0, bind_ok (hp s x), bind_ok (noX_ok ((hq s x).run c e1))]
    obtain ⟨c1, c2⟩ := c
    cases c1 with
    | false =>
      rw [if_neg Bool.false_ne_true]
      exact lcD_lcX hp hq he hw xs c2 w (S1 c2 x) (hw c2 x) e2
    | true =>
      rw [if_pos rfl]
      obtain ⟨y, e3, e4⟩ := Option.bind_eq_some_iff.mp (show (ce c2 x).bind _ = some w from e2)
      obtain ⟨zs, e5, e6⟩ := Option.bind_eq_some_iff.mp e4
      cases e6
      obtain ⟨d0, k, h1, h2, h3⟩ := (he c2 x).run y e3
      obtain ⟨ρ', h4, h5⟩ := lcD_lcX hp hq he hw xs y.2 zs (S1 y.2 x) (hw y.2 x) e5
      rw [bind_ok (noX_ok h1), bind_ok (keep_ok h2 h3), bind_ok h4]
      exact ⟨ρ', rfl, h5⟩
theorem chkX_of {p w : List α × τ} (h : chkX p = some w) : w = p ∧ p.1.length ≤ cap := by
  unfold chkX at h
  split at h
  · cases h; exact ⟨rfl, by assumption⟩
  · cases h
theorem q_lcX {cq : τ → β → Option (Bool × τ)} {ce : τ → β → Option (α × τ)} {w : List α × τ} {s : τ} (S : τ → Rho) (S1 : τ → β → Rho) (hi : it ρ = .ok (xs.map fb) ρ1) (ho : own.all (fun i => !pinned ρ1 i) = true) (h0 : wipeR ρ1 own = S s) (hp : ∀ s x, (t.put (fb x)) (S s) = .ok () (S1 s x)) (hw : ∀ s x, wipeR (S1 s x) own = S s)
    (hq : ∀ s x, XT (fun s' => S1 s' x) (S1 s x) q (cq s x)) (he : ∀ s x, XE (fun s' => S1 s' x) (S1 s x) r f (ce s x)) (h : lcXC cq ce xs s = some w) : dLc own it t q r ρ = .ok (.lst (w.1.map f), .fr) (S w.2) := by
  obtain ⟨zs, e1, e2⟩ := Option.bind_eq_some_iff.mp (show (lcX cq ce xs s).bind chkX = some w from h)
  obtain ⟨rfl, hl⟩ := chkX_of e2
  obtain ⟨ρ', h4, h5⟩ := lcD_lcX hp hq he hw xs s w ρ1 h0 e1
  unfold dLc
  rw [bind_ok hi]
  show (okOwn own >>= _) ρ1 = _
  rw [bind_ok (show okOwn own ρ1 = .ok () ρ1 by unfold okOwn; rw [if_pos ho]), bind_ok h4]
  show (wipeM own >>= _) ρ' = _
  rw [bind_ok (show wipeM own ρ' = .ok () (S w.2) by show Res.ok () (wipeR ρ' own) = _; rw [h5])]
  exact opt_ok (by unfold lcEnd; rw [List.length_map]; exact if_pos hl)
theorem i_any {ys : List D} (hr : r ρ = .ok (d0, k) ρ1) (hc : cur ρ1 (d0, k) = some d) (hs : settleR ρ1 k = ρ2) (ha : anyOf d = some ys) : iAny r ρ = .ok ys ρ2 := by
  unfold iAny
  rw [bind_ok hr, bind_ok (keep_ok hc hs), opt_ok ha]
theorem i_lst {ys : List D} (hr : r ρ = .ok (d0, k) ρ1) (hc : cur ρ1 (d0, k) = some (.lst ys)) (hs : settleR ρ1 k = ρ2) : iLst r ρ = .ok ys ρ2 := by
  unfold iLst
  rw [bind_ok hr, bind_ok (keep_ok hc hs)]
  rfl
theorem i_rng {g : List D → Option (List D)} {l : List (Bool × DE)} {ys : List (D × Kd)} {ds zs : List D} (ha : dA l ρ = .ok ys ρ1) (hc : curs ρ1 ys = some ds) (hg : g ds = some zs) : iRng g l ρ = .ok zs ρ1 := by
  unfold iRng
  rw [bind_ok ha, bind_ok (show dcurs ys ρ1 = .ok ds ρ1 by unfold dcurs; rw [hc]), opt_ok hg]
theorem rngD_map (i : Int) (n : Nat) : rngD i n = ((List.range n).map fun (k : Nat) => i + k).map rI := by
  unfold rngD
  rw [List.map_map]
  rfl
theorem g_rng1 {j : Int} {zs : List Int} (h : rng 0 j = some zs) : rng1 [rI j] = some (zs.map rI) := by
  unfold rng at h
  split at h
  · rename_i hj
    cases h
    rw [Bool.and_eq_true] at hj
    show (if small62 j then some (rngD 0 j.toNat) else none) = _
    rw [if_pos hj.2, rngD_map]
    simp
  · cases h
theorem i_zip {l : List (Bool × DE)} {ys : List (D × Kd)} {fa : α → D} {fc : γ → D} {as : List α} {cs : List γ} (ha : dA l ρ = .ok ys ρ1) (hs : shrs ys = some [rL fa as, rL fc cs]) : iZip2 l ρ = .ok ((as.zip cs).map (rP fa fc)) ρ1 := by
  unfold iZip2
  rw [bind_ok ha, bind_ok (opt_ok hs)]
  show (mOpt (some (((as.map fa).zip (cs.map fc)).map fun p => D.tup [p.1, p.2]))) ρ1 = _
  rw [List.zip_map, List.map_map]
  rfl
theorem chrs_sx (cs : List Nat) : chrs (sx cs) = (chs cs).map rS := by
  unfold chrs chs
  rw [List.map_map]
  show List.map _ cs = _
  rfl
theorem any_S (as : List Nat) : anyOf (rS as) = some ((chs as).map rS) := by
  show some (chrs (sx as)) = _
  rw [chrs_sx]
structure Ref (F : Fn) (args : List VL.Arg) (f : α → D) (kf : Bool) (o : Option α) : Prop where
  run : ∀ a, o = some a → ∃ outs, F args = some (.ret (f a) kf outs)
structure RefT (F : Fn) (args : List VL.Arg) (f : α → D) (kf : Bool) (g : τ → Rho) (o : Option (α × τ)) : Prop where
  run : ∀ p, o = some p → F args = some (.ret (f p.1) kf (g p.2))
theorem ref_of {n : Nat} {body : DS} {args : List VL.Arg} {kf : Bool} {o : Option α} (h0 : args.map slotOf ++ List.replicate (n - args.length) none = ρ) (h : BL (PR f kf) ρ body o) : Ref (runFn n body) args f kf o := ⟨fun a e => by
  obtain ⟨ρ', q⟩ := h.run a e
  refine ⟨ρ'.take args.length, ?_⟩
  unfold runFn
  rw [h0, q]⟩
theorem ref_ofT {n m : Nat} {body : DS} {args : List VL.Arg} {kf : Bool} {g : τ → Rho} {o : Option (α × τ)} (h0 : args.map slotOf ++ List.replicate (n - args.length) none = ρ) (hm : args.length = m) (h : BL (PRt f kf m g) ρ body o) : RefT (runFn n body) args f kf g o := ⟨fun a e => by
  obtain ⟨ρ', q, q2⟩ := h.run a e
  unfold runFn
  rw [h0, q, hm]
  dsimp only
  rw [q2]⟩
theorem q_callR {F : Fn} {np : Nat} {dfl : List D} {l : List (Bool × DE)} {ys : List (D × Kd)} {as args : List VL.Arg} {kf : Bool} {o : Option α} {x : α} (R : Ref F args f kf o) (hx : o = some x) (ha : dA l ρ = .ok ys ρ1) (hu : (uniqW (wsOf ρ1 0 ys) && decide (ys.length + dfl.length = np)) = true)
    (hy : argsOf ρ1 ys = some as) (he : as ++ dfl.map shA = args) (hb : ∀ outs, backs ys outs 0 ρ1 = ρ1) : dCall F np dfl l ρ = .ok (f x, frK kf) ρ1 := by
  obtain ⟨outs, q⟩ := R.run x hx
  exact q_call ha hu hy (by rw [he]; exact q) (hb outs)
theorem q_callT {F : Fn} {np : Nat} {dfl : List D} {l : List (Bool × DE)} {ys : List (D × Kd)} {as args : List VL.Arg} {kf : Bool} {g : τ → Rho} {o : Option (α × τ)} {x : α × τ} (R : RefT F args f kf g o) (hx : o = some x) (ha : dA l ρ = .ok ys ρ1) (hu : (uniqW (wsOf ρ1 0 ys) && decide (ys.length + dfl.length = np)) = true)
    (hy : argsOf ρ1 ys = some as) (he : as ++ dfl.map shA = args) (hb : backs ys (g x.2) 0 ρ1 = ρ2) : dCall F np dfl l ρ = .ok (f x.1, frK kf) ρ2 := q_call ha hu hy (by rw [he]; exact R.run x hx) hb
end
section
variable {α β : Type} {f : α → D} {g : β → D} {a b c i j : Int} {xs ys zs : List α} {s t u : List Nat} {x : α} {p q : Bool}
theorem g_addI : addD (rI a) (rI b) = some (rI (a + b), .shr) := rfl
theorem sx_app : sx s ++ sx t = sx (s ++ t) := by
  show Str.mk (s.toArray ++ t.toArray) = _
  simp
theorem sx_len : (sx s).length = s.length := by
  show s.toArray.size = _
  simp
theorem g_addS (h : catS s t = some u) : addD (rS s) (rS t) = some (rS u, .shr) := by
  unfold catS at h
  split at h
  · rename_i hl
    cases h
    show (if (sx s).length + (sx t).length ≤ cap then some (D.str (sx s ++ sx t), Kd.shr) else none) = _
    rw [sx_len, sx_len, if_pos hl, sx_app]
  · cases h
theorem g_subI : subD (rI a) (rI b) = some (rI (a - b), .shr) := rfl
theorem mulT_I (h : CMulB a b = true) : mulT (rI a) (rI b) = some (rI (a * b), .shr) := by
  show (mulA (rI a) (rI b)).or _ = _
  rw [show mulA (rI a) (rI b) = some (rI (a * b), .shr) from if_pos h]
  rfl
theorem g_mulI (h : mulI a b = some c) : mulT (rI a) (rI b) = some (rI c, .shr) := by
  unfold mulI at h
  split at h
  · rename_i hl; cases h; exact mulT_I hl
  · cases h
theorem g_mulIl (h : (decide (-18446744073709551616 < a) && decide (a < 18446744073709551616)) = true) : mulT (rI a) (rI b) = some (rI (a * b), .shr) := mulT_I (by unfold CMulB; rw [h]; simp)
theorem g_divI (h : divI a b = some c) : divD (rI a) (rI b) = some (rI c, .shr) := by
  unfold divI at h
  split at h
  · rename_i hl; cases h; exact if_pos hl
  · cases h
theorem g_modI (h : modI a b = some c) : modD (rI a) (rI b) = some (rI c, .shr) := by
  unfold modI at h
  split at h
  · rename_i hl; cases h; exact if_pos (decide_eq_true hl)
  · cases h
theorem g_powIr (h : CPowB a b = true) : powD (rI a) (rI b) = some (rI (a ^ b.toNat), .shr) := if_pos h
theorem g_ltI : ltC (rI a) (rI b) = some (decide (a < b)) := rfl
theorem g_leI : leC (rI a) (rI b) = some (decide (a ≤ b)) := rfl
theorem g_gtI : gtA (rI a) (rI b) = some (decide (a > b)) := rfl
theorem g_eqI : eqD (rI a) (rI b) = some (decide (a = b)) := eqD_int
theorem sx_inj : sx s = sx t ↔ s = t := by
  constructor
  · intro h
    have : s.toArray = t.toArray := congrArg Str.cps h
    simpa using this
  · intro h; rw [h]
theorem g_eqS : eqD (rS s) (rS t) = some (decide (s = t)) := by
  rw [show eqD (rS s) (rS t) = some (decide (sx s = sx t)) from eqD_str]
  simp only [sx_inj]
theorem g_ne {x y : D} (h : eqD x y = some p) : neD x y = some (!p) := by unfold neD; rw [h]; rfl
def EqT (f : α → D) (n : Nat) : Prop := ∀ a b, okD n (f a) = true ∧ (same (f a) (f b) = true ↔ a = b)
def EqR (f : α → D) (ok : α → Bool) (n : Nat) : Prop := ∀ a b, ok a = true → ok b = true → okD n (f a) = true ∧ (same (f a) (f b) = true ↔ a = b)
theorem okD_int (n : Nat) (i : Int) : okD n (rI i) = true := by cases n <;> rfl
theorem et_I {n : Nat} : EqT rI n := fun a b => ⟨okD_int n a, by show decide (a = b) = true ↔ _; simp⟩
theorem er_S {n : Nat} : EqR rS okS n := fun a b ha hb => ⟨okL_fs (fun c hc => by unfold okS at ha; simpa using List.all_eq_true.mp ha c hc) n, by
  show decide (sx a = sx b) = true ↔ _
  rw [decide_eq_true_iff]
  exact sx_inj⟩
theorem same_L {P : α → Prop} (h : ∀ a b, P a → P b → (same (f a) (f b) = true ↔ a = b)) : ∀ xs ys : List α, (∀ x ∈ xs, P x) → (∀ y ∈ ys, P y) → (sameL (xs.map f) (ys.map f) = true ↔ xs = ys)
  | [], [], _, _ => by simp [sameL]
  | [], y :: ys, _, _ => by simp [sameL]
  | x :: xs, [], _, _ => by simp [sameL]
  | x :: xs, y :: ys, h1, h2 => by
    show (same (f x) (f y) && sameL (xs.map f) (ys.map f)) = true ↔ _
    rw [Bool.and_eq_true, h x y (h1 x (by simp)) (h2 y (by simp)), same_L h xs ys (fun z hz => h1 z (by simp [hz])) (fun z hz => h2 z (by simp [hz]))]
    simp
theorem et_L {n : Nat} (h : EqT f n) : EqT (rL f) (n + 1) := fun a b => ⟨okL_map a n fun x _ => (h x x).1, same_L (P := fun _ => True) (fun a b _ _ => (h a b).2) a b (fun _ _ => trivial) (fun _ _ => trivial)⟩
theorem er_L {ok : α → Bool} {n : Nat} (h : EqR f ok n) : EqR (rL f) (fun xs => xs.all ok) (n + 1) := fun a b ha hb => by
  rw [List.all_eq_true] at ha hb
  exact ⟨okL_map a n fun x hx => (h x x (ha x hx) (ha x hx)).1, same_L (P := fun x => ok x = true) (fun a b p q => (h a b p q).2) a b ha hb⟩
theorem okD_tup {n : Nat} {ds : List D} (h : ds.all (okD n) = true) : okD (n + 1) (.tup ds) = true := h
theorem et_P {n : Nat} (h1 : EqT f n) (h2 : EqT g n) : EqT (rP f g) (n + 1) := fun a b => ⟨okD_tup (by simp [(h1 a.1 a.1).1, (h2 a.2 a.2).1]), by
  show (same (f a.1) (f b.1) && (same (g a.2) (g b.2) && true)) = true ↔ _
  rw [Bool.and_eq_true, Bool.and_eq_true, (h1 a.1 b.1).2, (h2 a.2 b.2).2]
  obtain ⟨a1, a2⟩ := a
  obtain ⟨b1, b2⟩ := b
  simp⟩
theorem eqD_nl {x y : D} (hx : okD 60 x = true) (hy : okD 60 y = true) (hn : isCon x = false) : eqD x y = some (same x y) := by
  unfold eqD
  cases x with
  | con v => cases hn
  | lst _ => simp [hx, hy]
  | tup _ => simp [hx, hy]
  | dic _ => simp [hx, hy]
  | dit _ => simp [hx, hy]
  | own _ => simp [hx, hy]
  | exv _ => simp [hx, hy]
  | tre _ => simp [hx, hy]
  | dix _ => simp [hx, hy]
  | fnv _ _ _ => simp [hx, hy]
theorem bool_dec {p : Bool} {Q : Prop} [Decidable Q] (h : p = true ↔ Q) : p = decide Q := by
  cases p with
  | true => exact (decide_eq_true (h.mp rfl)).symm
  | false => exact (decide_eq_false fun q => nomatch h.mpr q).symm
theorem g_eqT {x y : α} [Decidable (x = y)] (h : EqT f 60) (hn : isCon (f x) = false) : eqD (f x) (f y) = some (decide (x = y)) := by
  rw [eqD_nl (h x x).1 (h y y).1 hn, bool_dec (h x y).2]
theorem g_eqR [DecidableEq α] {ok : α → Bool} {x y : α} (h : EqR f ok 60) (hn : isCon (f x) = false) (e : eqG ok x y = some p) : eqD (f x) (f y) = some p := by
  unfold eqG at e
  split at e
  · rename_i hl
    rw [Bool.and_eq_true] at hl
    cases e
    rw [eqD_nl (h x x hl.1 hl.1).1 (h y y hl.2 hl.2).1 hn, bool_dec (h x y hl.1 hl.2).2]
  · cases e
theorem atI_map : ∀ {xs : List α} {i : Int}, atI (xs.map f) i = (atI xs i).map f := fun {xs i} => by
  unfold atI
  rw [List.length_map]
  cases ixN xs.length i with
  | none => rfl
  | some k => simp
theorem g_ixL (h : ixL xs i = some x) : ixD (rL f xs) (rI i) = some (f x, .shr) := by
  show (atI (xs.map f) i).map _ = _
  rw [atI_map, show atI xs i = some x from h]
  rfl
theorem g_ixS (h : ixS s i = some t) : ixD (rS s) (rI i) = some (rS t, .shr) := by
  unfold ixS at h
  split at h
  · rename_i hl
    obtain ⟨c, e, rfl⟩ := Option.map_eq_some_iff.mp h
    show (if (sx s).length ≤ cap then (atI (sx s).cps.toList i).map fun c => (D.str ⟨#[c]⟩, Kd.shr) else none) = _
    rw [sx_len, if_pos hl]
    show (atI s i).map _ = _
    rw [e]
    rfl
  · cases h
theorem g_lenL : lenD [rL f xs] = some (rI xs.length, .shr) := by
  show some (D.int ((xs.map f).length : Nat), Kd.shr) = _
  rw [List.length_map]
theorem g_lenS (h : lenS s = some c) : lenD [rS s] = some (rI c, .shr) := by
  unfold lenS at h
  split at h
  · rename_i hl
    cases h
    show (if (sx s).length ≤ cap then some (D.int ((sx s).length : Nat), Kd.shr) else none) = _
    rw [sx_len, if_pos hl]
  · cases h
theorem g_abs : scB VL.absV [rI a] = some (rI (if a < 0 then -a else a), .shr) := rfl
theorem g_max2 : scB maxV [rI a, rI b] = some (rI (if b > a then b else a), .shr) := rfl
theorem g_min2 : scB minV [rI a, rI b] = some (rI (if b < a then b else a), .shr) := rfl
theorem g_intI : scB intV [rI a] = some (rI a, .shr) := rfl
theorem g_intB : scB intV [rB p] = some (rI (if p then 1 else 0), .shr) := rfl
theorem blsD_map : ∀ bs : List Bool, blsD (bs.map rB) = some bs
  | [] => rfl
  | b :: bs => by
    show (blsD (bs.map rB)).map _ = _
    rw [blsD_map bs]; rfl
theorem intsD_map : ∀ bs : List Int, intsD (bs.map rI) = some bs
  | [] => rfl
  | b :: bs => by
    show (intsD (bs.map rI)).map _ = _
    rw [intsD_map bs]; rfl
theorem g_all {bs : List Bool} : scB allV [rL rB bs] = some (rB (bs.all id), .shr) := by
  show ((blsD (bs.map rB)).map fun bs => V.bl (bs.all id)).map _ = _
  rw [blsD_map]; rfl
theorem g_sortI {ns : List Int} : sortA [rL rI ns] = some (rL rI (sortI ns), .fr) := by
  show (sortedD [rL rI ns]).or _ = _
  have : sortedD [rL rI ns] = some (rL rI (sortI ns), .fr) := by
    show (intsD (ns.map rI)).map _ = _
    rw [intsD_map]; rfl
  rw [this]; rfl
theorem g_list : listD [rL f xs] = some (rL f xs, .fr) := rfl
/-- a text in a text -/
def inTx (s t : List Nat) : Bool := strIn (sx s) (sx t)
theorem g_inTx : inB (rS s) (rS t) = some (inTx s t) := rfl
def NN (f : α → D) : Prop := ∀ a, isNonD (f a) = some false
theorem nn_I : NN rI := fun _ => rfl
theorem g_isN {o : Option α} (h : NN f) : isNC (rO f o) (.con .non) = some o.isNone := by
  cases o with
  | none => rfl
  | some x => exact h x
theorem t_B : truthD (rB p) = some p := rfl
theorem cutD_map {lo hi : Option Int} : VL.cutD (xs.map f) lo hi = (cutL xs lo hi).map f := by
  unfold VL.cutD cutL
  rw [List.length_map, List.map_take, List.map_drop]
theorem g_app (h : appL xs x = some zs) : appG (xs.map f) [f x] = some (zs.map f, .non) := by
  unfold appL at h
  split at h
  · rename_i hl
    cases h
    show (if (xs.map f).length < cap then some (xs.map f ++ [f x], D.non) else none) = _
    rw [List.length_map, if_pos hl, List.map_append]
    rfl
  · cases h
theorem erase_map : ∀ (xs : List α) (k : Nat), (xs.map f).eraseIdx k = (xs.eraseIdx k).map f
  | [], _ => rfl
  | x :: xs, 0 => rfl
  | x :: xs, k + 1 => by
    show f x :: (xs.map f).eraseIdx k = f x :: (xs.eraseIdx k).map f
    rw [erase_map xs k]
theorem g_pop {w : α × List α} (h : popL xs i = some w) : popG (xs.map f) [rI i] = some (w.2.map f, f w.1) := by
  unfold popL at h
  split at h
  · rename_i hl
    obtain ⟨k, e1, e2⟩ := Option.bind_eq_some_iff.mp h
    obtain ⟨y, e3, rfl⟩ := Option.map_eq_some_iff.mp e2
    show (if small62 i then (ixN (xs.map f).length i).bind fun k => ((xs.map f)[k]?).map fun y => ((xs.map f).eraseIdx k, y) else none) = _
    rw [if_pos hl, List.length_map, e1]
    show ((xs.map f)[k]?).map _ = _
    rw [List.getElem?_map, e3]
    show some ((xs.map f).eraseIdx k, f y) = _
    rw [show (xs.map f).eraseIdx k = (xs.eraseIdx k).map f from erase_map xs k]
  · cases h
theorem g_setL (h : setL xs i x = some zs) : setG (rI i) (f x) (xs.map f) = some (zs.map f, .non) := by
  obtain ⟨k, e, rfl⟩ := Option.map_eq_some_iff.mp h
  show (ixN (xs.map f).length i).map _ = _
  rw [List.length_map, e]
  show some ((xs.map f).set k (f x), D.non) = _
  rw [List.map_set]
end
end L2.TX
end
section
set_option Elab.async false
set_option linter.all false
set_option maxRecDepth 100000
namespace L2.TX
open PySem PySem.Spec PyProof.Rows L2 L2.VL
def joinT (s : List Nat) : List (List Nat) → List Nat
  | [] => []
  | [x] => x
  | x :: y :: rest => x ++ s ++ joinT s (y :: rest)
theorem joinT_nil : ∀ ts : List (List Nat), joinT [] ts = ts.flatten
  | [] => rfl
  | [x] => by simp [joinT]
  | x :: y :: rest => by
    show x ++ [] ++ joinT [] (y :: rest) = _
    rw [joinT_nil (y :: rest)]
    simp
theorem join_sx (s : List Nat) : ∀ ts : List (List Nat), Txt.join (sx s) (ts.map sx) = sx (joinT s ts)
  | [] => rfl
  | [x] => rfl
  | x :: y :: rest => by
    have h : Txt.join (sx s) ((x :: y :: rest).map sx) = sx x ++ sx s ++ Txt.join (sx s) ((y :: rest).map sx) := by
      rw [TL.join_eq, TL.join_eq]
      show Str.join (sx s) (sx x :: sx y :: rest.map sx) = sx x ++ sx s ++ Str.join (sx s) (sx y :: rest.map sx)
      rfl
    rw [h, join_sx s (y :: rest), sx_app, sx_app]
    rfl
theorem strsD_map : ∀ ts : List (List Nat), strsD (ts.map rS) = some (ts.map sx)
  | [] => rfl
  | t :: ts => by
    show (strsD (ts.map rS)).map _ = _
    rw [strsD_map ts]; rfl
def joinS (s : List Nat) (ts : List (List Nat)) : Option (List Nat) := if (ts.map List.length).sum + ts.length * s.length ≤ 16777216 then some (joinT s ts) else none
section
variable {α β γ δ σ τ ω : Type} {f : α → D} {g : β → D} {a b c i j : Int} {xs ys zs : List α} {s t u : List Nat} {x y : α} {p q : Bool} {ρ ρ1 ρ2 ρ3 ρ4 : Rho} {ra rb rc r : DE} {qa qb : M Bool} {d d0 : D} {k : Kd}
theorem g_join {ts : List (List Nat)} (h : joinS s ts = some u) : joinD (rS s) [rL rS ts] = some (rS u, .shr) := by
  unfold joinS at h
  split at h
  · rename_i hl
    cases h
    have : joinD (rS s) [rL rS ts] = if (((ts.map sx).map (fun z => Str.length z)).sum + (ts.map sx).length * (sx s).length ≤ 16777216) then some (D.str (Txt.join (sx s) (ts.map sx)), Kd.shr) else none := by
      show (match strsD (ts.map rS) with | some ys => if (ys.map (fun z => Str.length z)).sum + ys.length * (sx s).length ≤ 16777216 then some (D.str (Txt.join (sx s) ys), Kd.shr) else none | none => none) = _
      rw [strsD_map]
    have e : ((ts.map sx).map (fun z => Str.length z)) = ts.map List.length := by
      rw [List.map_map]
      exact List.map_congr_left fun z _ => sx_len
    rw [this, e, List.length_map, sx_len, if_pos hl, join_sx]
  · cases h
theorem isStr_S : isStr (rS s) = true := rfl
theorem co_cur {o : Option α} {z : D × Kd} (hx : o = some x) (h : cur ρ z = some (rO f o)) : cur ρ z = some (f x) := by
  subst hx
  exact h
abbrev PU : Res Fl → Unit → Prop := fun r _ => (∃ ρ', r = .ok .nx ρ') ∨ ∃ ρ', r = .ok (.ret .non false) ρ'
theorem ref_ofU {n : Nat} {body : DS} {args : List VL.Arg} {o : Option Unit} (h0 : args.map slotOf ++ List.replicate (n - args.length) none = ρ) (h : BL PU ρ body o) : Ref (runFn n body) args rN false o := ⟨fun a e => by
  rcases h.run a e with ⟨ρ', q⟩ | ⟨ρ', q⟩
  all_goals
    refine ⟨ρ'.take args.length, ?_⟩
    unfold runFn
    rw [h0, q]⟩
theorem rng_map (n : Int) : rngD 0 n.toNat = ((List.range n.toNat).map fun (k : Nat) => (k : Int)).map rI := by
  rw [rngD_map]
  simp
def lrg (n : Int) : Option (List Int) := if 0 ≤ n ∧ n ≤ 16777216 then some ((List.range n.toNat).map fun (k : Nat) => (k : Int)) else none
theorem q_lrg {zs : List Int} (hr : ra ρ = .ok (d0, k) ρ1) (hc : cur ρ1 (d0, k) = some (rI a)) (h : lrg a = some zs) : dLrg ra ρ = .ok (rL rI zs, .fr) ρ1 := by
  unfold lrg at h
  split at h
  · rename_i hl
    cases h
    unfold dLrg
    rw [bind_ok hr, bind_ok (cur_ok hc)]
    exact opt_ok (by show (if 0 ≤ a ∧ a ≤ 16777216 then some (D.lst (rngD 0 a.toNat), Kd.fr) else none) = _; rw [if_pos hl, rng_map])
  · cases h
end
end L2.TX
end
section
set_option Elab.async false
set_option linter.all false
set_option maxRecDepth 100000
namespace L2.TX
open PySem PySem.Spec PyProof.Rows L2 L2.VL
end L2.TX
end
section
set_option Elab.async false
set_option linter.all false
set_option maxRecDepth 100000
namespace L2.TX
open PySem PySem.Spec PyProof.Rows L2 L2.VL
section
variable {α β γ δ σ τ ω : Type} {f : α → D} {g : β → D} {a b c i j : Int} {xs ys zs : List α} {s t u : List Nat} {x y : α} {p q : Bool} {ρ ρ1 ρ2 ρ3 ρ4 : Rho} {ra rb rc r : DE} {qa qb : M Bool} {d d0 : D} {k : Kd}
theorem q_str {z : Str} (h : z = sx s) : dCon (.str z) ρ = .ok (rS s, .shr) ρ := by subst h; rfl
theorem g_divIk (h : (decide (0 < b) && decide (b < 2 ^ 200)) = true) : divD (rI a) (rI b) = some (rI (a / b), .shr) := if_pos h
theorem a_FN {l : List (Bool × DE)} {ys : List (D × Kd)} (ha : r ρ = .ok (d0, k) ρ1) (hc : cur ρ1 (d0, k) = some d) (hs : settleR ρ1 k = ρ1) (hl : dA l ρ1 = .ok ys ρ3) : dA ((false, r) :: l) ρ = .ok ((d, .shr) :: ys) ρ3 := a_F ha hc hs hl
theorem q_shN (hr : r ρ = .ok (d0, k) ρ1) (hc : cur ρ1 (d0, k) = some d) (hs : settleR ρ1 k = ρ1) : dSh r ρ = .ok (d, .shr) ρ1 := q_sh hr hc hs
theorem i_anyN {ys : List D} (hr : r ρ = .ok (d0, k) ρ1) (hc : cur ρ1 (d0, k) = some d) (hs : settleR ρ1 k = ρ1) (ha : anyOf d = some ys) : iAny r ρ = .ok ys ρ1 := i_any hr hc hs ha
theorem i_lstN {ys : List D} (hr : r ρ = .ok (d0, k) ρ1) (hc : cur ρ1 (d0, k) = some (.lst ys)) (hs : settleR ρ1 k = ρ1) : iLst r ρ = .ok ys ρ1 := i_lst hr hc hs
theorem q_unpN {t : Tg} (hr : r ρ = .ok (d0, k) ρ1) (hc : cur ρ1 (d0, k) = some d) (hs : settleR ρ1 k = ρ1) (ht : (t.put d) ρ1 = .ok () ρ3) : dUnp t r ρ = .ok .nx ρ3 := q_unp hr hc hs ht
theorem cs_nil : curs ρ [] = some [] := rfl
theorem cs_cons {z : D × Kd} {zs : List (D × Kd)} {ds : List D} (h : cur ρ z = some d) (hs : curs ρ zs = some ds) : curs ρ (z :: zs) = some (d :: ds) := by
  unfold curs
  rw [h, hs]
  rfl
theorem g_powIk (h : CPowB a b = true) (hk : a ^ b.toNat = c) : powD (rI a) (rI b) = some (rI c, .shr) := by
  rw [g_powIr h, hk]
theorem q_slT {lo hi : Option DE} {i j : Option Int} (hr : r ρ = .ok (d0, k) ρ1) (h1 : dPart lo ρ1 = .ok i ρ2) (h2 : dPart hi ρ2 = .ok j ρ3) (hc : cur ρ3 (d0, k) = some (rL f xs)) : dSlL r lo hi ρ = .ok (rL f (cutL xs i j), .fr) ρ3 := by
  rw [q_slL hr h1 h2 hc, cutD_map]
theorem same_non {d : D} (h : isNonD d = some false) : same (.con .non) d = false ∧ same d (.con .non) = false := by
  cases d with
  | con v => cases v <;> first | exact ⟨rfl, rfl⟩ | cases h
  | lst _ => exact ⟨rfl, rfl⟩
  | tup _ => exact ⟨rfl, rfl⟩
  | dic _ => exact ⟨rfl, rfl⟩
  | dit _ => exact ⟨rfl, rfl⟩
  | own _ => exact ⟨rfl, rfl⟩
  | exv _ => exact ⟨rfl, rfl⟩
  | tre _ => exact ⟨rfl, rfl⟩
  | dix _ => exact ⟨rfl, rfl⟩
  | fnv _ _ _ => exact ⟨rfl, rfl⟩
end
end L2.TX
end
section
set_option Elab.async false
set_option linter.all false
set_option maxRecDepth 100000
open PySem PySem.Spec PyProof.Rows L2 L2.VL
namespace L2.TX
noncomputable section
section
variable {α β γ τ : Type} {ρ ρ1 ρ2 ρ3 : Rho} {f : α → D} {p : Bool} {ra rb : DE}
/-- return a if q else b -/
theorem ret_cg {m : DS} {x y : DE} {σ σ' : Rho} (e : x σ = y σ') : dSeq (dRet x) m σ = dSeq (dRet y) m σ' := by
  show M.bind (M.bind x _) _ σ = M.bind (M.bind y _) _ σ'
  unfold M.bind
  rw [e]
theorem bl_retIf {P : Res Fl → γ → Prop} {q : M Bool} {c : Bool} {m : DS} {oa ob : Option γ} (hq : q ρ = .ok c ρ1) (ha : c = true → BL P ρ1 (dSeq (dRet ra) m) oa) (hb : c = false → BL P ρ1 (dSeq (dRet rb) m) ob) : BL P ρ (dSeq (dRet (dIfx q ra rb)) m) (if c = true then oa else ob) := ⟨fun w e => by
  have e1 : dIfx q ra rb ρ = (if c = true then ra else rb) ρ1 := by
    unfold dIfx
    rw [bind_ok hq]
  rw [ret_cg e1]
  cases c with
  | true => exact (ha rfl).run w e
  | false => exact (hb rfl).run w e⟩
def PRo {α : Type} (f : α → D) : Res Fl → Option α → Prop := fun r o => ∃ ρ', r = .ok (.ret (rO f o) o.isSome) ρ'
structure RefO (F : Fn) (args : List VL.Arg) (f : α → D) (o : Option (Option α)) : Prop where
  run : ∀ a, o = some a → ∃ outs, F args = some (.ret (rO f a) a.isSome outs)
theorem ref_ofO {n : Nat} {body : DS} {args : List VL.Arg} {o : Option (Option α)} (h0 : args.map slotOf ++ List.replicate (n - args.length) none = ρ) (h : BL (PRo f) ρ body o) : RefO (runFn n body) args f o := ⟨fun a e => by
  obtain ⟨ρ', q⟩ := h.run a e
  refine ⟨ρ'.take args.length, ?_⟩
  unfold runFn
  rw [h0, q]⟩
theorem q_callO {F : Fn} {np : Nat} {dfl : List D} {l : List (Bool × DE)} {ys : List (D × Kd)} {as args : List VL.Arg} {o : Option (Option α)} {x : Option α} (R : RefO F args f o) (hx : o = some x) (ha : dA l ρ = .ok ys ρ1) (hu : (uniqW (wsOf ρ1 0 ys) && decide (ys.length + dfl.length = np)) = true)
    (hy : argsOf ρ1 ys = some as) (he : as ++ dfl.map shA = args) (hb : ∀ outs, backs ys outs 0 ρ1 = ρ1) : dCall F np dfl l ρ = .ok (rO f x, frK x.isSome) ρ1 := by
  obtain ⟨outs, q⟩ := R.run x hx
  exact q_call ha hu hy (by rw [he]; exact q) (hb outs)
theorem flat_gen {v : α → V} (hf : ∀ a, f a = .con (v a)) (hv : ∀ a, flatV (v a) = true) : ∀ ps : List α, flatDs (ps.map f) = some (ps.map v)
  | [] => rfl
  | a :: as => by
    show (match flatD (f a) with | some v => (flatDs (as.map f)).map (v :: ·) | none => none) = _
    rw [flat_gen hf hv as, hf a]
    show (match (if flatV (v a) = true then some (v a) else none) with | some v => (some (as.map _)).map (v :: ·) | none => none) = _
    rw [if_pos (hv a)]
    rfl
theorem inV_gen [DecidableEq α] {v : α → V} (hf : ∀ a, f a = .con (v a)) (hv : ∀ a, flatV (v a) = true) (he : ∀ a b, eqV (v a) (v b) = decide (a = b)) (p : α) (ps : List α) [Decidable (p ∈ ps)] : inB (f p) (rL f ps) = some (decide (p ∈ ps)) := by
  have : inD (f p) (rL f ps) = some (decide (p ∈ ps)) := by
    show (match flatD (f p), flatDs (ps.map f) with | some v, some vs => some (inV v vs) | _, _ => none) = _
    rw [flat_gen hf hv, hf p]
    show (match (if flatV (v p) = true then some (v p) else none), some (ps.map v) with | some v, some vs => some (inV v vs) | _, _ => none) = _
    rw [if_pos (hv p)]
    show some (inV (v p) (ps.map v)) = _
    unfold inV
    rw [List.any_map]
    congr 1
    refine bool_dec ?_
    rw [List.any_eq_true]
    simp only [Function.comp_apply, he, decide_eq_true_eq]
    exact ⟨fun ⟨x, h1, h2⟩ => h2 ▸ h1, fun h => ⟨p, h, rfl⟩⟩
  unfold inB inA
  rw [this]
  rfl
def vO (v : α → V) : Option α → V
  | none => .non
  | some a => v a
theorem inV_OI (p : Option Int) (ps : List (Option Int)) : inB (rO rI p) (rL (rO rI) ps) = some (decide (p ∈ ps)) := inV_gen (f := rO rI) (v := vO V.int) (fun a => by cases a <;> rfl) (fun a => by cases a <;> rfl) (fun a b => by cases a with
  | none => cases b <;> rfl
  | some x => cases b with
    | none => rfl
    | some y =>
      show (x == y) = _
      refine bool_dec ?_
      simp) p ps
theorem g_eqOI {x y : Option Int} : eqD (rO rI x) (rO rI y) = some (decide (x = y)) := by
  cases x with
  | none => cases y <;> rfl
  | some a => cases y with
    | none => rfl
    | some b =>
      show eqD (rI a) (rI b) = _
      rw [g_eqI]
      congr 1
      exact decide_eq_decide.mpr ⟨fun z => by rw [z], fun z => by cases z; rfl⟩
abbrev rF3 {α β γ : Type} (f : α → D) (g : β → D) (h : γ → D) (p : α × β × γ) : D := .lst [f p.1, g p.2.1, h p.2.2]
end
end
end L2.TX
end
section
set_option Elab.async false
set_option linter.all false
set_option maxRecDepth 100000
open PySem PySem.Spec PyProof.Rows L2 L2.VL
namespace L2.TX
end L2.TX
end
section
set_option Elab.async false
set_option linter.all false
set_option maxRecDepth 100000
open PySem PySem.Spec PyProof.Rows L2 L2.VL
namespace L2.TX
noncomputable section
def asI (d : D) : Option Int := match d with
  | .con (.int i) => some i
  | _ => none
def asB (d : D) : Option Bool := match d with
  | .con (.bl i) => some i
  | _ => none
def asU (d : D) : Option D := some d
def asL {α : Type} (as : D → Option α) (d : D) : Option (List α) := match d with
  | .lst ds => optAll as ds
  | _ => none
def asP {α β : Type} (a : D → Option α) (b : D → Option β) (d : D) : Option (α × β) := match d with
  | .tup [x, y] => (a x).bind fun u => (b y).map fun v => (u, v)
  | _ => none
def AsT {α : Type} (f : α → D) (as : D → Option α) : Prop := ∀ d x, as d = some x → d = f x
theorem sx_cps (z : Str) : sx z.cps.toList = z := by
  obtain ⟨a⟩ := z
  show Str.mk (a.toList.toArray) = _
  rw [Array.toArray_toList]
section
variable {α β : Type} {f : α → D} {g : β → D} {a : D → Option α} {b : D → Option β}
theorem as_I : AsT rI asI := fun d x h => by
  unfold asI at h
  split at h
  · cases h; rfl
  · cases h
theorem as_U : AsT rU asU := fun d x h => by cases h; rfl
theorem as_all (h : AsT f a) : ∀ {ds : List D} {xs : List α}, optAll a ds = some xs → ds = xs.map f
  | [], _, e => by cases e; rfl
  | d :: ds, _, e => by
    obtain ⟨x, xs, e1, e2, rfl⟩ := optAll_cons e
    rw [List.map_cons, ← h d x e1, ← as_all h e2]
theorem as_L (h : AsT f a) : AsT (rL f) (asL a) := fun d x e => by
  unfold asL at e
  split at e
  · exact congrArg D.lst (as_all h e)
  · cases e
theorem as_P (h1 : AsT f a) (h2 : AsT g b) : AsT (rP f g) (asP a b) := fun d x e => by
  unfold asP at e
  split at e
  · obtain ⟨u, e1, e2⟩ := Option.bind_eq_some_iff.mp e
    obtain ⟨v, e3, rfl⟩ := Option.map_eq_some_iff.mp e2
    rw [h1 _ _ e1, h2 _ _ e3]
  · cases e
theorem as_cur {ρ : Rho} {z : D × Kd} {d : D} {x : α} (h : AsT f a) (hx : a d = some x) (hc : cur ρ z = some (rU d)) : cur ρ z = some (f x) := by
  rw [hc, show rU d = f x from h d x hx]
/-- what stands as data is taken back -/
theorem optAll_map {as : D → Option α} (h : ∀ x, as (f x) = some x) : ∀ xs : List α, optAll as (xs.map f) = some xs
  | [] => rfl
  | x :: xs => by
    show (match as (f x) with | some y => (optAll as (xs.map f)).map (y :: ·) | none => none) = _
    rw [h x, optAll_map h xs]; rfl
end
section
variable {α : Type} {f : α → D} {ρ ρ1 ρ2 : Rho} {r : DE} {d d0 x y : D} {k : Kd} {i n : Int} {p b : Bool} {t : List Nat}
def isU (u : Ty) (d : D) : Option Bool := (tyOf d).map fun t => isiT t u
theorem q_isiU {u : Ty} (hr : r ρ = .ok (d0, k) ρ1) (hc : cur ρ1 (d0, k) = some (rU d)) (h : isU u d = some b) : dIsi u r ρ = .ok (.con (.bl b), .shr) ρ1 := by
  obtain ⟨t, e, rfl⟩ := Option.map_eq_some_iff.mp h
  exact q_isi hr hc e
def lenU (d : D) : Option Int := match d with
  | .lst xs => some xs.length
  | .tup xs => some xs.length
  | .con (.str z) => if z.length ≤ cap then some z.length else none
  | _ => none
theorem g_lenU (h : lenU d = some n) : lenD [rU d] = some (rI n, .shr) := by
  unfold lenU at h
  unfold lenD
  split at h
  · cases h; rfl
  · cases h; rfl
  · split at h
    · rename_i hl
      cases h
      exact if_pos hl
    · cases h
  · cases h
def ixU (d : D) (i : Int) : Option D := match d with
  | .lst ds => atI ds i
  | .tup ds => atI ds i
  | .con (.str z) => if z.length ≤ cap then (atI z.cps.toList i).map fun c => rS [c] else none
  | _ => none
theorem g_ixU (h : ixU d i = some x) : ixD (rU d) (rI i) = some (rU x, .shr) := by
  unfold ixU at h
  split at h
  · show (atI _ i).map _ = _; rw [h]; rfl
  · show (atI _ i).map _ = _; rw [h]; rfl
  · split at h
    · rename_i hl
      obtain ⟨c, e, rfl⟩ := Option.map_eq_some_iff.mp h
      show (if _ then _ else _) = _
      rw [if_pos hl, e]
      try rfl
    · cases h
  · cases h
theorem any_U {ys : List D} (h : anyOf d = some ys) : anyOf (rU d) = some (ys.map rU) := by
  rw [show ys.map rU = ys from List.map_id' ys]
  exact h
theorem map_rU (ys : List D) : ys.map rU = ys := List.map_id' ys
theorem g_id {h : D → D → Option Bool} (e : h x y = some p) : h (rU x) (rU y) = some p := e
def strI (i : Int) : Option (List Nat) := if i.natAbs.log2 < 1920 then some (Str.cps (toString i : Str)).toList else none
theorem g_strI (h : strI i = some t) : strGD [rI i] = some (rS t, .shr) := by
  unfold strI at h
  split at h
  · rename_i hl
    cases h
    have e : strGD [rI i] = some (.con (.str (toString i)), .shr) := if_pos hl
    rw [e, show rS (Str.cps (toString i : Str)).toList = D.con (.str (sx (Str.cps (toString i : Str)).toList)) from rfl, sx_cps]
  · cases h
def repG (d : D) : Option (List Nat) := (reprOf d).map fun t => t.cps.toList
theorem g_repG (h : repG d = some t) : reprGD [d] = some (rS t, .shr) := by
  obtain ⟨z, e, rfl⟩ := Option.map_eq_some_iff.mp h
  show (reprOf d).map _ = _
  rw [e]
  show some (D.con (.str _), Kd.shr) = some (D.con (.str (sx _)), Kd.shr)
  rw [sx_cps]
end
end
end L2.TX
end
section
set_option Elab.async false
set_option linter.all false
set_option maxRecDepth 100000
open PySem PySem.Spec PyProof.Rows L2 L2.VL
namespace L2.TX
noncomputable section
theorem co_lU {α : Type} {f : α → D} {ρ : Rho} {z : D × Kd} {xs : List α} (h : cur ρ z = some (rL f xs)) : cur ρ z = some (rL rU (xs.map f)) := by
  rw [h]
  show some (D.lst (xs.map f)) = some (D.lst ((xs.map f).map rU))
  rw [map_rU]
end
end L2.TX
end
section
set_option Elab.async false
set_option linter.all false
set_option maxRecDepth 100000
open PySem PySem.Spec PyProof.Rows L2 L2.VL
namespace L2.TX
end L2.TX
end
section
set_option Elab.async false
set_option linter.all false
set_option maxRecDepth 100000
open PySem PySem.Spec PyProof.Rows L2 L2.VL
namespace L2.TX
noncomputable section
def ssS (xs : List Int) : Option (List Int) := if xs.length ≤ 4000 then some (sortU xs) else none
theorem g_ssS {xs ys : List Int} (h : ssS xs = some ys) : ssG [rL rI xs] = some (rL rI ys, .fr) := by
  unfold ssS at h
  split at h
  · rename_i hl
    cases h
    show ssEnd (xs.map rI) = _
    unfold ssEnd
    rw [intsD_map]
    exact if_pos hl
  · cases h
def powN (i j : Int) : Option Int := if CPwB i j then some (i ^ j.toNat) else none
theorem g_powN {a b c : Int} (h : powN a b = some c) : powW (rI a) (rI b) = some (rI c, .shr) := by
  unfold powN at h
  split at h
  · rename_i hl
    cases h
    exact if_pos hl
  · cases h
end
end L2.TX
end
section
set_option Elab.async false
set_option linter.all false
set_option maxRecDepth 100000
open PySem PySem.Spec PyProof.Rows L2 L2.VL
namespace L2.TX
end L2.TX
end
section
set_option Elab.async false
set_option linter.all false
set_option maxRecDepth 100000
open PySem PySem.Spec PyProof.Rows L2 L2.VL
namespace L2.TX
noncomputable section
section
variable {α β γ δ : Type} {f : α → D} {g : β → D} {h : γ → D} {e : δ → D}
abbrev rF4 (f : α → D) (g : β → D) (h : γ → D) (e : δ → D) (p : α × β × γ × δ) : D := .lst [f p.1, g p.2.1, h p.2.2.1, e p.2.2.2]
end
end
end L2.TX
end
section
set_option Elab.async false
set_option linter.all false
set_option maxRecDepth 100000
namespace L2.TX
open PySem PySem.Spec PyProof.Rows L2 L2.VL
end L2.TX
end
section
set_option Elab.async false
set_option linter.all false
set_option maxRecDepth 100000
namespace L2.TX
open PySem PySem.Spec PyProof.Rows L2 L2.VL
end L2.TX
end
section
set_option Elab.async false
set_option linter.all false
set_option maxRecDepth 100000
namespace L2.TX
open PySem PySem.Spec PyProof.Rows L2 L2.VL
section
variable {α β : Type} {ρ ρ1 ρ2 ρ3 ρ4 ρ5 : Rho} {r r1 r2 rv : DE} {f : α → D} {g : β → D} {c : α → β} {d0 : D} {k : Kd}
theorem map_set {f : α → D} : ∀ (xs : List α) (k : Nat) (x : α), (xs.map f).set k (f x) = (xs.set k x).map f
  | [], _, _ => rfl
  | _ :: _, 0, _ => rfl
  | y :: ys, k + 1, x => by
    show f y :: (ys.map f).set k (f x) = f y :: (ys.set k x).map f
    rw [map_set ys k x]
end
end L2.TX
end
section
set_option Elab.async false
set_option linter.all false
set_option maxRecDepth 100000
namespace L2.TX
open PySem PySem.Spec PyProof.Rows L2 L2.VL
theorem sx_list (y : Str) : sx y.cps.toList = y := by
  unfold sx
  cases y
  simp
theorem strsOf_rS (ys : List Str) : strsOf ys = (ys.map fun y => y.cps.toList).map rS := by
  unfold strsOf
  rw [List.map_map]
  refine List.map_congr_left fun y _ => ?_
  show D.con (.str y) = D.con (.str (sx y.cps.toList))
  rw [sx_list]
/-- text.split(text) -/
def splitT (s t : List Nat) : Option (List (List Nat)) := if (sx t).length ≠ 0 ∧ (sx s).length + 2 ≤ 16777216 then some ((Txt.split (sx s) (sx t)).map fun y => y.cps.toList) else none
theorem g_split {s t : List Nat} {zs : List (List Nat)} (h : splitT s t = some zs) : splitD (rS s) [rS t] = some (rL rS zs, .fr) := by
  unfold splitT at h
  split at h
  · rename_i hl
    cases h
    show (if ((sx t).length == 0) = false ∧ (sx s).length + 2 ≤ 16777216 then some (D.lst (strsOf (Txt.split (sx s) (sx t))), Kd.fr) else none) = _
    rw [if_pos ⟨by simpa using hl.1, hl.2⟩, strsOf_rS]
  · cases h
/-- text.partition(text) -/
def partT (s t : List Nat) : Option (List Nat × List Nat × List Nat) := if (sx t).length ≠ 0 ∧ (sx s).length ≤ 16777216 then some ((Txt.partition (sx s) (sx t)).1.cps.toList, (Txt.partition (sx s) (sx t)).2.1.cps.toList, (Txt.partition (sx s) (sx t)).2.2.cps.toList) else none
theorem g_part {s t : List Nat} {z : List Nat × List Nat × List Nat} (h : partT s t = some z) : partD (rS s) [rS t] = some (.tup [rS z.1, rS z.2.1, rS z.2.2], .fr) := by
  unfold partT at h
  split at h
  · rename_i hl
    cases h
    show (if ((sx t).length == 0) = false ∧ (sx s).length ≤ 16777216 then some (D.tup [.con (.str (Txt.partition (sx s) (sx t)).1), .con (.str (Txt.partition (sx s) (sx t)).2.1), .con (.str (Txt.partition (sx s) (sx t)).2.2)], Kd.fr) else none) = some (D.tup [.con (.str (sx _)), .con (.str (sx _)), .con (.str (sx _))], _)
    rw [if_pos ⟨by simpa using hl.1, hl.2⟩, sx_list, sx_list, sx_list]
  · cases h
/-- int(text) -/
def intS (s : List Nat) : Option Int := if (sx s).length ≤ 640 then PySem.intText? (sx s) else none
theorem g_intS {s : List Nat} {n : Int} (h : intS s = some n) : intSD [rS s] = some (TX.rI n, .shr) := by
  unfold intS at h
  split at h
  · rename_i hl
    show (if (sx s).length ≤ 640 then (PySem.intText? (sx s)).map fun n => (D.con (.int n), Kd.shr) else none) = _
    rw [if_pos hl, h]; rfl
  · cases h
/-- x in xs, values of any type -/
def inU (x : D) (xs : List D) : Option Bool := inB x (.lst xs)
theorem g_inU {xs : List D} {x : D} {b : Bool} (h : inU x xs = some b) : inB (rU x) (rL rU xs) = some b := by
  rw [show rL rU xs = .lst xs from congrArg D.lst (map_rU xs)]
  exact h
end L2.TX
end
section
set_option Elab.async false
set_option linter.all false
set_option maxRecDepth 100000
namespace L2.TX
open PySem PySem.Spec PyProof.Rows L2 L2.VL
end L2.TX
end
section
set_option Elab.async false
set_option linter.all false
set_option maxRecDepth 100000
open PySem PySem.Spec PyProof.Rows L2 L2.VL
namespace L2.TX
end L2.TX
end
section
set_option Elab.async false
set_option linter.all false
set_option maxRecDepth 100000
open PySem PySem.Spec PyProof.Rows L2 L2.VL
namespace L2.TX
end L2.TX
end
section
set_option Elab.async false
set_option linter.all false
set_option maxRecDepth 100000
open PySem PySem.Spec PyProof.Rows L2 L2.VL
namespace L2.TX
noncomputable section
section
variable {α β γ δ σ ω : Type} {f : α → D} {fb : β → D} {fc : γ → D} {a b : Int} {xs : List α} {ρ ρ1 ρ2 ρ3 : Rho} {r rk rv : DE} {d d0 : D} {k : Kd}
def inK (a : Int) (kvs : List (Int × α)) : Bool := decide (a ∈ kvs.map (·.1))
def two (xs : List α) : Option (α × α) := match xs with
  | [a, b] => some (a, b)
  | _ => none
end
end
end L2.TX
end
section
set_option Elab.async false
set_option linter.all false
set_option maxRecDepth 100000
namespace L2.TX
open PySem PySem.Spec PyProof.Rows L2 L2.VL
end L2.TX
end
section
set_option Elab.async false
set_option linter.all false
set_option maxRecDepth 100000
namespace L2.TX
open PySem PySem.Spec PyProof.Rows L2 L2.VL
end L2.TX
end
section
set_option Elab.async false
set_option linter.all false
set_option maxRecDepth 100000
set_option maxHeartbeats 2000000
namespace L2.TX
open PySem PySem.Spec PyProof.Rows L2 L2.VL
end L2.TX
end
section
set_option Elab.async false
set_option linter.all false
set_option maxRecDepth 100000
set_option maxHeartbeats 2000000
namespace L2.TX
open PySem PySem.Spec PyProof.Rows L2 L2.VL
noncomputable section
section
variable {α β γ δ σ ω : Type} {f : α → D} {ρ ρ1 ρ2 ρ3 : Rho} {r ri rk rv ro : DE} {d d0 : D} {k : Kd} {e : α → NestedKey} {c : β → V}
def lookT [DecidableEq α] (kvs : List (α × β)) (a : α) : Option β := (kvs.find? fun p => decide (p.1 = a)).map (·.2)
def getT [DecidableEq α] (kvs : List (α × β)) (a : α) (z : β) : β := (lookT kvs a).getD z
end
end
end L2.TX
end
section
set_option Elab.async false
set_option linter.all false
set_option maxRecDepth 100000
set_option maxHeartbeats 2000000
namespace L2.TX
open PySem PySem.Spec PyProof.Rows L2 L2.VL
end L2.TX
end
section
set_option Elab.async false
set_option linter.all false
set_option maxRecDepth 100000
set_option maxHeartbeats 2000000
namespace L2.TX
open PySem PySem.Spec PyProof.Rows L2 L2.VL
noncomputable section
section
variable {α ω σ : Type} {f : α → D} {ρ ρ1 ρ2 : Rho} {r r0 r1 : DE} {b : DS} {P : Res Fl → Except Exn ω → Prop}
theorem q_some {o : Option α} {x : α} (h : o = some x) (e : r ρ = .ok (rO f o, frK o.isSome) ρ1) : r ρ = .ok (f x, .fr) ρ1 := by
  subst h
  exact e
end
end
end L2.TX
end
section
set_option Elab.async false
set_option linter.all false
set_option maxRecDepth 100000
set_option maxHeartbeats 2000000
namespace L2.TX
open PySem PySem.Spec PyProof.Rows L2 L2.VL
noncomputable section
/-- a tree -/
abbrev rX {α : Type} (f : α → D) (x : α) : D := .tre (f x)
section
variable {α β γ δ : Type} {ρ ρ1 ρ2 : Rho} {r : DE} {q : M Bool} {t : Tg} {own : List Nat} {it : M (List D)} {fb : β → D} {f : α → D} {xs : List β} {d0 d : D} {k : Kd} {l : List (Bool × DE)}
theorem q_unT {y : α} (hr : r ρ = .ok (d0, k) ρ1) (hc : cur ρ1 (d0, k) = some (rX f y)) (hs : settleR ρ1 k = ρ1) : dUnT r ρ = .ok (f y, .shr) ρ1 := by
  unfold dUnT
  rw [bind_ok hr, bind_ok (keep_ok hc hs)]
  exact opt_ok rfl
theorem q_tk {i : Nat} (hi : ρ[i]? = some (some ⟨d, true, false⟩)) (hS : ρ.set i none = ρ1) : dTk i ρ = .ok (d, .fr) ρ1 := by
  unfold dTk
  rw [hi, ← hS]
  rfl
theorem cn_map {g : β → D} (h : ∀ x, isCn (g x) = true) : (xs.map g).all isCn = true := by
  rw [List.all_map, List.all_eq_true]
  exact fun x _ => h x
theorem cn_OI (o : Option Int) : isCn (rO TX.rI o) = true := by cases o <;> rfl
theorem q_tre {g : β → D} (hr : r ρ = .ok (rL g xs, .fr) ρ1) (hc : ∀ x, isCn (g x) = true) : dTre r ρ = .ok (rX (rL g) xs, .fr) ρ1 := by
  unfold dTre
  rw [bind_ok hr]
  refine opt_ok ?_
  show (if (xs.map g).all isCn = true then _ else _) = _
  rw [if_pos (cn_map hc)]
theorem q_tre0 : dTre (dLst []) ρ = .ok (rX (rL f) [], .fr) ρ := rfl
theorem q_lstT {ys : List (D × Kd)} {z : D × Kd} (ha : dA l ρ = .ok ys ρ1) (h : treE .lst ys = some z) : dLstT l ρ = .ok z ρ1 := by
  unfold dLstT
  rw [bind_ok ha]
  exact opt_ok h
theorem q_tupT2 {n : Option Int} {x : α} (ha : dA l ρ = .ok [(rO TX.rI n, .shr), (rX f x, .fr)] ρ1) : dTupT l ρ = .ok (rX (rP (rO TX.rI) f) (n, x), .fr) ρ1 := by
  unfold dTupT
  rw [bind_ok ha]
  refine opt_ok ?_
  cases n <;> rfl
/-- a tree comes -/
structure VNT (ρ : Rho) (r : DE) (f : α → D) (o : Option α) : Prop where
  run : ∀ y, o = some y → r ρ = .ok (rX f y, .fr) ρ
theorem vnt_ret {y : α} (h : r ρ = .ok (rX f y, .fr) ρ) : VNT ρ r f (some y) := ⟨fun _ e => by cases e; exact h⟩
theorem vnt_bind {o : Option δ} {h : δ → Option α} (hh : ∀ a, o = some a → VNT ρ r f (h a)) : VNT ρ r f (o.bind h) := ⟨fun c e => by
  obtain ⟨a, e1, e2⟩ := Option.bind_eq_some_iff.mp e
  exact (hh a e1).run c e2⟩
theorem lcTr_lc {cq : β → Option Bool} {ce : β → Option α} {S1 : β → Rho} {ρ0 : Rho} (hp : ∀ x, (t.put (fb x)) ρ0 = .ok () (S1 x)) (hq : ∀ x, VT (S1 x) q (cq x)) (he : ∀ x, VNT (S1 x) r f (ce x)) (hw : ∀ x, wipeR (S1 x) own = ρ0) :
    ∀ (xs : List β) (ys : List α) (ρ : Rho), wipeR ρ own = ρ0 → lc cq ce xs = some ys → ∃ ρ', lcTr own t q r (xs.map fb) ρ = .ok (ys.map f) ρ' ∧ wipeR ρ' own = ρ0
  | [], ys, ρ, h0, e => by cases e; exact ⟨ρ, rfl, h0⟩
  | x :: xs, ys, ρ, h0, e => by
    obtain ⟨c, e1, e2⟩ := Option.bind_eq_some_iff.mp (show (cq x).bind _ = some ys from e)
    have k0 : lcTr own t q r ((x :: xs).map fb) ρ = ((wipeM own >>= fun _ => t.put (fb x) >>= fun _ => noX q >>= fun b => if b = true then (noX r >>= fun y => mOpt (newT y) >>= fun z => lcTr own t q r (xs.map fb) >>= fun rest => pure (z :: rest)) else lcTr own t q r (xs.map fb)) : M (List D)) ρ := rfl
    have e0 : wipeM own ρ = .ok () ρ0 := by show Res.ok () (wipeR ρ own) = _; rw [h0]
    rw [k0, bind_ok e0, bind_ok (hp x), bind_ok (noX_ok ((hq x).run c e1))]
    cases c with
    | false =>
      rw [if_neg Bool.false_ne_true]
      exact lcTr_lc hp hq he hw xs ys (S1 x) (hw x) e2
    | true =>
      rw [if_pos rfl]
      obtain ⟨y, e3, e4⟩ := Option.bind_eq_some_iff.mp (show (ce x).bind _ = some ys from e2)
      obtain ⟨zs, e5, e6⟩ := Option.bind_eq_some_iff.mp e4
      cases e6
      obtain ⟨ρ', h4, h5⟩ := lcTr_lc hp hq he hw xs zs (S1 x) (hw x) e5
      rw [bind_ok (noX_ok ((he x).run y e3)), bind_ok (opt_ok (show newT (rX f y, Kd.fr) = some (f y) from rfl)), bind_ok h4]
      exact ⟨ρ', rfl, h5⟩
theorem q_lcTr {cq : β → Option Bool} {ce : β → Option α} {ys : List α} (S1 : β → Rho) (hi : it ρ = .ok (xs.map fb) ρ1) (ho : own.all (fun i => !pinned ρ1 i) = true) (h0 : wipeR ρ1 own = ρ2) (hp : ∀ x, (t.put (fb x)) ρ2 = .ok () (S1 x)) (hw : ∀ x, wipeR (S1 x) own = ρ2)
    (hq : ∀ x, VT (S1 x) q (cq x)) (he : ∀ x, VNT (S1 x) r f (ce x)) (h : lcC cq ce xs = some ys) : dLcTr own it t q r ρ = .ok (rX (rL f) ys, .fr) ρ2 := by
  obtain ⟨zs, e1, e2⟩ := Option.bind_eq_some_iff.mp (show (lc cq ce xs).bind chk = some ys from h)
  obtain ⟨rfl, hl⟩ := chk_of e2
  obtain ⟨ρ', h4, h5⟩ := lcTr_lc hp hq he hw xs ys ρ1 h0 e1
  unfold dLcTr
  rw [bind_ok hi]
  show (okOwn own >>= _) ρ1 = _
  rw [bind_ok (show okOwn own ρ1 = .ok () ρ1 by unfold okOwn; rw [if_pos ho]), bind_ok h4]
  show (wipeM own >>= _) ρ' = _
  rw [bind_ok (show wipeM own ρ' = .ok () ρ2 by show Res.ok () (wipeR ρ' own) = _; rw [h5])]
  exact opt_ok (by unfold lcTEnd; rw [List.length_map]; exact if_pos hl)
theorem q_ifxT {ra rb : DE} {c : Bool} {o1 o2 : Option α} {x : α} (hq : q ρ = .ok c ρ1) (h1 : VNT ρ1 ra f o1) (h2 : VNT ρ1 rb f o2) (h : (if c = true then o1 else o2) = some x) : dIfx q ra rb ρ = .ok (rX f x, .fr) ρ1 := by
  unfold dIfx
  rw [bind_ok hq]
  cases c with
  | true => exact h1.run x h
  | false => exact h2.run x h
def wrU (s : List Nat) (p : List Nat) (d : D) : Option D := wrT (.str (sx s)) p d
theorem q_wrT {i : Nat} {p : List Nat} {c : Str} {s : List Nat} {d d2 : D} {b : Bool} (hk : c = sx s) (hi : ρ[i]? = some (some ⟨rX rU d, true, b⟩)) (h : wrU s p d = some d2) (hS : ρ.set i (some ⟨rX rU d2, true, b⟩) = ρ2) : dWrT i p (.str c) ρ = .ok (.con .non, .shr) ρ2 := by
  unfold dWrT
  rw [hi]
  unfold wrU at h
  rw [← hk] at h
  show (match wrT (.str c) p d with
    | some d2 => Res.ok (D.con .non, Kd.shr) (ρ.set i (some ⟨.tre d2, true, b⟩))
    | none => .stuck) = _
  rw [h, ← hS]
end
end
end L2.TX
end
section
set_option Elab.async false
set_option linter.all false
set_option maxRecDepth 100000
noncomputable section
namespace Law_strictranks_k54_texts_written_and_read
open PySem PySem.Spec PyProof.Rows L2 L2.VL L2.TX
/-- _law_purse: 0 _law_script, 1 _law_k, 2 _law_cell -/
abbrev r__law_purse_2 : DS := dRet (dLst [(false, dBi (scB maxV) [(true, dCon (.int 0)), (true, dOp2 subD (dVar 2) (dOp2 powD (dCon (.int 10)) (dCon (.int 18))))]), (false, dOp2 addD (dOp2 addD (dOp2 modD (dBi (scB intV) [(true, dBi (scB absV) [(true, dVar 2)])]) (dOp2 addD (dOp2 powD (dCon (.int 10)) (dCon (.int 41))) (dCon (.int 37)))) (dOp2 mulT (dCon (.int 90001)) (dVar 1))) (dCon (.int 17))), (false, dCon (.int 0))])
abbrev r__law_purse_1 : DS := dSeq (dSet 2 (dIfx (dB (dCmp ltC (dVar 1) (dBi (lenD) [(true, dVar 0)]))) (dOp2 ixD (dVar 0) (dVar 1)) (dCon (.int 0)))) r__law_purse_2
def F__law_purse : Fn := runFn 3 r__law_purse_1
/-- _law_coin: 0 _law_purse_here, 1 _law_many, 2 _law_found, 3 _law_mixed -/
abbrev r__law_coin_1_a_3 : DS := dRet (dSh (dVar 2))
abbrev r__law_coin_1_a_2 : DS := dSeq (dSetIx 0 (dCon (.int 0)) (dOp2 divD (dOp2 ixD (dVar 0) (dCon (.int 0))) (dVar 1))) r__law_coin_1_a_3
abbrev r__law_coin_1_a_1 : DS := dSeq (dSet 2 (dOp2 modD (dBi (scB intV) [(true, dOp2 ixD (dVar 0) (dCon (.int 0)))]) (dVar 1))) r__law_coin_1_a_2
abbrev r__law_coin_5 : DS := dRet (dOp2 modD (dBi (scB intV) [(true, dOp2 divD (dVar 3) (dCon (.int 524287)))]) (dVar 1))
abbrev r__law_coin_4 : DS := dSeq (dSet 3 (dOp2 modD (dBi (scB intV) [(true, dOp2 powW (dOp2 addD (dVar 3) (dOp2 mulT (dCon (.int 49979687)) (dOp2 ixD (dVar 0) (dCon (.int 2))))) (dCon (.int 3)))]) (dOp2 addD (dOp2 powD (dCon (.int 10)) (dCon (.int 45))) (dCon (.int 9))))) r__law_coin_5
abbrev r__law_coin_3 : DS := dSeq (dSet 3 (dOp2 modD (dBi (scB intV) [(true, dOp2 powW (dOp2 addD (dOp2 ixD (dVar 0) (dCon (.int 1))) (dOp2 mulT (dCon (.int 15485863)) (dOp2 ixD (dVar 0) (dCon (.int 2))))) (dCon (.int 3)))]) (dOp2 addD (dOp2 powD (dCon (.int 10)) (dCon (.int 43))) (dCon (.int 29))))) r__law_coin_4
abbrev r__law_coin_2 : DS := dSeq (dSetIx 0 (dCon (.int 2)) (dOp2 addD (dOp2 ixD (dVar 0) (dCon (.int 2))) (dCon (.int 1)))) r__law_coin_3
abbrev r__law_coin_1 : DS := dSeq (dIf (dB (dCmp gtA (dOp2 ixD (dVar 0) (dCon (.int 0))) (dCon (.int 0)))) (r__law_coin_1_a_1) (dNext)) r__law_coin_2
def F__law_coin : Fn := runFn 4 r__law_coin_1
/-- _law_shuffled: 0 _law_purse_here, 1 _law_count_here, 2 _law_left, 3 _law_found, 4 _law_turn -/
abbrev r__law_shuffled_2_l_1 : DS := dExpr (dMut 3 appG [(false, dMut 2 popG [(false, dCall F__law_coin 2 [] [(true, dVar 0), (false, dBi (lenD) [(true, dVar 2)])])])])
abbrev r__law_shuffled_3 : DS := dRet (dVar 3)
abbrev r__law_shuffled_2 : DS := dSeq (dFgB [4] (dFor (iRng rng1 [(true, dVar 1)]) (.one 4) (dFgE [4] (r__law_shuffled_2_l_1)))) r__law_shuffled_3
abbrev r__law_shuffled_1 : DS := dSeq (dPar 2 3 true true (dLrg (dVar 1)) (dLst [])) r__law_shuffled_2
def F__law_shuffled : Fn := runFn 5 r__law_shuffled_1
/-- _law_parts: 0 _law_purse_here, 1 _law_count_here, 2 _law_most, 3 _law_found, 4 _law_turn, 5 _law_rule, 6 _law_ahead, 7 _law_step, 8 _law_some, 9 _law_one -/
abbrev r__law_parts_2_l_2_l_1 : DS := dExpr (dMut 6 appG [(false, dCall F__law_coin 2 [] [(true, dVar 0), (false, dVar 1)])])
abbrev r__law_parts_2_l_5_a_1 : DS := dExpr (dMut 3 appG [(false, dTup [(false, dOp2 ixD (dOp2 ixD (dVar 3) (dCon (.int 0))) (dCon (.int 0))), (false, dBi (listD) [(true, dOp2 ixD (dOp2 ixD (dVar 3) (dCon (.int 0))) (dCon (.int 1)))])])])
abbrev r__law_parts_2_l_5 : DS := dIf (dB (dCmp eqD (dCall F__law_coin 2 [] [(true, dVar 0), (false, dCon (.int 6))]) (dCon (.int 0)))) (r__law_parts_2_l_5_a_1) (dNext)
abbrev r__law_parts_2_l_4 : DS := dSeq (dExpr (dMut 3 appG [(false, dTup [(false, dVar 5), (false, dIfx (dB (dCmp neD (dVar 8) (dLst []))) (dSh (dVar 8)) (dSh (dLst [(false, dIfx (dB (dCmp gtA (dVar 5) (dCon (.int 0)))) (dCon (.int 0)) (dCon (.int 1)))])))])])) r__law_parts_2_l_5
abbrev r__law_parts_2_l_3 : DS := dSeq (dSet 8 (dSh (dBi ssG [(true, dLnd (dLc [9] (iAny (dVar 6)) (.one 9) (dB (dCmp neD (dVar 9) (dVar 5))) (dVar 9)))]))) r__law_parts_2_l_4
abbrev r__law_parts_2_l_2 : DS := dSeq (dFgB [7] (dFor (iRng rng1 [(true, dOp2 addD (dCon (.int 1)) (dCall F__law_coin 2 [] [(true, dVar 0), (false, dOp2 ixD (dLst [(false, dCon (.int 3)), (false, dCon (.int 12))]) (dCall F__law_coin 2 [] [(true, dVar 0), (false, dCon (.int 2))]))]))]) (.one 7) (dFgE [7] (r__law_parts_2_l_2_l_1)))) r__law_parts_2_l_3
abbrev r__law_parts_2_l_1 : DS := dSeq (dPar 5 6 true true (dCall F__law_coin 2 [] [(true, dVar 0), (false, dVar 1)]) (dLst [])) r__law_parts_2_l_2
abbrev r__law_parts_3 : DS := dRet (dVar 3)
abbrev r__law_parts_2 : DS := dSeq (dFgB [4, 5, 6, 7, 8] (dFor (iRng rng1 [(true, dOp2 mulT (dCall F__law_coin 2 [] [(true, dVar 0), (false, dOp2 addD (dVar 2) (dCon (.int 1)))]) (dBi (scB intV) [(true, dCmp gtA (dVar 1) (dCon (.int 1)))]))]) (.one 4) (dFgE [4, 5, 6, 7, 8] (r__law_parts_2_l_1)))) r__law_parts_3
abbrev r__law_parts_1 : DS := dSeq (dSet 3 (dLst [])) r__law_parts_2
def F__law_parts : Fn := runFn 10 r__law_parts_1
/-- _law_tableau: 0 _law_purse_here, 1 _law_way, 2 _law_found, 3 _law_count_here, 4 _law_many, 5 _law_most, 6 _law_candidate, 7 _law_rule -/
abbrev r__law_tableau_3_a_1 : DS := dSet 3 (dCon (.int 60))
abbrev r__law_tableau_4_a_1 : DS := dSet 4 (dCon (.int 30))
abbrev r__law_tableau_6_l_1 : DS := dExpr (dMut 2 appG [(false, dLc [7] (iRng rng1 [(true, dVar 3)]) (.one 7) (pure true) (dCall F__law_coin 2 [] [(true, dVar 0), (false, dVar 5)]))])
abbrev r__law_tableau_7 : DS := dRet (dVar 2)
abbrev r__law_tableau_6 : DS := dSeq (dFgB [6] (dFor (iRng rng1 [(true, dVar 4)]) (.one 6) (dFgE [6] (r__law_tableau_6_l_1)))) r__law_tableau_7
abbrev r__law_tableau_5 : DS := dSeq (dSet 5 (dOp2 ixD (dLst [(false, dCon (.int 3)), (false, dCon (.int 11)), (false, dOp2 addD (dOp2 powD (dCon (.int 10)) (dCon (.int 30))) (dCon (.int 1))), (false, dOp2 addD (dOp2 powD (dCon (.int 10)) (dCon (.int 30))) (dCon (.int 1))), (false, dCon (.int 11)), (false, dCon (.int 3))]) (dVar 1))) r__law_tableau_6
abbrev r__law_tableau_4 : DS := dSeq (dIf (dB (dCmp eqD (dVar 1) (dCon (.int 5)))) (r__law_tableau_4_a_1) (dNext)) r__law_tableau_5
abbrev r__law_tableau_3 : DS := dSeq (dIf (dB (dCmp eqD (dVar 1) (dCon (.int 4)))) (r__law_tableau_3_a_1) (dNext)) r__law_tableau_4
abbrev r__law_tableau_2 : DS := dSeq (dPar 3 4 true true (dOp2 addD (dCon (.int 1)) (dCall F__law_coin 2 [] [(true, dVar 0), (false, dCon (.int 6))])) (dOp2 addD (dCon (.int 1)) (dCall F__law_coin 2 [] [(true, dVar 0), (false, dCon (.int 6))]))) r__law_tableau_3
abbrev r__law_tableau_1 : DS := dSeq (dPar 1 2 true true (dCall F__law_coin 2 [] [(true, dVar 0), (false, dCon (.int 6))]) (dLst [])) r__law_tableau_2
def F__law_tableau : Fn := runFn 8 r__law_tableau_1
/-- is_integer: 0 value, 1 low, 2 high -/
abbrev r_is_integer_1_a_1 : DS := dRet (dCon (.bl false))
abbrev r_is_integer_2 : DS := dRet (dAndV (dCmp leC (dVar 1) (dVar 0)) (dOrV (dCmp isNC (dVar 2) (dCon .non)) (dCmp leC (dVar 0) (dVar 2))))
abbrev r_is_integer_1 : DS := dSeq (dIf (dOr (dNot (dTr (dIsi .int (dVar 0)))) (dTr (dIsi .bool (dVar 0)))) (r_is_integer_1_a_1) (dNext)) r_is_integer_2
def F_is_integer : Fn := runFn 3 r_is_integer_1
/-- is_order: 0 value, 1 rule -/
abbrev r_is_order_1_a_1 : DS := dRet (dCon (.bl false))
abbrev r_is_order_2 : DS := dRet (dAndV (dBi (scB allV) [(true, dLc [1] (iAny (dVar 0)) (.one 1) (pure true) (dCall F_is_integer 3 ([.non].map .con) [(false, dVar 1), (false, dCon (.int 0))]))]) (dCmp eqD (dBi (sortA) [(true, dVar 0)]) (dLrg (dBi (lenD) [(true, dVar 0)]))))
abbrev r_is_order_1 : DS := dSeq (dIf (dOr (dNot (dTr (dIsi .list (dVar 0)))) (dNot (dB (dChain leC leC (dCon (.int 1)) (dBi (lenD) [(true, dVar 0)]) (dCon (.int 60)))))) (r_is_order_1_a_1) (dNext)) r_is_order_2
def F_is_order : Fn := runFn 2 r_is_order_1
/-- need_order: 0 order, 1 count -/
abbrev r_need_order_1_a_1 : DS := mStuck
abbrev r_need_order_1 : DS := dIf (dOr (dNot (dTr (dCall F_is_order 1 [] [(false, dVar 0)]))) (dAnd (dB (dCmp notNC (dVar 1) (dCon .non))) (dB (dCmp neD (dBi (lenD) [(true, dVar 0)]) (dVar 1))))) (r_need_order_1_a_1) (dNext)
def F_need_order : Fn := runFn 2 r_need_order_1
/-- show_order: 0 order, 1 rule -/
abbrev r_show_order_2 : DS := dRet (dMt isStr joinD (dCon (.str ">")) [(true, dLc [1] (iAny (dVar 0)) (.one 1) (pure true) (dBi (strGD) [(true, dVar 1)]))])
abbrev r_show_order_1 : DS := dSeq (dExpr (dCall F_need_order 2 ([.non].map .con) [(false, dVar 0)])) r_show_order_2
def F_show_order : Fn := runFn 2 r_show_order_1
/-- need_count: 0 count, 1 most -/
abbrev r_need_count_1_a_1 : DS := mStuck
abbrev r_need_count_1 : DS := dIf (dNot (dTr (dCall F_is_integer 3 [] [(false, dVar 0), (false, dCon (.int 1)), (false, dVar 1)]))) (r_need_count_1_a_1) (dNext)
def F_need_count : Fn := runFn 2 r_need_count_1
/-- fits_part: 0 count, 1 value, 2 rule, 3 ahead, 4 one, 5 other -/
abbrev r_fits_part_1_a_1 : DS := dRet (dCon (.bl false))
abbrev r_fits_part_3_a_1 : DS := dRet (dCon (.bl false))
abbrev r_fits_part_4 : DS := dRet (dBi (scB allV) [(true, dLc [4, 5] (iZip2 [(false, dVar 3), (false, dSlL (dVar 3) (some (dCon (.int 1))) none)]) (.many [4, 5]) (pure true) (dCmp ltC (dVar 4) (dVar 5)))])
abbrev r_fits_part_3 : DS := dSeq (dIf (dOr (dNot (dTr (dIsi .list (dVar 3)))) (dNot (dTr (dBi (scB allV) [(true, dLc [4] (iAny (dVar 3)) (.one 4) (pure true) (dAndV (dCall F_is_integer 3 [] [(false, dVar 4), (false, dCon (.int 0)), (false, dOp2 subD (dVar 0) (dCon (.int 1)))]) (dCmp neD (dVar 4) (dVar 2))))])))) (r_fits_part_3_a_1) (dNext)) r_fits_part_4
abbrev r_fits_part_2 : DS := dSeq (dUnp (.many [2, 3]) (dVar 1)) r_fits_part_3
abbrev r_fits_part_1 : DS := dSeq (dIf (dOr (dNot (dTr (dIsi .tuple (dVar 1)))) (dOr (dB (dCmp neD (dBi (lenD) [(true, dVar 1)]) (dCon (.int 2)))) (dNot (dTr (dCall F_is_integer 3 [] [(false, dOp2 ixD (dVar 1) (dCon (.int 0))), (false, dCon (.int 0)), (false, dOp2 subD (dVar 0) (dCon (.int 1)))]))))) (r_fits_part_1_a_1) (dNext)) r_fits_part_2
def F_fits_part : Fn := runFn 6 r_fits_part_1
/-- are_parts: 0 count, 1 value, 2 part -/
abbrev r_are_parts_1_a_1 : DS := dRet (dCon (.bl false))
abbrev r_are_parts_2 : DS := dRet (dBi (scB allV) [(true, dLc [2] (iAny (dVar 1)) (.one 2) (pure true) (dAndV (dCall F_fits_part 2 [] [(false, dVar 0), (false, dVar 2)]) (dCmp neX (dOp2 ixD (dVar 2) (dCon (.int 1))) (dLst []))))])
abbrev r_are_parts_1 : DS := dSeq (dIf (dOr (dNot (dTr (dIsi .list (dVar 1)))) (dB (dCmp gtA (dBi (lenD) [(true, dVar 1)]) (dCon (.int 400))))) (r_are_parts_1_a_1) (dNext)) r_are_parts_2
def F_are_parts : Fn := runFn 3 r_are_parts_1
/-- part_text: 0 part, 1 rule, 2 ahead, 3 one -/
abbrev r_part_text_2 : DS := dRet (dOp2 addD (dOp2 addD (dBi (strGD) [(true, dVar 1)]) (dCon (.str "<"))) (dMt isStr joinD (dCon (.str ",")) [(true, dLc [3] (iAny (dVar 2)) (.one 3) (pure true) (dBi (strGD) [(true, dVar 3)]))]))
abbrev r_part_text_1 : DS := dSeq (dUnp (.many [1, 2]) (dVar 0)) r_part_text_2
def F_part_text : Fn := runFn 4 r_part_text_1
/-- parts_text: 0 parts, 1 part -/
abbrev r_parts_text_1 : DS := dRet (dMt isStr joinD (dCon (.str " ")) [(true, dLc [1] (iAny (dVar 0)) (.one 1) (pure true) (dCall F_part_text 1 [] [(false, dVar 1)]))])
def F_parts_text : Fn := runFn 2 r_parts_text_1
/-- show_parts: 0 count, 1 parts -/
abbrev r_show_parts_2_a_1 : DS := mStuck
abbrev r_show_parts_3 : DS := dRet (dCall F_parts_text 1 [] [(false, dVar 1)])
abbrev r_show_parts_2 : DS := dSeq (dIf (dNot (dTr (dCall F_are_parts 2 [] [(false, dVar 0), (false, dVar 1)]))) (r_show_parts_2_a_1) (dNext)) r_show_parts_3
abbrev r_show_parts_1 : DS := dSeq (dExpr (dCall F_need_count 2 ([.int 60].map .con) [(false, dVar 0)])) r_show_parts_2
def F_show_parts : Fn := runFn 2 r_show_parts_1
/-- is_row: 0 value, 1 faults -/
abbrev r_is_row_1_a_1 : DS := dRet (dCon (.bl false))
abbrev r_is_row_2 : DS := dRet (dBi (scB allV) [(true, dLc [1] (iAny (dVar 0)) (.one 1) (pure true) (dCall F_is_integer 3 [] [(false, dVar 1), (false, dCon (.int 0)), (false, dCon (.int 1000000000000000000000000000000))]))])
abbrev r_is_row_1 : DS := dSeq (dIf (dOr (dNot (dTr (dIsi .list (dVar 0)))) (dNot (dB (dChain leC leC (dCon (.int 1)) (dBi (lenD) [(true, dVar 0)]) (dCon (.int 60)))))) (r_is_row_1_a_1) (dNext)) r_is_row_2
def F_is_row : Fn := runFn 2 r_is_row_1
/-- is_tableau: 0 value, 1 row -/
abbrev r_is_tableau_1_a_1 : DS := dRet (dCon (.bl false))
abbrev r_is_tableau_2 : DS := dRet (dAndV (dBi (scB allV) [(true, dLc [1] (iAny (dVar 0)) (.one 1) (pure true) (dCall F_is_row 1 [] [(false, dVar 1)]))]) (dBi (scB allV) [(true, dLc [1] (iAny (dVar 0)) (.one 1) (pure true) (dCmp eqD (dBi (lenD) [(true, dVar 1)]) (dBi (lenD) [(true, dOp2 ixD (dVar 0) (dCon (.int 0)))])))]))
abbrev r_is_tableau_1 : DS := dSeq (dIf (dOr (dNot (dTr (dIsi .list (dVar 0)))) (dNot (dB (dChain leC leC (dCon (.int 1)) (dBi (lenD) [(true, dVar 0)]) (dCon (.int 30)))))) (r_is_tableau_1_a_1) (dNext)) r_is_tableau_2
def F_is_tableau : Fn := runFn 2 r_is_tableau_1
/-- need_tableau: 0 tableau, 1 most -/
abbrev r_need_tableau_1_a_1 : DS := mStuck
abbrev r_need_tableau_1 : DS := dIf (dOr (dNot (dTr (dCall F_is_tableau 1 [] [(false, dVar 0)]))) (dB (dCmp gtA (dBi (lenD) [(true, dOp2 ixD (dVar 0) (dCon (.int 0)))]) (dVar 1)))) (r_need_tableau_1_a_1) (dNext)
def F_need_tableau : Fn := runFn 2 r_need_tableau_1
/-- show_tableau: 0 tableau, 1 faults, 2 row -/
abbrev r_show_tableau_2 : DS := dRet (dMt isStr joinD (dCon (.str "/")) [(true, dLc [2] (iAny (dVar 0)) (.one 2) (pure true) (dMt isStr joinD (dCon (.str ",")) [(true, dLc [1] (iAny (dVar 2)) (.one 1) (pure true) (dBi (strGD) [(true, dVar 1)]))]))])
abbrev r_show_tableau_1 : DS := dSeq (dExpr (dCall F_need_tableau 2 ([.int 60].map .con) [(false, dVar 0)])) r_show_tableau_2
def F_show_tableau : Fn := runFn 3 r_show_tableau_1
/-- need_string: 0 text -/
abbrev r_need_string_1_a_1 : DS := mStuck
abbrev r_need_string_1 : DS := dIf (dNot (dTr (dIsi .str (dVar 0)))) (r_need_string_1_a_1) (dNext)
def F_need_string : Fn := runFn 1 r_need_string_1
/-- number_in: 0 word, 1 sign -/
abbrev r_number_in_1_a_1 : DS := dRet (dCon .non)
abbrev r_number_in_2 : DS := dRet (dIfx (dAnd (dB (dCmp eqD (dOp2 ixD (dVar 0) (dCon (.int 0))) (dCon (.str "0")))) (dB (dCmp neD (dVar 0) (dCon (.str "0"))))) (dCon .non) (dBi (intSD) [(true, dVar 0)]))
abbrev r_number_in_1 : DS := dSeq (dIf (dOr (dNot (dB (dChain leC leC (dCon (.int 1)) (dBi (lenD) [(true, dVar 0)]) (dCon (.int 40))))) (dNot (dTr (dBi (scB allV) [(true, dLc [1] (iAny (dVar 0)) (.one 1) (pure true) (dCmp inB (dVar 1) (dCon (.str "0123456789"))))])))) (r_number_in_1_a_1) (dNext)) r_number_in_2
def F_number_in : Fn := runFn 2 r_number_in_1
/-- numbers_in: 0 text, 1 sign, 2 word -/
abbrev r_numbers_in_1 : DS := dRet (dLc [2] (iLst (dMt isStr splitD (dVar 0) [(true, dVar 1)])) (.one 2) (pure true) (dCall F_number_in 1 [] [(false, dVar 2)]))
def F_numbers_in : Fn := runFn 3 r_numbers_in_1
/-- need_pieces: 0 pieces -/
abbrev r_need_pieces_1_a_1 : DS := mStuck
abbrev r_need_pieces_1 : DS := dIf (dB (dCmp inB (dCon .non) (dVar 0))) (r_need_pieces_1_a_1) (dNext)
def F_need_pieces : Fn := runFn 1 r_need_pieces_1
/-- read_order: 0 text, 1 found -/
abbrev r_read_order_4_a_1 : DS := mStuck
abbrev r_read_order_5 : DS := dRet (dVar 1)
abbrev r_read_order_4 : DS := dSeq (dIf (dNot (dTr (dBor (dCall F_is_order 1 [] [(false, dVar 1)])))) (r_read_order_4_a_1) (dNext)) r_read_order_5
abbrev r_read_order_3 : DS := dSeq (dExpr (dBor (dCall F_need_pieces 1 [] [(false, dVar 1)]))) r_read_order_4
abbrev r_read_order_2 : DS := dSeq (dSet 1 (dCall F_numbers_in 2 [] [(false, dVar 0), (false, dCon (.str ">"))])) r_read_order_3
abbrev r_read_order_1 : DS := dSeq (dExpr (dCall F_need_string 1 [] [(false, dVar 0)])) r_read_order_2
def F_read_order : Fn := runFn 2 r_read_order_1
/-- part_in: 0 word, 1 rule, 2 sign, 3 rest, 4 number, 5 ahead -/
abbrev r_part_in_3 : DS := dRet (dIfx (dOr (dB (dCmp eqD (dVar 2) (dCon (.str "")))) (dOr (dB (dCmp isNC (dVar 4) (dCon .non))) (dB (dCmp inB (dCon .non) (dVar 5))))) (dCon .non) (dTupT [(false, dVar 4), (true, dTre (dTk 5))]))
abbrev r_part_in_2 : DS := dSeq (dPar 4 5 true true (dCall F_number_in 1 [] [(false, dVar 1)]) (dCall F_numbers_in 2 [] [(false, dVar 3), (false, dCon (.str ","))])) r_part_in_3
abbrev r_part_in_1 : DS := dSeq (dUnp (.many [1, 2, 3]) (dMt isStr partD (dVar 0) [(true, dCon (.str "<"))])) r_part_in_2
def F_part_in : Fn := runFn 6 r_part_in_1
/-- read_parts: 0 count, 1 text, 2 found, 3 word -/
abbrev r_read_parts_5_a_1 : DS := mStuck
abbrev r_read_parts_6 : DS := dRet (dVar 2)
abbrev r_read_parts_5 : DS := dSeq (dIf (dNot (dTr (dBor (dCall F_are_parts 2 [] [(false, dVar 0), (false, dUnT (dVar 2))])))) (r_read_parts_5_a_1) (dNext)) r_read_parts_6
abbrev r_read_parts_4 : DS := dSeq (dExpr (dBor (dCall F_need_pieces 1 [] [(false, dUnT (dVar 2))]))) r_read_parts_5
abbrev r_read_parts_3 : DS := dSeq (dSet 2 (dIfx (dB (dCmp neD (dVar 1) (dCon (.str "")))) (dLcTr [3] (iLst (dMt isStr splitD (dVar 1) [(true, dCon (.str " "))])) (.one 3) (pure true) (dCall F_part_in 1 [] [(false, dVar 3)])) (dTre (dLst [])))) r_read_parts_4
abbrev r_read_parts_2 : DS := dSeq (dExpr (dCall F_need_string 1 [] [(false, dVar 1)])) r_read_parts_3
abbrev r_read_parts_1 : DS := dSeq (dExpr (dCall F_need_count 2 ([.int 60].map .con) [(false, dVar 0)])) r_read_parts_2
def F_read_parts : Fn := runFn 4 r_read_parts_1
/-- row_in: 0 word, 1 found -/
abbrev r_row_in_2 : DS := dRet (dIfx (dB (dCmp inB (dCon .non) (dVar 1))) (dCon .non) (dVar 1))
abbrev r_row_in_1 : DS := dSeq (dSet 1 (dCall F_numbers_in 2 [] [(false, dVar 0), (false, dCon (.str ","))])) r_row_in_2
def F_row_in : Fn := runFn 2 r_row_in_1
/-- read_tableau: 0 text, 1 found, 2 word -/
abbrev r_read_tableau_4_a_1 : DS := mStuck
abbrev r_read_tableau_5 : DS := dRet (dVar 1)
abbrev r_read_tableau_4 : DS := dSeq (dIf (dNot (dTr (dBor (dCall F_is_tableau 1 [] [(false, dUnT (dVar 1))])))) (r_read_tableau_4_a_1) (dNext)) r_read_tableau_5
abbrev r_read_tableau_3 : DS := dSeq (dExpr (dBor (dCall F_need_pieces 1 [] [(false, dUnT (dVar 1))]))) r_read_tableau_4
abbrev r_read_tableau_2 : DS := dSeq (dSet 1 (dLcTr [2] (iLst (dMt isStr splitD (dVar 0) [(true, dCon (.str "/"))])) (.one 2) (pure true) (dTre (dCall F_row_in 1 [] [(false, dVar 2)])))) r_read_tableau_3
abbrev r_read_tableau_1 : DS := dSeq (dExpr (dCall F_need_string 1 [] [(false, dVar 0)])) r_read_tableau_2
def F_read_tableau : Fn := runFn 3 r_read_tableau_1
/-- _law_right: 0 _law_purse_here, 1 _law_order, 2 _law_count_here, 3 _law_parts_here, 4 _law_tableau_here, 5 _law_before, 6 _law_words, 7 _law_rows, 8 _law_due, 9 _law_turn, 10 _law_told, 11 _law_one, 12 _law_rule, 13 _law_ahead, 14 _law_faults, 15 _law_row -/
abbrev r__law_right_8_a_1 : DS := dRet (dCon (.bl false))
abbrev r__law_right_9_l_2_a_1 : DS := dRet (dCon (.bl false))
abbrev r__law_right_9_l_5_a_1 : DS := dExpr (dWrT 10 [1, 0, 1] (.str "?"))
abbrev r__law_right_9_l_5 : DS := dIf (tBor (dB (dCmp neX (dOp2 ixD (dUnT (dVar 10)) (dCon (.int 1))) (dLst [])))) (dFgE [10] (r__law_right_9_l_5_a_1)) (dFgE [10] (dNext))
abbrev r__law_right_9_l_4 : DS := dSeq (dExpr (dWrT 10 [2, 0] (.str "?"))) r__law_right_9_l_5
abbrev r__law_right_9_l_3 : DS := dSeq (dExpr (dWrT 10 [0] (.str "?"))) r__law_right_9_l_4
abbrev r__law_right_9_l_2 : DS := dSeq (dIf (dOr (tBor (dB (dCmp neD (dBi (reprGD) [(true, dUnT (dVar 10))]) (dVar 5)))) (dB (dCmp neD (dBi (reprGD) [(true, dLst [(false, dVar 1), (false, dVar 3), (false, dVar 4)])]) (dVar 5)))) (r__law_right_9_l_2_a_1) (dNext)) r__law_right_9_l_3
abbrev r__law_right_9_l_1 : DS := dSeq (dSet 10 (dLstT [(true, dTre (dCall F_read_order 1 [] [(false, dOp2 ixD (dVar 8) (dCon (.int 0)))])), (true, dCall F_read_parts 2 [] [(false, dVar 2), (false, dOp2 ixD (dVar 8) (dCon (.int 1)))]), (true, dCall F_read_tableau 1 [] [(false, dOp2 ixD (dVar 8) (dCon (.int 2)))])])) r__law_right_9_l_2
abbrev r__law_right_10 : DS := dRet (dCon (.bl true))
abbrev r__law_right_9 : DS := dSeq (dFgB [9, 10] (dFor (iRng rng1 [(true, dCon (.int 2))]) (.one 9) (dFgE [9, 10] (r__law_right_9_l_1)))) r__law_right_10
abbrev r__law_right_8 : DS := dSeq (dIf (dB (dCmp neD (dLst [(false, dCall F_show_order 1 [] [(false, dVar 1)]), (false, dCall F_show_parts 2 [] [(false, dVar 2), (false, dVar 3)]), (false, dCall F_show_tableau 1 [] [(false, dVar 4)])]) (dVar 8))) (r__law_right_8_a_1) (dNext)) r__law_right_9
abbrev r__law_right_7 : DS := dSeq (dSet 8 (dSh (dLst [(false, dMt isStr joinD (dCon (.str ">")) [(true, dLc [12] (iAny (dVar 1)) (.one 12) (pure true) (dBi (strGD) [(true, dVar 12)]))]), (false, dMt isStr joinD (dCon (.str " ")) [(true, dVar 6)]), (false, dMt isStr joinD (dCon (.str "/")) [(true, dVar 7)])]))) r__law_right_8
abbrev r__law_right_6 : DS := dSeq (dShE [7] (dSet 7 (dLc [15] (iAny (dVar 4)) (.one 15) (pure true) (dMt isStr joinD (dCon (.str ",")) [(true, dLc [14] (iAny (dVar 15)) (.one 14) (pure true) (dBi (strGD) [(true, dVar 14)]))])))) r__law_right_7
abbrev r__law_right_5 : DS := dSeq (dShE [6] (dSet 6 (dLc [12, 13] (iAny (dVar 3)) (.many [12, 13]) (pure true) (dOp2 addD (dOp2 addD (dBi (strGD) [(true, dVar 12)]) (dCon (.str "<"))) (dMt isStr joinD (dCon (.str ",")) [(true, dLc [11] (iAny (dVar 13)) (.one 11) (pure true) (dBi (strGD) [(true, dVar 11)]))]))))) r__law_right_6
abbrev r__law_right_4 : DS := dSeq (dSet 5 (dBi (reprGD) [(true, dLst [(false, dVar 1), (false, dVar 3), (false, dVar 4)])])) r__law_right_5
abbrev r__law_right_3 : DS := dSeq (dPar 3 4 true true (dSh (dCall F__law_parts 3 [] [(true, dVar 0), (false, dVar 2), (false, dCon (.int 20))])) (dSh (dCall F__law_tableau 1 [] [(true, dVar 0)]))) r__law_right_4
abbrev r__law_right_2 : DS := dSeq (dSet 2 (dOp2 ixD (dLst [(false, dOp2 addD (dCon (.int 1)) (dCall F__law_coin 2 [] [(true, dVar 0), (false, dCon (.int 9))])), (false, dCon (.int 60))]) (dOp2 divD (dCall F__law_coin 2 [] [(true, dVar 0), (false, dCon (.int 6))]) (dCon (.int 5))))) r__law_right_3
abbrev r__law_right_1 : DS := dSeq (dSet 1 (dSh (dCall F__law_shuffled 2 [] [(true, dVar 0), (false, dOp2 ixD (dLst [(false, dOp2 addD (dCon (.int 1)) (dCall F__law_coin 2 [] [(true, dVar 0), (false, dCon (.int 9))])), (false, dCon (.int 60))]) (dOp2 divD (dCall F__law_coin 2 [] [(true, dVar 0), (false, dCon (.int 6))]) (dCon (.int 5))))]))) r__law_right_2
def F__law_right : Fn := runFn 16 r__law_right_1
/-- law: 0 _law_script, 1 _law_k, 2 _law_purse_here, 3 _law_turn, 4 _law_told -/
abbrev r_law_1_l_2_l_1_a_1 : DS := dRet (dCon (.bl false))
abbrev r_law_1_l_2_l_1 : DS := dIf (dNot (dTr (dCall F__law_right 1 [] [(true, dVar 2)]))) (r_law_1_l_2_l_1_a_1) (dNext)
abbrev r_law_1_l_2 : DS := dFgB [3] (dFor (iRng rng1 [(true, dCon (.int 8))]) (.one 3) (dFgE [3] (r_law_1_l_2_l_1)))
abbrev r_law_1_l_1 : DS := dSeq (dSet 2 (dCall F__law_purse 2 [] [(false, dVar 0), (false, dVar 1)])) r_law_1_l_2
abbrev r_law_4 : DS := dRet (dAndV (dCmp eqD (dVar 4) (dLst [(false, dCon (.str "1<3 2<0,1")), (false, dLst [(false, dCon (.int 2)), (false, dCon (.int 0)), (false, dCon (.int 1))]), (false, dCon (.str "0,2/1,0")), (false, dLst [])])) (dCmp eqD (dCall F_show_parts 2 [] [(false, dCon (.int 9)), (false, dLst [])]) (dCon (.str ""))))
abbrev r_law_3 : DS := dSeq (dExpr (dMut 4 appG [(false, dUnT (dCall F_read_parts 2 [] [(false, dCon (.int 3)), (false, dCon (.str ""))]))])) r_law_4
abbrev r_law_2 : DS := dSeq (dSet 4 (dLst [(false, dCall F_show_parts 2 [] [(false, dCon (.int 4)), (false, dLst [(false, dTup [(false, dCon (.int 1)), (false, dLst [(false, dCon (.int 3))])]), (false, dTup [(false, dCon (.int 2)), (false, dLst [(false, dCon (.int 0)), (false, dCon (.int 1))])])])]), (false, dCall F_read_order 1 [] [(false, dCon (.str "2>0>1"))]), (false, dCall F_show_tableau 1 [] [(false, dLst [(false, dLst [(false, dCon (.int 0)), (false, dCon (.int 2))]), (false, dLst [(false, dCon (.int 1)), (false, dCon (.int 0))])])])])) r_law_3
abbrev r_law_1 : DS := dSeq (dFgB [1, 2, 3] (dFor (iRng rng1 [(true, dBi (scB maxV) [(true, dCon (.int 1)), (true, dBi (scB minV) [(true, dCon (.int 5)), (true, dBi (lenD) [(true, dVar 0)])])])]) (.one 1) (dFgE [1, 2, 3] (r_law_1_l_1)))) r_law_2
def F_law : Fn := runFn 5 r_law_1
end Law_strictranks_k54_texts_written_and_read
end
end
section
set_option Elab.async false
set_option linter.all false
set_option maxRecDepth 100000
set_option maxHeartbeats 4000000
namespace Law_strictranks_k54_texts_written_and_read
open PySem PySem.Spec PyProof.Rows L2 L2.VL L2.TX
/-- what the top has written -/
structure Txt (K : PySem.W.Frag) (mg : Str → Option Value) : Prop where
  n_abs : mg "abs" = none
  n_all : mg "all" = none
  n_bool : mg "bool" = none
  n_int : mg "int" = none
  n_isinstance : mg "isinstance" = none
  n_len : mg "len" = none
  n_list : mg "list" = none
  n_max : mg "max" = none
  n_min : mg "min" = none
  n_range : mg "range" = none
  n_repr : mg "repr" = none
  n_set : mg "set" = none
  n_sorted : mg "sorted" = none
  n_str : mg "str" = none
  n_tuple : mg "tuple" = none
  n_zip : mg "zip" = none
  c_DIGITS : ∃ t, mg "DIGITS" = some (.str "0123456789" t)
  c_MOST_CANDIDATES : ∃ t, mg "MOST_CANDIDATES" = some (.int 30 t)
  c_MOST_DIGITS : ∃ t, mg "MOST_DIGITS" = some (.int 40 t)
  c_MOST_FAULTS : ∃ t, mg "MOST_FAULTS" = some (.int 1000000000000000000000000000000 t)
  c_MOST_PARTS : ∃ t, mg "MOST_PARTS" = some (.int 400 t)
  c_MOST_RULES : ∃ t, mg "MOST_RULES" = some (.int 60 t)
  f__law_purse : FnAt K mg "_law_purse" s__law_purse [] []
  f__law_coin : FnAt K mg "_law_coin" s__law_coin [] []
  f__law_shuffled : FnAt K mg "_law_shuffled" s__law_shuffled [] []
  f__law_parts : FnAt K mg "_law_parts" s__law_parts [] []
  f__law_tableau : FnAt K mg "_law_tableau" s__law_tableau [] []
  f_is_integer : FnAt K mg "is_integer" s_is_integer [.non] []
  f_is_order : FnAt K mg "is_order" s_is_order [] []
  f_need_order : FnAt K mg "need_order" s_need_order [.non] []
  f_show_order : FnAt K mg "show_order" s_show_order [] []
  f_need_count : FnAt K mg "need_count" s_need_count [.int 60] []
  f_fits_part : FnAt K mg "fits_part" s_fits_part [] []
  f_are_parts : FnAt K mg "are_parts" s_are_parts [] []
  f_part_text : FnAt K mg "part_text" s_part_text [] []
  f_parts_text : FnAt K mg "parts_text" s_parts_text [] []
  f_show_parts : FnAt K mg "show_parts" s_show_parts [] []
  f_is_row : FnAt K mg "is_row" s_is_row [] []
  f_is_tableau : FnAt K mg "is_tableau" s_is_tableau [] []
  f_need_tableau : FnAt K mg "need_tableau" s_need_tableau [.int 60] []
  f_show_tableau : FnAt K mg "show_tableau" s_show_tableau [] []
  f_need_string : FnAt K mg "need_string" s_need_string [] []
  f_number_in : FnAt K mg "number_in" s_number_in [] []
  f_numbers_in : FnAt K mg "numbers_in" s_numbers_in [] []
  f_need_pieces : FnAt K mg "need_pieces" s_need_pieces [] []
  f_read_order : FnAt K mg "read_order" s_read_order [] []
  f_part_in : FnAt K mg "part_in" s_part_in [] []
  f_read_parts : FnAt K mg "read_parts" s_read_parts [] []
  f_row_in : FnAt K mg "row_in" s_row_in [] []
  f_read_tableau : FnAt K mg "read_tableau" s_read_tableau [] []
  f__law_right : FnAt K mg "_law_right" s__law_right [] []
  f_law : FnAt K mg "law" s_law [] []
section
variable {P : Program} {w : World} {K : PySem.W.Frag} {mg : Str → Option Value} {base : Heap}
theorem sc__law_purse : FnScope ["_law_script", "_law_k", "_law_cell"] ["_law_script", "_law_k"] (defScope s__law_purse) := ⟨rfl, rfl, rfl, by decide +kernel, rfl, by decide +kernel, by decide +kernel⟩
theorem b__law_purse (T : Txt K mg) (f : Addr) (cdv : Value) (A : Around) (outer : List Env) (s : Shared) (H : Hp) (E : XK) (c : FnCx (cxOf (L2.CX P w) P w K mg base ["_law_script", "_law_k", "_law_cell"] "_law_purse" (defScope s__law_purse) f cdv A outer s H E) 0) :
  SSs (cxOf (L2.CX P w) P w K mg base ["_law_script", "_law_k", "_law_cell"] "_law_purse" (defScope s__law_purse) f cdv A outer s H E) (defBody s__law_purse) r__law_purse_1 :=
  ss_cons (ss_set 2 c.g (se_ifx (st_cmp op_lt cs_int.os (se_var 1) (se_callB (call_len) os_len T.n_len (sa_cons (b := true) (se_var 0) (sa_nil))) (nomark _)) (se_ix ix_seq os_ix (se_var 0) (se_var 1) (fun _ _ => rfl)) (se_int)))
    (ss_one (ss_ret (se_lst (sa_cons (b := false) (se_callB (call_max2 c.g.calm) os_max T.n_max (sa_cons (b := true) (se_int) (sa_cons (b := true) (se_op op_sub os_sub (se_var 2) (se_op op_pow os_pow (se_int) (se_int))) (sa_nil)))) (sa_cons (b := false) (se_op op_addA os_add (se_op op_addA os_add (se_op op_mod os_mod (se_callTy (call_int1) os_int T.n_int (sa_cons (b := true) (se_callB (call_abs) os_abs T.n_abs (sa_cons (b := true) (se_var 2) (sa_nil))) (sa_nil))) (se_op op_addA os_add (se_op op_pow os_pow (se_int) (se_int)) (se_int))) (se_op op_mulT os_mulT (se_int) (se_var 1))) (se_int)) (sa_cons (b := false) (se_int) (sa_nil)))))))
theorem ok__law_purse (T : Txt K mg) : Def P w K mg base "_law_purse" 1 F__law_purse 2 [] :=
  def_ok T.f__law_purse sc__law_purse rfl (fun _ _ _ _ _ _ us hl => match us, hl with | [_, _], _ => rfl) (b__law_purse T)
theorem sc__law_coin : FnScope ["_law_purse_here", "_law_many", "_law_found", "_law_mixed"] ["_law_purse_here", "_law_many"] (defScope s__law_coin) := ⟨rfl, rfl, rfl, by decide +kernel, rfl, by decide +kernel, by decide +kernel⟩
theorem b__law_coin (T : Txt K mg) (f : Addr) (cdv : Value) (A : Around) (outer : List Env) (s : Shared) (H : Hp) (E : XK) (c : FnCx (cxOf (L2.CX P w) P w K mg base ["_law_purse_here", "_law_many", "_law_found", "_law_mixed"] "_law_coin" (defScope s__law_coin) f cdv A outer s H E) 0) :
  SSs (cxOf (L2.CX P w) P w K mg base ["_law_purse_here", "_law_many", "_law_found", "_law_mixed"] "_law_coin" (defScope s__law_coin) f cdv A outer s H E) (defBody s__law_coin) r__law_coin_1 :=
  ss_cons (ss_if (st_cmp (op_gtA c.room) cs_gtA.os (se_ix ix_seq os_ix (se_var 0) (se_int) (fun _ _ => rfl)) (se_int) (nomark _)) (ss_cons (ss_set 2 c.g (se_op op_mod os_mod (se_callTy (call_int1) os_int T.n_int (sa_cons (b := true) (se_ix ix_seq os_ix (se_var 0) (se_int) (fun _ _ => rfl)) (sa_nil))) (se_var 1)))
    (ss_cons (ss_setIx 0 (se_op op_fdivW os_div (se_ix ix_seq os_ix (se_var 0) (se_int) (fun _ _ => rfl)) (se_var 1)) (se_int))
    (ss_one (ss_ret (se_sh (se_var 2)))))) (ss_nil))
    (ss_cons (ss_setIx 0 (se_op op_addA os_add (se_ix ix_seq os_ix (se_var 0) (se_int) (fun _ _ => rfl)) (se_int)) (se_int))
    (ss_cons (ss_set 3 c.g (se_op op_mod os_mod (se_callTy (call_int1) os_int T.n_int (sa_cons (b := true) (se_op op_powW os_powW (se_op op_addA os_add (se_ix ix_seq os_ix (se_var 0) (se_int) (fun _ _ => rfl)) (se_op op_mulT os_mulT (se_int) (se_ix ix_seq os_ix (se_var 0) (se_int) (fun _ _ => rfl)))) (se_int)) (sa_nil))) (se_op op_addA os_add (se_op op_pow os_pow (se_int) (se_int)) (se_int))))
    (ss_cons (ss_set 3 c.g (se_op op_mod os_mod (se_callTy (call_int1) os_int T.n_int (sa_cons (b := true) (se_op op_powW os_powW (se_op op_addA os_add (se_var 3) (se_op op_mulT os_mulT (se_int) (se_ix ix_seq os_ix (se_var 0) (se_int) (fun _ _ => rfl)))) (se_int)) (sa_nil))) (se_op op_addA os_add (se_op op_pow os_pow (se_int) (se_int)) (se_int))))
    (ss_one (ss_ret (se_op op_mod os_mod (se_callTy (call_int1) os_int T.n_int (sa_cons (b := true) (se_op op_fdivW os_div (se_var 3) (se_int)) (sa_nil))) (se_var 1)))))))
theorem ok__law_coin (T : Txt K mg) : Def P w K mg base "_law_coin" 1 F__law_coin 2 [] :=
  def_ok T.f__law_coin sc__law_coin rfl (fun _ _ _ _ _ _ us hl => match us, hl with | [_, _], _ => rfl) (b__law_coin T)
theorem sc__law_shuffled : FnScope ["_law_purse_here", "_law_count_here", "_law_left", "_law_found", "_law_turn"] ["_law_purse_here", "_law_count_here"] (defScope s__law_shuffled) := ⟨rfl, rfl, rfl, by decide +kernel, rfl, by decide +kernel, by decide +kernel⟩
theorem b__law_shuffled (T : Txt K mg) (f : Addr) (cdv : Value) (A : Around) (outer : List Env) (s : Shared) (H : Hp) (E : XK) (c : FnCx (cxOf (L2.CX P w) P w K mg base ["_law_purse_here", "_law_count_here", "_law_left", "_law_found", "_law_turn"] "_law_shuffled" (defScope s__law_shuffled) f cdv A outer s H E) 1) :
  SSs (cxOf (L2.CX P w) P w K mg base ["_law_purse_here", "_law_count_here", "_law_left", "_law_found", "_law_turn"] "_law_shuffled" (defScope s__law_shuffled) f cdv A outer s H E) (defBody s__law_shuffled) r__law_shuffled_1 :=
  ss_cons (ss_par 2 3 true true c.g (se_lrg c.g.calm T.n_list T.n_range (se_var 1)) (se_lst (sa_nil)))
    (ss_cons (ss_fgB [4] (ss_for c.g (si_rng1 T.n_range (sa_cons (b := true) (se_var 1) (sa_nil))) (sg_name 4 c.g) (sss_fgE [4] (ss_one (ss_expr (se_mut 3 PySem.F.slot_list_append PySem.F.type_list_append mt_append ms_append (sa_cons (b := false) (se_mut 2 PySem.F.slot_list_pop PySem.F.type_list_pop mt_popAt ms_pop (sa_cons (b := false) (se_call (dvs := []) (ok__law_coin T) c.g.gu (c.room.mono (by decide)) (sa_cons (b := true) (se_var 0) (sa_cons (b := false) (se_callB (call_len) os_len T.n_len (sa_cons (b := true) (se_var 2) (sa_nil))) (sa_nil)))) (sa_nil))) (sa_nil))))))))
    (ss_one (ss_ret (se_var 3))))
theorem ok__law_shuffled (T : Txt K mg) : Def P w K mg base "_law_shuffled" 2 F__law_shuffled 2 [] :=
  def_ok T.f__law_shuffled sc__law_shuffled rfl (fun _ _ _ _ _ _ us hl => match us, hl with | [_, _], _ => rfl) (b__law_shuffled T)
theorem sc__law_parts : FnScope ["_law_purse_here", "_law_count_here", "_law_most", "_law_found", "_law_turn", "_law_rule", "_law_ahead", "_law_step", "_law_some", "_law_one"] ["_law_purse_here", "_law_count_here", "_law_most"] (defScope s__law_parts) := ⟨rfl, rfl, rfl, by decide +kernel, rfl, by decide +kernel, by decide +kernel⟩
theorem b__law_parts (T : Txt K mg) (f : Addr) (cdv : Value) (A : Around) (outer : List Env) (s : Shared) (H : Hp) (E : XK) (c : FnCx (cxOf (L2.CX P w) P w K mg base ["_law_purse_here", "_law_count_here", "_law_most", "_law_found", "_law_turn", "_law_rule", "_law_ahead", "_law_step", "_law_some", "_law_one"] "_law_parts" (defScope s__law_parts) f cdv A outer s H E) 1) :
  SSs (cxOf (L2.CX P w) P w K mg base ["_law_purse_here", "_law_count_here", "_law_most", "_law_found", "_law_turn", "_law_rule", "_law_ahead", "_law_step", "_law_some", "_law_one"] "_law_parts" (defScope s__law_parts) f cdv A outer s H E) (defBody s__law_parts) r__law_parts_1 :=
  ss_cons (ss_set 3 c.g (se_lst (sa_nil)))
    (ss_cons (ss_fgB [4, 5, 6, 7, 8] (ss_for c.g (si_rng1 T.n_range (sa_cons (b := true) (se_op op_mulT os_mulT (se_call (dvs := []) (ok__law_coin T) c.g.gu (c.room.mono (by decide)) (sa_cons (b := true) (se_var 0) (sa_cons (b := false) (se_op op_addA os_add (se_var 2) (se_int)) (sa_nil)))) (se_callTy (call_int1) os_int T.n_int (sa_cons (b := true) (se_cmp (op_gtA c.room) cs_gtA.os (se_var 1) (se_int) (nomark _)) (sa_nil)))) (sa_nil))) (sg_name 4 c.g) (sss_fgE [4, 5, 6, 7, 8] (ss_cons (ss_parC 5 6 true true c.g (se_call (dvs := []) (ok__law_coin T) c.g.gu (c.room.mono (by decide)) (sa_cons (b := true) (se_var 0) (sa_cons (b := false) (se_var 1) (sa_nil)))) (se_lst (sa_nil)))
    (ss_cons (ss_fgB [7] (ss_for c.g (si_rng1 T.n_range (sa_cons (b := true) (se_op op_addA os_add (se_int) (se_call (dvs := []) (ok__law_coin T) c.g.gu (c.room.mono (by decide)) (sa_cons (b := true) (se_var 0) (sa_cons (b := false) (se_ix ix_seq os_ix (se_lst (sa_cons (b := false) (se_int) (sa_cons (b := false) (se_int) (sa_nil)))) (se_call (dvs := []) (ok__law_coin T) c.g.gu (c.room.mono (by decide)) (sa_cons (b := true) (se_var 0) (sa_cons (b := false) (se_int) (sa_nil)))) (fun _ _ => rfl)) (sa_nil))))) (sa_nil))) (sg_name 7 c.g) (sss_fgE [7] (ss_one (ss_expr (se_mut 6 PySem.F.slot_list_append PySem.F.type_list_append mt_append ms_append (sa_cons (b := false) (se_call (dvs := []) (ok__law_coin T) c.g.gu (c.room.mono (by decide)) (sa_cons (b := true) (se_var 0) (sa_cons (b := false) (se_var 1) (sa_nil)))) (sa_nil))))))))
    (ss_cons (ss_set 8 c.g (se_sh (se_sset c.g T.n_sorted T.n_set (sa_cons (b := true) (se_lnd (se_lc [("_law_one", 9)] c.g (si_any (se_var 6)) (by kernel_rfl) (fun s1 H1 C1 cl1 fp1 => sg_name 9 (cxg_blk c.g s1 H1 _ _ fp1)) (fun s1 H1 C1 cl1 fp1 => sts_one (st_cmp (op_neA c.room) cs_ne.os (se_var 9) (se_var 5) (nomark _))) (fun s1 H1 C1 cl1 fp1 => se_var 9))) (sa_nil)))))
    (ss_cons (ss_expr (se_mut 3 PySem.F.slot_list_append PySem.F.type_list_append mt_append ms_append (sa_cons (b := false) (se_tup (sa_cons (b := false) (se_var 5) (sa_cons (b := false) (se_ifx (st_cmp (op_neA c.room) cs_ne.os (se_var 8) (se_lst (sa_nil)) (nomark _)) (se_sh (se_var 8)) (se_sh (se_lst (sa_cons (b := false) (se_ifx (st_cmp (op_gtA c.room) cs_gtA.os (se_var 5) (se_int) (nomark _)) (se_int) (se_int)) (sa_nil))))) (sa_nil)))) (sa_nil))))
    (ss_one (ss_if (st_cmp (op_eqA c.room) cs_eq.os (se_call (dvs := []) (ok__law_coin T) c.g.gu (c.room.mono (by decide)) (sa_cons (b := true) (se_var 0) (sa_cons (b := false) (se_int) (sa_nil)))) (se_int) (nomark _)) (ss_one (ss_expr (se_mut 3 PySem.F.slot_list_append PySem.F.type_list_append mt_append ms_append (sa_cons (b := false) (se_tup (sa_cons (b := false) (se_ix ix_seq os_ix (se_ix ix_seq os_ix (se_var 3) (se_int) (fun _ _ => rfl)) (se_int) (fun _ _ => rfl)) (sa_cons (b := false) (se_callTy (call_list_of) os_list T.n_list (sa_cons (b := true) (se_ix ix_seq os_ix (se_ix ix_seq os_ix (se_var 3) (se_int) (fun _ _ => rfl)) (se_int) (fun _ _ => rfl)) (sa_nil))) (sa_nil)))) (sa_nil))))) (ss_nil))))))))))
    (ss_one (ss_ret (se_var 3))))
theorem ok__law_parts (T : Txt K mg) : Def P w K mg base "_law_parts" 2 F__law_parts 3 [] :=
  def_ok T.f__law_parts sc__law_parts rfl (fun _ _ _ _ _ _ us hl => match us, hl with | [_, _, _], _ => rfl) (b__law_parts T)
theorem sc__law_tableau : FnScope ["_law_purse_here", "_law_way", "_law_found", "_law_count_here", "_law_many", "_law_most", "_law_candidate", "_law_rule"] ["_law_purse_here"] (defScope s__law_tableau) := ⟨rfl, rfl, rfl, by decide +kernel, rfl, by decide +kernel, by decide +kernel⟩
theorem b__law_tableau (T : Txt K mg) (f : Addr) (cdv : Value) (A : Around) (outer : List Env) (s : Shared) (H : Hp) (E : XK) (c : FnCx (cxOf (L2.CX P w) P w K mg base ["_law_purse_here", "_law_way", "_law_found", "_law_count_here", "_law_many", "_law_most", "_law_candidate", "_law_rule"] "_law_tableau" (defScope s__law_tableau) f cdv A outer s H E) 1) :
  SSs (cxOf (L2.CX P w) P w K mg base ["_law_purse_here", "_law_way", "_law_found", "_law_count_here", "_law_many", "_law_most", "_law_candidate", "_law_rule"] "_law_tableau" (defScope s__law_tableau) f cdv A outer s H E) (defBody s__law_tableau) r__law_tableau_1 :=
  ss_cons (ss_par 1 2 true true c.g (se_call (dvs := []) (ok__law_coin T) c.g.gu (c.room.mono (by decide)) (sa_cons (b := true) (se_var 0) (sa_cons (b := false) (se_int) (sa_nil)))) (se_lst (sa_nil)))
    (ss_cons (ss_par 3 4 true true c.g (se_op op_addA os_add (se_int) (se_call (dvs := []) (ok__law_coin T) c.g.gu (c.room.mono (by decide)) (sa_cons (b := true) (se_var 0) (sa_cons (b := false) (se_int) (sa_nil))))) (se_op op_addA os_add (se_int) (se_call (dvs := []) (ok__law_coin T) c.g.gu (c.room.mono (by decide)) (sa_cons (b := true) (se_var 0) (sa_cons (b := false) (se_int) (sa_nil))))))
    (ss_cons (ss_if (st_cmp (op_eqA c.room) cs_eq.os (se_var 1) (se_int) (nomark _)) (ss_one (ss_set 3 c.g (se_int))) (ss_nil))
    (ss_cons (ss_if (st_cmp (op_eqA c.room) cs_eq.os (se_var 1) (se_int) (nomark _)) (ss_one (ss_set 4 c.g (se_int))) (ss_nil))
    (ss_cons (ss_set 5 c.g (se_ix ix_seq os_ix (se_lst (sa_cons (b := false) (se_int) (sa_cons (b := false) (se_int) (sa_cons (b := false) (se_op op_addA os_add (se_op op_pow os_pow (se_int) (se_int)) (se_int)) (sa_cons (b := false) (se_op op_addA os_add (se_op op_pow os_pow (se_int) (se_int)) (se_int)) (sa_cons (b := false) (se_int) (sa_cons (b := false) (se_int) (sa_nil)))))))) (se_var 1) (fun _ _ => rfl)))
    (ss_cons (ss_fgB [6] (ss_for c.g (si_rng1 T.n_range (sa_cons (b := true) (se_var 4) (sa_nil))) (sg_name 6 c.g) (sss_fgE [6] (ss_one (ss_expr (se_mut 2 PySem.F.slot_list_append PySem.F.type_list_append mt_append ms_append (sa_cons (b := false) (se_lc [("_law_rule", 7)] c.g (si_rng1 T.n_range (sa_cons (b := true) (se_var 3) (sa_nil))) (by kernel_rfl) (fun s1 H1 C1 cl1 fp1 => sg_name 7 (cxg_blk c.g s1 H1 _ _ fp1)) (fun s1 H1 C1 cl1 fp1 => sts_nil) (fun s1 H1 C1 cl1 fp1 => se_call (dvs := []) (ok__law_coin T) c.g.gu (c.room.mono (by decide)) (sa_cons (b := true) (se_var 0) (sa_cons (b := false) (se_var 5) (sa_nil))))) (sa_nil))))))))
    (ss_one (ss_ret (se_var 2))))))))
theorem ok__law_tableau (T : Txt K mg) : Def P w K mg base "_law_tableau" 2 F__law_tableau 1 [] :=
  def_ok T.f__law_tableau sc__law_tableau rfl (fun _ _ _ _ _ _ us hl => match us, hl with | [_], _ => rfl) (b__law_tableau T)
theorem sc_is_integer : FnScope ["value", "low", "high"] ["value", "low", "high"] (defScope s_is_integer) := ⟨rfl, rfl, rfl, by decide +kernel, rfl, by decide +kernel, by decide +kernel⟩
theorem b_is_integer (T : Txt K mg) (f : Addr) (cdv : Value) (A : Around) (outer : List Env) (s : Shared) (H : Hp) (E : XK) (c : FnCx (cxOf (L2.CX P w) P w K mg base ["value", "low", "high"] "is_integer" (defScope s_is_integer) f cdv A outer s H E) 0) :
  SSs (cxOf (L2.CX P w) P w K mg base ["value", "low", "high"] "is_integer" (defScope s_is_integer) f cdv A outer s H E) (defBody s_is_integer) r_is_integer_1 :=
  ss_cons (ss_if (SW.st (sw_or (st_not (st_val (se_isi .int (se_var 0) T.n_isinstance T.n_int))) (sw_or1 (st_val (se_isi .bool (se_var 0) T.n_isinstance T.n_bool))))) (ss_one (ss_ret (se_bl))) (ss_nil))
    (ss_one (ss_ret (se_and (se_cmp op_le cs_int.os (se_var 1) (se_var 0) (nomark _)) (se_one (se_or (se_cmp op_isN cs_isN.os (se_var 2) (se_non) (nomark _)) (se_one (se_cmp op_le cs_int.os (se_var 0) (se_var 2) (nomark _))))))))
theorem ok_is_integer_2 (T : Txt K mg) : Def P w K mg base "is_integer" 1 F_is_integer 3 ([.non]) :=
  def_okD 2 0 T.f_is_integer sc_is_integer rfl (by simp) rfl (fun _ _ _ _ _ _ _ us its h1 h2 => match us, h1, its, h2 with | [_, _], _, [_], _ => ⟨_, rfl, rfl⟩) (b_is_integer T)
theorem ok_is_integer (T : Txt K mg) : Def P w K mg base "is_integer" 1 F_is_integer 3 ([]) :=
  def_okD 3 1 T.f_is_integer sc_is_integer rfl (by simp) rfl (fun _ _ _ _ _ _ _ us its h1 h2 => match us, h1, its, h2 with | [_, _, _], _, [_], _ => ⟨_, rfl, rfl⟩) (b_is_integer T)
theorem sc_is_order : FnScope ["value", "rule"] ["value"] (defScope s_is_order) := ⟨rfl, rfl, rfl, by decide +kernel, rfl, by decide +kernel, by decide +kernel⟩
theorem b_is_order (T : Txt K mg) (f : Addr) (cdv : Value) (A : Around) (outer : List Env) (s : Shared) (H : Hp) (E : XK) (c : FnCx (cxOf (L2.CX P w) P w K mg base ["value", "rule"] "is_order" (defScope s_is_order) f cdv A outer s H E) 1) :
  SSs (cxOf (L2.CX P w) P w K mg base ["value", "rule"] "is_order" (defScope s_is_order) f cdv A outer s H E) (defBody s_is_order) r_is_order_1 :=
  ss_cons (ss_if (SW.st (sw_or (st_not (st_val (se_isi .list (se_var 0) T.n_isinstance T.n_list))) (sw_or1 (st_not (st_chain op_le op_le cs_int cs_int (se_int) (se_callB (call_len) os_len T.n_len (sa_cons (b := true) (se_var 0) (sa_nil))) (se_gint T.c_MOST_RULES)))))) (ss_one (ss_ret (se_bl))) (ss_nil))
    (ss_one (ss_ret (se_and (se_callB (cr_all c.g.calm) os_all T.n_all (sa_cons (b := true) (se_lc [("rule", 1)] c.g (si_any (se_var 0)) (by kernel_rfl) (fun s1 H1 C1 cl1 fp1 => sg_name 1 (cxg_blk c.g s1 H1 _ _ fp1)) (fun s1 H1 C1 cl1 fp1 => sts_nil) (fun s1 H1 C1 cl1 fp1 => se_call (dvs := [.non]) (ok_is_integer_2 T) c.g.gu (c.room.mono (by decide)) (sa_cons (b := false) (se_var 1) (sa_cons (b := false) (se_int) (sa_nil))))) (sa_nil))) (se_one (se_cmp (op_eqA c.room) cs_eq.os (se_callB (cr_sortA) os_sortA T.n_sorted (sa_cons (b := true) (se_var 0) (sa_nil))) (se_lrg c.g.calm T.n_list T.n_range (se_callB (call_len) os_len T.n_len (sa_cons (b := true) (se_var 0) (sa_nil)))) (nomark _))))))
theorem ok_is_order (T : Txt K mg) : Def P w K mg base "is_order" 2 F_is_order 1 [] :=
  def_ok T.f_is_order sc_is_order rfl (fun _ _ _ _ _ _ us hl => match us, hl with | [_], _ => rfl) (b_is_order T)
theorem sc_need_order : FnScope ["order", "count"] ["order", "count"] (defScope s_need_order) := ⟨rfl, rfl, rfl, by decide +kernel, rfl, by decide +kernel, by decide +kernel⟩
theorem b_need_order (T : Txt K mg) (f : Addr) (cdv : Value) (A : Around) (outer : List Env) (s : Shared) (H : Hp) (E : XK) (c : FnCx (cxOf (L2.CX P w) P w K mg base ["order", "count"] "need_order" (defScope s_need_order) f cdv A outer s H E) 2) :
  SSs (cxOf (L2.CX P w) P w K mg base ["order", "count"] "need_order" (defScope s_need_order) f cdv A outer s H E) (defBody s_need_order) r_need_order_1 :=
  ss_one (ss_if (SW.st (sw_or (st_not (st_val (se_call (dvs := []) (ok_is_order T) c.g.gu (c.room.mono (by decide)) (sa_cons (b := false) (se_var 0) (sa_nil))))) (sw_or1 (SW.st (sw_and (st_cmp op_notN cs_notN.os (se_var 1) (se_non) (nomark _)) (sw_and1 (st_cmp (op_neA c.room) cs_ne.os (se_callB (call_len) os_len T.n_len (sa_cons (b := true) (se_var 0) (sa_nil))) (se_var 1) (nomark _)))))))) (ss_one (ss_never)) (ss_nil))
theorem ok_need_order_1 (T : Txt K mg) : Def P w K mg base "need_order" 3 F_need_order 2 ([.non]) :=
  def_okD 1 0 T.f_need_order sc_need_order rfl (by simp) rfl (fun _ _ _ _ _ _ _ us its h1 h2 => match us, h1, its, h2 with | [_], _, [_], _ => ⟨_, rfl, rfl⟩) (b_need_order T)
theorem sc_show_order : FnScope ["order", "rule"] ["order"] (defScope s_show_order) := ⟨rfl, rfl, rfl, by decide +kernel, rfl, by decide +kernel, by decide +kernel⟩
theorem b_show_order (T : Txt K mg) (f : Addr) (cdv : Value) (A : Around) (outer : List Env) (s : Shared) (H : Hp) (E : XK) (c : FnCx (cxOf (L2.CX P w) P w K mg base ["order", "rule"] "show_order" (defScope s_show_order) f cdv A outer s H E) 3) :
  SSs (cxOf (L2.CX P w) P w K mg base ["order", "rule"] "show_order" (defScope s_show_order) f cdv A outer s H E) (defBody s_show_order) r_show_order_1 :=
  ss_cons (ss_expr (se_call (dvs := [.non]) (ok_need_order_1 T) c.g.gu (c.room.mono (by decide)) (sa_cons (b := false) (se_var 0) (sa_nil))))
    (ss_one (ss_ret (se_mt PySem.F.plainAttrs_str PySem.F.slot_str_join PySem.F.type_str_join mt_join om_join (se_str) (sa_cons (b := true) (se_lc [("rule", 1)] c.g (si_any (se_var 0)) (by kernel_rfl) (fun s1 H1 C1 cl1 fp1 => sg_name 1 (cxg_blk c.g s1 H1 _ _ fp1)) (fun s1 H1 C1 cl1 fp1 => sts_nil) (fun s1 H1 C1 cl1 fp1 => se_callTy (call_str_int) os_strG T.n_str (sa_cons (b := true) (se_var 1) (sa_nil)))) (sa_nil)))))
theorem ok_show_order (T : Txt K mg) : Def P w K mg base "show_order" 4 F_show_order 1 [] :=
  def_ok T.f_show_order sc_show_order rfl (fun _ _ _ _ _ _ us hl => match us, hl with | [_], _ => rfl) (b_show_order T)
theorem sc_need_count : FnScope ["count", "most"] ["count", "most"] (defScope s_need_count) := ⟨rfl, rfl, rfl, by decide +kernel, rfl, by decide +kernel, by decide +kernel⟩
theorem b_need_count (T : Txt K mg) (f : Addr) (cdv : Value) (A : Around) (outer : List Env) (s : Shared) (H : Hp) (E : XK) (c : FnCx (cxOf (L2.CX P w) P w K mg base ["count", "most"] "need_count" (defScope s_need_count) f cdv A outer s H E) 1) :
  SSs (cxOf (L2.CX P w) P w K mg base ["count", "most"] "need_count" (defScope s_need_count) f cdv A outer s H E) (defBody s_need_count) r_need_count_1 :=
  ss_one (ss_if (st_not (st_val (se_call (dvs := []) (ok_is_integer T) c.g.gu (c.room.mono (by decide)) (sa_cons (b := false) (se_var 0) (sa_cons (b := false) (se_int) (sa_cons (b := false) (se_var 1) (sa_nil))))))) (ss_one (ss_never)) (ss_nil))
theorem ok_need_count_1 (T : Txt K mg) : Def P w K mg base "need_count" 2 F_need_count 2 ([.int 60]) :=
  def_okD 1 0 T.f_need_count sc_need_count rfl (by simp) rfl (fun _ _ _ _ _ _ _ us its h1 h2 => match us, h1, its, h2 with | [_], _, [_], _ => ⟨_, rfl, rfl⟩) (b_need_count T)
theorem sc_fits_part : FnScope ["count", "value", "rule", "ahead", "one", "other"] ["count", "value"] (defScope s_fits_part) := ⟨rfl, rfl, rfl, by decide +kernel, rfl, by decide +kernel, by decide +kernel⟩
theorem b_fits_part (T : Txt K mg) (f : Addr) (cdv : Value) (A : Around) (outer : List Env) (s : Shared) (H : Hp) (E : XK) (c : FnCx (cxOf (L2.CX P w) P w K mg base ["count", "value", "rule", "ahead", "one", "other"] "fits_part" (defScope s_fits_part) f cdv A outer s H E) 1) :
  SSs (cxOf (L2.CX P w) P w K mg base ["count", "value", "rule", "ahead", "one", "other"] "fits_part" (defScope s_fits_part) f cdv A outer s H E) (defBody s_fits_part) r_fits_part_1 :=
  ss_cons (ss_if (SW.st (sw_or (st_not (st_val (se_isi .tuple (se_var 1) T.n_isinstance T.n_tuple))) (sw_or (st_cmp (op_neA c.room) cs_ne.os (se_callB (call_len) os_len T.n_len (sa_cons (b := true) (se_var 1) (sa_nil))) (se_int) (nomark _)) (sw_or1 (st_not (st_val (se_call (dvs := []) (ok_is_integer T) c.g.gu (c.room.mono (by decide)) (sa_cons (b := false) (se_ix ix_seq os_ix (se_var 1) (se_int) (fun _ _ => rfl)) (sa_cons (b := false) (se_int) (sa_cons (b := false) (se_op op_sub os_sub (se_var 0) (se_int)) (sa_nil))))))))))) (ss_one (ss_ret (se_bl))) (ss_nil))
    (ss_cons (ss_unp (se_var 1) (sg_tup c.g (sgs_cons 2 c.g (sgs_cons 3 c.g (sgs_nil)))))
    (ss_cons (ss_if (SW.st (sw_or (st_not (st_val (se_isi .list (se_var 3) T.n_isinstance T.n_list))) (sw_or1 (st_not (st_val (se_callB (cr_all c.g.calm) os_all T.n_all (sa_cons (b := true) (se_lc [("one", 4)] c.g (si_any (se_var 3)) (by kernel_rfl) (fun s1 H1 C1 cl1 fp1 => sg_name 4 (cxg_blk c.g s1 H1 _ _ fp1)) (fun s1 H1 C1 cl1 fp1 => sts_nil) (fun s1 H1 C1 cl1 fp1 => se_and (se_call (dvs := []) (ok_is_integer T) c.g.gu (c.room.mono (by decide)) (sa_cons (b := false) (se_var 4) (sa_cons (b := false) (se_int) (sa_cons (b := false) (se_op op_sub os_sub (se_var 0) (se_int)) (sa_nil))))) (se_one (se_cmp (op_neA c.room) cs_ne.os (se_var 4) (se_var 2) (nomark _))))) (sa_nil)))))))) (ss_one (ss_ret (se_bl))) (ss_nil))
    (ss_one (ss_ret (se_callB (cr_all c.g.calm) os_all T.n_all (sa_cons (b := true) (se_lc [("one", 4), ("other", 5)] c.g (si_zip T.n_zip (sa_cons (b := false) (se_var 3) (sa_cons (b := false) (se_slL (se_var 3) (sp_some (se_int)) (sp_none)) (sa_nil)))) (by kernel_rfl) (fun s1 H1 C1 cl1 fp1 => sg_tup (cxg_blk c.g s1 H1 _ _ fp1) (sgs_cons 4 (cxg_blk c.g s1 H1 _ _ fp1) (sgs_cons 5 (cxg_blk c.g s1 H1 _ _ fp1) (sgs_nil)))) (fun s1 H1 C1 cl1 fp1 => sts_nil) (fun s1 H1 C1 cl1 fp1 => se_cmp op_lt cs_int.os (se_var 4) (se_var 5) (nomark _))) (sa_nil)))))))
theorem ok_fits_part (T : Txt K mg) : Def P w K mg base "fits_part" 2 F_fits_part 2 [] :=
  def_ok T.f_fits_part sc_fits_part rfl (fun _ _ _ _ _ _ us hl => match us, hl with | [_, _], _ => rfl) (b_fits_part T)
theorem sc_are_parts : FnScope ["count", "value", "part"] ["count", "value"] (defScope s_are_parts) := ⟨rfl, rfl, rfl, by decide +kernel, rfl, by decide +kernel, by decide +kernel⟩
theorem b_are_parts (T : Txt K mg) (f : Addr) (cdv : Value) (A : Around) (outer : List Env) (s : Shared) (H : Hp) (E : XK) (c : FnCx (cxOf (L2.CX P w) P w K mg base ["count", "value", "part"] "are_parts" (defScope s_are_parts) f cdv A outer s H E) 2) :
  SSs (cxOf (L2.CX P w) P w K mg base ["count", "value", "part"] "are_parts" (defScope s_are_parts) f cdv A outer s H E) (defBody s_are_parts) r_are_parts_1 :=
  ss_cons (ss_if (SW.st (sw_or (st_not (st_val (se_isi .list (se_var 1) T.n_isinstance T.n_list))) (sw_or1 (st_cmp (op_gtA c.room) cs_gtA.os (se_callB (call_len) os_len T.n_len (sa_cons (b := true) (se_var 1) (sa_nil))) (se_gint T.c_MOST_PARTS) (nomark _))))) (ss_one (ss_ret (se_bl))) (ss_nil))
    (ss_one (ss_ret (se_callB (cr_all c.g.calm) os_all T.n_all (sa_cons (b := true) (se_lc [("part", 2)] c.g (si_any (se_var 1)) (by kernel_rfl) (fun s1 H1 C1 cl1 fp1 => sg_name 2 (cxg_blk c.g s1 H1 _ _ fp1)) (fun s1 H1 C1 cl1 fp1 => sts_nil) (fun s1 H1 C1 cl1 fp1 => se_and (se_call (dvs := []) (ok_fits_part T) c.g.gu (c.room.mono (by decide)) (sa_cons (b := false) (se_var 0) (sa_cons (b := false) (se_var 2) (sa_nil)))) (se_one (se_cmp (op_neX c.room) cs_neX.os (se_ix ix_seq os_ix (se_var 2) (se_int) (fun _ _ => rfl)) (se_lst (sa_nil)) (nomark _))))) (sa_nil)))))
theorem ok_are_parts (T : Txt K mg) : Def P w K mg base "are_parts" 3 F_are_parts 2 [] :=
  def_ok T.f_are_parts sc_are_parts rfl (fun _ _ _ _ _ _ us hl => match us, hl with | [_, _], _ => rfl) (b_are_parts T)
theorem sc_part_text : FnScope ["part", "rule", "ahead", "one"] ["part"] (defScope s_part_text) := ⟨rfl, rfl, rfl, by decide +kernel, rfl, by decide +kernel, by decide +kernel⟩
theorem b_part_text (T : Txt K mg) (f : Addr) (cdv : Value) (A : Around) (outer : List Env) (s : Shared) (H : Hp) (E : XK) (c : FnCx (cxOf (L2.CX P w) P w K mg base ["part", "rule", "ahead", "one"] "part_text" (defScope s_part_text) f cdv A outer s H E) 0) :
  SSs (cxOf (L2.CX P w) P w K mg base ["part", "rule", "ahead", "one"] "part_text" (defScope s_part_text) f cdv A outer s H E) (defBody s_part_text) r_part_text_1 :=
  ss_cons (ss_unp (se_var 0) (sg_tup c.g (sgs_cons 1 c.g (sgs_cons 2 c.g (sgs_nil)))))
    (ss_one (ss_ret (se_op op_addA os_add (se_op op_addA os_add (se_callTy (call_str_int) os_strG T.n_str (sa_cons (b := true) (se_var 1) (sa_nil))) (se_str)) (se_mt PySem.F.plainAttrs_str PySem.F.slot_str_join PySem.F.type_str_join mt_join om_join (se_str) (sa_cons (b := true) (se_lc [("one", 3)] c.g (si_any (se_var 2)) (by kernel_rfl) (fun s1 H1 C1 cl1 fp1 => sg_name 3 (cxg_blk c.g s1 H1 _ _ fp1)) (fun s1 H1 C1 cl1 fp1 => sts_nil) (fun s1 H1 C1 cl1 fp1 => se_callTy (call_str_int) os_strG T.n_str (sa_cons (b := true) (se_var 3) (sa_nil)))) (sa_nil))))))
theorem ok_part_text (T : Txt K mg) : Def P w K mg base "part_text" 1 F_part_text 1 [] :=
  def_ok T.f_part_text sc_part_text rfl (fun _ _ _ _ _ _ us hl => match us, hl with | [_], _ => rfl) (b_part_text T)
theorem sc_parts_text : FnScope ["parts", "part"] ["parts"] (defScope s_parts_text) := ⟨rfl, rfl, rfl, by decide +kernel, rfl, by decide +kernel, by decide +kernel⟩
theorem b_parts_text (T : Txt K mg) (f : Addr) (cdv : Value) (A : Around) (outer : List Env) (s : Shared) (H : Hp) (E : XK) (c : FnCx (cxOf (L2.CX P w) P w K mg base ["parts", "part"] "parts_text" (defScope s_parts_text) f cdv A outer s H E) 1) :
  SSs (cxOf (L2.CX P w) P w K mg base ["parts", "part"] "parts_text" (defScope s_parts_text) f cdv A outer s H E) (defBody s_parts_text) r_parts_text_1 :=
  ss_one (ss_ret (se_mt PySem.F.plainAttrs_str PySem.F.slot_str_join PySem.F.type_str_join mt_join om_join (se_str) (sa_cons (b := true) (se_lc [("part", 1)] c.g (si_any (se_var 0)) (by kernel_rfl) (fun s1 H1 C1 cl1 fp1 => sg_name 1 (cxg_blk c.g s1 H1 _ _ fp1)) (fun s1 H1 C1 cl1 fp1 => sts_nil) (fun s1 H1 C1 cl1 fp1 => se_call (dvs := []) (ok_part_text T) c.g.gu (c.room.mono (by decide)) (sa_cons (b := false) (se_var 1) (sa_nil)))) (sa_nil))))
theorem ok_parts_text (T : Txt K mg) : Def P w K mg base "parts_text" 2 F_parts_text 1 [] :=
  def_ok T.f_parts_text sc_parts_text rfl (fun _ _ _ _ _ _ us hl => match us, hl with | [_], _ => rfl) (b_parts_text T)
theorem sc_show_parts : FnScope ["count", "parts"] ["count", "parts"] (defScope s_show_parts) := ⟨rfl, rfl, rfl, by decide +kernel, rfl, by decide +kernel, by decide +kernel⟩
theorem b_show_parts (T : Txt K mg) (f : Addr) (cdv : Value) (A : Around) (outer : List Env) (s : Shared) (H : Hp) (E : XK) (c : FnCx (cxOf (L2.CX P w) P w K mg base ["count", "parts"] "show_parts" (defScope s_show_parts) f cdv A outer s H E) 3) :
  SSs (cxOf (L2.CX P w) P w K mg base ["count", "parts"] "show_parts" (defScope s_show_parts) f cdv A outer s H E) (defBody s_show_parts) r_show_parts_1 :=
  ss_cons (ss_expr (se_call (dvs := [.int 60]) (ok_need_count_1 T) c.g.gu (c.room.mono (by decide)) (sa_cons (b := false) (se_var 0) (sa_nil))))
    (ss_cons (ss_if (st_not (st_val (se_call (dvs := []) (ok_are_parts T) c.g.gu (c.room.mono (by decide)) (sa_cons (b := false) (se_var 0) (sa_cons (b := false) (se_var 1) (sa_nil)))))) (ss_one (ss_never)) (ss_nil))
    (ss_one (ss_ret (se_call (dvs := []) (ok_parts_text T) c.g.gu (c.room.mono (by decide)) (sa_cons (b := false) (se_var 1) (sa_nil))))))
theorem ok_show_parts (T : Txt K mg) : Def P w K mg base "show_parts" 4 F_show_parts 2 [] :=
  def_ok T.f_show_parts sc_show_parts rfl (fun _ _ _ _ _ _ us hl => match us, hl with | [_, _], _ => rfl) (b_show_parts T)
theorem sc_is_row : FnScope ["value", "faults"] ["value"] (defScope s_is_row) := ⟨rfl, rfl, rfl, by decide +kernel, rfl, by decide +kernel, by decide +kernel⟩
theorem b_is_row (T : Txt K mg) (f : Addr) (cdv : Value) (A : Around) (outer : List Env) (s : Shared) (H : Hp) (E : XK) (c : FnCx (cxOf (L2.CX P w) P w K mg base ["value", "faults"] "is_row" (defScope s_is_row) f cdv A outer s H E) 1) :
  SSs (cxOf (L2.CX P w) P w K mg base ["value", "faults"] "is_row" (defScope s_is_row) f cdv A outer s H E) (defBody s_is_row) r_is_row_1 :=
  ss_cons (ss_if (SW.st (sw_or (st_not (st_val (se_isi .list (se_var 0) T.n_isinstance T.n_list))) (sw_or1 (st_not (st_chain op_le op_le cs_int cs_int (se_int) (se_callB (call_len) os_len T.n_len (sa_cons (b := true) (se_var 0) (sa_nil))) (se_gint T.c_MOST_RULES)))))) (ss_one (ss_ret (se_bl))) (ss_nil))
    (ss_one (ss_ret (se_callB (cr_all c.g.calm) os_all T.n_all (sa_cons (b := true) (se_lc [("faults", 1)] c.g (si_any (se_var 0)) (by kernel_rfl) (fun s1 H1 C1 cl1 fp1 => sg_name 1 (cxg_blk c.g s1 H1 _ _ fp1)) (fun s1 H1 C1 cl1 fp1 => sts_nil) (fun s1 H1 C1 cl1 fp1 => se_call (dvs := []) (ok_is_integer T) c.g.gu (c.room.mono (by decide)) (sa_cons (b := false) (se_var 1) (sa_cons (b := false) (se_int) (sa_cons (b := false) (se_gint T.c_MOST_FAULTS) (sa_nil)))))) (sa_nil)))))
theorem ok_is_row (T : Txt K mg) : Def P w K mg base "is_row" 2 F_is_row 1 [] :=
  def_ok T.f_is_row sc_is_row rfl (fun _ _ _ _ _ _ us hl => match us, hl with | [_], _ => rfl) (b_is_row T)
theorem sc_is_tableau : FnScope ["value", "row"] ["value"] (defScope s_is_tableau) := ⟨rfl, rfl, rfl, by decide +kernel, rfl, by decide +kernel, by decide +kernel⟩
theorem b_is_tableau (T : Txt K mg) (f : Addr) (cdv : Value) (A : Around) (outer : List Env) (s : Shared) (H : Hp) (E : XK) (c : FnCx (cxOf (L2.CX P w) P w K mg base ["value", "row"] "is_tableau" (defScope s_is_tableau) f cdv A outer s H E) 2) :
  SSs (cxOf (L2.CX P w) P w K mg base ["value", "row"] "is_tableau" (defScope s_is_tableau) f cdv A outer s H E) (defBody s_is_tableau) r_is_tableau_1 :=
  ss_cons (ss_if (SW.st (sw_or (st_not (st_val (se_isi .list (se_var 0) T.n_isinstance T.n_list))) (sw_or1 (st_not (st_chain op_le op_le cs_int cs_int (se_int) (se_callB (call_len) os_len T.n_len (sa_cons (b := true) (se_var 0) (sa_nil))) (se_gint T.c_MOST_CANDIDATES)))))) (ss_one (ss_ret (se_bl))) (ss_nil))
    (ss_one (ss_ret (se_and (se_callB (cr_all c.g.calm) os_all T.n_all (sa_cons (b := true) (se_lc [("row", 1)] c.g (si_any (se_var 0)) (by kernel_rfl) (fun s1 H1 C1 cl1 fp1 => sg_name 1 (cxg_blk c.g s1 H1 _ _ fp1)) (fun s1 H1 C1 cl1 fp1 => sts_nil) (fun s1 H1 C1 cl1 fp1 => se_call (dvs := []) (ok_is_row T) c.g.gu (c.room.mono (by decide)) (sa_cons (b := false) (se_var 1) (sa_nil)))) (sa_nil))) (se_one (se_callB (cr_all c.g.calm) os_all T.n_all (sa_cons (b := true) (se_lc [("row", 1)] c.g (si_any (se_var 0)) (by kernel_rfl) (fun s1 H1 C1 cl1 fp1 => sg_name 1 (cxg_blk c.g s1 H1 _ _ fp1)) (fun s1 H1 C1 cl1 fp1 => sts_nil) (fun s1 H1 C1 cl1 fp1 => se_cmp (op_eqA c.room) cs_eq.os (se_callB (call_len) os_len T.n_len (sa_cons (b := true) (se_var 1) (sa_nil))) (se_callB (call_len) os_len T.n_len (sa_cons (b := true) (se_ix ix_seq os_ix (se_var 0) (se_int) (fun _ _ => rfl)) (sa_nil))) (nomark _))) (sa_nil)))))))
theorem ok_is_tableau (T : Txt K mg) : Def P w K mg base "is_tableau" 3 F_is_tableau 1 [] :=
  def_ok T.f_is_tableau sc_is_tableau rfl (fun _ _ _ _ _ _ us hl => match us, hl with | [_], _ => rfl) (b_is_tableau T)
theorem sc_need_tableau : FnScope ["tableau", "most"] ["tableau", "most"] (defScope s_need_tableau) := ⟨rfl, rfl, rfl, by decide +kernel, rfl, by decide +kernel, by decide +kernel⟩
theorem b_need_tableau (T : Txt K mg) (f : Addr) (cdv : Value) (A : Around) (outer : List Env) (s : Shared) (H : Hp) (E : XK) (c : FnCx (cxOf (L2.CX P w) P w K mg base ["tableau", "most"] "need_tableau" (defScope s_need_tableau) f cdv A outer s H E) 3) :
  SSs (cxOf (L2.CX P w) P w K mg base ["tableau", "most"] "need_tableau" (defScope s_need_tableau) f cdv A outer s H E) (defBody s_need_tableau) r_need_tableau_1 :=
  ss_one (ss_if (SW.st (sw_or (st_not (st_val (se_call (dvs := []) (ok_is_tableau T) c.g.gu (c.room.mono (by decide)) (sa_cons (b := false) (se_var 0) (sa_nil))))) (sw_or1 (st_cmp (op_gtA c.room) cs_gtA.os (se_callB (call_len) os_len T.n_len (sa_cons (b := true) (se_ix ix_seq os_ix (se_var 0) (se_int) (fun _ _ => rfl)) (sa_nil))) (se_var 1) (nomark _))))) (ss_one (ss_never)) (ss_nil))
theorem ok_need_tableau_1 (T : Txt K mg) : Def P w K mg base "need_tableau" 4 F_need_tableau 2 ([.int 60]) :=
  def_okD 1 0 T.f_need_tableau sc_need_tableau rfl (by simp) rfl (fun _ _ _ _ _ _ _ us its h1 h2 => match us, h1, its, h2 with | [_], _, [_], _ => ⟨_, rfl, rfl⟩) (b_need_tableau T)
theorem sc_show_tableau : FnScope ["tableau", "faults", "row"] ["tableau"] (defScope s_show_tableau) := ⟨rfl, rfl, rfl, by decide +kernel, rfl, by decide +kernel, by decide +kernel⟩
theorem b_show_tableau (T : Txt K mg) (f : Addr) (cdv : Value) (A : Around) (outer : List Env) (s : Shared) (H : Hp) (E : XK) (c : FnCx (cxOf (L2.CX P w) P w K mg base ["tableau", "faults", "row"] "show_tableau" (defScope s_show_tableau) f cdv A outer s H E) 4) :
  SSs (cxOf (L2.CX P w) P w K mg base ["tableau", "faults", "row"] "show_tableau" (defScope s_show_tableau) f cdv A outer s H E) (defBody s_show_tableau) r_show_tableau_1 :=
  ss_cons (ss_expr (se_call (dvs := [.int 60]) (ok_need_tableau_1 T) c.g.gu (c.room.mono (by decide)) (sa_cons (b := false) (se_var 0) (sa_nil))))
    (ss_one (ss_ret (se_mt PySem.F.plainAttrs_str PySem.F.slot_str_join PySem.F.type_str_join mt_join om_join (se_str) (sa_cons (b := true) (se_lc [("row", 2)] c.g (si_any (se_var 0)) (by kernel_rfl) (fun s1 H1 C1 cl1 fp1 => sg_name 2 (cxg_blk c.g s1 H1 _ _ fp1)) (fun s1 H1 C1 cl1 fp1 => sts_nil) (fun s1 H1 C1 cl1 fp1 => se_mt PySem.F.plainAttrs_str PySem.F.slot_str_join PySem.F.type_str_join mt_join om_join (se_str) (sa_cons (b := true) (se_lc [("faults", 1)] (cxg_blk c.g s1 H1 _ _ fp1) (si_any (se_var 2)) (by kernel_rfl) (fun s2 H2 C2 cl2 fp2 => sg_name 1 (cxg_blk (cxg_blk c.g s1 H1 _ _ fp1) s2 H2 _ _ fp2)) (fun s2 H2 C2 cl2 fp2 => sts_nil) (fun s2 H2 C2 cl2 fp2 => se_callTy (call_str_int) os_strG T.n_str (sa_cons (b := true) (se_var 1) (sa_nil)))) (sa_nil)))) (sa_nil)))))
theorem ok_show_tableau (T : Txt K mg) : Def P w K mg base "show_tableau" 5 F_show_tableau 1 [] :=
  def_ok T.f_show_tableau sc_show_tableau rfl (fun _ _ _ _ _ _ us hl => match us, hl with | [_], _ => rfl) (b_show_tableau T)
theorem sc_need_string : FnScope ["text"] ["text"] (defScope s_need_string) := ⟨rfl, rfl, rfl, by decide +kernel, rfl, by decide +kernel, by decide +kernel⟩
theorem b_need_string (T : Txt K mg) (f : Addr) (cdv : Value) (A : Around) (outer : List Env) (s : Shared) (H : Hp) (E : XK) (c : FnCx (cxOf (L2.CX P w) P w K mg base ["text"] "need_string" (defScope s_need_string) f cdv A outer s H E) 0) :
  SSs (cxOf (L2.CX P w) P w K mg base ["text"] "need_string" (defScope s_need_string) f cdv A outer s H E) (defBody s_need_string) r_need_string_1 :=
  ss_one (ss_if (st_not (st_val (se_isi .str (se_var 0) T.n_isinstance T.n_str))) (ss_one (ss_never)) (ss_nil))
theorem ok_need_string (T : Txt K mg) : Def P w K mg base "need_string" 1 F_need_string 1 [] :=
  def_ok T.f_need_string sc_need_string rfl (fun _ _ _ _ _ _ us hl => match us, hl with | [_], _ => rfl) (b_need_string T)
theorem sc_number_in : FnScope ["word", "sign"] ["word"] (defScope s_number_in) := ⟨rfl, rfl, rfl, by decide +kernel, rfl, by decide +kernel, by decide +kernel⟩
theorem b_number_in (T : Txt K mg) (f : Addr) (cdv : Value) (A : Around) (outer : List Env) (s : Shared) (H : Hp) (E : XK) (c : FnCx (cxOf (L2.CX P w) P w K mg base ["word", "sign"] "number_in" (defScope s_number_in) f cdv A outer s H E) 0) :
  SSs (cxOf (L2.CX P w) P w K mg base ["word", "sign"] "number_in" (defScope s_number_in) f cdv A outer s H E) (defBody s_number_in) r_number_in_1 :=
  ss_cons (ss_if (SW.st (sw_or (st_not (st_chain op_le op_le cs_int cs_int (se_int) (se_callB (call_len) os_len T.n_len (sa_cons (b := true) (se_var 0) (sa_nil))) (se_gint T.c_MOST_DIGITS))) (sw_or1 (st_not (st_val (se_callB (cr_all c.g.calm) os_all T.n_all (sa_cons (b := true) (se_lc [("sign", 1)] c.g (si_any (se_var 0)) (by kernel_rfl) (fun s1 H1 C1 cl1 fp1 => sg_name 1 (cxg_blk c.g s1 H1 _ _ fp1)) (fun s1 H1 C1 cl1 fp1 => sts_nil) (fun s1 H1 C1 cl1 fp1 => se_cmp (op_inB c.room) cs_inB.os (se_var 1) (se_gstr T.c_DIGITS) rfl)) (sa_nil)))))))) (ss_one (ss_ret (se_non))) (ss_nil))
    (ss_one (ss_ret (se_ifx (SW.st (sw_and (st_cmp (op_eqA c.room) cs_eq.os (se_ix ix_seq os_ix (se_var 0) (se_int) (fun _ _ => rfl)) (se_str) (nomark _)) (sw_and1 (st_cmp (op_neA c.room) cs_ne.os (se_var 0) (se_str) (nomark _))))) (se_non) (se_callTy (call_intS) os_intS T.n_int (sa_cons (b := true) (se_var 0) (sa_nil))))))
theorem ok_number_in (T : Txt K mg) : Def P w K mg base "number_in" 1 F_number_in 1 [] :=
  def_ok T.f_number_in sc_number_in rfl (fun _ _ _ _ _ _ us hl => match us, hl with | [_], _ => rfl) (b_number_in T)
theorem sc_numbers_in : FnScope ["text", "sign", "word"] ["text", "sign"] (defScope s_numbers_in) := ⟨rfl, rfl, rfl, by decide +kernel, rfl, by decide +kernel, by decide +kernel⟩
theorem b_numbers_in (T : Txt K mg) (f : Addr) (cdv : Value) (A : Around) (outer : List Env) (s : Shared) (H : Hp) (E : XK) (c : FnCx (cxOf (L2.CX P w) P w K mg base ["text", "sign", "word"] "numbers_in" (defScope s_numbers_in) f cdv A outer s H E) 1) :
  SSs (cxOf (L2.CX P w) P w K mg base ["text", "sign", "word"] "numbers_in" (defScope s_numbers_in) f cdv A outer s H E) (defBody s_numbers_in) r_numbers_in_1 :=
  ss_one (ss_ret (se_lc [("word", 2)] c.g (si_lst (se_mt PySem.F.plainAttrs_str PySem.F.slot_str_split PySem.F.type_str_split mt_split om_split (se_var 0) (sa_cons (b := true) (se_var 1) (sa_nil)))) (by kernel_rfl) (fun s1 H1 C1 cl1 fp1 => sg_name 2 (cxg_blk c.g s1 H1 _ _ fp1)) (fun s1 H1 C1 cl1 fp1 => sts_nil) (fun s1 H1 C1 cl1 fp1 => se_call (dvs := []) (ok_number_in T) c.g.gu (c.room.mono (by decide)) (sa_cons (b := false) (se_var 2) (sa_nil)))))
theorem ok_numbers_in (T : Txt K mg) : Def P w K mg base "numbers_in" 2 F_numbers_in 2 [] :=
  def_ok T.f_numbers_in sc_numbers_in rfl (fun _ _ _ _ _ _ us hl => match us, hl with | [_, _], _ => rfl) (b_numbers_in T)
theorem sc_need_pieces : FnScope ["pieces"] ["pieces"] (defScope s_need_pieces) := ⟨rfl, rfl, rfl, by decide +kernel, rfl, by decide +kernel, by decide +kernel⟩
theorem b_need_pieces (T : Txt K mg) (f : Addr) (cdv : Value) (A : Around) (outer : List Env) (s : Shared) (H : Hp) (E : XK) (c : FnCx (cxOf (L2.CX P w) P w K mg base ["pieces"] "need_pieces" (defScope s_need_pieces) f cdv A outer s H E) 0) :
  SSs (cxOf (L2.CX P w) P w K mg base ["pieces"] "need_pieces" (defScope s_need_pieces) f cdv A outer s H E) (defBody s_need_pieces) r_need_pieces_1 :=
  ss_one (ss_if (st_cmp (op_inB c.room) cs_inB.os (se_non) (se_var 0) rfl) (ss_one (ss_never)) (ss_nil))
theorem ok_need_pieces (T : Txt K mg) : Def P w K mg base "need_pieces" 1 F_need_pieces 1 [] :=
  def_ok T.f_need_pieces sc_need_pieces rfl (fun _ _ _ _ _ _ us hl => match us, hl with | [_], _ => rfl) (b_need_pieces T)
theorem sc_read_order : FnScope ["text", "found"] ["text"] (defScope s_read_order) := ⟨rfl, rfl, rfl, by decide +kernel, rfl, by decide +kernel, by decide +kernel⟩
theorem b_read_order (T : Txt K mg) (f : Addr) (cdv : Value) (A : Around) (outer : List Env) (s : Shared) (H : Hp) (E : XK) (c : FnCx (cxOf (L2.CX P w) P w K mg base ["text", "found"] "read_order" (defScope s_read_order) f cdv A outer s H E) 2) :
  SSs (cxOf (L2.CX P w) P w K mg base ["text", "found"] "read_order" (defScope s_read_order) f cdv A outer s H E) (defBody s_read_order) r_read_order_1 :=
  ss_cons (ss_expr (se_call (dvs := []) (ok_need_string T) c.g.gu (c.room.mono (by decide)) (sa_cons (b := false) (se_var 0) (sa_nil))))
    (ss_cons (ss_set 1 c.g (se_call (dvs := []) (ok_numbers_in T) c.g.gu (c.room.mono (by decide)) (sa_cons (b := false) (se_var 0) (sa_cons (b := false) (se_str) (sa_nil)))))
    (ss_cons (ss_expr (se_bor (se_call (dvs := []) (ok_need_pieces T) c.g.gu (c.room.mono (by decide)) (sa_cons (b := false) (se_var 1) (sa_nil)))))
    (ss_cons (ss_if (st_not (st_val (se_bor (se_call (dvs := []) (ok_is_order T) c.g.gu (c.room.mono (by decide)) (sa_cons (b := false) (se_var 1) (sa_nil)))))) (ss_one (ss_never)) (ss_nil))
    (ss_one (ss_ret (se_var 1))))))
theorem ok_read_order (T : Txt K mg) : Def P w K mg base "read_order" 3 F_read_order 1 [] :=
  def_ok T.f_read_order sc_read_order rfl (fun _ _ _ _ _ _ us hl => match us, hl with | [_], _ => rfl) (b_read_order T)
theorem sc_part_in : FnScope ["word", "rule", "sign", "rest", "number", "ahead"] ["word"] (defScope s_part_in) := ⟨rfl, rfl, rfl, by decide +kernel, rfl, by decide +kernel, by decide +kernel⟩
theorem b_part_in (T : Txt K mg) (f : Addr) (cdv : Value) (A : Around) (outer : List Env) (s : Shared) (H : Hp) (E : XK) (c : FnCx (cxOf (L2.CX P w) P w K mg base ["word", "rule", "sign", "rest", "number", "ahead"] "part_in" (defScope s_part_in) f cdv A outer s H E) 2) :
  SSs (cxOf (L2.CX P w) P w K mg base ["word", "rule", "sign", "rest", "number", "ahead"] "part_in" (defScope s_part_in) f cdv A outer s H E) (defBody s_part_in) r_part_in_1 :=
  ss_cons (ss_unp (se_mt PySem.F.plainAttrs_str PySem.F.slot_str_partition PySem.F.type_str_partition mt_partition om_part (se_var 0) (sa_cons (b := true) (se_str) (sa_nil))) (sg_tup c.g (sgs_cons 1 c.g (sgs_cons 2 c.g (sgs_cons 3 c.g (sgs_nil))))))
    (ss_cons (ss_par 4 5 true true c.g (se_call (dvs := []) (ok_number_in T) c.g.gu (c.room.mono (by decide)) (sa_cons (b := false) (se_var 1) (sa_nil))) (se_call (dvs := []) (ok_numbers_in T) c.g.gu (c.room.mono (by decide)) (sa_cons (b := false) (se_var 3) (sa_cons (b := false) (se_str) (sa_nil)))))
    (ss_one (ss_ret (se_ifx (SW.st (sw_or (st_cmp (op_eqA c.room) cs_eq.os (se_var 2) (se_str) (nomark _)) (sw_or (st_cmp op_isN cs_isN.os (se_var 4) (se_non) (nomark _)) (sw_or1 (st_cmp (op_inB c.room) cs_inB.os (se_non) (se_var 5) rfl))))) (se_non) (se_tupT (sa_cons (b := false) (se_var 4) (sa_cons (b := true) (se_tre (se_tk 5)) (sa_nil))))))))
theorem ok_part_in (T : Txt K mg) : Def P w K mg base "part_in" 3 F_part_in 1 [] :=
  def_ok T.f_part_in sc_part_in rfl (fun _ _ _ _ _ _ us hl => match us, hl with | [_], _ => rfl) (b_part_in T)
theorem sc_read_parts : FnScope ["count", "text", "found", "word"] ["count", "text"] (defScope s_read_parts) := ⟨rfl, rfl, rfl, by decide +kernel, rfl, by decide +kernel, by decide +kernel⟩
theorem b_read_parts (T : Txt K mg) (f : Addr) (cdv : Value) (A : Around) (outer : List Env) (s : Shared) (H : Hp) (E : XK) (c : FnCx (cxOf (L2.CX P w) P w K mg base ["count", "text", "found", "word"] "read_parts" (defScope s_read_parts) f cdv A outer s H E) 3) :
  SSs (cxOf (L2.CX P w) P w K mg base ["count", "text", "found", "word"] "read_parts" (defScope s_read_parts) f cdv A outer s H E) (defBody s_read_parts) r_read_parts_1 :=
  ss_cons (ss_expr (se_call (dvs := [.int 60]) (ok_need_count_1 T) c.g.gu (c.room.mono (by decide)) (sa_cons (b := false) (se_var 0) (sa_nil))))
    (ss_cons (ss_expr (se_call (dvs := []) (ok_need_string T) c.g.gu (c.room.mono (by decide)) (sa_cons (b := false) (se_var 1) (sa_nil))))
    (ss_cons (ss_set 2 c.g (se_ifx (st_cmp (op_neA c.room) cs_ne.os (se_var 1) (se_str) (nomark _)) (se_lcTr [("word", 3)] c.g (si_lst (se_mt PySem.F.plainAttrs_str PySem.F.slot_str_split PySem.F.type_str_split mt_split om_split (se_var 1) (sa_cons (b := true) (se_str) (sa_nil)))) (by kernel_rfl) (fun s1 H1 C1 cl1 fp1 => sg_name 3 (cxg_blk c.g s1 H1 _ _ fp1)) (fun s1 H1 C1 cl1 fp1 => sts_nil) (fun s1 H1 C1 cl1 fp1 => (se_call (dvs := []) (ok_part_in T) c.g.gu (c.room.mono (by decide)) (sa_cons (b := false) (se_var 3) (sa_nil))))) (se_tre (se_lst (sa_nil)))))
    (ss_cons (ss_expr (se_bor (se_call (dvs := []) (ok_need_pieces T) c.g.gu (c.room.mono (by decide)) (sa_cons (b := false) (se_unT (se_var 2)) (sa_nil)))))
    (ss_cons (ss_if (st_not (st_val (se_bor (se_call (dvs := []) (ok_are_parts T) c.g.gu (c.room.mono (by decide)) (sa_cons (b := false) (se_var 0) (sa_cons (b := false) (se_unT (se_var 2)) (sa_nil))))))) (ss_one (ss_never)) (ss_nil))
    (ss_one (ss_ret (se_var 2)))))))
theorem ok_read_parts (T : Txt K mg) : Def P w K mg base "read_parts" 4 F_read_parts 2 [] :=
  def_ok T.f_read_parts sc_read_parts rfl (fun _ _ _ _ _ _ us hl => match us, hl with | [_, _], _ => rfl) (b_read_parts T)
theorem sc_row_in : FnScope ["word", "found"] ["word"] (defScope s_row_in) := ⟨rfl, rfl, rfl, by decide +kernel, rfl, by decide +kernel, by decide +kernel⟩
theorem b_row_in (T : Txt K mg) (f : Addr) (cdv : Value) (A : Around) (outer : List Env) (s : Shared) (H : Hp) (E : XK) (c : FnCx (cxOf (L2.CX P w) P w K mg base ["word", "found"] "row_in" (defScope s_row_in) f cdv A outer s H E) 2) :
  SSs (cxOf (L2.CX P w) P w K mg base ["word", "found"] "row_in" (defScope s_row_in) f cdv A outer s H E) (defBody s_row_in) r_row_in_1 :=
  ss_cons (ss_set 1 c.g (se_call (dvs := []) (ok_numbers_in T) c.g.gu (c.room.mono (by decide)) (sa_cons (b := false) (se_var 0) (sa_cons (b := false) (se_str) (sa_nil)))))
    (ss_one (ss_ret (se_ifx (st_cmp (op_inB c.room) cs_inB.os (se_non) (se_var 1) rfl) (se_non) (se_var 1))))
theorem ok_row_in (T : Txt K mg) : Def P w K mg base "row_in" 3 F_row_in 1 [] :=
  def_ok T.f_row_in sc_row_in rfl (fun _ _ _ _ _ _ us hl => match us, hl with | [_], _ => rfl) (b_row_in T)
theorem sc_read_tableau : FnScope ["text", "found", "word"] ["text"] (defScope s_read_tableau) := ⟨rfl, rfl, rfl, by decide +kernel, rfl, by decide +kernel, by decide +kernel⟩
theorem b_read_tableau (T : Txt K mg) (f : Addr) (cdv : Value) (A : Around) (outer : List Env) (s : Shared) (H : Hp) (E : XK) (c : FnCx (cxOf (L2.CX P w) P w K mg base ["text", "found", "word"] "read_tableau" (defScope s_read_tableau) f cdv A outer s H E) 3) :
  SSs (cxOf (L2.CX P w) P w K mg base ["text", "found", "word"] "read_tableau" (defScope s_read_tableau) f cdv A outer s H E) (defBody s_read_tableau) r_read_tableau_1 :=
  ss_cons (ss_expr (se_call (dvs := []) (ok_need_string T) c.g.gu (c.room.mono (by decide)) (sa_cons (b := false) (se_var 0) (sa_nil))))
    (ss_cons (ss_setLcTr [("word", 2)] 1 c.g (si_lst (se_mt PySem.F.plainAttrs_str PySem.F.slot_str_split PySem.F.type_str_split mt_split om_split (se_var 0) (sa_cons (b := true) (se_str) (sa_nil)))) (by kernel_rfl) (fun s1 H1 C1 cl1 fp1 => sg_name 2 (cxg_blk c.g s1 H1 _ _ fp1)) (fun s1 H1 C1 cl1 fp1 => sts_nil) (fun s1 H1 C1 cl1 fp1 => (se_tre (se_call (dvs := []) (ok_row_in T) c.g.gu (c.room.mono (by decide)) (sa_cons (b := false) (se_var 2) (sa_nil))))) (sw_true rfl rfl rfl (by decide +kernel)))
    (ss_cons (ss_expr (se_bor (se_call (dvs := []) (ok_need_pieces T) c.g.gu (c.room.mono (by decide)) (sa_cons (b := false) (se_unT (se_var 1)) (sa_nil)))))
    (ss_cons (ss_if (st_not (st_val (se_bor (se_call (dvs := []) (ok_is_tableau T) c.g.gu (c.room.mono (by decide)) (sa_cons (b := false) (se_unT (se_var 1)) (sa_nil)))))) (ss_one (ss_never)) (ss_nil))
    (ss_one (ss_ret (se_var 1))))))
theorem ok_read_tableau (T : Txt K mg) : Def P w K mg base "read_tableau" 4 F_read_tableau 1 [] :=
  def_ok T.f_read_tableau sc_read_tableau rfl (fun _ _ _ _ _ _ us hl => match us, hl with | [_], _ => rfl) (b_read_tableau T)
theorem sc__law_right : FnScope ["_law_purse_here", "_law_order", "_law_count_here", "_law_parts_here", "_law_tableau_here", "_law_before", "_law_words", "_law_rows", "_law_due", "_law_turn", "_law_told", "_law_one", "_law_rule", "_law_ahead", "_law_faults", "_law_row"] ["_law_purse_here"] (defScope s__law_right) := ⟨rfl, rfl, rfl, by decide +kernel, rfl, by decide +kernel, by decide +kernel⟩
theorem b__law_right (T : Txt K mg) (f : Addr) (cdv : Value) (A : Around) (outer : List Env) (s : Shared) (H : Hp) (E : XK) (c : FnCx (cxOf (L2.CX P w) P w K mg base ["_law_purse_here", "_law_order", "_law_count_here", "_law_parts_here", "_law_tableau_here", "_law_before", "_law_words", "_law_rows", "_law_due", "_law_turn", "_law_told", "_law_one", "_law_rule", "_law_ahead", "_law_faults", "_law_row"] "_law_right" (defScope s__law_right) f cdv A outer s H E) 5) :
  SSs (cxOf (L2.CX P w) P w K mg base ["_law_purse_here", "_law_order", "_law_count_here", "_law_parts_here", "_law_tableau_here", "_law_before", "_law_words", "_law_rows", "_law_due", "_law_turn", "_law_told", "_law_one", "_law_rule", "_law_ahead", "_law_faults", "_law_row"] "_law_right" (defScope s__law_right) f cdv A outer s H E) (defBody s__law_right) r__law_right_1 :=
  ss_cons (ss_set 1 c.g (se_sh (se_call (dvs := []) (ok__law_shuffled T) c.g.gu (c.room.mono (by decide)) (sa_cons (b := true) (se_var 0) (sa_cons (b := false) (se_ix ix_seq os_ix (se_lst (sa_cons (b := false) (se_op op_addA os_add (se_int) (se_call (dvs := []) (ok__law_coin T) c.g.gu (c.room.mono (by decide)) (sa_cons (b := true) (se_var 0) (sa_cons (b := false) (se_int) (sa_nil))))) (sa_cons (b := false) (se_int) (sa_nil)))) (se_op op_fdivW os_div (se_call (dvs := []) (ok__law_coin T) c.g.gu (c.room.mono (by decide)) (sa_cons (b := true) (se_var 0) (sa_cons (b := false) (se_int) (sa_nil)))) (se_int)) (fun _ _ => rfl)) (sa_nil))))))
    (ss_cons (ss_set 2 c.g (se_ix ix_seq os_ix (se_lst (sa_cons (b := false) (se_op op_addA os_add (se_int) (se_call (dvs := []) (ok__law_coin T) c.g.gu (c.room.mono (by decide)) (sa_cons (b := true) (se_var 0) (sa_cons (b := false) (se_int) (sa_nil))))) (sa_cons (b := false) (se_int) (sa_nil)))) (se_op op_fdivW os_div (se_call (dvs := []) (ok__law_coin T) c.g.gu (c.room.mono (by decide)) (sa_cons (b := true) (se_var 0) (sa_cons (b := false) (se_int) (sa_nil)))) (se_int)) (fun _ _ => rfl)))
    (ss_cons (ss_par 3 4 true true c.g (se_sh (se_call (dvs := []) (ok__law_parts T) c.g.gu (c.room.mono (by decide)) (sa_cons (b := true) (se_var 0) (sa_cons (b := false) (se_var 2) (sa_cons (b := false) (se_int) (sa_nil)))))) (se_sh (se_call (dvs := []) (ok__law_tableau T) c.g.gu (c.room.mono (by decide)) (sa_cons (b := true) (se_var 0) (sa_nil)))))
    (ss_cons (ss_set 5 c.g (se_callB ((cr_repG c.g.gu (c.room.mono (by decide)))) os_repG T.n_repr (sa_cons (b := true) (se_lst (sa_cons (b := false) (se_var 1) (sa_cons (b := false) (se_var 3) (sa_cons (b := false) (se_var 4) (sa_nil))))) (sa_nil))))
    (ss_cons (ss_shE [6] (ss_setLc [("_law_rule", 12), ("_law_ahead", 13)] 6 c.g (si_any (se_var 3)) (by kernel_rfl) (fun s1 H1 C1 cl1 fp1 => sg_tup (cxg_blk c.g s1 H1 _ _ fp1) (sgs_cons 12 (cxg_blk c.g s1 H1 _ _ fp1) (sgs_cons 13 (cxg_blk c.g s1 H1 _ _ fp1) (sgs_nil)))) (fun s1 H1 C1 cl1 fp1 => sts_nil) (fun s1 H1 C1 cl1 fp1 => se_op op_addA os_add (se_op op_addA os_add (se_callTy (call_str_int) os_strG T.n_str (sa_cons (b := true) (se_var 12) (sa_nil))) (se_str)) (se_mt PySem.F.plainAttrs_str PySem.F.slot_str_join PySem.F.type_str_join mt_join om_join (se_str) (sa_cons (b := true) (se_lc [("_law_one", 11)] (cxg_blk c.g s1 H1 _ _ fp1) (si_any (se_var 13)) (by kernel_rfl) (fun s2 H2 C2 cl2 fp2 => sg_name 11 (cxg_blk (cxg_blk c.g s1 H1 _ _ fp1) s2 H2 _ _ fp2)) (fun s2 H2 C2 cl2 fp2 => sts_nil) (fun s2 H2 C2 cl2 fp2 => se_callTy (call_str_int) os_strG T.n_str (sa_cons (b := true) (se_var 11) (sa_nil)))) (sa_nil)))) (sw_true rfl rfl rfl (by decide +kernel))))
    (ss_cons (ss_shE [7] (ss_setLc [("_law_row", 15)] 7 c.g (si_any (se_var 4)) (by kernel_rfl) (fun s1 H1 C1 cl1 fp1 => sg_name 15 (cxg_blk c.g s1 H1 _ _ fp1)) (fun s1 H1 C1 cl1 fp1 => sts_nil) (fun s1 H1 C1 cl1 fp1 => se_mt PySem.F.plainAttrs_str PySem.F.slot_str_join PySem.F.type_str_join mt_join om_join (se_str) (sa_cons (b := true) (se_lc [("_law_faults", 14)] (cxg_blk c.g s1 H1 _ _ fp1) (si_any (se_var 15)) (by kernel_rfl) (fun s2 H2 C2 cl2 fp2 => sg_name 14 (cxg_blk (cxg_blk c.g s1 H1 _ _ fp1) s2 H2 _ _ fp2)) (fun s2 H2 C2 cl2 fp2 => sts_nil) (fun s2 H2 C2 cl2 fp2 => se_callTy (call_str_int) os_strG T.n_str (sa_cons (b := true) (se_var 14) (sa_nil)))) (sa_nil))) (sw_true rfl rfl rfl (by decide +kernel))))
    (ss_cons (ss_set 8 c.g (se_sh (se_lst (sa_cons (b := false) (se_mt PySem.F.plainAttrs_str PySem.F.slot_str_join PySem.F.type_str_join mt_join om_join (se_str) (sa_cons (b := true) (se_lc [("_law_rule", 12)] c.g (si_any (se_var 1)) (by kernel_rfl) (fun s1 H1 C1 cl1 fp1 => sg_name 12 (cxg_blk c.g s1 H1 _ _ fp1)) (fun s1 H1 C1 cl1 fp1 => sts_nil) (fun s1 H1 C1 cl1 fp1 => se_callTy (call_str_int) os_strG T.n_str (sa_cons (b := true) (se_var 12) (sa_nil)))) (sa_nil))) (sa_cons (b := false) (se_mt PySem.F.plainAttrs_str PySem.F.slot_str_join PySem.F.type_str_join mt_join om_join (se_str) (sa_cons (b := true) (se_var 6) (sa_nil))) (sa_cons (b := false) (se_mt PySem.F.plainAttrs_str PySem.F.slot_str_join PySem.F.type_str_join mt_join om_join (se_str) (sa_cons (b := true) (se_var 7) (sa_nil))) (sa_nil)))))))
    (ss_cons (ss_if (st_cmp (op_neA c.room) cs_ne.os (se_lst (sa_cons (b := false) (se_call (dvs := []) (ok_show_order T) c.g.gu (c.room.mono (by decide)) (sa_cons (b := false) (se_var 1) (sa_nil))) (sa_cons (b := false) (se_call (dvs := []) (ok_show_parts T) c.g.gu (c.room.mono (by decide)) (sa_cons (b := false) (se_var 2) (sa_cons (b := false) (se_var 3) (sa_nil)))) (sa_cons (b := false) (se_call (dvs := []) (ok_show_tableau T) c.g.gu (c.room.mono (by decide)) (sa_cons (b := false) (se_var 4) (sa_nil))) (sa_nil))))) (se_var 8) (nomark _)) (ss_one (ss_ret (se_bl))) (ss_nil))
    (ss_cons (ss_fgB [9, 10] (ss_for c.g (si_rng1 T.n_range (sa_cons (b := true) (se_int) (sa_nil))) (sg_name 9 c.g) (sss_fgE [9, 10] (ss_cons (ss_set 10 c.g (se_lstT (sa_cons (b := true) (se_tre (se_call (dvs := []) (ok_read_order T) c.g.gu (c.room.mono (by decide)) (sa_cons (b := false) (se_ix ix_seq os_ix (se_var 8) (se_int) (fun _ _ => rfl)) (sa_nil)))) (sa_cons (b := true) (se_call (dvs := []) (ok_read_parts T) c.g.gu (c.room.mono (by decide)) (sa_cons (b := false) (se_var 2) (sa_cons (b := false) (se_ix ix_seq os_ix (se_var 8) (se_int) (fun _ _ => rfl)) (sa_nil)))) (sa_cons (b := true) (se_call (dvs := []) (ok_read_tableau T) c.g.gu (c.room.mono (by decide)) (sa_cons (b := false) (se_ix ix_seq os_ix (se_var 8) (se_int) (fun _ _ => rfl)) (sa_nil))) (sa_nil))))))
    (ss_cons (ss_if (SW.st (sw_or (st_bor (st_cmp (op_neA c.room) cs_ne.os (se_callB ((cr_repG c.g.gu (c.room.mono (by decide)))) os_repG T.n_repr (sa_cons (b := true) (se_unT (se_var 10)) (sa_nil))) (se_var 5) (nomark _))) (sw_or1 (st_cmp (op_neA c.room) cs_ne.os (se_callB ((cr_repG c.g.gu (c.room.mono (by decide)))) os_repG T.n_repr (sa_cons (b := true) (se_lst (sa_cons (b := false) (se_var 1) (sa_cons (b := false) (se_var 3) (sa_cons (b := false) (se_var 4) (sa_nil))))) (sa_nil))) (se_var 5) (nomark _))))) (ss_one (ss_ret (se_bl))) (ss_nil))
    (ss_cons (ss_expr (se_wr1 10 0 mt_append pe_str pe_int))
    (ss_cons (ss_expr (se_wr2 10 2 0 mt_append pe_str pe_int pe_int))
    (ss_one (ss_if (st_bor (st_cmp (op_neX c.room) cs_neX.os (se_ix ix_seq os_ix (se_unT (se_var 10)) (se_int) (fun _ _ => rfl)) (se_lst (sa_nil)) (nomark _))) (sss_fgE [10] (ss_one (ss_expr (se_wr3 10 1 0 1 mt_append pe_str pe_int pe_int pe_int)))) (sss_fgE [10] (ss_nil)))))))))))
    (ss_one (ss_ret (se_bl)))))))))))
theorem ok__law_right (T : Txt K mg) : Def P w K mg base "_law_right" 6 F__law_right 1 [] :=
  def_ok T.f__law_right sc__law_right rfl (fun _ _ _ _ _ _ us hl => match us, hl with | [_], _ => rfl) (b__law_right T)
theorem sc_law : FnScope ["_law_script", "_law_k", "_law_purse_here", "_law_turn", "_law_told"] ["_law_script"] (defScope s_law) := ⟨rfl, rfl, rfl, by decide +kernel, rfl, by decide +kernel, by decide +kernel⟩
theorem b_law (T : Txt K mg) (f : Addr) (cdv : Value) (A : Around) (outer : List Env) (s : Shared) (H : Hp) (E : XK) (c : FnCx (cxOf (L2.CX P w) P w K mg base ["_law_script", "_law_k", "_law_purse_here", "_law_turn", "_law_told"] "law" (defScope s_law) f cdv A outer s H E) 6) :
  SSs (cxOf (L2.CX P w) P w K mg base ["_law_script", "_law_k", "_law_purse_here", "_law_turn", "_law_told"] "law" (defScope s_law) f cdv A outer s H E) (defBody s_law) r_law_1 :=
  ss_cons (ss_fgB [1, 2, 3] (ss_for c.g (si_rng1 T.n_range (sa_cons (b := true) (se_callB (call_max2 c.g.calm) os_max T.n_max (sa_cons (b := true) (se_int) (sa_cons (b := true) (se_callB (call_min2 c.g.calm) os_min T.n_min (sa_cons (b := true) (se_int) (sa_cons (b := true) (se_callB (call_len) os_len T.n_len (sa_cons (b := true) (se_var 0) (sa_nil))) (sa_nil)))) (sa_nil)))) (sa_nil))) (sg_name 1 c.g) (sss_fgE [1, 2, 3] (ss_cons (ss_set 2 c.g (se_call (dvs := []) (ok__law_purse T) c.g.gu (c.room.mono (by decide)) (sa_cons (b := false) (se_var 0) (sa_cons (b := false) (se_var 1) (sa_nil)))))
    (ss_one (ss_fgB [3] (ss_for c.g (si_rng1 T.n_range (sa_cons (b := true) (se_int) (sa_nil))) (sg_name 3 c.g) (sss_fgE [3] (ss_one (ss_if (st_not (st_val (se_call (dvs := []) (ok__law_right T) c.g.gu (c.room.mono (by decide)) (sa_cons (b := true) (se_var 2) (sa_nil))))) (ss_one (ss_ret (se_bl))) (ss_nil)))))))))))
    (ss_cons (ss_set 4 c.g (se_lst (sa_cons (b := false) (se_call (dvs := []) (ok_show_parts T) c.g.gu (c.room.mono (by decide)) (sa_cons (b := false) (se_int) (sa_cons (b := false) (se_lst (sa_cons (b := false) (se_tup (sa_cons (b := false) (se_int) (sa_cons (b := false) (se_lst (sa_cons (b := false) (se_int) (sa_nil))) (sa_nil)))) (sa_cons (b := false) (se_tup (sa_cons (b := false) (se_int) (sa_cons (b := false) (se_lst (sa_cons (b := false) (se_int) (sa_cons (b := false) (se_int) (sa_nil)))) (sa_nil)))) (sa_nil)))) (sa_nil)))) (sa_cons (b := false) (se_call (dvs := []) (ok_read_order T) c.g.gu (c.room.mono (by decide)) (sa_cons (b := false) (se_str) (sa_nil))) (sa_cons (b := false) (se_call (dvs := []) (ok_show_tableau T) c.g.gu (c.room.mono (by decide)) (sa_cons (b := false) (se_lst (sa_cons (b := false) (se_lst (sa_cons (b := false) (se_int) (sa_cons (b := false) (se_int) (sa_nil)))) (sa_cons (b := false) (se_lst (sa_cons (b := false) (se_int) (sa_cons (b := false) (se_int) (sa_nil)))) (sa_nil)))) (sa_nil))) (sa_nil))))))
    (ss_cons (ss_expr (se_mut 4 PySem.F.slot_list_append PySem.F.type_list_append mt_append ms_append (sa_cons (b := false) (se_unT (se_call (dvs := []) (ok_read_parts T) c.g.gu (c.room.mono (by decide)) (sa_cons (b := false) (se_int) (sa_cons (b := false) (se_str) (sa_nil))))) (sa_nil))))
    (ss_one (ss_ret (se_and (se_cmp (op_eqA c.room) cs_eq.os (se_var 4) (se_lst (sa_cons (b := false) (se_str) (sa_cons (b := false) (se_lst (sa_cons (b := false) (se_int) (sa_cons (b := false) (se_int) (sa_cons (b := false) (se_int) (sa_nil))))) (sa_cons (b := false) (se_str) (sa_cons (b := false) (se_lst (sa_nil)) (sa_nil)))))) (nomark _)) (se_one (se_cmp (op_eqA c.room) cs_eq.os (se_call (dvs := []) (ok_show_parts T) c.g.gu (c.room.mono (by decide)) (sa_cons (b := false) (se_int) (sa_cons (b := false) (se_lst (sa_nil)) (sa_nil)))) (se_str) (nomark _))))))))
end
end Law_strictranks_k54_texts_written_and_read
end
section
set_option Elab.async false
set_option linter.all false
set_option maxRecDepth 100000
set_option maxHeartbeats 0
namespace Law_strictranks_k54_texts_written_and_read
open PySem PySem.Spec PyProof.Rows L2 L2.VL L2.TX
theorem txt {K : PySem.W.Frag} {h : Heap} {mg : Str → Option Value} (X : K.In h) (G : h.Ns mainGlobals mg) (c : He.SaysD fa fn K) : Txt K mg where
  n_abs := He.free_ok X G (c.fact 30 (f := .free "abs") rfl)
  n_all := He.free_ok X G (c.fact 31 (f := .free "all") rfl)
  n_bool := He.free_ok X G (c.fact 32 (f := .free "bool") rfl)
  n_int := He.free_ok X G (c.fact 33 (f := .free "int") rfl)
  n_isinstance := He.free_ok X G (c.fact 34 (f := .free "isinstance") rfl)
  n_len := He.free_ok X G (c.fact 35 (f := .free "len") rfl)
  n_list := He.free_ok X G (c.fact 36 (f := .free "list") rfl)
  n_max := He.free_ok X G (c.fact 37 (f := .free "max") rfl)
  n_min := He.free_ok X G (c.fact 38 (f := .free "min") rfl)
  n_range := He.free_ok X G (c.fact 39 (f := .free "range") rfl)
  n_repr := He.free_ok X G (c.fact 40 (f := .free "repr") rfl)
  n_set := He.free_ok X G (c.fact 41 (f := .free "set") rfl)
  n_sorted := He.free_ok X G (c.fact 42 (f := .free "sorted") rfl)
  n_str := He.free_ok X G (c.fact 43 (f := .free "str") rfl)
  n_tuple := He.free_ok X G (c.fact 44 (f := .free "tuple") rfl)
  n_zip := He.free_ok X G (c.fact 45 (f := .free "zip") rfl)
  c_DIGITS := He.str_ok X G (c.fact 46 (f := .str "DIGITS" "0123456789") rfl)
  c_MOST_CANDIDATES := He.int_ok X G (c.fact 47 (f := .int "MOST_CANDIDATES" 30) rfl)
  c_MOST_DIGITS := He.int_ok X G (c.fact 48 (f := .int "MOST_DIGITS" 40) rfl)
  c_MOST_FAULTS := He.int_ok X G (c.fact 49 (f := .int "MOST_FAULTS" 1000000000000000000000000000000) rfl)
  c_MOST_PARTS := He.int_ok X G (c.fact 50 (f := .int "MOST_PARTS" 400) rfl)
  c_MOST_RULES := He.int_ok X G (c.fact 51 (f := .int "MOST_RULES" 60) rfl)
  f__law_purse := ⟨_, (c.def_ 0 (d := d__law_purse) rfl).imp fun fd F => ⟨He.glo_ok X G (c.fact 0 (f := .glo "_law_purse") rfl), F⟩⟩
  f__law_coin := ⟨_, (c.def_ 1 (d := d__law_coin) rfl).imp fun fd F => ⟨He.glo_ok X G (c.fact 1 (f := .glo "_law_coin") rfl), F⟩⟩
  f__law_shuffled := ⟨_, (c.def_ 2 (d := d__law_shuffled) rfl).imp fun fd F => ⟨He.glo_ok X G (c.fact 2 (f := .glo "_law_shuffled") rfl), F⟩⟩
  f__law_parts := ⟨_, (c.def_ 3 (d := d__law_parts) rfl).imp fun fd F => ⟨He.glo_ok X G (c.fact 3 (f := .glo "_law_parts") rfl), F⟩⟩
  f__law_tableau := ⟨_, (c.def_ 4 (d := d__law_tableau) rfl).imp fun fd F => ⟨He.glo_ok X G (c.fact 4 (f := .glo "_law_tableau") rfl), F⟩⟩
  f_is_integer := ⟨_, (c.def_ 5 (d := d_is_integer) rfl).imp fun fd F => ⟨He.glo_ok X G (c.fact 5 (f := .glo "is_integer") rfl), F⟩⟩
  f_is_order := ⟨_, (c.def_ 6 (d := d_is_order) rfl).imp fun fd F => ⟨He.glo_ok X G (c.fact 6 (f := .glo "is_order") rfl), F⟩⟩
  f_need_order := ⟨_, (c.def_ 7 (d := d_need_order) rfl).imp fun fd F => ⟨He.glo_ok X G (c.fact 7 (f := .glo "need_order") rfl), F⟩⟩
  f_show_order := ⟨_, (c.def_ 8 (d := d_show_order) rfl).imp fun fd F => ⟨He.glo_ok X G (c.fact 8 (f := .glo "show_order") rfl), F⟩⟩
  f_need_count := ⟨_, (c.def_ 9 (d := d_need_count) rfl).imp fun fd F => ⟨He.glo_ok X G (c.fact 9 (f := .glo "need_count") rfl), F⟩⟩
  f_fits_part := ⟨_, (c.def_ 10 (d := d_fits_part) rfl).imp fun fd F => ⟨He.glo_ok X G (c.fact 10 (f := .glo "fits_part") rfl), F⟩⟩
  f_are_parts := ⟨_, (c.def_ 11 (d := d_are_parts) rfl).imp fun fd F => ⟨He.glo_ok X G (c.fact 11 (f := .glo "are_parts") rfl), F⟩⟩
  f_part_text := ⟨_, (c.def_ 12 (d := d_part_text) rfl).imp fun fd F => ⟨He.glo_ok X G (c.fact 12 (f := .glo "part_text") rfl), F⟩⟩
  f_parts_text := ⟨_, (c.def_ 13 (d := d_parts_text) rfl).imp fun fd F => ⟨He.glo_ok X G (c.fact 13 (f := .glo "parts_text") rfl), F⟩⟩
  f_show_parts := ⟨_, (c.def_ 14 (d := d_show_parts) rfl).imp fun fd F => ⟨He.glo_ok X G (c.fact 14 (f := .glo "show_parts") rfl), F⟩⟩
  f_is_row := ⟨_, (c.def_ 15 (d := d_is_row) rfl).imp fun fd F => ⟨He.glo_ok X G (c.fact 15 (f := .glo "is_row") rfl), F⟩⟩
  f_is_tableau := ⟨_, (c.def_ 16 (d := d_is_tableau) rfl).imp fun fd F => ⟨He.glo_ok X G (c.fact 16 (f := .glo "is_tableau") rfl), F⟩⟩
  f_need_tableau := ⟨_, (c.def_ 17 (d := d_need_tableau) rfl).imp fun fd F => ⟨He.glo_ok X G (c.fact 17 (f := .glo "need_tableau") rfl), F⟩⟩
  f_show_tableau := ⟨_, (c.def_ 18 (d := d_show_tableau) rfl).imp fun fd F => ⟨He.glo_ok X G (c.fact 18 (f := .glo "show_tableau") rfl), F⟩⟩
  f_need_string := ⟨_, (c.def_ 19 (d := d_need_string) rfl).imp fun fd F => ⟨He.glo_ok X G (c.fact 19 (f := .glo "need_string") rfl), F⟩⟩
  f_number_in := ⟨_, (c.def_ 20 (d := d_number_in) rfl).imp fun fd F => ⟨He.glo_ok X G (c.fact 20 (f := .glo "number_in") rfl), F⟩⟩
  f_numbers_in := ⟨_, (c.def_ 21 (d := d_numbers_in) rfl).imp fun fd F => ⟨He.glo_ok X G (c.fact 21 (f := .glo "numbers_in") rfl), F⟩⟩
  f_need_pieces := ⟨_, (c.def_ 22 (d := d_need_pieces) rfl).imp fun fd F => ⟨He.glo_ok X G (c.fact 22 (f := .glo "need_pieces") rfl), F⟩⟩
  f_read_order := ⟨_, (c.def_ 23 (d := d_read_order) rfl).imp fun fd F => ⟨He.glo_ok X G (c.fact 23 (f := .glo "read_order") rfl), F⟩⟩
  f_part_in := ⟨_, (c.def_ 24 (d := d_part_in) rfl).imp fun fd F => ⟨He.glo_ok X G (c.fact 24 (f := .glo "part_in") rfl), F⟩⟩
  f_read_parts := ⟨_, (c.def_ 25 (d := d_read_parts) rfl).imp fun fd F => ⟨He.glo_ok X G (c.fact 25 (f := .glo "read_parts") rfl), F⟩⟩
  f_row_in := ⟨_, (c.def_ 26 (d := d_row_in) rfl).imp fun fd F => ⟨He.glo_ok X G (c.fact 26 (f := .glo "row_in") rfl), F⟩⟩
  f_read_tableau := ⟨_, (c.def_ 27 (d := d_read_tableau) rfl).imp fun fd F => ⟨He.glo_ok X G (c.fact 27 (f := .glo "read_tableau") rfl), F⟩⟩
  f__law_right := ⟨_, (c.def_ 28 (d := d__law_right) rfl).imp fun fd F => ⟨He.glo_ok X G (c.fact 28 (f := .glo "_law_right") rfl), F⟩⟩
  f_law := ⟨_, (c.def_ 29 (d := d_law) rfl).imp fun fd F => ⟨He.glo_ok X G (c.fact 29 (f := .glo "law") rfl), F⟩⟩
end Law_strictranks_k54_texts_written_and_read
open PySem PySem.W PySem.Calls PyProof.Rows
theorem Law_strictranks_k54_texts_written_and_read.holds (hspec : ∀ ns : List Int, ns.length ≤ 63 → L2.VL.FRes.post (Law_strictranks_k54_texts_written_and_read.F_law [L2.VL.shA (.lst (ns.map fun n => .con (.int n)))]) (fun d _ _ => d = .bl true) fun _ _ => False) : PySem.Challenge.rw_strictranks_k54_texts_written_and_read.Holds := by
  w_on; o_law
  refine HandSHeadRun.head_any (r := OpenLaw.row PySem.Challenge.rw_strictranks_k54_texts_written_and_read) (q := view (OpenLaw.row PySem.Challenge.rw_strictranks_k54_texts_written_and_read).prog [46]) (H := Law_strictranks_k54_texts_written_and_read.hk) (ob := Law_strictranks_k54_texts_written_and_read.ob) (M := 3112) (loose := Law_strictranks_k54_texts_written_and_read.loose) (d := HandSHeadRun.topDef (OpenLaw.row PySem.Challenge.rw_strictranks_k54_texts_written_and_read).prog 46) (kwd := []) Law_strictranks_k54_texts_written_and_read.ob_eq
    (by kernel_rfl) (fun s => by kernel_rfl) Law_strictranks_k54_texts_written_and_read.run (by kernel_rfl) (by kernel_rfl) (by kernel_rfl) (by rfl) (by first | assumption | decide +kernel) (by decide +kernel) ⟨rfl, rfl, rfl, rfl, rfl, by decide +kernel⟩ ?hw ?hc
  case hw => w_witness2
  case hc =>
    refine L2.VL.walkG (l := PySem.Challenge.rw_strictranks_k54_texts_written_and_read) (n := 63) (k := 7) (x := "_law_script") rfl (by decide) (by kernel_rfl) ⟨rfl, by decide, by decide⟩ ?_
    intro w mg fa h Y G hmg0
    obtain ⟨K, KX, c⟩ := Y
    have hmg : mg ("law" : PySem.Str) = some (.ref fa) := by
      have e : (HandSHeadRun.topDef (OpenLaw.row PySem.Challenge.rw_strictranks_k54_texts_written_and_read).prog 46).name = ("law" : PySem.Str) := by kernel_rfl
      rw [← e]
      exact hmg0
    have T := Law_strictranks_k54_texts_written_and_read.txt KX G c
    obtain ⟨f, fd, hm, F⟩ := T.f_law.ex
    rw [hmg] at hm
    cases hm
    have b := L2.FunD.bindsA (ps := ["_law_script"]) F fun _ _ _ _ _ _ us hl => match us, hl with | [_], _ => rfl
    refine ⟨K, fd, Law_strictranks_k54_texts_written_and_read.F_law, KX, fun s v => b s [v] rfl, fun H a ns hl hS => L2.VL.law_sp hS (hspec ns hl) (fun _ _ h => absurd h (L2.VL.tbk_none rfl)), fun base => ?_⟩
    exact L2.VL.fn_ok F Law_strictranks_k54_texts_written_and_read.sc_law (fun cdv A outer s H E c => Law_strictranks_k54_texts_written_and_read.b_law T fa cdv A outer s H E c)
end
section
set_option Elab.async false
set_option linter.all false
set_option maxRecDepth 100000
set_option autoImplicit false
noncomputable section
namespace Law_strictranks_k54_texts_written_and_read
open PySem PySem.Spec PyProof.Rows L2 L2.VL L2.TX
def g__law_purse (script : (List Int)) (k : Int) : Option ((List Int)) :=
  (if (decide (k < (script.length : Int))) = true then (ixL script k).bind fun x => some x else some 0).bind fun x_1 =>
  (modI (if x_1 < 0 then -x_1 else x_1) (100000000000000000000000000000000000000000 + 37)).bind fun x_2 => some [(if x_1 - 1000000000000000000 > 0 then x_1 - 1000000000000000000 else 0), (x_2 + (90001 * k)) + 17, 0]
def g__law_coin (purse_here : (List Int)) (many : Int) : Option (Int × (List Int)) :=
  (ixL purse_here 0).bind fun x =>
  (if (decide (x > 0)) = true then (ixL purse_here 0).bind fun x_1 =>
  (modI x_1 many).bind fun x_2 =>
  (ixL purse_here 0).bind fun x_3 =>
  (divI x_3 many).bind fun x_4 =>
  (setL purse_here 0 x_4).bind fun purse_here_1 => some (x_2, purse_here_1) else (ixL purse_here 2).bind fun x_5 =>
  (setL purse_here 2 (x_5 + 1)).bind fun purse_here_2 =>
  (ixL purse_here_2 1).bind fun x_6 =>
  (ixL purse_here_2 2).bind fun x_7 =>
  (powN (x_6 + (15485863 * x_7)) 3).bind fun x_8 =>
  (modI x_8 (10000000000000000000000000000000000000000000 + 29)).bind fun x_9 =>
  (ixL purse_here_2 2).bind fun x_10 =>
  (powN (x_9 + (49979687 * x_10)) 3).bind fun x_11 =>
  (modI x_11 (1000000000000000000000000000000000000000000000 + 9)).bind fun x_12 =>
  (modI (x_12 / 524287) many).bind fun x_13 => some (x_13, purse_here_2))
def g__law_shuffled_b1  (s' : ((List Int) × (List Int) × (List Int))) (turn : Int) : Option (((List Int) × (List Int) × (List Int))) :=
  (g__law_coin s'.1 (s'.2.1.length : Int)).bind fun x =>
  (popL s'.2.1 x.1).bind fun x_1 =>
  (appL s'.2.2 x_1.1).bind fun found => some (x.2, x_1.2, found)
def g__law_shuffled (purse_here : (List Int)) (count_here : Int) : Option ((List Int) × (List Int)) :=
  (lrg count_here).bind fun left =>
  (rng 0 count_here).bind fun r =>
  (fo (fun s turn => g__law_shuffled_b1 s turn) r (purse_here, left, [])).bind fun s'_1 => some (s'_1.2.2, s'_1.1)
def g__law_parts_b2 (count_here : Int) (s'_1 : ((List Int) × (List Int))) (step : Int) : Option (((List Int) × (List Int))) :=
  (g__law_coin s'_1.1 count_here).bind fun x_5 =>
  (appL s'_1.2 x_5.1).bind fun ahead => some (x_5.2, ahead)
def g__law_parts_b1 (count_here : Int) (s' : ((List Int) × (List (Int × (List Int))))) (turn : Int) : Option (((List Int) × (List (Int × (List Int))))) :=
  (g__law_coin s'.1 count_here).bind fun rule =>
  (g__law_coin rule.2 2).bind fun x_2 =>
  (ixL [3, 12] x_2.1).bind fun x_3 =>
  (g__law_coin x_2.2 x_3).bind fun x_4 =>
  (rng 0 (1 + x_4.1)).bind fun r_1 =>
  (fo (fun s step => g__law_parts_b2 count_here s step) r_1 (x_4.2, [])).bind fun s'_2 =>
  (lcC (fun one => some (!(decide (one = rule.1)))) (fun one => some one) s'_2.2).bind fun x_6 =>
  (ssS x_6).bind fun some' =>
  (appL s'.2 (rule.1, (if (!(decide (some' = []))) = true then some' else [(if (decide (rule.1 > 0)) = true then 0 else 1)]))).bind fun found =>
  (g__law_coin s'_2.1 6).bind fun x_7 =>
  (if (decide (x_7.1 = 0)) = true then (ixL found 0).bind fun x_8 =>
  (ixL found 0).bind fun x_9 =>
  (appL found (x_8.1, x_9.2)).bind fun found_1 => some found_1 else some found).bind fun found_2 => some (x_7.2, found_2)
def g__law_parts (purse_here : (List Int)) (count_here : Int) (most : Int) : Option ((List (Int × (List Int))) × (List Int)) :=
  (g__law_coin purse_here (most + 1)).bind fun x =>
  (mulI x.1 (if (decide (count_here > 1)) = true then 1 else 0)).bind fun x_1 =>
  (rng 0 x_1).bind fun r =>
  (fo (fun s turn => g__law_parts_b1 count_here s turn) r (x.2, [])).bind fun s'_3 => some (s'_3.2, s'_3.1)
def g__law_tableau_b3 (count_here_1 : Int) (most : Int) (s' : ((List Int) × (List (List Int)))) (candidate : Int) : Option (((List Int) × (List (List Int)))) :=
  (rng 0 count_here_1).bind fun r_1 =>
  (lcXC (fun t rule => some (true, t)) (fun t rule =>
  (g__law_coin t most).bind fun x_3 => some (x_3.1, x_3.2)) r_1 s'.1).bind fun x_4 =>
  (appL s'.2 x_4.1).bind fun found => some (x_4.2, found)
def g__law_tableau (purse_here : (List Int)) : Option ((List (List Int)) × (List Int)) :=
  (g__law_coin purse_here 6).bind fun way =>
  (g__law_coin way.2 6).bind fun x =>
  (g__law_coin x.2 6).bind fun x_1 =>
  lt (1 + x.1 : Int) fun count_here =>
  lt (1 + x_1.1 : Int) fun many =>
  (if (decide (way.1 = 4)) = true then some 60 else some count_here).bind fun count_here_1 =>
  (if (decide (way.1 = 5)) = true then some 30 else some many).bind fun many_1 =>
  (ixL [3, 11, 1000000000000000000000000000000 + 1, 1000000000000000000000000000000 + 1, 11, 3] way.1).bind fun most =>
  (rng 0 many_1).bind fun r =>
  (fo (fun s candidate => g__law_tableau_b3 count_here_1 most s candidate) r (x_1.2, [])).bind fun s'_1 => some (s'_1.2, s'_1.1)
def g_is_integer (value : D) (low : Int) (high : (Option Int)) : Option (Bool) :=
  (isU .int value).bind fun b =>
  (if (!b) = true then some true else ((isU .bool value).bind fun b_1 => some b_1)).bind fun b_2 =>
  (if b_2 = true then some false else (leC (TX.rI low) value).bind fun b_3 =>
  (if b_3 = true then ((if high.isNone = true then some true else ((high).bind fun x =>
  (leC value (TX.rI x)).bind fun b_4 => some b_4)).bind fun b_5 => some b_5) else some false).bind fun b_6 => some b_6)
def g_is_order (value : D) : Option (Bool) :=
  (isU .list value).bind fun b =>
  (if (!b) = true then some true else ((lenU value).bind fun x => some (!((decide (1 ≤ x)) && (decide (x ≤ 60)))))).bind fun b_1 =>
  (if b_1 = true then some false else (anyOf value).bind fun ys =>
  (lcC (fun rule => some true) (fun rule =>
  (g_is_integer rule 0 none).bind fun x_1 => some x_1) ys).bind fun x_2 =>
  (if (x_2.all id) = true then (((asL asI) value).bind fun x_3 =>
  (lenU value).bind fun x_4 =>
  (lrg x_4).bind fun x_5 => some (decide (sortI x_3 = x_5))) else some false).bind fun b_2 => some b_2)
def g_need_order (order : (List Int)) (count : Unit) : Option (Unit) :=
  (g_is_order ((rL rI) order)).bind fun x =>
  (if ((!x) || (false && (!(decide (some (order.length : Int) = none))))) = true then none else some ())
def g_show_order (order : (List Int)) : Option ((List Nat)) :=
  (g_need_order order ()).bind fun x =>
  (lcC (fun rule => some true) (fun rule =>
  (strI rule).bind fun x_1 => some x_1) order).bind fun x_2 =>
  (joinS [62] x_2).bind fun res => some res
def g_need_count (count : Int) (most : Int) : Option (Unit) :=
  (g_is_integer (TX.rI count) 1 (some most)).bind fun x =>
  (if (!x) = true then none else some ())
def g_fits_part (count : Int) (value : D) : Option (Bool) :=
  (isU .tuple value).bind fun b =>
  (if (!b) = true then some true else ((lenU value).bind fun x =>
  (if (!(decide (x = 2))) = true then some true else ((ixU value 0).bind fun x_1 =>
  (g_is_integer x_1 0 (some (count - 1))).bind fun x_2 => some (!x_2))).bind fun b_1 => some b_1)).bind fun b_2 =>
  (if b_2 = true then some false else ((asP asU asU) value).bind fun x_3 =>
  (isU .list x_3.2).bind fun b_3 =>
  (if (!b_3) = true then some true else ((anyOf x_3.2).bind fun ys =>
  (lcC (fun one => some true) (fun one =>
  (g_is_integer one 0 (some (count - 1))).bind fun x_4 =>
  (if x_4 = true then ((eqD one x_3.1).bind fun b_4 => some (!b_4)) else some false).bind fun b_5 => some b_5) ys).bind fun x_5 => some (!(x_5.all id)))).bind fun b_6 =>
  (if b_6 = true then some false else ((asL asU) x_3.2).bind fun x_6 =>
  ((asL asU) x_3.2).bind fun x_7 =>
  (lcC (fun p => some true) (fun p =>
  (ltC p.1 p.2).bind fun b_7 => some b_7) (x_7.zip (cutL x_6 (some 1) none))).bind fun x_8 => some (x_8.all id)))
def g_are_parts (count : Int) (value : D) : Option (Bool) :=
  (isU .list value).bind fun b =>
  (if (!b) = true then some true else ((lenU value).bind fun x => some (decide (x > 400)))).bind fun b_1 =>
  (if b_1 = true then some false else (anyOf value).bind fun ys =>
  (lcC (fun part => some true) (fun part =>
  (g_fits_part count part).bind fun x_1 =>
  (if x_1 = true then ((ixU part 1).bind fun x_2 =>
  (neX x_2 (rL rU [])).bind fun b_2 => some b_2) else some false).bind fun b_3 => some b_3) ys).bind fun x_3 => some (x_3.all id))
def g_part_text (part : (Int × (List Int))) : Option ((List Nat)) :=
  (strI part.1).bind fun x =>
  (catS x [60]).bind fun x_1 =>
  (lcC (fun one => some true) (fun one =>
  (strI one).bind fun x_2 => some x_2) part.2).bind fun x_3 =>
  (joinS [44] x_3).bind fun x_4 =>
  (catS x_1 x_4).bind fun x_5 => some x_5
def g_parts_text (parts : (List (Int × (List Int)))) : Option ((List Nat)) :=
  (lcC (fun part => some true) (fun part =>
  (g_part_text part).bind fun x => some x) parts).bind fun x_1 =>
  (joinS [32] x_1).bind fun res => some res
def g_show_parts (count : Int) (parts : (List (Int × (List Int)))) : Option ((List Nat)) :=
  (g_need_count count 60).bind fun x =>
  (g_are_parts count ((rL (rP rI (rL rI))) parts)).bind fun x_1 =>
  (if (!x_1) = true then none else (g_parts_text parts).bind fun res => some res)
def g_is_row (value : D) : Option (Bool) :=
  (isU .list value).bind fun b =>
  (if (!b) = true then some true else ((lenU value).bind fun x => some (!((decide (1 ≤ x)) && (decide (x ≤ 60)))))).bind fun b_1 =>
  (if b_1 = true then some false else (anyOf value).bind fun ys =>
  (lcC (fun faults => some true) (fun faults =>
  (g_is_integer faults 0 (some 1000000000000000000000000000000)).bind fun x_1 => some x_1) ys).bind fun x_2 => some (x_2.all id))
def g_is_tableau (value : D) : Option (Bool) :=
  (isU .list value).bind fun b =>
  (if (!b) = true then some true else ((lenU value).bind fun x => some (!((decide (1 ≤ x)) && (decide (x ≤ 30)))))).bind fun b_1 =>
  (if b_1 = true then some false else (anyOf value).bind fun ys =>
  (lcC (fun row => some true) (fun row =>
  (g_is_row row).bind fun x_1 => some x_1) ys).bind fun x_2 =>
  (if (x_2.all id) = true then ((anyOf value).bind fun ys_1 =>
  (lcC (fun row_1 => some true) (fun row_1 =>
  (lenU row_1).bind fun x_3 =>
  (ixU value 0).bind fun x_4 =>
  (lenU x_4).bind fun x_5 => some (decide (x_3 = x_5))) ys_1).bind fun x_6 => some (x_6.all id)) else some false).bind fun b_2 => some b_2)
def g_need_tableau (tableau : (List (List Int))) (most : Int) : Option (Unit) :=
  (g_is_tableau ((rL (rL rI)) tableau)).bind fun x =>
  (if (!x) = true then some true else ((ixL tableau 0).bind fun x_1 => some (decide ((x_1.length : Int) > most)))).bind fun b =>
  (if b = true then none else some ())
def g_show_tableau (tableau : (List (List Int))) : Option ((List Nat)) :=
  (g_need_tableau tableau 60).bind fun x =>
  (lcC (fun row => some true) (fun row =>
  (lcC (fun faults => some true) (fun faults =>
  (strI faults).bind fun x_1 => some x_1) row).bind fun x_2 =>
  (joinS [44] x_2).bind fun x_3 => some x_3) tableau).bind fun x_4 =>
  (joinS [47] x_4).bind fun res => some res
def g_need_string (text : (List Nat)) : Option (Unit) :=
  (if (!true) = true then none else some ())
def g_number_in (word : (List Nat)) : Option ((Option Int)) :=
  (lenS word).bind fun x =>
  (if (!((decide (1 ≤ x)) && (decide (x ≤ 40)))) = true then some true else ((lcC (fun sign => some true) (fun sign => some (inTx sign [48, 49, 50, 51, 52, 53, 54, 55, 56, 57])) (chs word)).bind fun x_1 => some (!(x_1.all id)))).bind fun b =>
  (if b = true then some none else (ixS word 0).bind fun x_2 =>
  (if ((decide (x_2 = [48])) && (!(decide (word = [48])))) = true then some none else (intS word).bind fun x_3 => some (some x_3)).bind fun x_4 => some x_4)
def g_numbers_in (text : (List Nat)) (sign : (List Nat)) : Option ((List (Option Int))) :=
  (splitT text sign).bind fun x =>
  (lcC (fun word => some true) (fun word =>
  (g_number_in word).bind fun x_1 => some x_1) x).bind fun res => some res
def g_need_pieces (pieces : (List D)) : Option (Unit) :=
  (inU (rN ()) pieces).bind fun b =>
  (if b = true then none else some ())
def g_read_order (text : (List Nat)) : Option ((List (Option Int))) :=
  (g_need_string text).bind fun x =>
  (g_numbers_in text [62]).bind fun found =>
  (g_need_pieces (found.map (rO rI))).bind fun x_1 =>
  (g_is_order ((rL (rO rI)) found)).bind fun x_2 =>
  (if (!x_2) = true then none else some found)
def g_part_in (word : (List Nat)) : Option ((Option ((Option Int) × (List (Option Int))))) :=
  (partT word [60]).bind fun p =>
  (g_number_in p.1).bind fun number =>
  (g_numbers_in p.2.2 [44]).bind fun ahead =>
  (if ((decide (p.2.1 = [])) || (number.isNone || (decide (none ∈ ahead)))) = true then some none else some (some (number, ahead)))
def g_read_parts (count : Int) (text : (List Nat)) : Option ((List ((Option Int) × (List (Option Int))))) :=
  (g_need_count count 60).bind fun x =>
  (g_need_string text).bind fun x_1 =>
  (if (!(decide (text = []))) = true then (splitT text [32]).bind fun x_2 =>
  (lcC (fun (word : (List Nat)) => some true) (fun (word : (List Nat)) => (g_part_in word).bind fun x_3 =>
  (x_3).bind fun x_4 => some (x_4 : ((Option Int) × (List (Option Int))))) x_2).bind fun found => some (found : (List ((Option Int) × (List (Option Int))))) else some ([] : (List ((Option Int) × (List (Option Int)))))).bind fun found_1 =>
  (g_need_pieces (found_1.map (rP (rO rI) (rL (rO rI))))).bind fun x_5 =>
  (g_are_parts count ((rL (rP (rO rI) (rL (rO rI)))) found_1)).bind fun x_6 =>
  (if (!x_6) = true then none else some found_1)
def g_row_in (word : (List Nat)) : Option ((Option (List (Option Int)))) :=
  (g_numbers_in word [44]).bind fun found =>
  (if (decide (none ∈ found)) = true then some none else some (some found))
def g_read_tableau (text : (List Nat)) : Option ((List (List (Option Int)))) :=
  (g_need_string text).bind fun x =>
  (splitT text [47]).bind fun x_1 =>
  (lcC (fun (word : (List Nat)) => some true) (fun (word : (List Nat)) => (g_row_in word).bind fun x_2 =>
  (x_2).bind fun x_3 => some (x_3 : (List (Option Int)))) x_1).bind fun found =>
  (g_need_pieces (found.map (rL (rO rI)))).bind fun x_4 =>
  (g_is_tableau ((rL (rL (rO rI))) found)).bind fun x_5 =>
  (if (!x_5) = true then none else some found)
def g__law_right_b1 (order : ((List Int) × (List Int))) (count_here : Int) (parts_here : ((List (Int × (List Int))) × (List Int))) (tableau_here : ((List (List Int)) × (List Int))) (before : (List Nat)) (due : (List (List Nat))) (s' : Unit) (turn : Int) : Option (Fw Unit (Bool × (List Int))) :=
  (ixL due 0).bind fun x_22 =>
  (g_read_order x_22).bind fun x_23 =>
  (ixL due 1).bind fun x_24 =>
  (g_read_parts count_here x_24).bind fun x_25 =>
  (ixL due 2).bind fun x_26 =>
  (g_read_tableau x_26).bind fun x_27 =>
  lt ((x_23, x_25, x_27) : ((List (Option Int)) × (List ((Option Int) × (List (Option Int)))) × (List (List (Option Int))))) fun told =>
  (repG ((rF3 (rL (rO rI)) (rL (rP (rO rI) (rL (rO rI)))) (rL (rL (rO rI)))) told)).bind fun x_28 =>
  (if (!(decide (x_28 = before))) = true then some true else ((repG ((rF3 (rL rI) (rL (rP rI (rL rI))) (rL (rL rI))) (order.1, parts_here.1, tableau_here.1))).bind fun x_29 => some (!(decide (x_29 = before))))).bind fun b_1 =>
  (if b_1 = true then some (.ret (false, tableau_here.2)) else (wrU [63] [0] ((rF3 (rL (rO rI)) (rL (rP (rO rI) (rL (rO rI)))) (rL (rL (rO rI)))) told)).bind fun told_1 =>
  (wrU [63] [2, 0] told_1).bind fun told_2 =>
  (ixU told_2 1).bind fun x_30 =>
  (neX x_30 (rL rU [])).bind fun b_2 =>
  (if b_2 = true then (wrU [63] [1, 0, 1] told_2).bind fun told_3 => some () else some ()).bind fun s'_1 => some (.nx ()))
def g__law_right (purse_here : (List Int)) : Option (Bool × (List Int)) :=
  (g__law_coin purse_here 9).bind fun x =>
  (g__law_coin x.2 6).bind fun x_1 =>
  (ixL [1 + x.1, 60] (x_1.1 / 5)).bind fun x_2 =>
  (g__law_shuffled x_1.2 x_2).bind fun order =>
  (g__law_coin order.2 9).bind fun x_3 =>
  (g__law_coin x_3.2 6).bind fun x_4 =>
  (ixL [1 + x_3.1, 60] (x_4.1 / 5)).bind fun count_here =>
  (g__law_parts x_4.2 count_here 20).bind fun parts_here =>
  (g__law_tableau parts_here.2).bind fun tableau_here =>
  (repG ((rF3 (rL rI) (rL (rP rI (rL rI))) (rL (rL rI))) (order.1, parts_here.1, tableau_here.1))).bind fun before =>
  (lcC (fun p => some true) (fun p =>
  (strI p.1).bind fun x_5 =>
  (catS x_5 [60]).bind fun x_6 =>
  (lcC (fun one => some true) (fun one =>
  (strI one).bind fun x_7 => some x_7) p.2).bind fun x_8 =>
  (joinS [44] x_8).bind fun x_9 =>
  (catS x_6 x_9).bind fun x_10 => some x_10) parts_here.1).bind fun words =>
  (lcC (fun row => some true) (fun row =>
  (lcC (fun faults => some true) (fun faults =>
  (strI faults).bind fun x_11 => some x_11) row).bind fun x_12 =>
  (joinS [44] x_12).bind fun x_13 => some x_13) tableau_here.1).bind fun rows =>
  (lcC (fun rule => some true) (fun rule =>
  (strI rule).bind fun x_14 => some x_14) order.1).bind fun x_15 =>
  (joinS [62] x_15).bind fun x_16 =>
  (joinS [32] words).bind fun x_17 =>
  (joinS [47] rows).bind fun x_18 =>
  lt ([x_16, x_17, x_18] : (List (List Nat))) fun due =>
  (g_show_order order.1).bind fun x_19 =>
  (g_show_parts count_here parts_here.1).bind fun x_20 =>
  (g_show_tableau tableau_here.1).bind fun x_21 =>
  (eqG (fun xs => xs.all okS) [x_19, x_20, x_21] due).bind fun b =>
  (if (!b) = true then some (false, tableau_here.2) else (rng 0 2).bind fun r =>
  (foW (fun s turn => g__law_right_b1 order count_here parts_here tableau_here before due s turn) r ()).bind (fwOut (fun _u => some (true, tableau_here.2)) fun a => some (a)))
def g_law_b2  (s'_1 : (List Int)) (turn : Int) : Option (Fw (List Int) Bool) :=
  (g__law_right s'_1).bind fun x =>
  (if (!x.1) = true then some (.ret false) else some (.nx x.2))
def g_law_b1 (script : (List Int)) (s' : Unit) (k : Int) : Option (Fw Unit Bool) :=
  (g__law_purse script k).bind fun purse_here =>
  (rng 0 8).bind fun r_1 =>
  (foW (fun s turn => g_law_b2 s turn) r_1 purse_here).bind (fwOut (fun purse_here_1 => some (.nx ())) fun a => some (Fw.ret a))
def g_law (script : (List Int)) : Option (Bool) :=
  (rng 0 (if (if (script.length : Int) < 5 then (script.length : Int) else 5) > 1 then (if (script.length : Int) < 5 then (script.length : Int) else 5) else 1)).bind fun r =>
  (foW (fun s k => g_law_b1 script s k) r ()).bind (fwOut (fun _u =>
  (g_show_parts 4 [(1, [3]), (2, [0, 1])]).bind fun x_1 =>
  (g_read_order [50, 62, 48, 62, 49]).bind fun x_2 =>
  (g_show_tableau [[0, 2], [1, 0]]).bind fun x_3 =>
  lt ([rS ((x_1, x_2, x_3).1), (rL (rO rI)) ((x_1, x_2, x_3).2.1), rS ((x_1, x_2, x_3).2.2)] : (List D)) fun told =>
  (g_read_parts 3 []).bind fun x_4 =>
  (appL told ((rL (rP (rO rI) (rL (rO rI)))) x_4)).bind fun told_1 =>
  (eqD ((rL rU) told_1) ((rF4 rS (rL rI) rS (rL rI)) ([49, 60, 51, 32, 50, 60, 48, 44, 49], [2, 0, 1], [48, 44, 50, 47, 49, 44, 48], []))).bind fun b =>
  (if b = true then ((g_show_parts 9 []).bind fun x_5 => some (decide (x_5 = []))) else some false).bind fun b_1 => some b_1) fun a => some (a))
end Law_strictranks_k54_texts_written_and_read
end
end
section
set_option Elab.async false
set_option linter.all false
set_option maxRecDepth 100000
set_option maxHeartbeats 1000000
namespace Law_strictranks_k54_texts_written_and_read
open PySem PySem.Spec PyProof.Rows L2 L2.VL L2.TX
theorem strK0 : (">" : Str) = sx [62] := by decide
theorem strK1 : ("<" : Str) = sx [60] := by decide
theorem strK2 : ("," : Str) = sx [44] := by decide
theorem strK3 : (" " : Str) = sx [32] := by decide
theorem strK4 : ("/" : Str) = sx [47] := by decide
theorem strK5 : ("0123456789" : Str) = sx [48, 49, 50, 51, 52, 53, 54, 55, 56, 57] := by decide
theorem strK6 : ("0" : Str) = sx [48] := by decide
theorem strK7 : ("" : Str) = sx [] := by decide
theorem strK8 : ("?" : Str) = sx [63] := by decide
theorem strK9 : ("2>0>1" : Str) = sx [50, 62, 48, 62, 49] := by decide
theorem strK10 : ("1<3 2<0,1" : Str) = sx [49, 60, 51, 32, 50, 60, 48, 44, 49] := by decide
theorem strK11 : ("0,2/1,0" : Str) = sx [48, 44, 50, 47, 49, 44, 48] := by decide
theorem rf__law_purse (script : (List Int)) (k : Int) : Ref F__law_purse [⟨(rL rI) script, false⟩, ⟨rI k, false⟩] (rL rI) true (g__law_purse script k) := ref_of (ρ := [sl_ (rL rI) script, sl_ rI k, none]) rfl (by
  unfold g__law_purse
  exact bl_last (bl_assoc (bl_bind fun x_1 hx_1 => (bl_setV (ρ2 := [sl_ (rL rI) script, sl_ rI k, sl_ rI x_1]) (q_ifxP (f := rI) (q_dB (q_cmp (q_var rfl) (q_bi (a_T (q_var rfl) a_nil) (cs_cons rfl cs_nil) (g_lenL (f := rI))) rfl rfl g_ltI) rfl) (vs_bind fun x hx => (vs_ret (q_op2 (q_var rfl) (q_var rfl) rfl rfl (g_ixL (f := rI) hx)))) (vs_ret q_con) hx_1) rfl rfl rfl (bl_bind fun x_2 hx_2 => (bl_ret (q_lst (ds := List.map rI [(if x_1 - 1000000000000000000 > 0 then x_1 - 1000000000000000000 else 0), (x_2 + (90001 * k)) + 17, 0]) (a_FN (q_bi (a_T q_con (a_T (q_op2 (q_var rfl) (q_op2 q_con q_con rfl rfl (g_powIk (by decide) (by decide))) rfl rfl g_subI) a_nil)) (cs_cons rfl (cs_cons rfl cs_nil)) g_max2) rfl rfl (a_FN (q_op2 (q_op2 (q_op2 (q_bi (a_T (q_bi (a_T (q_var rfl) a_nil) (cs_cons rfl cs_nil) g_abs) a_nil) (cs_cons rfl cs_nil) g_intI) (q_op2 (q_op2 q_con q_con rfl rfl (g_powIk (by decide) (by decide))) q_con rfl rfl g_addI) rfl rfl (g_modI hx_2)) (q_op2 q_con (q_var rfl) rfl rfl (g_mulIl (by decide))) rfl rfl g_addI) q_con rfl rfl g_addI) rfl rfl (a_FN q_con rfl rfl a_nil))) rfl rfl) rfl rfl ⟨_, rfl⟩))))))
theorem rf__law_coin (purse_here : (List Int)) (many : Int) : RefT F__law_coin [⟨(rL rI) purse_here, true⟩, ⟨rI many, false⟩] rI false (fun tz => [sp_ (rL rI) tz, sl_ rI many]) (g__law_coin purse_here many) := ref_ofT (ρ := [sp_ (rL rI) purse_here, sl_ rI many, none, none]) rfl rfl (by
  unfold g__law_coin
  exact bl_last (bl_assoc (bl_bind fun x hx => (bl_if (q_dB (q_cmp (q_op2 (q_var rfl) q_con rfl rfl (g_ixL (f := rI) hx)) q_con rfl rfl g_gtI) rfl) (fun _ => (bl_assoc (bl_bind fun x_1 hx_1 => (bl_bind fun x_2 hx_2 => (bl_setV (ρ2 := [sp_ (rL rI) purse_here, sl_ rI many, sl_ rI x_2, none]) (q_op2 (q_bi (a_T (q_op2 (q_var rfl) q_con rfl rfl (g_ixL (f := rI) hx_1)) a_nil) (cs_cons rfl cs_nil) g_intI) (q_var rfl) rfl rfl (g_modI hx_2)) rfl rfl rfl (bl_assoc (bl_bind fun x_3 hx_3 => (bl_bind fun x_4 hx_4 => (bl_bind fun purse_here_1 hpurse_here_1 => (bl_seq (ρ1 := [sp_ (rL rI) purse_here_1, sl_ rI many, sl_ rI x_2, none]) (q_setIx (q_op2 (q_op2 (q_var rfl) q_con rfl rfl (g_ixL (f := rI) hx_3)) (q_var rfl) rfl rfl (g_divI hx_4)) rfl rfl rfl q_con rfl rfl (g_setL (f := rI) hpurse_here_1) rfl) (bl_ret (q_shN (q_var rfl) rfl rfl) rfl rfl ⟨_, rfl, rfl⟩))))))))))) (fun _ => (bl_nextS (bl_assoc (bl_bind fun x_5 hx_5 => (bl_bind fun purse_here_2 hpurse_here_2 => (bl_seq (ρ1 := [sp_ (rL rI) purse_here_2, sl_ rI many, none, none]) (q_setIx (q_op2 (q_op2 (q_var rfl) q_con rfl rfl (g_ixL (f := rI) hx_5)) q_con rfl rfl g_addI) rfl rfl rfl q_con rfl rfl (g_setL (f := rI) hpurse_here_2) rfl) (bl_assoc (bl_bind fun x_6 hx_6 => (bl_bind fun x_7 hx_7 => (bl_bind fun x_8 hx_8 => (bl_bind fun x_9 hx_9 => (bl_setV (ρ2 := [sp_ (rL rI) purse_here_2, sl_ rI many, none, sl_ rI x_9]) (q_op2 (q_bi (a_T (q_op2 (q_op2 (q_op2 (q_var rfl) q_con rfl rfl (g_ixL (f := rI) hx_6)) (q_op2 q_con (q_op2 (q_var rfl) q_con rfl rfl (g_ixL (f := rI) hx_7)) rfl rfl (g_mulIl (by decide))) rfl rfl g_addI) q_con rfl rfl (g_powN hx_8)) a_nil) (cs_cons rfl cs_nil) g_intI) (q_op2 (q_op2 q_con q_con rfl rfl (g_powIk (by decide) (by decide))) q_con rfl rfl g_addI) rfl rfl (g_modI hx_9)) rfl rfl rfl (bl_assoc (bl_bind fun x_10 hx_10 => (bl_bind fun x_11 hx_11 => (bl_bind fun x_12 hx_12 => (bl_setV (ρ2 := [sp_ (rL rI) purse_here_2, sl_ rI many, none, sl_ rI x_12]) (q_op2 (q_bi (a_T (q_op2 (q_op2 (q_var rfl) (q_op2 q_con (q_op2 (q_var rfl) q_con rfl rfl (g_ixL (f := rI) hx_10)) rfl rfl (g_mulIl (by decide))) rfl rfl g_addI) q_con rfl rfl (g_powN hx_11)) a_nil) (cs_cons rfl cs_nil) g_intI) (q_op2 (q_op2 q_con q_con rfl rfl (g_powIk (by decide) (by decide))) q_con rfl rfl g_addI) rfl rfl (g_modI hx_12)) rfl rfl rfl (bl_bind fun x_13 hx_13 => (bl_ret (q_op2 (q_bi (a_T (q_op2 (q_var rfl) q_con rfl rfl (g_divIk (by decide))) a_nil) (cs_cons rfl cs_nil) g_intI) (q_var rfl) rfl rfl (g_modI hx_13)) rfl rfl ⟨_, rfl, rfl⟩)))))))))))))))))))))))
theorem rf__law_shuffled_b1 (count_here : Int) (s' : ((List Int) × (List Int) × (List Int))) (turn : Int) : BL (PF [4] (PL (fun (s' : ((List Int) × (List Int) × (List Int))) => [sp_ (rL rI) s'.1, sl_ rI count_here, so_ (rL rI) s'.2.1, so_ (rL rI) s'.2.2, none]))) [sp_ (rL rI) s'.1, sl_ rI count_here, so_ (rL rI) s'.2.1, so_ (rL rI) s'.2.2, sl_ rI turn] r__law_shuffled_2_l_1 (g__law_shuffled_b1 s' turn) := by
  unfold g__law_shuffled_b1
  exact bl_last (bl_bind fun x hx => (bl_bind fun x_1 hx_1 => (bl_bind fun found hfound => (bl_expr (q_mut (ρ2 := [sp_ (rL rI) x.2, sl_ rI count_here, so_ (rL rI) x_1.2, so_ (rL rI) found, sl_ rI turn]) rfl (a_FN (q_mut (ρ2 := [sp_ (rL rI) x.2, sl_ rI count_here, so_ (rL rI) x_1.2, so_ (rL rI) s'.2.2, sl_ rI turn]) rfl (a_FN (q_callT (ρ2 := [sp_ (rL rI) x.2, sl_ rI count_here, so_ (rL rI) s'.2.1, so_ (rL rI) s'.2.2, sl_ rI turn]) (rf__law_coin s'.1 (s'.2.1.length : Int)) hx (a_T (q_var rfl) (a_FN (q_bi (a_T (q_var rfl) a_nil) (cs_cons rfl cs_nil) (g_lenL (f := rI))) rfl rfl a_nil)) rfl rfl rfl rfl) rfl rfl a_nil) rfl rfl (g_pop (f := rI) hx_1) rfl) rfl rfl a_nil) rfl rfl (g_app (f := rI) hfound) rfl) (bl_end (Or.inl rfl))))))
theorem rf__law_shuffled (purse_here : (List Int)) (count_here : Int) : RefT F__law_shuffled [⟨(rL rI) purse_here, true⟩, ⟨rI count_here, false⟩] (rL rI) true (fun tz => [sp_ (rL rI) tz, sl_ rI count_here]) (g__law_shuffled purse_here count_here) := ref_ofT (ρ := [sp_ (rL rI) purse_here, sl_ rI count_here, none, none, none]) rfl rfl (by
  unfold g__law_shuffled
  exact bl_last (bl_assoc (bl_bind fun left hleft => (bl_seq (q_par (a_T (q_lrg (q_var rfl) rfl hleft) (a_T (q_lst (ds := List.map rI []) a_nil rfl rfl) a_nil)) rfl (q_put rfl rfl rfl) (q_put rfl rfl rfl)) (bl_assoc (bl_bind fun r hr => (bl_for (fb := rI) (s0 := (purse_here, left, [])) (fun (s' : ((List Int) × (List Int) × (List Int))) => [sp_ (rL rI) s'.1, sl_ rI count_here, so_ (rL rI) s'.2.1, so_ (rL rI) s'.2.2, none]) (fun (s' : ((List Int) × (List Int) × (List Int))) (turn : Int) => [sp_ (rL rI) s'.1, sl_ rI count_here, so_ (rL rI) s'.2.1, so_ (rL rI) s'.2.2, sl_ rI turn]) rfl (i_rng (a_T (q_var rfl) a_nil) (cs_cons rfl cs_nil) (g_rng1 hr)) (fun _ _ => rfl) (fun s turn => rf__law_shuffled_b1 count_here s turn) fun s'_1 => (bl_ret (q_var rfl) rfl rfl ⟨_, rfl, rfl⟩))))))))
theorem rf__law_parts_b2 (count_here : Int) (most : Int) (s' : ((List Int) × (List (Int × (List Int))))) (turn : Int) (rule : (Int × (List Int))) (s'_1 : ((List Int) × (List Int))) (step : Int) : BL (PF [7] (PL (fun (s'_1 : ((List Int) × (List Int))) => [sp_ (rL rI) s'_1.1, sl_ rI count_here, sl_ rI most, so_ (rL (rP rI (rL rI))) s'.2, sl_ rI turn, sl_ rI rule.1, so_ (rL rI) s'_1.2, none, none, none]))) [sp_ (rL rI) s'_1.1, sl_ rI count_here, sl_ rI most, so_ (rL (rP rI (rL rI))) s'.2, sl_ rI turn, sl_ rI rule.1, so_ (rL rI) s'_1.2, sl_ rI step, none, none] r__law_parts_2_l_2_l_1 (g__law_parts_b2 count_here s'_1 step) := by
  unfold g__law_parts_b2
  exact bl_last (bl_bind fun x_5 hx_5 => (bl_bind fun ahead hahead => (bl_expr (q_mut (ρ2 := [sp_ (rL rI) x_5.2, sl_ rI count_here, sl_ rI most, so_ (rL (rP rI (rL rI))) s'.2, sl_ rI turn, sl_ rI rule.1, so_ (rL rI) ahead, sl_ rI step, none, none]) rfl (a_FN (q_callT (ρ2 := [sp_ (rL rI) x_5.2, sl_ rI count_here, sl_ rI most, so_ (rL (rP rI (rL rI))) s'.2, sl_ rI turn, sl_ rI rule.1, so_ (rL rI) s'_1.2, sl_ rI step, none, none]) (rf__law_coin s'_1.1 count_here) hx_5 (a_T (q_var rfl) (a_FN (q_var rfl) rfl rfl a_nil)) rfl rfl rfl rfl) rfl rfl a_nil) rfl rfl (g_app (f := rI) hahead) rfl) (bl_end (Or.inl rfl)))))
theorem rf__law_parts_b1 (count_here : Int) (most : Int) (s' : ((List Int) × (List (Int × (List Int))))) (turn : Int) : BL (PF [4, 5, 6, 7, 8] (PL (fun (s' : ((List Int) × (List (Int × (List Int))))) => [sp_ (rL rI) s'.1, sl_ rI count_here, sl_ rI most, so_ (rL (rP rI (rL rI))) s'.2, none, none, none, none, none, none]))) [sp_ (rL rI) s'.1, sl_ rI count_here, sl_ rI most, so_ (rL (rP rI (rL rI))) s'.2, sl_ rI turn, none, none, none, none, none] r__law_parts_2_l_1 (g__law_parts_b1 count_here s' turn) := by
  unfold g__law_parts_b1
  exact bl_last (bl_assoc (bl_bind fun rule hrule => (bl_seq (q_par (a_T (q_callT (ρ2 := [sp_ (rL rI) rule.2, sl_ rI count_here, sl_ rI most, so_ (rL (rP rI (rL rI))) s'.2, sl_ rI turn, none, none, none, none, none]) (rf__law_coin s'.1 count_here) hrule (a_T (q_var rfl) (a_FN (q_var rfl) rfl rfl a_nil)) rfl rfl rfl rfl) (a_T (q_lst (ds := List.map rI []) a_nil rfl rfl) a_nil)) rfl (q_put rfl rfl rfl) (q_put rfl rfl rfl)) (bl_assoc (bl_bind fun x_2 hx_2 => (bl_bind fun x_3 hx_3 => (bl_bind fun x_4 hx_4 => (bl_bind fun r_1 hr_1 => (bl_for (fb := rI) (s0 := (x_4.2, [])) (fun (s'_1 : ((List Int) × (List Int))) => [sp_ (rL rI) s'_1.1, sl_ rI count_here, sl_ rI most, so_ (rL (rP rI (rL rI))) s'.2, sl_ rI turn, sl_ rI rule.1, so_ (rL rI) s'_1.2, none, none, none]) (fun (s'_1 : ((List Int) × (List Int))) (step : Int) => [sp_ (rL rI) s'_1.1, sl_ rI count_here, sl_ rI most, so_ (rL (rP rI (rL rI))) s'.2, sl_ rI turn, sl_ rI rule.1, so_ (rL rI) s'_1.2, sl_ rI step, none, none]) rfl (i_rng (a_T (q_op2 q_con (q_callT (ρ2 := [sp_ (rL rI) x_4.2, sl_ rI count_here, sl_ rI most, so_ (rL (rP rI (rL rI))) s'.2, sl_ rI turn, sl_ rI rule.1, so_ (rL rI) [], none, none, none]) (rf__law_coin x_2.2 x_3) hx_4 (a_T (q_var rfl) (a_FN (q_op2 (q_lst (ds := List.map rI [3, 12]) (a_FN q_con rfl rfl (a_FN q_con rfl rfl a_nil)) rfl rfl) (q_callT (ρ2 := [sp_ (rL rI) x_2.2, sl_ rI count_here, sl_ rI most, so_ (rL (rP rI (rL rI))) s'.2, sl_ rI turn, sl_ rI rule.1, so_ (rL rI) [], none, none, none]) (rf__law_coin rule.2 2) hx_2 (a_T (q_var rfl) (a_FN q_con rfl rfl a_nil)) rfl rfl rfl rfl) rfl rfl (g_ixL (f := rI) hx_3)) rfl rfl a_nil)) rfl rfl rfl rfl) rfl rfl g_addI) a_nil) (cs_cons rfl cs_nil) (g_rng1 hr_1)) (fun _ _ => rfl) (fun s step => rf__law_parts_b2 count_here most s' turn rule s step) fun s'_2 => (bl_assoc (bl_bind fun x_6 hx_6 => (bl_bind fun some' hsome' => (bl_setV (ρ2 := [sp_ (rL rI) s'_2.1, sl_ rI count_here, sl_ rI most, so_ (rL (rP rI (rL rI))) s'.2, sl_ rI turn, sl_ rI rule.1, so_ (rL rI) s'_2.2, none, sl_ (rL rI) some', none]) (q_shN (q_bi (a_T (q_lnd (q_lc (f := rI) (fun one => [sq_ (rL rI) s'_2.1, sl_ rI count_here, sl_ rI most, sl_ (rL (rP rI (rL rI))) s'.2, sl_ rI turn, sl_ rI rule.1, sl_ (rL rI) s'_2.2, none, none, sl_ rI one]) (i_anyN (q_var rfl) rfl rfl rfl) rfl rfl (fun _ => rfl) (fun _ => rfl) (fun one => (vt_ret (q_dB (q_cmp (q_var rfl) (q_var rfl) rfl rfl (g_ne g_eqI)) rfl))) (fun one => (ve_ret (f := rI) (q_var rfl) rfl rfl)) hx_6) (conL_map _ _)) a_nil) (cs_cons rfl cs_nil) (g_ssS hsome')) rfl rfl) rfl rfl rfl (bl_assoc (bl_bind fun found hfound => (bl_expr (q_mut (ρ2 := [sp_ (rL rI) s'_2.1, sl_ rI count_here, sl_ rI most, so_ (rL (rP rI (rL rI))) found, sl_ rI turn, sl_ rI rule.1, so_ (rL rI) s'_2.2, none, sl_ (rL rI) some', none]) rfl (a_FN (q_tup (ds := [rI rule.1, (rL rI) (if (!(decide (some' = []))) = true then some' else [(if (decide (rule.1 > 0)) = true then 0 else 1)])]) (a_FN (q_var rfl) rfl rfl (a_FN (q_ifx (f := (rL rI)) (x := some') (y := [(if (decide (rule.1 > 0)) = true then 0 else 1)]) (q_dB (q_cmp (q_var rfl) (q_lst (ds := List.map rI []) a_nil rfl rfl) rfl rfl (g_ne (g_eqT (f := (rL rI)) (et_L et_I) rfl))) rfl) (q_shN (q_var rfl) rfl rfl) (q_shN (q_lst (ds := List.map rI [(if (decide (rule.1 > 0)) = true then 0 else 1)]) (a_FN (q_ifx (f := rI) (x := 0) (y := 1) (q_dB (q_cmp (q_var rfl) q_con rfl rfl g_gtI) rfl) q_con q_con) rfl rfl a_nil) rfl rfl) rfl rfl)) rfl rfl a_nil)) rfl rfl) rfl rfl a_nil) rfl rfl (g_app (f := (rP rI (rL rI))) hfound) rfl) (bl_bind fun x_7 hx_7 => (bl_ifJ (fun (found_2 : (List (Int × (List Int)))) => [sp_ (rL rI) x_7.2, sl_ rI count_here, sl_ rI most, so_ (rL (rP rI (rL rI))) found_2, sl_ rI turn, sl_ rI rule.1, so_ (rL rI) s'_2.2, none, sl_ (rL rI) some', none]) (q_dB (q_cmp (q_callT (ρ2 := [sp_ (rL rI) x_7.2, sl_ rI count_here, sl_ rI most, so_ (rL (rP rI (rL rI))) found, sl_ rI turn, sl_ rI rule.1, so_ (rL rI) s'_2.2, none, sl_ (rL rI) some', none]) (rf__law_coin s'_2.1 6) hx_7 (a_T (q_var rfl) (a_FN q_con rfl rfl a_nil)) rfl rfl rfl rfl) q_con rfl rfl g_eqI) rfl) (fun _ => (bl_last (bl_bind fun x_8 hx_8 => (bl_bind fun x_9 hx_9 => (bl_bind fun found_1 hfound_1 => (bl_expr (q_mut (ρ2 := [sp_ (rL rI) x_7.2, sl_ rI count_here, sl_ rI most, so_ (rL (rP rI (rL rI))) found_1, sl_ rI turn, sl_ rI rule.1, so_ (rL rI) s'_2.2, none, sl_ (rL rI) some', none]) rfl (a_FN (q_tup (ds := [rI x_8.1, (rL rI) x_9.2]) (a_FN (q_op2 (q_op2 (q_var rfl) q_con rfl rfl (g_ixL (f := (rP rI (rL rI))) hx_8)) q_con rfl rfl rfl) rfl rfl (a_FN (q_bi (a_T (q_op2 (q_op2 (q_var rfl) q_con rfl rfl (g_ixL (f := (rP rI (rL rI))) hx_9)) q_con rfl rfl rfl) a_nil) (cs_cons rfl cs_nil) g_list) rfl rfl a_nil)) rfl rfl) rfl rfl a_nil) rfl rfl (g_app (f := (rP rI (rL rI))) hfound_1) rfl) (bl_end rfl))))))) (fun _ => (bl_last (bl_nextS (bl_end rfl)))) fun found_2 => (bl_end (Or.inl rfl))))))))))))))))))))
theorem rf__law_parts (purse_here : (List Int)) (count_here : Int) (most : Int) : RefT F__law_parts [⟨(rL rI) purse_here, true⟩, ⟨rI count_here, false⟩, ⟨rI most, false⟩] (rL (rP rI (rL rI))) true (fun tz => [sp_ (rL rI) tz, sl_ rI count_here, sl_ rI most]) (g__law_parts purse_here count_here most) := ref_ofT (ρ := [sp_ (rL rI) purse_here, sl_ rI count_here, sl_ rI most, none, none, none, none, none, none, none]) rfl rfl (by
  unfold g__law_parts
  exact bl_last (bl_assoc (bl_setV (ρ2 := [sp_ (rL rI) purse_here, sl_ rI count_here, sl_ rI most, so_ (rL (rP rI (rL rI))) [], none, none, none, none, none, none]) (q_lst (ds := List.map (rP rI (rL rI)) []) a_nil rfl rfl) rfl rfl rfl (bl_assoc (bl_bind fun x hx => (bl_bind fun x_1 hx_1 => (bl_bind fun r hr => (bl_for (fb := rI) (s0 := (x.2, [])) (fun (s' : ((List Int) × (List (Int × (List Int))))) => [sp_ (rL rI) s'.1, sl_ rI count_here, sl_ rI most, so_ (rL (rP rI (rL rI))) s'.2, none, none, none, none, none, none]) (fun (s' : ((List Int) × (List (Int × (List Int))))) (turn : Int) => [sp_ (rL rI) s'.1, sl_ rI count_here, sl_ rI most, so_ (rL (rP rI (rL rI))) s'.2, sl_ rI turn, none, none, none, none, none]) rfl (i_rng (a_T (q_op2 (q_callT (ρ2 := [sp_ (rL rI) x.2, sl_ rI count_here, sl_ rI most, so_ (rL (rP rI (rL rI))) [], none, none, none, none, none, none]) (rf__law_coin purse_here (most + 1)) hx (a_T (q_var rfl) (a_FN (q_op2 (q_var rfl) q_con rfl rfl g_addI) rfl rfl a_nil)) rfl rfl rfl rfl) (q_bi (a_T (q_cmp (q_var rfl) q_con rfl rfl g_gtI) a_nil) (cs_cons rfl cs_nil) g_intB) rfl rfl (g_mulI hx_1)) a_nil) (cs_cons rfl cs_nil) (g_rng1 hr)) (fun _ _ => rfl) (fun s turn => rf__law_parts_b1 count_here most s turn) fun s'_3 => (bl_ret (q_var rfl) rfl rfl ⟨_, rfl, rfl⟩)))))))))
theorem rf__law_tableau_b3 (way : (Int × (List Int))) (count_here_1 : Int) (many_1 : Int) (most : Int) (s' : ((List Int) × (List (List Int)))) (candidate : Int) : BL (PF [6] (PL (fun (s' : ((List Int) × (List (List Int)))) => [sp_ (rL rI) s'.1, sl_ rI way.1, so_ (rL (rL rI)) s'.2, sl_ rI count_here_1, sl_ rI many_1, sl_ rI most, none, none]))) [sp_ (rL rI) s'.1, sl_ rI way.1, so_ (rL (rL rI)) s'.2, sl_ rI count_here_1, sl_ rI many_1, sl_ rI most, sl_ rI candidate, none] r__law_tableau_6_l_1 (g__law_tableau_b3 count_here_1 most s' candidate) := by
  unfold g__law_tableau_b3
  exact bl_last (bl_bind fun r_1 hr_1 => (bl_bind fun x_4 hx_4 => (bl_bind fun found hfound => (bl_expr (q_mut (ρ2 := [sp_ (rL rI) x_4.2, sl_ rI way.1, so_ (rL (rL rI)) found, sl_ rI count_here_1, sl_ rI many_1, sl_ rI most, sl_ rI candidate, none]) rfl (a_FN (q_lcX (f := rI) (s := s'.1) (fun t => [sp_ (rL rI) t, sl_ rI way.1, so_ (rL (rL rI)) s'.2, sl_ rI count_here_1, sl_ rI many_1, sl_ rI most, sl_ rI candidate, none]) (fun t rule => [sp_ (rL rI) t, sl_ rI way.1, so_ (rL (rL rI)) s'.2, sl_ rI count_here_1, sl_ rI many_1, sl_ rI most, sl_ rI candidate, sl_ rI rule]) (i_rng (a_T (q_var rfl) a_nil) (cs_cons rfl cs_nil) (g_rng1 hr_1)) rfl rfl (fun _ _ => rfl) (fun _ _ => rfl) (fun t rule => (xt_ret rfl)) (fun t rule => (xe_bind fun x_3 hx_3 => (xe_ret (f := rI) (q_callT (ρ2 := [sp_ (rL rI) x_3.2, sl_ rI way.1, so_ (rL (rL rI)) s'.2, sl_ rI count_here_1, sl_ rI many_1, sl_ rI most, sl_ rI candidate, sl_ rI rule]) (rf__law_coin t most) hx_3 (a_T (q_var rfl) (a_FN (q_var rfl) rfl rfl a_nil)) rfl rfl rfl rfl) rfl rfl))) hx_4) rfl rfl a_nil) rfl rfl (g_app (f := (rL rI)) hfound) rfl) (bl_end (Or.inl rfl))))))
theorem rf__law_tableau (purse_here : (List Int)) : RefT F__law_tableau [⟨(rL rI) purse_here, true⟩] (rL (rL rI)) true (fun tz => [sp_ (rL rI) tz]) (g__law_tableau purse_here) := ref_ofT (ρ := [sp_ (rL rI) purse_here, none, none, none, none, none, none, none]) rfl rfl (by
  unfold g__law_tableau
  exact bl_last (bl_assoc (bl_bind fun way hway => (bl_seq (q_par (a_T (q_callT (ρ2 := [sp_ (rL rI) way.2, none, none, none, none, none, none, none]) (rf__law_coin purse_here 6) hway (a_T (q_var rfl) (a_FN q_con rfl rfl a_nil)) rfl rfl rfl rfl) (a_T (q_lst (ds := List.map (rL rI) []) a_nil rfl rfl) a_nil)) rfl (q_put rfl rfl rfl) (q_put rfl rfl rfl)) (bl_assoc (bl_bind fun x hx => (bl_bind fun x_1 hx_1 => (bl_seq (q_par (a_T (q_op2 q_con (q_callT (ρ2 := [sp_ (rL rI) x.2, sl_ rI way.1, so_ (rL (rL rI)) [], none, none, none, none, none]) (rf__law_coin way.2 6) hx (a_T (q_var rfl) (a_FN q_con rfl rfl a_nil)) rfl rfl rfl rfl) rfl rfl g_addI) (a_T (q_op2 q_con (q_callT (ρ2 := [sp_ (rL rI) x_1.2, sl_ rI way.1, so_ (rL (rL rI)) [], none, none, none, none, none]) (rf__law_coin x.2 6) hx_1 (a_T (q_var rfl) (a_FN q_con rfl rfl a_nil)) rfl rfl rfl rfl) rfl rfl g_addI) a_nil)) rfl (q_put rfl rfl rfl) (q_put rfl rfl rfl)) (bl_lt (S := (fun count_here => [sp_ (rL rI) x_1.2, sl_ rI way.1, so_ (rL (rL rI)) [], sl_ rI count_here, sl_ rI (1 + x_1.1), none, none, none])) rfl fun count_here => (bl_lt (S := (fun many => [sp_ (rL rI) x_1.2, sl_ rI way.1, so_ (rL (rL rI)) [], sl_ rI count_here, sl_ rI many, none, none, none])) rfl fun many => (bl_assoc (bl_ifJ (fun (count_here_1 : Int) => [sp_ (rL rI) x_1.2, sl_ rI way.1, so_ (rL (rL rI)) [], sl_ rI count_here_1, sl_ rI many, none, none, none]) (q_dB (q_cmp (q_var rfl) q_con rfl rfl g_eqI) rfl) (fun _ => (bl_last (bl_setV (ρ2 := [sp_ (rL rI) x_1.2, sl_ rI way.1, so_ (rL (rL rI)) [], sl_ rI 60, sl_ rI many, none, none, none]) q_con rfl rfl rfl (bl_end rfl)))) (fun _ => (bl_last (bl_nextS (bl_end rfl)))) fun count_here_1 => (bl_assoc (bl_ifJ (fun (many_1 : Int) => [sp_ (rL rI) x_1.2, sl_ rI way.1, so_ (rL (rL rI)) [], sl_ rI count_here_1, sl_ rI many_1, none, none, none]) (q_dB (q_cmp (q_var rfl) q_con rfl rfl g_eqI) rfl) (fun _ => (bl_last (bl_setV (ρ2 := [sp_ (rL rI) x_1.2, sl_ rI way.1, so_ (rL (rL rI)) [], sl_ rI count_here_1, sl_ rI 30, none, none, none]) q_con rfl rfl rfl (bl_end rfl)))) (fun _ => (bl_last (bl_nextS (bl_end rfl)))) fun many_1 => (bl_assoc (bl_bind fun most hmost => (bl_setV (ρ2 := [sp_ (rL rI) x_1.2, sl_ rI way.1, so_ (rL (rL rI)) [], sl_ rI count_here_1, sl_ rI many_1, sl_ rI most, none, none]) (q_op2 (q_lst (ds := List.map rI [3, 11, 1000000000000000000000000000000 + 1, 1000000000000000000000000000000 + 1, 11, 3]) (a_FN q_con rfl rfl (a_FN q_con rfl rfl (a_FN (q_op2 (q_op2 q_con q_con rfl rfl (g_powIk (by decide) (by decide))) q_con rfl rfl g_addI) rfl rfl (a_FN (q_op2 (q_op2 q_con q_con rfl rfl (g_powIk (by decide) (by decide))) q_con rfl rfl g_addI) rfl rfl (a_FN q_con rfl rfl (a_FN q_con rfl rfl a_nil)))))) rfl rfl) (q_var rfl) rfl rfl (g_ixL (f := rI) hmost)) rfl rfl rfl (bl_assoc (bl_bind fun r hr => (bl_for (fb := rI) (s0 := (x_1.2, [])) (fun (s' : ((List Int) × (List (List Int)))) => [sp_ (rL rI) s'.1, sl_ rI way.1, so_ (rL (rL rI)) s'.2, sl_ rI count_here_1, sl_ rI many_1, sl_ rI most, none, none]) (fun (s' : ((List Int) × (List (List Int)))) (candidate : Int) => [sp_ (rL rI) s'.1, sl_ rI way.1, so_ (rL (rL rI)) s'.2, sl_ rI count_here_1, sl_ rI many_1, sl_ rI most, sl_ rI candidate, none]) rfl (i_rng (a_T (q_var rfl) a_nil) (cs_cons rfl cs_nil) (g_rng1 hr)) (fun _ _ => rfl) (fun s candidate => rf__law_tableau_b3 way count_here_1 many_1 most s candidate) fun s'_1 => (bl_ret (q_var rfl) rfl rfl ⟨_, rfl, rfl⟩)))))))))))))))))))))
theorem rf_is_integer (value : D) (low : Int) (high : (Option Int)) : Ref F_is_integer [⟨rU value, false⟩, ⟨rI low, false⟩, ⟨(rO rI) high, false⟩] rB false (g_is_integer value low high) := ref_of (ρ := [sl_ rU value, sl_ rI low, sl_ (rO rI) high]) rfl (by
  unfold g_is_integer
  exact bl_last (bl_assoc (bl_bind fun b hb => (bl_bind fun b_2 hb_2 => (bl_if (q_orP (q_not (q_dTr (q_isiU (q_var rfl) rfl hb) rfl t_B)) (vt_bind fun b_1 hb_1 => (vt_ret (q_dTr (q_isiU (q_var rfl) rfl hb_1) rfl t_B))) hb_2) (fun _ => (bl_ret q_con rfl rfl ⟨_, rfl⟩)) (fun _ => (bl_nextS (bl_bind fun b_3 hb_3 => (bl_bind fun b_6 hb_6 => (bl_ret (q_andVP (q_dB (q_cmp (q_var rfl) (q_var rfl) rfl rfl (g_id (h := leC) hb_3)) rfl) (vb_bind fun b_5 hb_5 => (vb_ret (q_orVP (q_dB (q_cmp (q_var rfl) q_con rfl rfl (g_isN (f := rI) nn_I)) rfl) (vb_bind fun x hx => (vb_bind fun b_4 hb_4 => (vb_ret (q_cmp (q_var rfl) (q_var rfl) rfl (co_cur (f := rI) hx rfl) (g_id (h := leC) hb_4))))) hb_5))) hb_6) rfl rfl ⟨_, rfl⟩))))))))))
theorem rf_is_order (value : D) : Ref F_is_order [⟨rU value, false⟩] rB false (g_is_order value) := ref_of (ρ := [sl_ rU value, none]) rfl (by
  unfold g_is_order
  exact bl_last (bl_assoc (bl_bind fun b hb => (bl_bind fun b_1 hb_1 => (bl_if (q_orP (q_not (q_dTr (q_isiU (q_var rfl) rfl hb) rfl t_B)) (vt_bind fun x hx => (vt_ret (q_not (q_dB (q_chain q_con (q_bi (a_T (q_var rfl) a_nil) (cs_cons rfl cs_nil) (g_lenU hx)) q_con rfl rfl rfl g_leI g_leI) rfl)))) hb_1) (fun _ => (bl_ret q_con rfl rfl ⟨_, rfl⟩)) (fun _ => (bl_nextS (bl_bind fun ys hys => (bl_bind fun x_2 hx_2 => (bl_bind fun b_2 hb_2 => (bl_ret (q_andVP (q_dB (q_bi (a_T (q_lc (f := rB) (fun rule => [sl_ rU value, sl_ rU rule]) (i_anyN (q_var rfl) rfl rfl (any_U hys)) rfl rfl (fun _ => rfl) (fun _ => rfl) (fun rule => (vt_ret rfl)) (fun rule => (ve_bind fun x_1 hx_1 => (ve_ret (f := rB) (q_callR (rf_is_integer rule 0 none) hx_1 (a_FN (q_var rfl) rfl rfl (a_FN q_con rfl rfl a_nil)) rfl rfl rfl (fun _ => rfl)) rfl rfl))) hx_2) a_nil) (cs_cons rfl cs_nil) g_all) rfl) (vb_bind fun x_3 hx_3 => (vb_bind fun x_4 hx_4 => (vb_bind fun x_5 hx_5 => (vb_ret (q_cmp (q_bi (a_T (q_var rfl) a_nil) (cs_cons (as_cur (as_L as_I) hx_3 rfl) cs_nil) g_sortI) (q_lrg (q_bi (a_T (q_var rfl) a_nil) (cs_cons rfl cs_nil) (g_lenU hx_4)) rfl hx_5) rfl rfl (g_eqT (f := (rL rI)) (et_L et_I) rfl)))))) hb_2) rfl rfl ⟨_, rfl⟩)))))))))))
theorem rf_need_order (order : (List Int)) (count : Unit) : Ref F_need_order [⟨(rL rI) order, false⟩, ⟨rN count, false⟩] rN false (g_need_order order count) := ref_ofU (ρ := [sl_ (rL rI) order, sl_ rN count]) rfl (by
  unfold g_need_order
  exact bl_last (bl_bind fun x hx => (bl_if (q_or (q_not (q_dTr (q_callR (rf_is_order ((rL rI) order)) hx (a_FN (q_var rfl) rfl rfl a_nil) rfl rfl rfl (fun _ => rfl)) rfl t_B)) (q_and (q_dB (q_cmp (q_var rfl) q_con rfl rfl rfl) rfl) (q_dB (q_cmp (q_bi (a_T (q_var rfl) a_nil) (cs_cons rfl cs_nil) (g_lenL (f := rI))) (q_var rfl) rfl rfl (g_ne (g_eqOI (x := some (order.length : Int)) (y := none)))) rfl))) (fun _ => bl_never) (fun _ => (bl_nextS (bl_end (.inl ⟨_, rfl⟩)))))))
theorem rf_show_order (order : (List Int)) : Ref F_show_order [⟨(rL rI) order, false⟩] rS false (g_show_order order) := ref_of (ρ := [sl_ (rL rI) order, none]) rfl (by
  unfold g_show_order
  exact bl_last (bl_assoc (bl_bind fun x hx => (bl_expr (q_callR (rf_need_order order ()) hx (a_FN (q_var rfl) rfl rfl a_nil) rfl rfl rfl (fun _ => rfl)) (bl_bind fun x_2 hx_2 => (bl_bind fun res hres => (bl_ret (q_mt (q_str strK0) rfl isStr_S (a_T (q_lc (f := rS) (fun rule => [sl_ (rL rI) order, sl_ rI rule]) (i_anyN (q_var rfl) rfl rfl rfl) rfl rfl (fun _ => rfl) (fun _ => rfl) (fun rule => (vt_ret rfl)) (fun rule => (ve_bind fun x_1 hx_1 => (ve_ret (f := rS) (q_bi (a_T (q_var rfl) a_nil) (cs_cons rfl cs_nil) (g_strI hx_1)) rfl rfl))) hx_2) a_nil) rfl (cs_cons rfl cs_nil) (g_join hres)) rfl rfl ⟨_, rfl⟩)))))))
theorem rf_need_count (count : Int) (most : Int) : Ref F_need_count [⟨rI count, false⟩, ⟨rI most, false⟩] rN false (g_need_count count most) := ref_ofU (ρ := [sl_ rI count, sl_ rI most]) rfl (by
  unfold g_need_count
  exact bl_last (bl_bind fun x hx => (bl_if (q_not (q_dTr (q_callR (rf_is_integer (TX.rI count) 1 (some most)) hx (a_FN (q_var rfl) rfl rfl (a_FN q_con rfl rfl (a_FN (q_var rfl) rfl rfl a_nil))) rfl rfl rfl (fun _ => rfl)) rfl t_B)) (fun _ => bl_never) (fun _ => (bl_nextS (bl_end (.inl ⟨_, rfl⟩)))))))
theorem rf_fits_part (count : Int) (value : D) : Ref F_fits_part [⟨rI count, false⟩, ⟨rU value, false⟩] rB false (g_fits_part count value) := ref_of (ρ := [sl_ rI count, sl_ rU value, none, none, none, none]) rfl (by
  unfold g_fits_part
  exact bl_last (bl_assoc (bl_bind fun b hb => (bl_bind fun b_2 hb_2 => (bl_if (q_orP (q_not (q_dTr (q_isiU (q_var rfl) rfl hb) rfl t_B)) (vt_bind fun x hx => (vt_bind fun b_1 hb_1 => (vt_ret (q_orP (q_dB (q_cmp (q_bi (a_T (q_var rfl) a_nil) (cs_cons rfl cs_nil) (g_lenU hx)) q_con rfl rfl (g_ne g_eqI)) rfl) (vt_bind fun x_1 hx_1 => (vt_bind fun x_2 hx_2 => (vt_ret (q_not (q_dTr (q_callR (rf_is_integer x_1 0 (some (count - 1))) hx_2 (a_FN (q_op2 (q_var rfl) q_con rfl rfl (g_ixU hx_1)) rfl rfl (a_FN q_con rfl rfl (a_FN (q_op2 (q_var rfl) q_con rfl rfl g_subI) rfl rfl a_nil))) rfl rfl rfl (fun _ => rfl)) rfl t_B))))) hb_1)))) hb_2) (fun _ => (bl_ret q_con rfl rfl ⟨_, rfl⟩)) (fun _ => (bl_nextS (bl_assoc (bl_bind fun x_3 hx_3 => (bl_seq (ρ1 := [sl_ rI count, sl_ rU value, sl_ rU x_3.1, sl_ rU x_3.2, none, none]) (q_unpN (q_var rfl) (as_cur (as_P as_U as_U) hx_3 rfl) rfl rfl) (bl_assoc (bl_bind fun b_3 hb_3 => (bl_bind fun b_6 hb_6 => (bl_if (q_orP (q_not (q_dTr (q_isiU (q_var rfl) rfl hb_3) rfl t_B)) (vt_bind fun ys hys => (vt_bind fun x_5 hx_5 => (vt_ret (q_not (q_dTr (q_bi (a_T (q_lc (f := rB) (fun one => [sl_ rI count, sl_ rU value, sl_ rU x_3.1, sl_ rU x_3.2, sl_ rU one, none]) (i_anyN (q_var rfl) rfl rfl (any_U hys)) rfl rfl (fun _ => rfl) (fun _ => rfl) (fun one => (vt_ret rfl)) (fun one => (ve_bind fun x_4 hx_4 => (ve_bind fun b_5 hb_5 => (ve_ret (f := rB) (q_andVP (q_dB (q_callR (rf_is_integer one 0 (some (count - 1))) hx_4 (a_FN (q_var rfl) rfl rfl (a_FN q_con rfl rfl (a_FN (q_op2 (q_var rfl) q_con rfl rfl g_subI) rfl rfl a_nil))) rfl rfl rfl (fun _ => rfl)) rfl) (vb_bind fun b_4 hb_4 => (vb_ret (q_cmp (q_var rfl) (q_var rfl) rfl rfl (g_ne (g_id (h := eqD) hb_4))))) hb_5) rfl rfl)))) hx_5) a_nil) (cs_cons rfl cs_nil) g_all) rfl t_B))))) hb_6) (fun _ => (bl_ret q_con rfl rfl ⟨_, rfl⟩)) (fun _ => (bl_nextS (bl_bind fun x_6 hx_6 => (bl_bind fun x_7 hx_7 => (bl_bind fun x_8 hx_8 => (bl_ret (q_bi (a_T (q_lc (f := rB) (fun p => [sl_ rI count, sl_ rU value, sl_ rU x_3.1, sl_ rU x_3.2, sl_ rU p.1, sl_ rU p.2]) (i_zip (a_FN (q_var rfl) (as_cur (as_L as_U) hx_7 rfl) rfl (a_FN (q_slT (q_var rfl) (q_part q_con rfl) q_part0 (as_cur (as_L as_U) hx_6 rfl)) rfl rfl a_nil)) rfl) rfl rfl (fun _ => rfl) (fun _ => rfl) (fun p => (vt_ret rfl)) (fun p => (ve_bind fun b_7 hb_7 => (ve_ret (f := rB) (q_cmp (q_var rfl) (q_var rfl) rfl rfl (g_id (h := ltC) hb_7)) rfl rfl))) hx_8) a_nil) (cs_cons rfl cs_nil) g_all) rfl rfl ⟨_, rfl⟩))))))))))))))))))))
theorem rf_are_parts (count : Int) (value : D) : Ref F_are_parts [⟨rI count, false⟩, ⟨rU value, false⟩] rB false (g_are_parts count value) := ref_of (ρ := [sl_ rI count, sl_ rU value, none]) rfl (by
  unfold g_are_parts
  exact bl_last (bl_assoc (bl_bind fun b hb => (bl_bind fun b_1 hb_1 => (bl_if (q_orP (q_not (q_dTr (q_isiU (q_var rfl) rfl hb) rfl t_B)) (vt_bind fun x hx => (vt_ret (q_dB (q_cmp (q_bi (a_T (q_var rfl) a_nil) (cs_cons rfl cs_nil) (g_lenU hx)) q_con rfl rfl g_gtI) rfl))) hb_1) (fun _ => (bl_ret q_con rfl rfl ⟨_, rfl⟩)) (fun _ => (bl_nextS (bl_bind fun ys hys => (bl_bind fun x_3 hx_3 => (bl_ret (q_bi (a_T (q_lc (f := rB) (fun part => [sl_ rI count, sl_ rU value, sl_ rU part]) (i_anyN (q_var rfl) rfl rfl (any_U hys)) rfl rfl (fun _ => rfl) (fun _ => rfl) (fun part => (vt_ret rfl)) (fun part => (ve_bind fun x_1 hx_1 => (ve_bind fun b_3 hb_3 => (ve_ret (f := rB) (q_andVP (q_dB (q_callR (rf_fits_part count part) hx_1 (a_FN (q_var rfl) rfl rfl (a_FN (q_var rfl) rfl rfl a_nil)) rfl rfl rfl (fun _ => rfl)) rfl) (vb_bind fun x_2 hx_2 => (vb_bind fun b_2 hb_2 => (vb_ret (q_cmp (q_op2 (q_var rfl) q_con rfl rfl (g_ixU hx_2)) (q_lst (ds := List.map rU []) a_nil rfl rfl) rfl rfl (g_id (h := neX) hb_2))))) hb_3) rfl rfl)))) hx_3) a_nil) (cs_cons rfl cs_nil) g_all) rfl rfl ⟨_, rfl⟩))))))))))
theorem rf_part_text (part : (Int × (List Int))) : Ref F_part_text [⟨(rP rI (rL rI)) part, false⟩] rS false (g_part_text part) := ref_of (ρ := [sl_ (rP rI (rL rI)) part, none, none, none]) rfl (by
  unfold g_part_text
  exact bl_last (bl_assoc (bl_seq (ρ1 := [sl_ (rP rI (rL rI)) part, sl_ rI part.1, sl_ (rL rI) part.2, none]) (q_unpN (q_var rfl) rfl rfl rfl) (bl_bind fun x hx => (bl_bind fun x_1 hx_1 => (bl_bind fun x_3 hx_3 => (bl_bind fun x_4 hx_4 => (bl_bind fun x_5 hx_5 => (bl_ret (q_op2 (q_op2 (q_bi (a_T (q_var rfl) a_nil) (cs_cons rfl cs_nil) (g_strI hx)) (q_str strK1) rfl rfl (g_addS hx_1)) (q_mt (q_str strK2) rfl isStr_S (a_T (q_lc (f := rS) (fun one => [sl_ (rP rI (rL rI)) part, sl_ rI part.1, sl_ (rL rI) part.2, sl_ rI one]) (i_anyN (q_var rfl) rfl rfl rfl) rfl rfl (fun _ => rfl) (fun _ => rfl) (fun one => (vt_ret rfl)) (fun one => (ve_bind fun x_2 hx_2 => (ve_ret (f := rS) (q_bi (a_T (q_var rfl) a_nil) (cs_cons rfl cs_nil) (g_strI hx_2)) rfl rfl))) hx_3) a_nil) rfl (cs_cons rfl cs_nil) (g_join hx_4)) rfl rfl (g_addS hx_5)) rfl rfl ⟨_, rfl⟩)))))))))
theorem rf_parts_text (parts : (List (Int × (List Int)))) : Ref F_parts_text [⟨(rL (rP rI (rL rI))) parts, false⟩] rS false (g_parts_text parts) := ref_of (ρ := [sl_ (rL (rP rI (rL rI))) parts, none]) rfl (by
  unfold g_parts_text
  exact bl_last (bl_bind fun x_1 hx_1 => (bl_bind fun res hres => (bl_ret (q_mt (q_str strK3) rfl isStr_S (a_T (q_lc (f := rS) (fun part => [sl_ (rL (rP rI (rL rI))) parts, sl_ (rP rI (rL rI)) part]) (i_anyN (q_var rfl) rfl rfl rfl) rfl rfl (fun _ => rfl) (fun _ => rfl) (fun part => (vt_ret rfl)) (fun part => (ve_bind fun x hx => (ve_ret (f := rS) (q_callR (rf_part_text part) hx (a_FN (q_var rfl) rfl rfl a_nil) rfl rfl rfl (fun _ => rfl)) rfl rfl))) hx_1) a_nil) rfl (cs_cons rfl cs_nil) (g_join hres)) rfl rfl ⟨_, rfl⟩))))
theorem rf_show_parts (count : Int) (parts : (List (Int × (List Int)))) : Ref F_show_parts [⟨rI count, false⟩, ⟨(rL (rP rI (rL rI))) parts, false⟩] rS false (g_show_parts count parts) := ref_of (ρ := [sl_ rI count, sl_ (rL (rP rI (rL rI))) parts]) rfl (by
  unfold g_show_parts
  exact bl_last (bl_assoc (bl_bind fun x hx => (bl_expr (q_callR (rf_need_count count 60) hx (a_FN (q_var rfl) rfl rfl a_nil) rfl rfl rfl (fun _ => rfl)) (bl_assoc (bl_bind fun x_1 hx_1 => (bl_if (q_not (q_dTr (q_callR (rf_are_parts count ((rL (rP rI (rL rI))) parts)) hx_1 (a_FN (q_var rfl) rfl rfl (a_FN (q_var rfl) rfl rfl a_nil)) rfl rfl rfl (fun _ => rfl)) rfl t_B)) (fun _ => bl_never) (fun _ => (bl_nextS (bl_bind fun res hres => (bl_ret (q_callR (rf_parts_text parts) hres (a_FN (q_var rfl) rfl rfl a_nil) rfl rfl rfl (fun _ => rfl)) rfl rfl ⟨_, rfl⟩)))))))))))
theorem rf_is_row (value : D) : Ref F_is_row [⟨rU value, false⟩] rB false (g_is_row value) := ref_of (ρ := [sl_ rU value, none]) rfl (by
  unfold g_is_row
  exact bl_last (bl_assoc (bl_bind fun b hb => (bl_bind fun b_1 hb_1 => (bl_if (q_orP (q_not (q_dTr (q_isiU (q_var rfl) rfl hb) rfl t_B)) (vt_bind fun x hx => (vt_ret (q_not (q_dB (q_chain q_con (q_bi (a_T (q_var rfl) a_nil) (cs_cons rfl cs_nil) (g_lenU hx)) q_con rfl rfl rfl g_leI g_leI) rfl)))) hb_1) (fun _ => (bl_ret q_con rfl rfl ⟨_, rfl⟩)) (fun _ => (bl_nextS (bl_bind fun ys hys => (bl_bind fun x_2 hx_2 => (bl_ret (q_bi (a_T (q_lc (f := rB) (fun faults => [sl_ rU value, sl_ rU faults]) (i_anyN (q_var rfl) rfl rfl (any_U hys)) rfl rfl (fun _ => rfl) (fun _ => rfl) (fun faults => (vt_ret rfl)) (fun faults => (ve_bind fun x_1 hx_1 => (ve_ret (f := rB) (q_callR (rf_is_integer faults 0 (some 1000000000000000000000000000000)) hx_1 (a_FN (q_var rfl) rfl rfl (a_FN q_con rfl rfl (a_FN q_con rfl rfl a_nil))) rfl rfl rfl (fun _ => rfl)) rfl rfl))) hx_2) a_nil) (cs_cons rfl cs_nil) g_all) rfl rfl ⟨_, rfl⟩))))))))))
theorem rf_is_tableau (value : D) : Ref F_is_tableau [⟨rU value, false⟩] rB false (g_is_tableau value) := ref_of (ρ := [sl_ rU value, none]) rfl (by
  unfold g_is_tableau
  exact bl_last (bl_assoc (bl_bind fun b hb => (bl_bind fun b_1 hb_1 => (bl_if (q_orP (q_not (q_dTr (q_isiU (q_var rfl) rfl hb) rfl t_B)) (vt_bind fun x hx => (vt_ret (q_not (q_dB (q_chain q_con (q_bi (a_T (q_var rfl) a_nil) (cs_cons rfl cs_nil) (g_lenU hx)) q_con rfl rfl rfl g_leI g_leI) rfl)))) hb_1) (fun _ => (bl_ret q_con rfl rfl ⟨_, rfl⟩)) (fun _ => (bl_nextS (bl_bind fun ys hys => (bl_bind fun x_2 hx_2 => (bl_bind fun b_2 hb_2 => (bl_ret (q_andVP (q_dB (q_bi (a_T (q_lc (f := rB) (fun row => [sl_ rU value, sl_ rU row]) (i_anyN (q_var rfl) rfl rfl (any_U hys)) rfl rfl (fun _ => rfl) (fun _ => rfl) (fun row => (vt_ret rfl)) (fun row => (ve_bind fun x_1 hx_1 => (ve_ret (f := rB) (q_callR (rf_is_row row) hx_1 (a_FN (q_var rfl) rfl rfl a_nil) rfl rfl rfl (fun _ => rfl)) rfl rfl))) hx_2) a_nil) (cs_cons rfl cs_nil) g_all) rfl) (vb_bind fun ys_1 hys_1 => (vb_bind fun x_6 hx_6 => (vb_ret (q_bi (a_T (q_lc (f := rB) (fun row_1 => [sl_ rU value, sl_ rU row_1]) (i_anyN (q_var rfl) rfl rfl (any_U hys_1)) rfl rfl (fun _ => rfl) (fun _ => rfl) (fun row_1 => (vt_ret rfl)) (fun row_1 => (ve_bind fun x_3 hx_3 => (ve_bind fun x_4 hx_4 => (ve_bind fun x_5 hx_5 => (ve_ret (f := rB) (q_cmp (q_bi (a_T (q_var rfl) a_nil) (cs_cons rfl cs_nil) (g_lenU hx_3)) (q_bi (a_T (q_op2 (q_var rfl) q_con rfl rfl (g_ixU hx_4)) a_nil) (cs_cons rfl cs_nil) (g_lenU hx_5)) rfl rfl g_eqI) rfl rfl))))) hx_6) a_nil) (cs_cons rfl cs_nil) g_all)))) hb_2) rfl rfl ⟨_, rfl⟩)))))))))))
theorem rf_need_tableau (tableau : (List (List Int))) (most : Int) : Ref F_need_tableau [⟨(rL (rL rI)) tableau, false⟩, ⟨rI most, false⟩] rN false (g_need_tableau tableau most) := ref_ofU (ρ := [sl_ (rL (rL rI)) tableau, sl_ rI most]) rfl (by
  unfold g_need_tableau
  exact bl_last (bl_bind fun x hx => (bl_bind fun b hb => (bl_if (q_orP (q_not (q_dTr (q_callR (rf_is_tableau ((rL (rL rI)) tableau)) hx (a_FN (q_var rfl) rfl rfl a_nil) rfl rfl rfl (fun _ => rfl)) rfl t_B)) (vt_bind fun x_1 hx_1 => (vt_ret (q_dB (q_cmp (q_bi (a_T (q_op2 (q_var rfl) q_con rfl rfl (g_ixL (f := (rL rI)) hx_1)) a_nil) (cs_cons rfl cs_nil) (g_lenL (f := rI))) (q_var rfl) rfl rfl g_gtI) rfl))) hb) (fun _ => bl_never) (fun _ => (bl_nextS (bl_end (.inl ⟨_, rfl⟩))))))))
theorem rf_show_tableau (tableau : (List (List Int))) : Ref F_show_tableau [⟨(rL (rL rI)) tableau, false⟩] rS false (g_show_tableau tableau) := ref_of (ρ := [sl_ (rL (rL rI)) tableau, none, none]) rfl (by
  unfold g_show_tableau
  exact bl_last (bl_assoc (bl_bind fun x hx => (bl_expr (q_callR (rf_need_tableau tableau 60) hx (a_FN (q_var rfl) rfl rfl a_nil) rfl rfl rfl (fun _ => rfl)) (bl_bind fun x_4 hx_4 => (bl_bind fun res hres => (bl_ret (q_mt (q_str strK4) rfl isStr_S (a_T (q_lc (f := rS) (cq := (fun row : (List Int) => some true)) (ce := (fun row : (List Int) => (lcC (fun faults => some true) (fun faults => (strI faults).bind fun x_1 => some x_1) row).bind fun x_2 => (joinS [44] x_2).bind fun x_3 => some x_3)) (fun row => [sl_ (rL (rL rI)) tableau, none, sl_ (rL rI) row]) (i_anyN (q_var rfl) rfl rfl rfl) rfl rfl (fun _ => rfl) (fun _ => rfl) (fun row => (vt_ret rfl)) (fun row => (ve_bind fun x_2 hx_2 => (ve_bind fun x_3 hx_3 => (ve_ret (f := rS) (q_mt (q_str strK2) rfl isStr_S (a_T (q_lc (f := rS) (fun faults => [sl_ (rL (rL rI)) tableau, sl_ rI faults, sl_ (rL rI) row]) (i_anyN (q_var rfl) rfl rfl rfl) rfl rfl (fun _ => rfl) (fun _ => rfl) (fun faults => (vt_ret rfl)) (fun faults => (ve_bind fun x_1 hx_1 => (ve_ret (f := rS) (q_bi (a_T (q_var rfl) a_nil) (cs_cons rfl cs_nil) (g_strI hx_1)) rfl rfl))) hx_2) a_nil) rfl (cs_cons rfl cs_nil) (g_join hx_3)) rfl rfl)))) hx_4) a_nil) rfl (cs_cons rfl cs_nil) (g_join hres)) rfl rfl ⟨_, rfl⟩)))))))
theorem rf_need_string (text : (List Nat)) : Ref F_need_string [⟨rS text, false⟩] rN false (g_need_string text) := ref_ofU (ρ := [sl_ rS text]) rfl (by
  unfold g_need_string
  exact bl_last (bl_if (q_not (q_dTr (q_isi (t := .str) (q_var rfl) rfl rfl) rfl t_B)) (fun _ => bl_never) (fun _ => (bl_nextS (bl_end (.inl ⟨_, rfl⟩))))))
theorem rf_number_in (word : (List Nat)) : Ref F_number_in [⟨rS word, false⟩] (rO rI) false (g_number_in word) := ref_of (ρ := [sl_ rS word, none]) rfl (by
  unfold g_number_in
  exact bl_last (bl_assoc (bl_bind fun x hx => (bl_bind fun b hb => (bl_if (q_orP (q_not (q_dB (q_chain q_con (q_bi (a_T (q_var rfl) a_nil) (cs_cons rfl cs_nil) (g_lenS hx)) q_con rfl rfl rfl g_leI g_leI) rfl)) (vt_bind fun x_1 hx_1 => (vt_ret (q_not (q_dTr (q_bi (a_T (q_lc (f := rB) (fun sign => [sl_ rS word, sl_ rS sign]) (i_anyN (q_var rfl) rfl rfl (any_S _)) rfl rfl (fun _ => rfl) (fun _ => rfl) (fun sign => (vt_ret rfl)) (fun sign => (ve_ret (f := rB) (q_cmp (q_var rfl) (q_str strK5) rfl rfl g_inTx) rfl rfl)) hx_1) a_nil) (cs_cons rfl cs_nil) g_all) rfl t_B)))) hb) (fun _ => (bl_ret q_con rfl rfl ⟨_, rfl⟩)) (fun _ => (bl_nextS (bl_bind fun x_2 hx_2 => (bl_bind fun x_4 hx_4 => (bl_ret (q_ifxP (f := (rO rI)) (q_and (q_dB (q_cmp (q_op2 (q_var rfl) q_con rfl rfl (g_ixS hx_2)) (q_str strK6) rfl rfl g_eqS) rfl) (q_dB (q_cmp (q_var rfl) (q_str strK6) rfl rfl (g_ne g_eqS)) rfl)) (vs_ret q_con) (vs_bind fun x_3 hx_3 => (vs_ret (q_bi (a_T (q_var rfl) a_nil) (cs_cons rfl cs_nil) (g_intS hx_3)))) hx_4) rfl rfl ⟨_, rfl⟩))))))))))
theorem rf_numbers_in (text : (List Nat)) (sign : (List Nat)) : Ref F_numbers_in [⟨rS text, false⟩, ⟨rS sign, false⟩] (rL (rO rI)) true (g_numbers_in text sign) := ref_of (ρ := [sl_ rS text, sl_ rS sign, none]) rfl (by
  unfold g_numbers_in
  exact bl_last (bl_bind fun x hx => (bl_bind fun res hres => (bl_ret (q_lc (f := (rO rI)) (fun word => [sl_ rS text, sl_ rS sign, sl_ rS word]) (i_lstN (q_mt (q_var rfl) rfl isStr_S (a_T (q_var rfl) a_nil) rfl (cs_cons rfl cs_nil) (g_split hx)) rfl rfl) rfl rfl (fun _ => rfl) (fun _ => rfl) (fun word => (vt_ret rfl)) (fun word => (ve_bind fun x_1 hx_1 => (ve_ret (f := (rO rI)) (q_callR (rf_number_in word) hx_1 (a_FN (q_var rfl) rfl rfl a_nil) rfl rfl rfl (fun _ => rfl)) rfl rfl))) hres) rfl rfl ⟨_, rfl⟩))))
theorem rf_need_pieces (pieces : (List D)) : Ref F_need_pieces [⟨(rL rU) pieces, false⟩] rN false (g_need_pieces pieces) := ref_ofU (ρ := [sl_ (rL rU) pieces]) rfl (by
  unfold g_need_pieces
  exact bl_last (bl_bind fun b hb => (bl_if (q_dB (q_cmp q_con (q_var rfl) rfl rfl (g_inU hb)) rfl) (fun _ => bl_never) (fun _ => (bl_nextS (bl_end (.inl ⟨_, rfl⟩)))))))
theorem rf_read_order (text : (List Nat)) : Ref F_read_order [⟨rS text, false⟩] (rL (rO rI)) true (g_read_order text) := ref_of (ρ := [sl_ rS text, none]) rfl (by
  unfold g_read_order
  exact bl_last (bl_assoc (bl_bind fun x hx => (bl_expr (q_callR (rf_need_string text) hx (a_FN (q_var rfl) rfl rfl a_nil) rfl rfl rfl (fun _ => rfl)) (bl_assoc (bl_bind fun found hfound => (bl_setV (ρ2 := [sl_ rS text, so_ (rL (rO rI)) found]) (q_callR (rf_numbers_in text [62]) hfound (a_FN (q_var rfl) rfl rfl (a_FN (q_str strK0) rfl rfl a_nil)) rfl rfl rfl (fun _ => rfl)) rfl rfl rfl (bl_assoc (bl_bind fun x_1 hx_1 => (bl_expr (q_bor (q_callR (rf_need_pieces (found.map (rO rI))) hx_1 (a_FN (q_var rfl) (co_lU (f := (rO rI)) rfl) rfl a_nil) rfl rfl rfl (fun _ => rfl)) rfl) (bl_assoc (bl_bind fun x_2 hx_2 => (bl_if (q_not (q_dTr (q_bor (q_callR (rf_is_order ((rL (rO rI)) found)) hx_2 (a_FN (q_var rfl) rfl rfl a_nil) rfl rfl rfl (fun _ => rfl)) rfl) rfl t_B)) (fun _ => bl_never) (fun _ => (bl_nextS (bl_ret (q_var rfl) rfl rfl ⟨_, rfl⟩))))))))))))))))
theorem rf_part_in (word : (List Nat)) : RefO F_part_in [⟨rS word, false⟩] (rX (rP (rO rI) (rL (rO rI)))) (g_part_in word) := ref_ofO (ρ := [sl_ rS word, none, none, none, none, none]) rfl (by
  unfold g_part_in
  exact bl_last (bl_assoc (bl_bind fun p hp => (bl_seq (ρ1 := [sl_ rS word, sl_ rS p.1, sl_ rS p.2.1, sl_ rS p.2.2, none, none]) (q_unpN (q_mt (q_var rfl) rfl isStr_S (a_T (q_str strK1) a_nil) rfl (cs_cons rfl cs_nil) (g_part hp)) rfl rfl rfl) (bl_assoc (bl_bind fun number hnumber => (bl_bind fun ahead hahead => (bl_seq (q_par (a_T (q_callR (rf_number_in p.1) hnumber (a_FN (q_var rfl) rfl rfl a_nil) rfl rfl rfl (fun _ => rfl)) (a_T (q_callR (rf_numbers_in p.2.2 [44]) hahead (a_FN (q_var rfl) rfl rfl (a_FN (q_str strK2) rfl rfl a_nil)) rfl rfl rfl (fun _ => rfl)) a_nil)) rfl (q_put rfl rfl rfl) (q_put rfl rfl rfl)) (bl_retIf (q_or (q_dB (q_cmp (q_var rfl) (q_str strK7) rfl rfl g_eqS) rfl) (q_or (q_dB (q_cmp (q_var rfl) q_con rfl rfl (g_isN (f := rI) nn_I)) rfl) (q_dB (q_cmp q_con (q_var rfl) rfl rfl (inV_OI none ahead)) rfl))) (fun _ => (bl_ret q_con rfl rfl ⟨_, rfl⟩)) (fun _ => (bl_ret (q_tupT2 (f := (rL (rO rI))) (a_FN (q_var rfl) rfl rfl (a_T (q_tre (g := (rO rI)) (q_tk (ρ1 := [sl_ rS word, sl_ rS p.1, sl_ rS p.2.1, sl_ rS p.2.2, sl_ (rO rI) number, none]) rfl rfl) cn_OI) a_nil))) rfl rfl ⟨_, rfl⟩)))))))))))
theorem rf_read_parts (count : Int) (text : (List Nat)) : Ref F_read_parts [⟨rI count, false⟩, ⟨rS text, false⟩] (rX (rL (rP (rO rI) (rL (rO rI))))) true (g_read_parts count text) := ref_of (ρ := [sl_ rI count, sl_ rS text, none, none]) rfl (by
  unfold g_read_parts
  exact bl_last (bl_assoc (bl_bind fun x hx => (bl_expr (q_callR (rf_need_count count 60) hx (a_FN (q_var rfl) rfl rfl a_nil) rfl rfl rfl (fun _ => rfl)) (bl_assoc (bl_bind fun x_1 hx_1 => (bl_expr (q_callR (rf_need_string text) hx_1 (a_FN (q_var rfl) rfl rfl a_nil) rfl rfl rfl (fun _ => rfl)) (bl_assoc (bl_bind fun found_1 hfound_1 => (bl_setV (ρ2 := [sl_ rI count, sl_ rS text, so_ (rX (rL (rP (rO rI) (rL (rO rI))))) found_1, none]) (q_ifxT (f := (rL (rP (rO rI) (rL (rO rI))))) (q_dB (q_cmp (q_var rfl) (q_str strK7) rfl rfl (g_ne g_eqS)) rfl) (vnt_bind fun x_2 hx_2 => (vnt_bind fun found hfound => (vnt_ret (f := (rL (rP (rO rI) (rL (rO rI))))) (q_lcTr (f := (rP (rO rI) (rL (rO rI)))) (cq := (fun (word : (List Nat)) => some true)) (ce := (fun (word : (List Nat)) => (g_part_in word).bind fun x_3 => (x_3).bind fun x_4 => some (x_4 : ((Option Int) × (List (Option Int)))))) (fun (word : (List Nat)) => [sl_ rI count, sl_ rS text, none, sl_ rS word]) (i_lstN (q_mt (q_var rfl) rfl isStr_S (a_T (q_str strK3) a_nil) rfl (cs_cons rfl cs_nil) (g_split hx_2)) rfl rfl) rfl rfl (fun _ => rfl) (fun _ => rfl) (fun word => (vt_ret rfl)) (fun word => (vnt_bind fun x_3 hx_3 => (vnt_bind fun x_4 hx_4 => (vnt_ret (f := (rP (rO rI) (rL (rO rI)))) (q_some (f := (rX (rP (rO rI) (rL (rO rI))))) hx_4 (q_callO (rf_part_in word) hx_3 (a_FN (q_var rfl) rfl rfl a_nil) rfl rfl rfl (fun _ => rfl))))))) hfound)))) (vnt_ret (f := (rL (rP (rO rI) (rL (rO rI))))) (q_tre0 (f := (rP (rO rI) (rL (rO rI)))))) hfound_1) rfl rfl rfl (bl_assoc (bl_bind fun x_5 hx_5 => (bl_expr (q_bor (q_callR (rf_need_pieces (found_1.map (rP (rO rI) (rL (rO rI))))) hx_5 (a_FN (q_unT (f := (rL (rP (rO rI) (rL (rO rI))))) (q_var rfl) rfl rfl) (co_lU (f := (rP (rO rI) (rL (rO rI)))) rfl) rfl a_nil) rfl rfl rfl (fun _ => rfl)) rfl) (bl_assoc (bl_bind fun x_6 hx_6 => (bl_if (q_not (q_dTr (q_bor (q_callR (rf_are_parts count ((rL (rP (rO rI) (rL (rO rI)))) found_1)) hx_6 (a_FN (q_var rfl) rfl rfl (a_FN (q_unT (f := (rL (rP (rO rI) (rL (rO rI))))) (q_var rfl) rfl rfl) rfl rfl a_nil)) rfl rfl rfl (fun _ => rfl)) rfl) rfl t_B)) (fun _ => bl_never) (fun _ => (bl_nextS (bl_ret (q_var rfl) rfl rfl ⟨_, rfl⟩)))))))))))))))))))
theorem rf_row_in (word : (List Nat)) : RefO F_row_in [⟨rS word, false⟩] (rL (rO rI)) (g_row_in word) := ref_ofO (ρ := [sl_ rS word, none]) rfl (by
  unfold g_row_in
  exact bl_last (bl_assoc (bl_bind fun found hfound => (bl_setV (ρ2 := [sl_ rS word, so_ (rL (rO rI)) found]) (q_callR (rf_numbers_in word [44]) hfound (a_FN (q_var rfl) rfl rfl (a_FN (q_str strK2) rfl rfl a_nil)) rfl rfl rfl (fun _ => rfl)) rfl rfl rfl (bl_retIf (q_dB (q_cmp q_con (q_var rfl) rfl rfl (inV_OI none found)) rfl) (fun _ => (bl_ret q_con rfl rfl ⟨_, rfl⟩)) (fun _ => (bl_ret (q_var rfl) rfl rfl ⟨_, rfl⟩)))))))
theorem rf_read_tableau (text : (List Nat)) : Ref F_read_tableau [⟨rS text, false⟩] (rX (rL (rL (rO rI)))) true (g_read_tableau text) := ref_of (ρ := [sl_ rS text, none, none]) rfl (by
  unfold g_read_tableau
  exact bl_last (bl_assoc (bl_bind fun x hx => (bl_expr (q_callR (rf_need_string text) hx (a_FN (q_var rfl) rfl rfl a_nil) rfl rfl rfl (fun _ => rfl)) (bl_assoc (bl_bind fun x_1 hx_1 => (bl_bind fun found hfound => (bl_setV (ρ2 := [sl_ rS text, so_ (rX (rL (rL (rO rI)))) found, none]) (q_lcTr (f := (rL (rO rI))) (cq := (fun (word : (List Nat)) => some true)) (ce := (fun (word : (List Nat)) => (g_row_in word).bind fun x_2 => (x_2).bind fun x_3 => some (x_3 : (List (Option Int))))) (fun (word : (List Nat)) => [sl_ rS text, none, sl_ rS word]) (i_lstN (q_mt (q_var rfl) rfl isStr_S (a_T (q_str strK4) a_nil) rfl (cs_cons rfl cs_nil) (g_split hx_1)) rfl rfl) rfl rfl (fun _ => rfl) (fun _ => rfl) (fun word => (vt_ret rfl)) (fun word => (vnt_bind fun x_2 hx_2 => (vnt_bind fun x_3 hx_3 => (vnt_ret (f := (rL (rO rI))) (q_tre (g := (rO rI)) (q_some (f := (rL (rO rI))) hx_3 (q_callO (rf_row_in word) hx_2 (a_FN (q_var rfl) rfl rfl a_nil) rfl rfl rfl (fun _ => rfl))) cn_OI))))) hfound) rfl rfl rfl (bl_assoc (bl_bind fun x_4 hx_4 => (bl_expr (q_bor (q_callR (rf_need_pieces (found.map (rL (rO rI)))) hx_4 (a_FN (q_unT (f := (rL (rL (rO rI)))) (q_var rfl) rfl rfl) (co_lU (f := (rL (rO rI))) rfl) rfl a_nil) rfl rfl rfl (fun _ => rfl)) rfl) (bl_assoc (bl_bind fun x_5 hx_5 => (bl_if (q_not (q_dTr (q_bor (q_callR (rf_is_tableau ((rL (rL (rO rI))) found)) hx_5 (a_FN (q_unT (f := (rL (rL (rO rI)))) (q_var rfl) rfl rfl) rfl rfl a_nil) rfl rfl rfl (fun _ => rfl)) rfl) rfl t_B)) (fun _ => bl_never) (fun _ => (bl_nextS (bl_ret (q_var rfl) rfl rfl ⟨_, rfl⟩)))))))))))))))))
theorem rf__law_right_b1 (order : ((List Int) × (List Int))) (count_here : Int) (parts_here : ((List (Int × (List Int))) × (List Int))) (tableau_here : ((List (List Int)) × (List Int))) (before : (List Nat)) (words : (List (List Nat))) (rows : (List (List Nat))) (due : (List (List Nat))) (s' : Unit) (turn : Int) : BL (PF [9, 10] (PW (fun (s' : Unit) => [sp_ (rL rI) tableau_here.2, sl_ (rL rI) order.1, sl_ rI count_here, sl_ (rL (rP rI (rL rI))) parts_here.1, sl_ (rL (rL rI)) tableau_here.1, sl_ rS before, sl_ (rL rS) words, sl_ (rL rS) rows, sl_ (rL rS) due, none, none, none, none, none, none, none]) (PRt rB false 1 (fun tz => [sp_ (rL rI) tz])))) [sp_ (rL rI) tableau_here.2, sl_ (rL rI) order.1, sl_ rI count_here, sl_ (rL (rP rI (rL rI))) parts_here.1, sl_ (rL (rL rI)) tableau_here.1, sl_ rS before, sl_ (rL rS) words, sl_ (rL rS) rows, sl_ (rL rS) due, sl_ rI turn, none, none, none, none, none, none] r__law_right_9_l_1 (g__law_right_b1 order count_here parts_here tableau_here before due s' turn) := by
  unfold g__law_right_b1
  exact bl_last (bl_assoc (bl_bind fun x_22 hx_22 => (bl_bind fun x_23 hx_23 => (bl_bind fun x_24 hx_24 => (bl_bind fun x_25 hx_25 => (bl_bind fun x_26 hx_26 => (bl_bind fun x_27 hx_27 => (bl_set (f := (rX (rF3 (rL (rO rI)) (rL (rP (rO rI) (rL (rO rI)))) (rL (rL (rO rI)))))) (S := (fun told => [sp_ (rL rI) tableau_here.2, sl_ (rL rI) order.1, sl_ rI count_here, sl_ (rL (rP rI (rL rI))) parts_here.1, sl_ (rL (rL rI)) tableau_here.1, sl_ rS before, sl_ (rL rS) words, sl_ (rL rS) rows, sl_ (rL rS) due, sl_ rI turn, so_ (rX (rF3 (rL (rO rI)) (rL (rP (rO rI) (rL (rO rI)))) (rL (rL (rO rI))))) told, none, none, none, none, none])) (q_lstT (z := (rX (rF3 (rL (rO rI)) (rL (rP (rO rI) (rL (rO rI)))) (rL (rL (rO rI)))) (x_23, x_25, x_27), Kd.fr)) (a_T (q_tre (g := (rO rI)) (q_callR (rf_read_order x_22) hx_23 (a_FN (q_op2 (q_var rfl) q_con rfl rfl (g_ixL (f := rS) hx_22)) rfl rfl a_nil) rfl rfl rfl (fun _ => rfl)) cn_OI) (a_T (q_callR (rf_read_parts count_here x_24) hx_25 (a_FN (q_var rfl) rfl rfl (a_FN (q_op2 (q_var rfl) q_con rfl rfl (g_ixL (f := rS) hx_24)) rfl rfl a_nil)) rfl rfl rfl (fun _ => rfl)) (a_T (q_callR (rf_read_tableau x_26) hx_27 (a_FN (q_op2 (q_var rfl) q_con rfl rfl (g_ixL (f := rS) hx_26)) rfl rfl a_nil) rfl rfl rfl (fun _ => rfl)) a_nil))) rfl) rfl rfl (fun _ => rfl) fun told => (bl_assoc (bl_bind fun x_28 hx_28 => (bl_bind fun b_1 hb_1 => (bl_if (q_orP (q_tbor (q_dB (q_cmp (q_bi (a_T (q_unT (f := (rF3 (rL (rO rI)) (rL (rP (rO rI) (rL (rO rI)))) (rL (rL (rO rI))))) (q_var rfl) rfl rfl) a_nil) (cs_cons rfl cs_nil) (g_repG hx_28)) (q_var rfl) rfl rfl (g_ne g_eqS)) rfl)) (vt_bind fun x_29 hx_29 => (vt_ret (q_dB (q_cmp (q_bi (a_T (q_lst (ds := [(rL rI) order.1, (rL (rP rI (rL rI))) parts_here.1, (rL (rL rI)) tableau_here.1]) (a_FN (q_var rfl) rfl rfl (a_FN (q_var rfl) rfl rfl (a_FN (q_var rfl) rfl rfl a_nil))) rfl rfl) a_nil) (cs_cons rfl cs_nil) (g_repG hx_29)) (q_var rfl) rfl rfl (g_ne g_eqS)) rfl))) hb_1) (fun _ => (bl_ret q_con rfl rfl ⟨⟨_, _, _, rfl⟩, ⟨_, rfl, rfl⟩⟩)) (fun _ => (bl_nextS (bl_assoc (bl_bind fun told_1 htold_1 => (bl_expr (q_wrT (d := ((rF3 (rL (rO rI)) (rL (rP (rO rI) (rL (rO rI)))) (rL (rL (rO rI)))) told)) (ρ2 := [sp_ (rL rI) tableau_here.2, sl_ (rL rI) order.1, sl_ rI count_here, sl_ (rL (rP rI (rL rI))) parts_here.1, sl_ (rL (rL rI)) tableau_here.1, sl_ rS before, sl_ (rL rS) words, sl_ (rL rS) rows, sl_ (rL rS) due, sl_ rI turn, so_ (rX rU) told_1, none, none, none, none, none]) strK8 rfl htold_1 rfl) (bl_assoc (bl_bind fun told_2 htold_2 => (bl_expr (q_wrT (d := told_1) (ρ2 := [sp_ (rL rI) tableau_here.2, sl_ (rL rI) order.1, sl_ rI count_here, sl_ (rL (rP rI (rL rI))) parts_here.1, sl_ (rL (rL rI)) tableau_here.1, sl_ rS before, sl_ (rL rS) words, sl_ (rL rS) rows, sl_ (rL rS) due, sl_ rI turn, so_ (rX rU) told_2, none, none, none, none, none]) strK8 rfl htold_2 rfl) (bl_bind fun x_30 hx_30 => (bl_bind fun b_2 hb_2 => (bl_ifJ (fun (_ : Unit) => [sp_ (rL rI) tableau_here.2, sl_ (rL rI) order.1, sl_ rI count_here, sl_ (rL (rP rI (rL rI))) parts_here.1, sl_ (rL (rL rI)) tableau_here.1, sl_ rS before, sl_ (rL rS) words, sl_ (rL rS) rows, sl_ (rL rS) due, sl_ rI turn, none, none, none, none, none, none]) (q_tbor (q_dB (q_cmp (q_op2 (q_unT (f := rU) (q_var rfl) rfl rfl) q_con rfl rfl (g_ixU hx_30)) (q_lst (ds := List.map rU []) a_nil rfl rfl) rfl rfl (g_id (h := neX) hb_2)) rfl)) (fun _ => (bl_fgE (bl_last (bl_bind fun told_3 htold_3 => (bl_expr (q_wrT (d := told_2) (ρ2 := [sp_ (rL rI) tableau_here.2, sl_ (rL rI) order.1, sl_ rI count_here, sl_ (rL (rP rI (rL rI))) parts_here.1, sl_ (rL (rL rI)) tableau_here.1, sl_ rS before, sl_ (rL rS) words, sl_ (rL rS) rows, sl_ (rL rS) due, sl_ rI turn, so_ (rX rU) told_3, none, none, none, none, none]) strK8 rfl htold_3 rfl) (bl_end rfl)))))) (fun _ => (bl_fgE (bl_last (bl_nextS (bl_end rfl))))) fun s'_1 => (bl_end (Or.inl rfl)))))))))))))))))))))))))
theorem rf__law_right (purse_here : (List Int)) : RefT F__law_right [⟨(rL rI) purse_here, true⟩] rB false (fun tz => [sp_ (rL rI) tz]) (g__law_right purse_here) := ref_ofT (ρ := [sp_ (rL rI) purse_here, none, none, none, none, none, none, none, none, none, none, none, none, none, none, none]) rfl rfl (by
  unfold g__law_right
  exact bl_last (bl_assoc (bl_bind fun x hx => (bl_bind fun x_1 hx_1 => (bl_bind fun x_2 hx_2 => (bl_bind fun order horder => (bl_setV (ρ2 := [sp_ (rL rI) order.2, sl_ (rL rI) order.1, none, none, none, none, none, none, none, none, none, none, none, none, none, none]) (q_shN (q_callT (ρ2 := [sp_ (rL rI) order.2, none, none, none, none, none, none, none, none, none, none, none, none, none, none, none]) (rf__law_shuffled x_1.2 x_2) horder (a_T (q_var rfl) (a_FN (q_op2 (q_lst (ds := List.map rI [1 + x.1, 60]) (a_FN (q_op2 q_con (q_callT (ρ2 := [sp_ (rL rI) x.2, none, none, none, none, none, none, none, none, none, none, none, none, none, none, none]) (rf__law_coin purse_here 9) hx (a_T (q_var rfl) (a_FN q_con rfl rfl a_nil)) rfl rfl rfl rfl) rfl rfl g_addI) rfl rfl (a_FN q_con rfl rfl a_nil)) rfl rfl) (q_op2 (q_callT (ρ2 := [sp_ (rL rI) x_1.2, none, none, none, none, none, none, none, none, none, none, none, none, none, none, none]) (rf__law_coin x.2 6) hx_1 (a_T (q_var rfl) (a_FN q_con rfl rfl a_nil)) rfl rfl rfl rfl) q_con rfl rfl (g_divIk (by decide))) rfl rfl (g_ixL (f := rI) hx_2)) rfl rfl a_nil)) rfl rfl rfl rfl) rfl rfl) rfl rfl rfl (bl_assoc (bl_bind fun x_3 hx_3 => (bl_bind fun x_4 hx_4 => (bl_bind fun count_here hcount_here => (bl_setV (ρ2 := [sp_ (rL rI) x_4.2, sl_ (rL rI) order.1, sl_ rI count_here, none, none, none, none, none, none, none, none, none, none, none, none, none]) (q_op2 (q_lst (ds := List.map rI [1 + x_3.1, 60]) (a_FN (q_op2 q_con (q_callT (ρ2 := [sp_ (rL rI) x_3.2, sl_ (rL rI) order.1, none, none, none, none, none, none, none, none, none, none, none, none, none, none]) (rf__law_coin order.2 9) hx_3 (a_T (q_var rfl) (a_FN q_con rfl rfl a_nil)) rfl rfl rfl rfl) rfl rfl g_addI) rfl rfl (a_FN q_con rfl rfl a_nil)) rfl rfl) (q_op2 (q_callT (ρ2 := [sp_ (rL rI) x_4.2, sl_ (rL rI) order.1, none, none, none, none, none, none, none, none, none, none, none, none, none, none]) (rf__law_coin x_3.2 6) hx_4 (a_T (q_var rfl) (a_FN q_con rfl rfl a_nil)) rfl rfl rfl rfl) q_con rfl rfl (g_divIk (by decide))) rfl rfl (g_ixL (f := rI) hcount_here)) rfl rfl rfl (bl_assoc (bl_bind fun parts_here hparts_here => (bl_bind fun tableau_here htableau_here => (bl_seq (q_par (a_T (q_shN (q_callT (ρ2 := [sp_ (rL rI) parts_here.2, sl_ (rL rI) order.1, sl_ rI count_here, none, none, none, none, none, none, none, none, none, none, none, none, none]) (rf__law_parts x_4.2 count_here 20) hparts_here (a_T (q_var rfl) (a_FN (q_var rfl) rfl rfl (a_FN q_con rfl rfl a_nil))) rfl rfl rfl rfl) rfl rfl) (a_T (q_shN (q_callT (ρ2 := [sp_ (rL rI) tableau_here.2, sl_ (rL rI) order.1, sl_ rI count_here, none, none, none, none, none, none, none, none, none, none, none, none, none]) (rf__law_tableau parts_here.2) htableau_here (a_T (q_var rfl) a_nil) rfl rfl rfl rfl) rfl rfl) a_nil)) rfl (q_put rfl rfl rfl) (q_put rfl rfl rfl)) (bl_assoc (bl_bind fun before hbefore => (bl_setV (ρ2 := [sp_ (rL rI) tableau_here.2, sl_ (rL rI) order.1, sl_ rI count_here, sl_ (rL (rP rI (rL rI))) parts_here.1, sl_ (rL (rL rI)) tableau_here.1, sl_ rS before, none, none, none, none, none, none, none, none, none, none]) (q_bi (a_T (q_lst (ds := [(rL rI) order.1, (rL (rP rI (rL rI))) parts_here.1, (rL (rL rI)) tableau_here.1]) (a_FN (q_var rfl) rfl rfl (a_FN (q_var rfl) rfl rfl (a_FN (q_var rfl) rfl rfl a_nil))) rfl rfl) a_nil) (cs_cons rfl cs_nil) (g_repG hbefore)) rfl rfl rfl (bl_assoc (bl_bind fun words hwords => (bl_seq (ρ1 := [sp_ (rL rI) tableau_here.2, sl_ (rL rI) order.1, sl_ rI count_here, sl_ (rL (rP rI (rL rI))) parts_here.1, sl_ (rL (rL rI)) tableau_here.1, sl_ rS before, sl_ (rL rS) words, none, none, none, none, none, none, none, none, none]) (q_shE (q_set (q_lc (f := rS) (cq := (fun p : (Int × (List Int)) => some true)) (ce := (fun p : (Int × (List Int)) => (strI p.1).bind fun x_5 => (catS x_5 [60]).bind fun x_6 => (lcC (fun one => some true) (fun one => (strI one).bind fun x_7 => some x_7) p.2).bind fun x_8 => (joinS [44] x_8).bind fun x_9 => (catS x_6 x_9).bind fun x_10 => some x_10)) (fun p => [sp_ (rL rI) tableau_here.2, sl_ (rL rI) order.1, sl_ rI count_here, sl_ (rL (rP rI (rL rI))) parts_here.1, sl_ (rL (rL rI)) tableau_here.1, sl_ rS before, none, none, none, none, none, none, sl_ rI p.1, sl_ (rL rI) p.2, none, none]) (i_anyN (q_var rfl) rfl rfl rfl) rfl rfl (fun _ => rfl) (fun _ => rfl) (fun p => (vt_ret rfl)) (fun p => (ve_bind fun x_5 hx_5 => (ve_bind fun x_6 hx_6 => (ve_bind fun x_8 hx_8 => (ve_bind fun x_9 hx_9 => (ve_bind fun x_10 hx_10 => (ve_ret (f := rS) (q_op2 (q_op2 (q_bi (a_T (q_var rfl) a_nil) (cs_cons rfl cs_nil) (g_strI hx_5)) (q_str strK1) rfl rfl (g_addS hx_6)) (q_mt (q_str strK2) rfl isStr_S (a_T (q_lc (f := rS) (fun one => [sp_ (rL rI) tableau_here.2, sl_ (rL rI) order.1, sl_ rI count_here, sl_ (rL (rP rI (rL rI))) parts_here.1, sl_ (rL (rL rI)) tableau_here.1, sl_ rS before, none, none, none, none, none, sl_ rI one, sl_ rI p.1, sl_ (rL rI) p.2, none, none]) (i_anyN (q_var rfl) rfl rfl rfl) rfl rfl (fun _ => rfl) (fun _ => rfl) (fun one => (vt_ret rfl)) (fun one => (ve_bind fun x_7 hx_7 => (ve_ret (f := rS) (q_bi (a_T (q_var rfl) a_nil) (cs_cons rfl cs_nil) (g_strI hx_7)) rfl rfl))) hx_8) a_nil) rfl (cs_cons rfl cs_nil) (g_join hx_9)) rfl rfl (g_addS hx_10)) rfl rfl))))))) hwords) rfl rfl rfl) rfl) (bl_assoc (bl_bind fun rows hrows => (bl_seq (ρ1 := [sp_ (rL rI) tableau_here.2, sl_ (rL rI) order.1, sl_ rI count_here, sl_ (rL (rP rI (rL rI))) parts_here.1, sl_ (rL (rL rI)) tableau_here.1, sl_ rS before, sl_ (rL rS) words, sl_ (rL rS) rows, none, none, none, none, none, none, none, none]) (q_shE (q_set (q_lc (f := rS) (cq := (fun row : (List Int) => some true)) (ce := (fun row : (List Int) => (lcC (fun faults => some true) (fun faults => (strI faults).bind fun x_11 => some x_11) row).bind fun x_12 => (joinS [44] x_12).bind fun x_13 => some x_13)) (fun row => [sp_ (rL rI) tableau_here.2, sl_ (rL rI) order.1, sl_ rI count_here, sl_ (rL (rP rI (rL rI))) parts_here.1, sl_ (rL (rL rI)) tableau_here.1, sl_ rS before, sl_ (rL rS) words, none, none, none, none, none, none, none, none, sl_ (rL rI) row]) (i_anyN (q_var rfl) rfl rfl rfl) rfl rfl (fun _ => rfl) (fun _ => rfl) (fun row => (vt_ret rfl)) (fun row => (ve_bind fun x_12 hx_12 => (ve_bind fun x_13 hx_13 => (ve_ret (f := rS) (q_mt (q_str strK2) rfl isStr_S (a_T (q_lc (f := rS) (fun faults => [sp_ (rL rI) tableau_here.2, sl_ (rL rI) order.1, sl_ rI count_here, sl_ (rL (rP rI (rL rI))) parts_here.1, sl_ (rL (rL rI)) tableau_here.1, sl_ rS before, sl_ (rL rS) words, none, none, none, none, none, none, none, sl_ rI faults, sl_ (rL rI) row]) (i_anyN (q_var rfl) rfl rfl rfl) rfl rfl (fun _ => rfl) (fun _ => rfl) (fun faults => (vt_ret rfl)) (fun faults => (ve_bind fun x_11 hx_11 => (ve_ret (f := rS) (q_bi (a_T (q_var rfl) a_nil) (cs_cons rfl cs_nil) (g_strI hx_11)) rfl rfl))) hx_12) a_nil) rfl (cs_cons rfl cs_nil) (g_join hx_13)) rfl rfl)))) hrows) rfl rfl rfl) rfl) (bl_assoc (bl_bind fun x_15 hx_15 => (bl_bind fun x_16 hx_16 => (bl_bind fun x_17 hx_17 => (bl_bind fun x_18 hx_18 => (bl_set (f := (rL rS)) (S := (fun due => [sp_ (rL rI) tableau_here.2, sl_ (rL rI) order.1, sl_ rI count_here, sl_ (rL (rP rI (rL rI))) parts_here.1, sl_ (rL (rL rI)) tableau_here.1, sl_ rS before, sl_ (rL rS) words, sl_ (rL rS) rows, sl_ (rL rS) due, none, none, none, none, none, none, none])) (q_shN (q_lst (ds := List.map rS [x_16, x_17, x_18]) (a_FN (q_mt (q_str strK0) rfl isStr_S (a_T (q_lc (f := rS) (fun rule => [sp_ (rL rI) tableau_here.2, sl_ (rL rI) order.1, sl_ rI count_here, sl_ (rL (rP rI (rL rI))) parts_here.1, sl_ (rL (rL rI)) tableau_here.1, sl_ rS before, sl_ (rL rS) words, sl_ (rL rS) rows, none, none, none, none, sl_ rI rule, none, none, none]) (i_anyN (q_var rfl) rfl rfl rfl) rfl rfl (fun _ => rfl) (fun _ => rfl) (fun rule => (vt_ret rfl)) (fun rule => (ve_bind fun x_14 hx_14 => (ve_ret (f := rS) (q_bi (a_T (q_var rfl) a_nil) (cs_cons rfl cs_nil) (g_strI hx_14)) rfl rfl))) hx_15) a_nil) rfl (cs_cons rfl cs_nil) (g_join hx_16)) rfl rfl (a_FN (q_mt (q_str strK3) rfl isStr_S (a_T (q_var rfl) a_nil) rfl (cs_cons rfl cs_nil) (g_join hx_17)) rfl rfl (a_FN (q_mt (q_str strK4) rfl isStr_S (a_T (q_var rfl) a_nil) rfl (cs_cons rfl cs_nil) (g_join hx_18)) rfl rfl a_nil))) rfl rfl) rfl rfl) rfl rfl (fun _ => rfl) fun due => (bl_assoc (bl_bind fun x_19 hx_19 => (bl_bind fun x_20 hx_20 => (bl_bind fun x_21 hx_21 => (bl_bind fun b hb => (bl_if (q_dB (q_cmp (q_lst (ds := List.map rS [x_19, x_20, x_21]) (a_FN (q_callR (rf_show_order order.1) hx_19 (a_FN (q_var rfl) rfl rfl a_nil) rfl rfl rfl (fun _ => rfl)) rfl rfl (a_FN (q_callR (rf_show_parts count_here parts_here.1) hx_20 (a_FN (q_var rfl) rfl rfl (a_FN (q_var rfl) rfl rfl a_nil)) rfl rfl rfl (fun _ => rfl)) rfl rfl (a_FN (q_callR (rf_show_tableau tableau_here.1) hx_21 (a_FN (q_var rfl) rfl rfl a_nil) rfl rfl rfl (fun _ => rfl)) rfl rfl a_nil))) rfl rfl) (q_var rfl) rfl rfl (g_ne (g_eqR (f := (rL rS)) (er_L er_S) rfl hb))) rfl) (fun _ => (bl_ret q_con rfl rfl ⟨_, rfl, rfl⟩)) (fun _ => (bl_nextS (bl_assoc (bl_bind fun r hr => (bl_forW (fb := rI) (s0 := ()) (Q := (PRt rB false 1 (fun tz => [sp_ (rL rI) tz]))) (rt := fun a => a) (fun (s' : Unit) => [sp_ (rL rI) tableau_here.2, sl_ (rL rI) order.1, sl_ rI count_here, sl_ (rL (rP rI (rL rI))) parts_here.1, sl_ (rL (rL rI)) tableau_here.1, sl_ rS before, sl_ (rL rS) words, sl_ (rL rS) rows, sl_ (rL rS) due, none, none, none, none, none, none, none]) (fun (s' : Unit) (turn : Int) => [sp_ (rL rI) tableau_here.2, sl_ (rL rI) order.1, sl_ rI count_here, sl_ (rL (rP rI (rL rI))) parts_here.1, sl_ (rL (rL rI)) tableau_here.1, sl_ rS before, sl_ (rL rS) words, sl_ (rL rS) rows, sl_ (rL rS) due, sl_ rI turn, none, none, none, none, none, none]) rfl (i_rng (a_T q_con a_nil) (cs_cons rfl cs_nil) (g_rng1 hr)) (fun _ _ => rfl) (fun s turn => rf__law_right_b1 order count_here parts_here tableau_here before words rows due s turn) out_R fun _u => (bl_ret q_con rfl rfl ⟨_, rfl, rfl⟩)))))))))))))))))))))))))))))))))))))))))))
theorem rf_law_b2 (script : (List Int)) (k : Int) (s'_1 : (List Int)) (turn : Int) : BL (PF [3] (PW (fun (s'_1 : (List Int)) => [sl_ (rL rI) script, sl_ rI k, so_ (rL rI) s'_1, none, none]) (PR rB false))) [sl_ (rL rI) script, sl_ rI k, so_ (rL rI) s'_1, sl_ rI turn, none] r_law_1_l_2_l_1 (g_law_b2 s'_1 turn) := by
  unfold g_law_b2
  exact bl_last (bl_bind fun x hx => (bl_if (q_not (q_dTr (q_callT (ρ2 := [sl_ (rL rI) script, sl_ rI k, so_ (rL rI) x.2, sl_ rI turn, none]) (rf__law_right s'_1) hx (a_T (q_var rfl) a_nil) rfl rfl rfl rfl) rfl t_B)) (fun _ => (bl_ret q_con rfl rfl ⟨⟨_, _, _, rfl⟩, ⟨_, rfl⟩⟩)) (fun _ => (bl_nextS (bl_end (Or.inl rfl))))))
theorem rf_law_b1 (script : (List Int)) (s' : Unit) (k : Int) : BL (PF [1, 2, 3] (PW (fun (s' : Unit) => [sl_ (rL rI) script, none, none, none, none]) (PR rB false))) [sl_ (rL rI) script, sl_ rI k, none, none, none] r_law_1_l_1 (g_law_b1 script s' k) := by
  unfold g_law_b1
  exact bl_last (bl_assoc (bl_bind fun purse_here hpurse_here => (bl_setV (ρ2 := [sl_ (rL rI) script, sl_ rI k, so_ (rL rI) purse_here, none, none]) (q_callR (rf__law_purse script k) hpurse_here (a_FN (q_var rfl) rfl rfl (a_FN (q_var rfl) rfl rfl a_nil)) rfl rfl rfl (fun _ => rfl)) rfl rfl rfl (bl_bind fun r_1 hr_1 => (bl_forW (fb := rI) (s0 := purse_here) (Q := (PR rB false)) (rt := fun a => Fw.ret a) (fun (s'_1 : (List Int)) => [sl_ (rL rI) script, sl_ rI k, so_ (rL rI) s'_1, none, none]) (fun (s'_1 : (List Int)) (turn : Int) => [sl_ (rL rI) script, sl_ rI k, so_ (rL rI) s'_1, sl_ rI turn, none]) rfl (i_rng (a_T q_con a_nil) (cs_cons rfl cs_nil) (g_rng1 hr_1)) (fun _ _ => rfl) (fun s turn => rf_law_b2 script k s turn) (out_F out_W fg_PR) fun purse_here_1 => (bl_end (Or.inl rfl)))))))
theorem rf_law (script : (List Int)) : Ref F_law [⟨(rL rI) script, false⟩] rB false (g_law script) := ref_of (ρ := [sl_ (rL rI) script, none, none, none, none]) rfl (by
  unfold g_law
  exact bl_last (bl_assoc (bl_bind fun r hr => (bl_forW (fb := rI) (s0 := ()) (Q := (PR rB false)) (rt := fun a => a) (fun (s' : Unit) => [sl_ (rL rI) script, none, none, none, none]) (fun (s' : Unit) (k : Int) => [sl_ (rL rI) script, sl_ rI k, none, none, none]) rfl (i_rng (a_T (q_bi (a_T q_con (a_T (q_bi (a_T q_con (a_T (q_bi (a_T (q_var rfl) a_nil) (cs_cons rfl cs_nil) (g_lenL (f := rI))) a_nil)) (cs_cons rfl (cs_cons rfl cs_nil)) g_min2) a_nil)) (cs_cons rfl (cs_cons rfl cs_nil)) g_max2) a_nil) (cs_cons rfl cs_nil) (g_rng1 hr)) (fun _ _ => rfl) (fun s k => rf_law_b1 script s k) out_R fun _u => (bl_assoc (bl_bind fun x_1 hx_1 => (bl_bind fun x_2 hx_2 => (bl_bind fun x_3 hx_3 => (bl_set (f := (rL rU)) (S := (fun told => [sl_ (rL rI) script, none, none, none, so_ (rL rU) told])) (q_lst (ds := [rS x_1, (rL (rO rI)) x_2, rS x_3]) (a_FN (q_callR (rf_show_parts 4 [(1, [3]), (2, [0, 1])]) hx_1 (a_FN q_con rfl rfl (a_FN (q_lst (ds := List.map (rP rI (rL rI)) [(1, [3]), (2, [0, 1])]) (a_FN (q_tup (ds := [rI 1, (rL rI) [3]]) (a_FN q_con rfl rfl (a_FN (q_lst (ds := List.map rI [3]) (a_FN q_con rfl rfl a_nil) rfl rfl) rfl rfl a_nil)) rfl rfl) rfl rfl (a_FN (q_tup (ds := [rI 2, (rL rI) [0, 1]]) (a_FN q_con rfl rfl (a_FN (q_lst (ds := List.map rI [0, 1]) (a_FN q_con rfl rfl (a_FN q_con rfl rfl a_nil)) rfl rfl) rfl rfl a_nil)) rfl rfl) rfl rfl a_nil)) rfl rfl) rfl rfl a_nil)) rfl rfl rfl (fun _ => rfl)) rfl rfl (a_FN (q_callR (rf_read_order [50, 62, 48, 62, 49]) hx_2 (a_FN (q_str strK9) rfl rfl a_nil) rfl rfl rfl (fun _ => rfl)) rfl rfl (a_FN (q_callR (rf_show_tableau [[0, 2], [1, 0]]) hx_3 (a_FN (q_lst (ds := List.map (rL rI) [[0, 2], [1, 0]]) (a_FN (q_lst (ds := List.map rI [0, 2]) (a_FN q_con rfl rfl (a_FN q_con rfl rfl a_nil)) rfl rfl) rfl rfl (a_FN (q_lst (ds := List.map rI [1, 0]) (a_FN q_con rfl rfl (a_FN q_con rfl rfl a_nil)) rfl rfl) rfl rfl a_nil)) rfl rfl) rfl rfl a_nil) rfl rfl rfl (fun _ => rfl)) rfl rfl a_nil))) rfl rfl) rfl rfl (fun _ => rfl) fun told => (bl_assoc (bl_bind fun x_4 hx_4 => (bl_bind fun told_1 htold_1 => (bl_expr (q_mut (ρ2 := [sl_ (rL rI) script, none, none, none, so_ (rL rU) told_1]) rfl (a_FN (q_unT (f := (rL (rP (rO rI) (rL (rO rI))))) (q_callR (rf_read_parts 3 []) hx_4 (a_FN q_con rfl rfl (a_FN (q_str strK7) rfl rfl a_nil)) rfl rfl rfl (fun _ => rfl)) rfl rfl) rfl rfl a_nil) rfl rfl (g_app (f := rU) htold_1) rfl) (bl_bind fun b hb => (bl_bind fun b_1 hb_1 => (bl_ret (q_andVP (q_dB (q_cmp (q_var rfl) (q_lst (ds := [rS [49, 60, 51, 32, 50, 60, 48, 44, 49], (rL rI) [2, 0, 1], rS [48, 44, 50, 47, 49, 44, 48], (rL rI) []]) (a_FN (q_str strK10) rfl rfl (a_FN (q_lst (ds := List.map rI [2, 0, 1]) (a_FN q_con rfl rfl (a_FN q_con rfl rfl (a_FN q_con rfl rfl a_nil))) rfl rfl) rfl rfl (a_FN (q_str strK11) rfl rfl (a_FN (q_lst (ds := List.map rI []) a_nil rfl rfl) rfl rfl a_nil)))) rfl rfl) rfl rfl (g_id (h := eqD) hb)) rfl) (vb_bind fun x_5 hx_5 => (vb_ret (q_cmp (q_callR (rf_show_parts 9 []) hx_5 (a_FN q_con rfl rfl (a_FN (q_lst (ds := List.map (rP rI (rL rI)) []) a_nil rfl rfl) rfl rfl a_nil)) rfl rfl rfl (fun _ => rfl)) (q_str strK7) rfl rfl g_eqS))) hb_1) rfl rfl ⟨_, rfl⟩))))))))))))))))
end Law_strictranks_k54_texts_written_and_read
end
section
set_option Elab.async false
set_option linter.all false
set_option maxRecDepth 100000
set_option maxHeartbeats 4000000
namespace L2.PM
open PySem PySem.Spec PyProof.Rows L2 L2.VL L2.TX
def InB (n : Nat) (xs : List Int) : Prop := ∀ x ∈ xs, 0 ≤ x ∧ x < n
def rg (n : Nat) : List Int := (List.range n).map fun (k : Nat) => (k : Int)
def Ord (n : Nat) (os : List Int) : Prop := os.Perm (rg n)
theorem Ord.len {n : Nat} {os : List Int} (h : Ord n os) : os.length = n := by
  have := List.Perm.length_eq h
  simpa [rg] using this
theorem Ord.inb {n : Nat} {os : List Int} (h : Ord n os) : InB n os := fun x hx => by
  obtain ⟨k, hk, rfl⟩ := List.mem_map.mp ((List.Perm.mem_iff h).mp hx)
  rw [List.mem_range] at hk
  omega
theorem erase_map {α β : Type} (f : α → β) : ∀ (xs : List α) (k : Nat), (xs.map f).eraseIdx k = (xs.eraseIdx k).map f
  | [], _ => rfl
  | x :: xs, 0 => rfl
  | x :: xs, k + 1 => congrArg (f x :: ·) (erase_map f xs k)
abbrev fs (cs : List Nat) : Str := ⟨cs.toArray⟩
def Sg (c : Nat) : Prop := c = 87 ∨ c = 76 ∨ c = 46
def FOk (n : Nat) (cs : List Nat) : Prop := cs.length = n ∧ ∀ c ∈ cs, Sg c
abbrev fl (fss : List (List Nat)) : D := .lst (fss.map fun cs => .con (.str (fs cs)))
def LOk (n : Nat) (ls : List Int) : Prop := ls.length = n ∧ ∀ x ∈ ls, 0 ≤ x ∧ x ≤ 59
theorem rg_sorted (n : Nat) : (rg n).Pairwise (· ≤ ·) := by
  unfold rg
  rw [List.pairwise_map]
  refine List.Pairwise.imp ?_ List.pairwise_lt_range
  intro a b h
  omega
theorem Ord.sort {n : Nat} {os : List Int} (h : Ord n os) : sortI os = rg n := (sortI_unique (List.Perm.symm h) (rg_sorted n)).symm
theorem LOk.at {n : Nat} {ls : List Int} (h : LOk n ls) {r : Nat} (hr : r < n) : 0 ≤ ls.getD r 0 ∧ ls.getD r 0 ≤ 59 := by
  have e : ls.getD r 0 = ls[r]'(by rw [h.1]; exact hr) := by simp [h.1, hr]
  rw [e]
  exact h.2 _ (List.getElem_mem _)
/-- the first sign along an order that is no point; W if there is none -/
def fsgn (os : List Int) (cs : List Nat) : Nat := ((os.map fun r => cs.getD r.toNat 46).find? fun c => decide (c ≠ 46)).getD 87
def turnC (c : Nat) : Nat := if c = 87 then 76 else if c = 76 then 87 else c
theorem FOk.map {n : Nat} {cs : List Nat} (hf : FOk n cs) : FOk n (cs.map turnC) := ⟨by rw [List.length_map]; exact hf.1, fun c hc => by
  obtain ⟨a, ha, rfl⟩ := List.mem_map.mp hc
  rcases hf.2 a ha with rfl | rfl | rfl
  · exact .inr (.inl rfl)
  · exact .inl rfl
  · exact .inr (.inr rfl)⟩
def bm (p : Nat → Bool) : Nat → Nat
  | 0 => 0
  | n + 1 => (if p n = true then 2 ^ n else 0) + bm p n
theorem bm_lt (p : Nat → Bool) : ∀ n, bm p n < 2 ^ n
  | 0 => by simp [bm]
  | n + 1 => by
    have := bm_lt p n
    unfold bm
    rw [Nat.pow_succ]
    split <;> omega
theorem bm_test (p : Nat → Bool) : ∀ n r, (bm p n).testBit r = (decide (r < n) && p r)
  | 0, r => by simp [bm]
  | n + 1, r => by
    have ih := bm_test p n r
    have lt := bm_lt p n
    unfold bm
    by_cases h : p n = true
    · rw [if_pos h]
      rcases Nat.lt_trichotomy r n with q | q | q
      · rw [Nat.testBit_two_pow_add_gt q, ih]
        simp [q, show r < n + 1 by omega]
      · subst q
        rw [Nat.testBit_two_pow_add_eq, Nat.testBit_lt_two_pow lt]
        simp [h]
      · rw [Nat.testBit_lt_two_pow]
        · simp [show ¬ r < n + 1 by omega]
        · have : 2 ^ (n + 1) ≤ 2 ^ r := Nat.pow_le_pow_right (by omega) (by omega)
          rw [Nat.pow_succ] at this
          omega
    · rw [if_neg h, Nat.zero_add, ih]
      by_cases q : r = n
      · subst q; simp [h]
      · simp [show (r < n + 1) = (r < n) by simp; omega]
/-- the rules with a sign, as bits -/
def mks (cs : List Nat) (c : Nat) : Nat := bm (fun k => decide (cs.getD k 46 = c)) cs.length
theorem mk_test {cs : List Nat} {c r : Nat} (h : c ≠ 46) : (mks cs c).testBit r = decide (cs.getD r 46 = c) := by
  unfold mks
  rw [bm_test]
  by_cases q : r < cs.length
  · simp [q]
  · have : cs.getD r 46 = 46 := by simp [List.getD_eq_getElem?_getD, List.getElem?_eq_none (Nat.le_of_not_lt q)]
    rw [this]
    simp [q, Ne.symm h]
def LEq (n : Nat) (fss : List (List Nat)) (ly : Nat → Nat) : Prop :=
  (∀ r, r < n → ∀ f ∈ fss, f.getD r 46 = 76 → ∃ w, w < n ∧ f.getD w 46 = 87 ∧ ly w < ly r) ∧
  ∀ r, r < n → 0 < ly r → ∃ f ∈ fss, f.getD r 46 = 76 ∧ ∀ w, w < n → f.getD w 46 = 87 → ly r ≤ ly w + 1
theorem and_test {a F r : Nat} (h : a &&& F = 0) (h1 : a.testBit r = true) : F.testBit r = false := by
  have := congrArg (fun x => Nat.testBit x r) h
  simp only [Nat.testBit_and, h1, Bool.true_and, Nat.zero_testBit] at this
  exact this
theorem and_ne {a F : Nat} (h : a &&& F ≠ 0) : ∃ r, a.testBit r = true ∧ F.testBit r = true := by
  obtain ⟨r, hr⟩ := Nat.exists_testBit_of_ne_zero h
  rw [Nat.testBit_and, Bool.and_eq_true] at hr
  exact ⟨r, hr.1, hr.2⟩
structure LInv (n : Nat) (fss : List (List Nat)) (F t : Nat) (ly : Nat → Nat) (P : List Nat) : Prop where
  lt : ∀ r, F.testBit r = true → r < n
  nd : P.Nodup
  mem : ∀ r, r ∈ P ↔ F.testBit r = true
  tm : ∀ r, F.testBit r = true → ly r < t
  a : ∀ r, F.testBit r = true → ∀ f ∈ fss, f.getD r 46 = 76 → ∃ w, F.testBit w = true ∧ f.getD w 46 = 87 ∧ ly w < ly r
  b : ∀ r, F.testBit r = true → 0 < ly r → ∃ f ∈ fss, f.getD r 46 = 76 ∧ ∀ w, F.testBit w = true → f.getD w 46 = 87 → ly r ≤ ly w + 1
  c : 0 < t → ∀ r, r < n → F.testBit r = false → ∃ f ∈ fss, f.getD r 46 = 76 ∧ ∀ w, F.testBit w = true → f.getD w 46 = 87 → t ≤ ly w + 1
def pl (ly : Nat → Nat) (P : List Nat) : List (Int × Int) := P.map fun (k : Nat) => ((k : Int), ((ly k : Nat) : Int))
theorem LInv.len {n : Nat} {fss : List (List Nat)} {F t : Nat} {ly : Nat → Nat} {P : List Nat} (I : LInv n fss F t ly P) : P.length ≤ n := by
  have : P.Perm ((List.range n).filter fun r => F.testBit r) := by
    rw [List.perm_ext_iff_of_nodup I.nd (List.Pairwise.filter _ List.nodup_range)]
    intro r
    rw [I.mem, List.mem_filter, List.mem_range]
    exact ⟨fun h => ⟨I.lt r h, h⟩, fun h => h.2⟩
  rw [this.length_eq]
  refine Nat.le_trans (List.length_filter_le _ _) ?_
  simp
theorem first_at {n : Nat} {os : List Int} {f : List Nat} (ho : Ord n os) (hf : FOk n f) (h : fsgn os f ≠ 76) (hs : ∃ r, r < n ∧ f.getD r 46 ≠ 46) :
    ∃ k w : Nat, os[k]? = some (w : Int) ∧ w < n ∧ f.getD w 46 = 87 ∧ ∀ j u, j < k → os[j]? = some u → f.getD u.toNat 46 = 46 := by
  unfold fsgn at h
  have inb := ho.inb
  cases q : (os.map fun r => f.getD r.toNat 46).find? fun c => decide (c ≠ 46) with
  | none =>
    obtain ⟨r, hr, e⟩ := hs
    rw [List.find?_eq_none] at q
    have : (r : Int) ∈ os := ho.mem_iff.mpr (by unfold rg; exact List.mem_map.mpr ⟨r, List.mem_range.mpr hr, rfl⟩)
    have := q _ (List.mem_map.mpr ⟨(r : Int), this, rfl⟩)
    simp at this
    exact absurd this (by simpa using e)
  | some c =>
    rw [q] at h
    replace h : c ≠ 76 := h
    obtain ⟨h1, as, bs, e, h2⟩ := List.find?_eq_some_iff_append.mp q
    have hk : (os.map fun r => f.getD r.toNat 46)[as.length]? = some c := by rw [e]; simp
    rw [List.getElem?_map] at hk
    obtain ⟨u, hu, eu⟩ := Option.map_eq_some_iff.mp hk
    have hb := inb u (List.mem_of_getElem? hu)
    obtain ⟨w, rfl⟩ : ∃ w : Nat, u = w := ⟨u.toNat, by omega⟩
    have hw : w < n := by omega
    have hg : f.getD w 46 = c := eu
    have hc : c ∈ f := by
      rw [← hg, List.getD_eq_getElem?_getD, List.getElem?_eq_getElem (by rw [hf.1]; exact hw)]
      exact List.getElem_mem _
    refine ⟨as.length, w, hu, hw, ?_, fun j v hj hv => ?_⟩
    · rw [hg]
      rcases hf.2 c hc with q | q | q
      · exact q
      · exact absurd q h
      · rw [q] at h1; simp at h1
    · have hm : (os.map fun r => f.getD r.toNat 46)[j]? = some (f.getD v.toNat 46) := by rw [List.getElem?_map, hv]; rfl
      rw [e, List.getElem?_append_left hj] at hm
      have := h2 _ (List.mem_of_getElem? hm)
      simpa using this
theorem LEq.mono {n : Nat} {fss gss : List (List Nat)} {la lb : Nat → Nat} (a : LEq n fss la) (b : LEq n gss lb) (h : ∀ f ∈ fss, f ∈ gss) : ∀ r, r < n → la r ≤ lb r := by
  have key : ∀ m, ∀ r, r < n → lb r = m → la r ≤ lb r := by
    intro m
    induction m using Nat.strongRecOn with
    | _ m ih =>
      intro r hr e
      by_cases h0 : 0 < la r
      · obtain ⟨f, f1, f2, f3⟩ := a.2 r hr h0
        obtain ⟨w, w1, w2, w3⟩ := b.1 r hr f (h f f1) f2
        have i := ih (lb w) (by omega) w w1 rfl
        have := f3 w w1 w2
        omega
      · omega
  exact fun r hr => key _ r hr rfl
theorem LEq.down {n : Nat} {fss : List (List Nat)} {ly : Nat → Nat} (a : LEq n fss ly) {r : Nat} (hr : r < n) (h : 0 < ly r) : ∃ w, w < n ∧ ly w + 1 = ly r := by
  obtain ⟨f, f1, f2, f3⟩ := a.2 r hr h
  obtain ⟨w, w1, w2, w3⟩ := a.1 r hr f f1 f2
  have := f3 w w1 w2
  exact ⟨w, w1, by omega⟩
theorem LEq.all {n : Nat} {fss : List (List Nat)} {ly : Nat → Nat} (a : LEq n fss ly) : ∀ m r, r < n → ly r = m → ∀ v, v ≤ m → ∃ w, w < n ∧ ly w = v := by
  intro m
  induction m with
  | zero => intro r hr e v hv; exact ⟨r, hr, by omega⟩
  | succ m ih =>
    intro r hr e v hv
    obtain ⟨w, w1, w2⟩ := a.down hr (by omega)
    by_cases q : v = m + 1
    · exact ⟨r, hr, by omega⟩
    · exact ih w w1 (by omega) v (by omega)
/-- the layers stay below the number of the rules -/
theorem LEq.lt {n : Nat} {fss : List (List Nat)} {ly : Nat → Nat} (a : LEq n fss ly) {r : Nat} (hr : r < n) : ly r < n := by
  refine Classical.byContradiction fun z => ?_
  have sub : (List.range (ly r + 1)).Subset ((List.range n).map ly) := fun v hv => by
    obtain ⟨w, w1, w2⟩ := a.all (ly r) r hr rfl v (by have := List.mem_range.mp hv; omega)
    exact List.mem_map.mpr ⟨w, List.mem_range.mpr w1, w2⟩
  have := List.Nodup.length_le_of_subset List.nodup_range sub
  simp at this
  omega
/-- the masks of a rule: what stands ahead of it, by each fact with L there -/
def mk0 (fss : List (List Nat)) (k : Nat) : List Int := (fss.filter fun f => decide (f.getD k 46 = 76)).map fun f => ((mks f 87 : Nat) : Int)
def msk (fss : List (List Nat)) (k : Nat) : List Int := sortU (mk0 fss k)
/-- whether a rule can stand behind a front -/
def canS (fss : List (List Nat)) (F r : Nat) : Bool := fss.all fun f => !decide (f.getD r 46 = 76) || !decide (mks f 87 &&& F = 0)
/-- the rules that can be the next -/
def plc (n : Nat) (fss : List (List Nat)) (F : Nat) : List Nat := (List.range n).filter fun r => !F.testBit r && canS fss F r
/-- the rules of a list as bits -/
def bitsOf (os : List Nat) : Nat := os.foldl (fun F r => F ||| 2 ^ r) 0
/-- the least order, place by place -/
def lo (n : Nat) (fss : List (List Nat)) : Nat → List Nat
  | 0 => []
  | k + 1 => lo n fss k ++ [(plc n fss (bitsOf (lo n fss k))).headD 0]
theorem bitsOf_snoc (os : List Nat) (r : Nat) : bitsOf (os ++ [r]) = bitsOf os ||| 2 ^ r := by
  unfold bitsOf
  rw [List.foldl_append]
  rfl
theorem bits_mem (os : List Nat) (r : Nat) : (bitsOf os).testBit r = decide (r ∈ os) := by
  refine snoc_ind (P := fun os => (bitsOf os).testBit r = decide (r ∈ os)) (by simp [bitsOf]) (fun l a ih => ?_) os
  rw [bitsOf_snoc, Nat.testBit_or, ih, Nat.testBit_two_pow, Bool.eq_iff_iff]
  simp only [Bool.or_eq_true, decide_eq_true_eq, List.mem_append, List.mem_singleton]
  constructor
  · rintro (h | h)
    · exact .inl h
    · exact .inr h.symm
  · rintro (h | h)
    · exact .inl h
    · exact .inr h.symm
theorem canS_iff {fss : List (List Nat)} {os : List Nat} {r : Nat} : canS fss (bitsOf os) r = true ↔ ∀ f ∈ fss, f.getD r 46 = 76 → ∃ w ∈ os, f.getD w 46 = 87 := by
  unfold canS
  rw [List.all_eq_true]
  constructor
  · intro h f hf e
    have := h f hf
    rw [decide_eq_true e] at this
    simp only [Bool.not_true, Bool.false_or, Bool.not_eq_true', decide_eq_false_iff_not] at this
    obtain ⟨w, w1, w2⟩ := and_ne this
    rw [mk_test (by decide), decide_eq_true_eq] at w1
    rw [bits_mem, decide_eq_true_eq] at w2
    exact ⟨w, w2, w1⟩
  · intro h f hf
    by_cases e : f.getD r 46 = 76
    · obtain ⟨w, w1, w2⟩ := h f hf e
      rw [decide_eq_true e]
      simp only [Bool.not_true, Bool.false_or, Bool.not_eq_true', decide_eq_false_iff_not]
      intro z
      have := and_test z (r := w) (by rw [mk_test (by decide), decide_eq_true_eq]; exact w2)
      rw [bits_mem, decide_eq_false_iff_not] at this
      exact this w1
    · rw [decide_eq_false e]; rfl
theorem mem_plc {n : Nat} {fss : List (List Nat)} {os : List Nat} {r : Nat} : r ∈ plc n fss (bitsOf os) ↔ r < n ∧ r ∉ os ∧ ∀ f ∈ fss, f.getD r 46 = 76 → ∃ w ∈ os, f.getD w 46 = 87 := by
  unfold plc
  rw [List.mem_filter, List.mem_range, Bool.and_eq_true, canS_iff, bits_mem, Bool.not_eq_true', decide_eq_false_iff_not]
theorem least_nat {P : Nat → Prop} : ∀ m, P m → ∃ k, P k ∧ ∀ j, j < k → ¬ P j := by
  intro m
  induction m using Nat.strongRecOn with
  | _ m ih =>
    intro hm
    by_cases z : ∃ j, j < m ∧ P j
    · obtain ⟨j, h1, h2⟩ := z
      exact ih j h1 h2
    · exact ⟨m, hm, fun j hj hp => z ⟨j, hj, hp⟩⟩
abbrev NB (n : Nat) (os : List Int) (fss : List (List Nat)) : Prop := ∀ cs ∈ fss, FOk n cs ∧ fsgn os cs ≠ 76
/-- the first rule of an order that is not in front can stand there -/
theorem first_plc {n : Nat} {os : List Int} {fss : List (List Nat)} {pre : List Nat} {i r : Nat} (ho : Ord n os) (h : NB n os fss) (hi : os[i]? = some (r : Int)) (hr : r ∉ pre) (hb : ∀ j u, j < i → os[j]? = some u → u.toNat ∈ pre) : r ∈ plc n fss (bitsOf pre) := by
  rw [mem_plc]
  have hrn := ho.inb _ (List.mem_of_getElem? hi)
  refine ⟨by omega, hr, fun f hf e => ?_⟩
  obtain ⟨k, w, a1, a2, a3, a4⟩ := first_at ho (h f hf).1 (h f hf).2 ⟨r, by omega, by rw [e]; decide⟩
  rcases Nat.lt_trichotomy k i with z | z | z
  · have := hb k w z a1
    rw [Int.toNat_natCast] at this
    exact ⟨w, this, a3⟩
  · subst z
    rw [a1] at hi
    have : w = r := by have := Option.some.inj hi; omega
    subst this
    rw [a3] at e
    cases e
  · have := a4 i r z hi
    rw [Int.toNat_natCast, e] at this
    cases this
theorem plc_ne {n : Nat} {os : List Int} {fss : List (List Nat)} {pre : List Nat} (ho : Ord n os) (h : NB n os fss) (hl : pre.length < n) : ∃ i r : Nat, os[i]? = some (r : Int) ∧ r ∈ plc n fss (bitsOf pre) ∧ ∀ j u, j < i → os[j]? = some u → u.toNat ∈ pre := by
  have ex : ∃ i : Nat, ∃ r : Nat, os[i]? = some (r : Int) ∧ r ∉ pre := by
    refine Classical.byContradiction fun z => ?_
    have sub : (List.range n).Subset pre := fun r hr => by
      have hr := List.mem_range.mp hr
      have : (r : Int) ∈ os := ho.mem_iff.mpr (by unfold rg; exact List.mem_map.mpr ⟨r, List.mem_range.mpr hr, rfl⟩)
      obtain ⟨i, hi, e⟩ := List.mem_iff_getElem.mp this
      refine Classical.byContradiction fun q => z ⟨i, r, by rw [List.getElem?_eq_getElem hi, e], q⟩
    have := List.Nodup.length_le_of_subset List.nodup_range sub
    simp at this
    omega
  obtain ⟨i0, h0⟩ := ex
  obtain ⟨i, ⟨r, h1, h2⟩, h3⟩ := least_nat (P := fun i : Nat => ∃ r : Nat, os[i]? = some (r : Int) ∧ r ∉ pre) i0 h0
  have hb : ∀ (j : Nat) u, j < i → os[j]? = some u → u.toNat ∈ pre := fun j u hj hu => by
    refine Classical.byContradiction fun q => h3 j hj ⟨u.toNat, ?_, q⟩
    have := ho.inb u (List.mem_of_getElem? hu)
    rw [hu]
    congr 1
    omega
  exact ⟨i, r, h1, first_plc ho h h1 h2 hb, hb⟩
/-- no order in which all facts hold -/
def BarF (n : Nat) (fss : List (List Nat)) : Prop := ∀ os, Ord n os → ¬ ∀ f ∈ fss, fsgn os f ≠ 76
def FrS (n : Nat) (fss : List (List Nat)) (pre : List Nat) : Prop := ∀ a r b, pre = a ++ r :: b → r ∈ plc n fss (bitsOf a)
theorem FrS.nil {n : Nat} {fss : List (List Nat)} : FrS n fss [] := fun a r b e => by cases a <;> cases e
theorem FrS.snoc {n : Nat} {fss : List (List Nat)} {pre : List Nat} {r : Nat} (h : FrS n fss pre) (hr : r ∈ plc n fss (bitsOf pre)) : FrS n fss (pre ++ [r]) := fun a s b e => by
  rcases List.eq_nil_or_concat b with rfl | ⟨b', x, rfl⟩
  · obtain ⟨e1, e2⟩ := List.append_inj' e rfl
    subst e1
    cases e2
    exact hr
  · rw [List.concat_eq_append, ← List.cons_append, ← List.append_assoc] at e
    obtain ⟨e1, _⟩ := List.append_inj' e rfl
    exact h a s b' e1
theorem FrS.init {n : Nat} {fss : List (List Nat)} {a b : List Nat} (h : FrS n fss (a ++ b)) : FrS n fss a := fun c r d e => h c r (d ++ b) (by rw [e]; simp)
theorem FrS.ok {n : Nat} {fss : List (List Nat)} {pre : List Nat} : FrS n fss pre → pre.Nodup ∧ ∀ r ∈ pre, r < n := by
  refine snoc_ind (P := fun pre => FrS n fss pre → pre.Nodup ∧ ∀ r ∈ pre, r < n) (fun _ => ⟨List.nodup_nil, fun r hr => by cases hr⟩) (fun pre x ih h => ?_) pre
  obtain ⟨i1, i2⟩ := ih h.init
  obtain ⟨h1, h2, _⟩ := mem_plc.mp (h pre x [] rfl)
  refine ⟨?_, fun r hr => ?_⟩
  · rw [List.nodup_append]
    refine ⟨i1, by simp, fun a ha b hb e => ?_⟩
    rw [List.mem_singleton] at hb
    subst hb; subst e
    exact h2 ha
  · rcases List.mem_append.mp hr with z | z
    · exact i2 r z
    · rw [List.mem_singleton.mp z]; exact h1
theorem FrS.len {n : Nat} {fss : List (List Nat)} {pre : List Nat} (h : FrS n fss pre) : pre.length ≤ n := by
  have := List.Nodup.length_le_of_subset h.ok.1 (l₂ := List.range n) fun r hr => List.mem_range.mpr (h.ok.2 r hr)
  simpa using this
/-- each front can be made an order -/
theorem FrS.ext {n : Nat} {fss : List (List Nat)} {os : List Int} (ho : Ord n os) (hN : NB n os fss) : ∀ d (pre : List Nat), pre.length + d = n → FrS n fss pre → ∃ post, (pre ++ post).length = n ∧ FrS n fss (pre ++ post)
  | 0, pre, e, h => ⟨[], by simpa using e, by simpa using h⟩
  | d + 1, pre, e, h => by
    obtain ⟨i, r, _, h2, _⟩ := plc_ne (pre := pre) ho hN (by omega)
    obtain ⟨post, p1, p2⟩ := FrS.ext ho hN d (pre ++ [r]) (by simp; omega) (h.snoc h2)
    exact ⟨r :: post, by simpa using p1, by simpa using p2⟩
theorem cutL_drop {α : Type} (as : List α) (j : Nat) : cutL as (some (j : Int)) none = as.drop j := by
  unfold cutL
  rw [HT.sIx_nat, HT.sIx_none]
  by_cases h : j ≤ as.length
  · rw [Nat.min_eq_left h, List.take_of_length_le (by simp)]
  · rw [Nat.min_eq_right (by omega), List.drop_of_length_le (Nat.le_refl _), List.drop_of_length_le (by omega)]
    simp
/-- rising indices -/
def Asc (m : Nat) (ks : List Nat) : Prop := ks.Pairwise (· < ·) ∧ ∀ i ∈ ks, i < m
theorem Asc.nodup {m : Nat} {ks : List Nat} (h : Asc m ks) : ks.Nodup := h.1.imp fun h => Nat.ne_of_lt h
theorem Asc.len {m : Nat} {ks : List Nat} (h : Asc m ks) : ks.length ≤ m := by
  have := List.Nodup.length_le_of_subset h.nodup (l₂ := List.range m) fun r hr => List.mem_range.mpr (h.2 r hr)
  simpa using this
/-- fewer facts bar less -/
theorem BarF.mono {n : Nat} {fss gss : List (List Nat)} (h : BarF n fss) (hs : ∀ f ∈ fss, f ∈ gss) : BarF n gss := fun os ho hN => h os ho fun f hf => hN f (hs f hf)
def ovA (gs : List (List Nat)) (r : Nat) : Nat := if 76 ∈ gs.map (fun f => f.getD r 46) then 76 else if 87 ∈ gs.map (fun f => f.getD r 46) then 87 else 46
def oc (n : Nat) (g : Nat → Nat) : List Nat := (List.range n).map g
def ov (n : Nat) (gs : List (List Nat)) : List Nat := oc n (ovA gs)
def Shw (n : Nat) (gs : List (List Nat)) (f : List Nat) : Prop := (∀ r, r < n → f.getD r 46 ≠ 76) ∨
  (gs ≠ [] ∧ (∀ r, r < n → ovA gs r = 87 → f.getD r 46 = 87) ∧ (((∃ r, r < n ∧ ovA gs r = 76) ∧ ∀ r, r < n → ovA gs r ≠ 87) ∨ ∀ r, r < n → f.getD r 46 = 76 → ovA gs r = 76))
end L2.PM
end
section
set_option Elab.async false
set_option linter.all false
set_option maxRecDepth 100000
namespace L2.TX
open PySem PySem.Spec PyProof.Rows L2 L2.VL L2.PM
/-- o is there, and Q holds of it -/
def WP {α : Type} (o : Option α) (Q : α → Prop) : Prop := ∃ a, o = some a ∧ Q a
section
variable {α β γ σ τ : Type} {o : Option α} {Q Q' : α → Prop} {R : β → Prop} {a : α}
theorem wp_some (h : Q a) : WP (some a) Q := ⟨a, rfl, h⟩
theorem wp_of (e : o = some a) (h : Q a) : WP o Q := ⟨a, e, h⟩
theorem WP.mono (h : WP o Q) (i : ∀ a, Q a → Q' a) : WP o Q' := let ⟨a, e, q⟩ := h; ⟨a, e, i a q⟩
theorem WP.bind {p : Option β} {h : β → Option α} (hp : WP p R) (hk : ∀ b, R b → WP (h b) Q) : WP (p.bind h) Q := by
  obtain ⟨b, e, r⟩ := hp
  rw [e]
  exact hk b r
theorem wp_eq {p : Option β} {b : β} {h : β → Option α} (e : p = some b) (hk : WP (h b) Q) : WP (p.bind h) Q := by
  rw [e]; exact hk
theorem wp_lt {v : β} {h : β → Option α} (hk : WP (h v) Q) : WP (lt v h) Q := by rw [lt_eq]; exact hk
theorem wp_bs {b : β} {h : β → Option α} (hk : WP (h b) Q) : WP ((some b).bind h) Q := hk
theorem wp_if {c : Bool} {o1 o2 : Option α} (h1 : c = true → WP o1 Q) (h2 : c = false → WP o2 Q) : WP (if c = true then o1 else o2) Q := by
  cases c with
  | true => exact h1 rfl
  | false => exact h2 rfl
theorem wp_ifd {p : Prop} [Decidable p] {o1 o2 : Option α} (h1 : p → WP o1 Q) (h2 : ¬ p → WP o2 Q) : WP (if decide p = true then o1 else o2) Q := by
  by_cases h : p
  · rw [if_pos (decide_eq_true h)]; exact h1 h
  · rw [if_neg (fun z => h (of_decide_eq_true z))]; exact h2 h
theorem WP.eq (h : WP o fun r => r = a) : o = some a := by
  obtain ⟨b, e, rfl⟩ := h
  exact e
theorem wp_assoc {p : Option β} {h : β → Option γ} {k : γ → Option α} (w : WP (p.bind fun b => (h b).bind k) Q) : WP ((p.bind h).bind k) Q := by
  rwa [Option.bind_assoc]
theorem wp_ifb {c : Bool} {o1 o2 : Option β} {h : β → Option α} (h1 : c = true → WP (o1.bind h) Q) (h2 : c = false → WP (o2.bind h) Q) : WP ((if c = true then o1 else o2).bind h) Q := by
  cases c with
  | true => exact h1 rfl
  | false => exact h2 rfl
theorem bind_id (o : Option α) : (o.bind fun x => some x) = o := by cases o <;> rfl
theorem wp_id (w : WP o Q) : WP (o.bind fun x => some x) Q := by rwa [bind_id]
theorem wp_fo {b : σ → β → Option σ} {xs : List β} {s0 : σ} {Q : σ → Prop} (I : List β → σ → Prop) (h0 : I [] s0) (hs : ∀ pre x post s, xs = pre ++ x :: post → I pre s → WP (b s x) (I (pre ++ [x]))) (he : ∀ s, I xs s → Q s) : WP (fo b xs s0) Q := by
  have go : ∀ (post pre : List β) (s : σ), xs = pre ++ post → I pre s → WP (fo b post s) Q := by
    intro post
    induction post with
    | nil => intro pre s e h; exact wp_some (he s (by rw [e, List.append_nil]; exact h))
    | cons x post ih =>
      intro pre s e h
      exact (hs pre x post s e h).bind fun s' h' => ih (pre ++ [x]) s' (by rw [e]; simp) h'
  exact go xs [] s0 rfl h0
/-- a loop over range(i, j) -/
theorem wp_foN {b : σ → Int → Option σ} {n : Nat} {s0 : σ} {Q : σ → Prop} (I : Nat → σ → Prop) (h0 : I 0 s0) (hs : ∀ k s, k < n → I k s → WP (b s (k : Int)) (I (k + 1))) (he : ∀ s, I n s → Q s) : WP (fo b ((List.range n).map fun (k : Nat) => (k : Int)) s0) Q := by
  refine wp_fo (fun pre s => I pre.length s) h0 (fun pre x post s e h => ?_) fun s h => he s (by simpa using h)
  have hx : ((List.range n).map fun (k : Nat) => (k : Int))[pre.length]? = some x := by rw [e]; simp
  rw [List.getElem?_map] at hx
  obtain ⟨k, hk, rfl⟩ := Option.map_eq_some_iff.mp hx
  have h2 := List.getElem?_eq_some_iff.mp hk
  obtain ⟨h3, h4⟩ := h2
  rw [List.length_range] at h3
  rw [List.getElem_range] at h4
  subst h4
  rw [List.length_append]
  exact hs _ s h3 h
/-- a loop that may be left -/
theorem wp_foW {b : σ → β → Option (Fw σ γ)} {xs : List β} {s0 : σ} {Q : Fw σ γ → Prop} (I : List β → σ → Prop) (h0 : I [] s0)
    (hs : ∀ pre x post s, xs = pre ++ x :: post → I pre s → WP (b s x) fun w => match w with | .nx s' => I (pre ++ [x]) s' | .brk s' => Q (.nx s') | .ret a => Q (.ret a)) (he : ∀ s, I xs s → Q (.nx s)) : WP (foW b xs s0) Q := by
  have go : ∀ (post pre : List β) (s : σ), xs = pre ++ post → I pre s → WP (foW b post s) Q := by
    intro post
    induction post with
    | nil => intro pre s e h; exact wp_some (he s (by rw [e, List.append_nil]; exact h))
    | cons x post ih =>
      intro pre s e h
      refine (hs pre x post s e h).bind fun w h' => ?_
      cases w with
      | nx s' => exact ih (pre ++ [x]) s' (by rw [e]; simp) h'
      | brk s' => exact wp_some h'
      | ret a => exact wp_some h'
  exact go xs [] s0 rfl h0
theorem wp_foWN {b : σ → Int → Option (Fw σ γ)} {n : Nat} {s0 : σ} {Q : Fw σ γ → Prop} (I : Nat → σ → Prop) (h0 : I 0 s0)
    (hs : ∀ k s, k < n → I k s → WP (b s (k : Int)) fun w => match w with | .nx s' => I (k + 1) s' | .brk s' => Q (.nx s') | .ret a => Q (.ret a)) (he : ∀ s, I n s → Q (.nx s)) : WP (foW b ((List.range n).map fun (k : Nat) => (k : Int)) s0) Q := by
  refine wp_foW (fun pre s => I pre.length s) h0 (fun pre x post s e h => ?_) fun s h => he s (by simpa using h)
  have hx : ((List.range n).map fun (k : Nat) => (k : Int))[pre.length]? = some x := by rw [e]; simp
  rw [List.getElem?_map] at hx
  obtain ⟨k, hk, rfl⟩ := Option.map_eq_some_iff.mp hx
  obtain ⟨h3, h4⟩ := List.getElem?_eq_some_iff.mp hk
  rw [List.length_range] at h3
  rw [List.getElem_range] at h4
  subst h4
  rw [List.length_append]
  exact hs _ s h3 h
theorem wp_out {o : Option (Fw σ γ)} {k : σ → Option α} {r : γ → Option α} (h : WP o fun w => match w with | .nx s => WP (k s) Q | .brk s => WP (k s) Q | .ret a => WP (r a) Q) : WP (o.bind (fwOut k r)) Q := WP.bind h fun w hw => by
  cases w <;> exact hw
theorem lc_of {q : β → Option Bool} {e : β → Option γ} (q' : β → Bool) (e' : β → γ) : ∀ (xs : List β), (∀ x ∈ xs, q x = some (q' x)) → (∀ x ∈ xs, q' x = true → e x = some (e' x)) → lc q e xs = some ((xs.filter q').map e')
  | [], _, _ => rfl
  | x :: xs, h1, h2 => by
    unfold lc
    rw [h1 x List.mem_cons_self]
    have ih := lc_of q' e' xs (fun y hy => h1 y (List.mem_cons_of_mem _ hy)) (fun y hy => h2 y (List.mem_cons_of_mem _ hy))
    cases hq : q' x with
    | false =>
      rw [List.filter_cons_of_neg (by rw [hq]; exact Bool.false_ne_true)]
      exact ih
    | true =>
      rw [List.filter_cons_of_pos hq]
      show (e x).bind _ = _
      rw [h2 x List.mem_cons_self hq]
      show (lc q e xs).bind _ = _
      rw [ih]; rfl
theorem lcC_of {q : β → Option Bool} {e : β → Option γ} {xs : List β} (q' : β → Bool) (e' : β → γ) (hl : (xs.filter q').length ≤ cap) (h1 : ∀ x ∈ xs, q x = some (q' x)) (h2 : ∀ x ∈ xs, q' x = true → e x = some (e' x)) : lcC q e xs = some ((xs.filter q').map e') := by
  unfold lcC
  rw [lc_of q' e' xs h1 h2]
  show chk _ = _
  unfold chk
  rw [List.length_map]
  exact if_pos hl
theorem lcC_map {q : β → Option Bool} {e : β → Option γ} {xs : List β} (e' : β → γ) (hl : xs.length ≤ cap) (h1 : ∀ x ∈ xs, q x = some true) (h2 : ∀ x ∈ xs, e x = some (e' x)) : lcC q e xs = some (xs.map e') := by
  have := lcC_of (q := q) (e := e) (xs := xs) (fun _ => true) e' (Nat.le_trans (List.length_filter_le _ _) hl) h1 (fun x hx _ => h2 x hx)
  rwa [List.filter_eq_self.mpr (fun _ _ => rfl)] at this
theorem lcC_flt {q : β → Option Bool} {xs : List β} (q' : β → Bool) (hl : xs.length ≤ cap) (h1 : ∀ x ∈ xs, q x = some (q' x)) : lcC q (fun x => some x) xs = some (xs.filter q') := by
  have := lcC_of (q := q) (e := fun x => some x) q' id (Nat.le_trans (List.length_filter_le _ _) hl) h1 (fun x _ _ => rfl)
  rwa [List.map_id] at this
theorem wp_lcX {q : τ → β → Option (Bool × τ)} {e : τ → β → Option (γ × τ)} {xs : List β} {t0 : τ} {Q : List γ × τ → Prop} (hl : xs.length ≤ cap) (I : List β → List γ → τ → Prop) (h0 : I [] [] t0)
    (hs : ∀ pre x post ys t, xs = pre ++ x :: post → I pre ys t → WP (q t x) fun c => if c.1 = true then WP (e c.2 x) fun y => I (pre ++ [x]) (ys ++ [y.1]) y.2 else I (pre ++ [x]) ys c.2) (he : ∀ ys t, I xs ys t → Q (ys, t)) : WP (lcXC q e xs t0) Q := by
  have go : ∀ (post pre : List β) (ys : List γ) (t : τ), xs = pre ++ post → I pre ys t → WP (lcX q e post t) fun zs => zs.1.length ≤ post.length ∧ I xs (ys ++ zs.1) zs.2 := by
    intro post
    induction post with
    | nil => intro pre ys t e h; exact wp_some ⟨Nat.le_refl _, by rw [List.append_nil]; rwa [e, List.append_nil]⟩
    | cons x post ih =>
      intro pre ys t ex h
      unfold lcX
      refine (hs pre x post ys t ex h).bind fun c hc => ?_
      obtain ⟨c1, c2⟩ := c
      cases c1 with
      | false => exact (ih (pre ++ [x]) ys c2 (by rw [ex]; simp) hc).mono fun zs hz => ⟨Nat.le_succ_of_le hz.1, hz.2⟩
      | true =>
        refine WP.bind (R := _) hc fun y hy => ?_
        refine (ih (pre ++ [x]) (ys ++ [y.1]) y.2 (by rw [ex]; simp) hy).bind fun zs hz => wp_some ⟨Nat.succ_le_succ hz.1, ?_⟩
        have := hz.2
        rwa [List.append_assoc] at this
  obtain ⟨zs, e1, h1, h2⟩ := go xs [] [] t0 rfl h0
  refine ⟨zs, ?_, he zs.1 zs.2 h2⟩
  unfold lcXC
  rw [e1]
  exact if_pos (Nat.le_trans h1 hl)
theorem rng0 {n : Nat} (h : n < 4611686018427387904) : rng 0 (n : Int) = some ((List.range n).map fun (k : Nat) => (k : Int)) := by
  unfold rng
  rw [if_pos (by unfold small62; simp; omega)]
  simp
theorem lrg_eq {n : Nat} (h : n ≤ 16777216) : lrg (n : Int) = some ((List.range n).map fun (k : Nat) => (k : Int)) := by
  unfold lrg
  rw [if_pos (by omega)]
  simp
theorem ixL_nat {xs : List α} {k : Nat} (d : α) (h : k < xs.length) : ixL xs (k : Int) = some (xs.getD k d) := by
  unfold ixL atI ixN
  rw [if_pos (by omega), if_pos (by simp; omega)]
  simp [h]
theorem ixL_lt {xs : List α} {k : Nat} (h : k < xs.length) : ixL xs (k : Int) = some xs[k] := by
  unfold ixL atI ixN
  rw [if_pos (by omega), if_pos (by simp; omega)]
  simp [h]
theorem ixL_int {xs : List α} {i : Int} (d : α) (h : 0 ≤ i ∧ i < xs.length) : ixL xs i = some (xs.getD i.toNat d) := by
  obtain ⟨k, rfl⟩ : ∃ k : Nat, i = k := ⟨i.toNat, by omega⟩
  exact ixL_nat d (by omega)
theorem ixS_nat {cs : List Nat} {k : Nat} (h : k < cs.length) (hc : cs.length ≤ cap) : ixS cs (k : Int) = some [cs.getD k 46] := by
  unfold ixS
  rw [if_pos hc, show atI cs (k : Int) = some (cs.getD k 46) from ixL_nat 46 h]
  rfl
theorem ixS_int {cs : List Nat} {i : Int} (h : 0 ≤ i ∧ i < cs.length) (hc : cs.length ≤ cap) : ixS cs i = some [cs.getD i.toNat 46] := by
  obtain ⟨k, rfl⟩ : ∃ k : Nat, i = k := ⟨i.toNat, by omega⟩
  exact ixS_nat (by omega) hc
theorem appL_eq {xs : List α} {x : α} (h : xs.length < cap) : appL xs x = some (xs ++ [x]) := if_pos h
theorem catS_eq {xs ys : List Nat} (h : xs.length + ys.length ≤ cap) : catS xs ys = some (xs ++ ys) := if_pos h
theorem setL_nat {xs : List α} {k : Nat} {x : α} (h : k < xs.length) : setL xs (k : Int) x = some (xs.set k x) := by
  unfold setL ixN
  rw [if_pos (by omega), if_pos (by simp; omega)]
  simp
theorem popL_nat {xs : List α} {k : Nat} (h : k < xs.length) (hc : xs.length ≤ cap) : popL xs (k : Int) = some (xs[k], xs.eraseIdx k) := by
  unfold popL ixN
  simp only [cap] at hc
  rw [if_pos (by unfold small62; simp; omega), if_pos (by omega), if_pos (by simp; omega)]
  simp [h]
theorem mulI_eq {i j : Int} (h : (-18446744073709551616 < i ∧ i < 18446744073709551616) ∨ (-18446744073709551616 < j ∧ j < 18446744073709551616)) : mulI i j = some (i * j) := if_pos (by unfold CMulB; simpa using h)
theorem divI_eq {i j : Int} (h : 0 < j ∧ j < 1606938044258990275541962092341162602522202993782792835301376) : divI i j = some (i / j) := if_pos (by unfold CDivB; simpa using h)
theorem modI_eq {i j : Int} (h : 0 < j) : modI i j = some (i % j) := if_pos h
theorem joinS_eq {s : List Nat} {ts : List (List Nat)} (h : (ts.map List.length).sum + ts.length * s.length ≤ 16777216) : joinS s ts = some (joinT s ts) := if_pos h
/-- signs put together -/
theorem joinS_chars {cs : List Nat} (h : cs.length ≤ cap) : joinS [] (cs.map fun c => [c]) = some cs := by
  have e1 : ((cs.map fun c => [c]).map List.length).sum = cs.length := by
    clear h
    induction cs with
    | nil => rfl
    | cons c cs ih => simp only [List.map_cons, List.sum_cons, ih, List.length_cons, List.length_nil]; omega
  rw [joinS_eq (by rw [e1]; simp only [cap] at h; simp; omega), joinT_nil]
  congr 1
  clear h e1
  induction cs with
  | nil => rfl
  | cons c cs ih => simp [ih]
theorem inTx_one (c : Nat) (cs : List Nat) : inTx [c] cs = decide (c ∈ cs) := by
  show strIn ⟨#[c]⟩ ⟨cs.toArray⟩ = _
  unfold strIn
  rw [PySem.StrLaws.found_one]
theorem chs_len (cs : List Nat) : (chs cs).length = cs.length := by simp [chs]
end
end L2.TX
end
section
set_option Elab.async false
set_option linter.all false
set_option maxRecDepth 100000
namespace L2.TX
open PySem PySem.Spec PyProof.Rows L2 L2.VL L2.PM
/-- d has a text of at most B signs, at most n deep -/
structure RB (n B : Nat) (d : D) : Prop where
  ex : ∃ p, toPyN n d = some p ∧ p.showable = true ∧ p.shown.length ≤ B ∧ p.depth ≤ n + 1
theorem RB.mono {n B B' : Nat} {d : D} (h : RB n B d) (hB : B ≤ B') : RB n B' d := let ⟨p, e, s, l, k⟩ := h.ex; ⟨p, e, s, Nat.le_trans l hB, k⟩
theorem RB.int {n : Nat} {i : Int} (h : i.natAbs.log2 < 1920) : RB n 1921 (rI i) := ⟨.int i, (by cases n <;> rfl), by simpa [PyData.showable] using h, by
  simp only [PyData.shown]
  exact PyProof.Rows.int_text_len_1921 h, by simp [PyData.depth]⟩
theorem RB.bool {n : Nat} {b : Bool} : RB n 5 (rB b) := ⟨.bool b, (by cases n <;> rfl), rfl, by cases b <;> (simp only [PyData.shown]; decide), by simp [PyData.depth]⟩
theorem RB.non {n : Nat} : RB n 4 (.con .non) := ⟨.none, (by cases n <;> rfl), rfl, by simp only [PyData.shown]; decide, by simp [PyData.depth]⟩
theorem RB.str {n : Nat} {cs : List Nat} (h : ∀ c ∈ cs, c < 16 ^ 8) : RB n (10 * cs.length + 2) (rS cs) := ⟨.str (sx cs), (by cases n <;> rfl), rfl, by
  simp only [PyData.shown]
  have := StrLaws.reprText_len (sx cs) (by simpa using h)
  rwa [sx_len] at this, by simp [PyData.depth]⟩
theorem RB.all {n B : Nat} : ∀ {ds : List D}, (∀ d ∈ ds, RB n B d) → ∃ ps, optAll (toPyN n) ds = some ps ∧ PyData.showableAll ps = true ∧ ((PyData.shownAll ps).map (·.length)).sum ≤ ds.length * B ∧ (PyData.shownAll ps).length = ds.length ∧ PyData.depthAll ps ≤ n + 1
  | [], _ => ⟨[], rfl, by simp [PyData.showableAll], by simp [PyData.shownAll], by simp [PyData.shownAll], by simp [PyData.depthAll]⟩
  | d :: ds, h => by
    obtain ⟨p, e, s, l, k⟩ := (h d (by simp)).ex
    obtain ⟨ps, e2, s2, l2, l3, k2⟩ := RB.all (ds := ds) fun x hx => h x (by simp [hx])
    refine ⟨p :: ps, ?_, ?_, ?_, ?_, ?_⟩
    · unfold optAll
      rw [e, e2]; rfl
    · simp only [PyData.showableAll, s, s2, Bool.and_self]
    · simp only [PyData.shownAll, List.map_cons, List.sum_cons, List.length_cons, Nat.add_mul]; omega
    · simp only [PyData.shownAll, List.length_cons, l3]
    · simp only [PyData.depthAll]; exact Nat.max_le.mpr ⟨k, k2⟩
theorem RB.lst {n B : Nat} {ds : List D} (h : ∀ d ∈ ds, RB n B d) : RB (n + 1) (ds.length * (B + 2) + 3) (.lst ds) := by
  obtain ⟨ps, e, s, l, l2, k⟩ := RB.all h
  refine ⟨.list ps, ?_, by simpa [PyData.showable] using s, ?_, by simp only [PyData.depth]; omega⟩
  · show (optAll (toPyN n) ds).map _ = _
    rw [e]; rfl
  · simp only [PyData.shown]
    have := listText_len_le (PyData.shownAll ps)
    rw [Nat.mul_add]
    omega
theorem RB.tup {n B : Nat} {ds : List D} (h : ∀ d ∈ ds, RB n B d) : RB (n + 1) (ds.length * (B + 2) + 3) (.tup ds) := by
  obtain ⟨ps, e, s, l, l2, k⟩ := RB.all h
  refine ⟨.tuple ps, ?_, by simpa [PyData.showable] using s, ?_, by simp only [PyData.depth]; omega⟩
  · show (optAll (toPyN n) ds).map _ = _
    rw [e]; rfl
  · simp only [PyData.shown]
    have := tupleText_len_le (PyData.shownAll ps)
    rw [Nat.mul_add]
    omega
theorem isDic_lst {ds : List D} {n : Nat} {p : PyData} (h : toPyN n (.lst ds) = some p) : isDic p = false := by
  cases n with
  | zero => cases h
  | succ n =>
    obtain ⟨ps, _, rfl⟩ := Option.map_eq_some_iff.mp (show (optAll (toPyN n) ds).map PyData.list = some p from h)
    rfl
theorem repG_lst {B : Nat} {ds : List D} (h : RB 60 B (.lst ds)) (hB : B ≤ 16777216) : ∃ t, repG (.lst ds) = some t := by
  obtain ⟨p, e, s, l, k⟩ := h.ex
  refine ⟨(p.shown).cps.toList, ?_⟩
  have : reprOf (.lst ds) = some p.shown := by
    unfold reprOf
    rw [e]
    exact if_pos ⟨s, by rw [sizeLine_eq]; omega, by omega, isDic_lst e⟩
  unfold repG
  rw [this]
  rfl
/-- texts of the model are equal as they stand -/
theorem eqG_same {α : Type} [DecidableEq α] {ok : α → Bool} {a : α} (h : ok a = true) : eqG ok a a = some true := by
  unfold eqG
  rw [h]
  simp
theorem lc_mapC {α β γ : Type} {q : β → Option Bool} {e : β → Option γ} (f : α → β) : ∀ xs : List α, lc q e (xs.map f) = lc (fun x => q (f x)) (fun x => e (f x)) xs
  | [] => rfl
  | x :: xs => by
    show (q (f x)).bind (fun c => if c then (e (f x)).bind fun y => (lc q e (xs.map f)).bind fun ys => some (y :: ys) else lc q e (xs.map f)) = _
    rw [lc_mapC f xs]
    rfl
theorem lcC_comp {α β γ : Type} {q : β → Option Bool} {e : β → Option γ} (f : α → β) (xs : List α) : lcC q e (xs.map f) = lcC (fun x => q (f x)) (fun x => e (f x)) xs := by
  unfold lcC
  rw [lc_mapC]
theorem ix_draw {α : Type} {xs : List α} {r : Int} {P : α → Prop} (hr : 0 ≤ r ∧ r < xs.length) (h : ∀ x ∈ xs, P x) : WP (ixL xs r) P := by
  obtain ⟨k, rfl⟩ : ∃ k : Nat, r = k := ⟨r.toNat, by omega⟩
  exact wp_of (ixL_lt (by omega)) (h _ (List.getElem_mem _))
theorem optAll_id : ∀ ds : List D, optAll asU ds = some ds
  | [] => rfl
  | d :: ds => by
    unfold optAll
    show (optAll asU ds).map (d :: ·) = _
    rw [optAll_id ds]; rfl
def Sm (i : Int) : Prop := i.natAbs.log2 < 1920
theorem sm_of {i : Int} (h : -1000000000000000000000000000000 ≤ i ∧ i ≤ 1000000000000000000000000000000) : Sm i := by
  unfold Sm
  have h2 : i.natAbs < 2 ^ 101 := Nat.lt_of_le_of_lt (show i.natAbs ≤ 1000000000000000000000000000000 by omega) (by decide)
  by_cases z : i.natAbs = 0
  · rw [z]; decide
  · exact Nat.lt_of_lt_of_le ((Nat.log2_lt z).mpr h2) (by decide)
end L2.TX
end
section
set_option Elab.async false
set_option linter.all false
set_option maxRecDepth 100000
set_option maxHeartbeats 2000000
namespace L2.TX
open PySem PySem.Spec PyProof.Rows L2 L2.VL L2.PM
local macro_rules | `(tactic| walk_at "w") => `(tactic| (repeat (first | with_reducible refine wp_some ?_ | with_reducible refine wp_lt ?_ | with_reducible refine wp_bs ?_ | with_reducible refine wp_id ?_ | with_reducible refine wp_assoc ?_); try dsimp only))
/-- signs, one text for each -/
def SgL (n : Nat) (ss : List (List Nat)) : Prop := ∃ cs, ss = chs cs ∧ FOk n cs
theorem SgL.set {n k : Nat} {ss : List (List Nat)} {c : Nat} (h : SgL n ss) (hk : k < n) (hc : Sg c) : WP (setL ss (k : Int) [c]) (SgL n) := by
  obtain ⟨cs, rfl, h1, h2⟩ := h
  refine wp_of (setL_nat (by rw [chs_len]; omega)) ⟨cs.set k c, ?_, by simp [h1], fun x hx => ?_⟩
  · unfold chs; rw [List.map_set]
  · rcases List.mem_or_eq_of_mem_set hx with h | h
    · exact h2 x h
    · rw [h]; exact hc
theorem SgL.join {n : Nat} {ss : List (List Nat)} (hn : n ≤ 60) (h : SgL n ss) : WP (joinS [] ss) (FOk n) := by
  obtain ⟨cs, rfl, h1, h2⟩ := h
  exact wp_of (joinS_chars (by simp only [cap]; omega)) ⟨h1, h2⟩
end L2.TX
end
section
set_option Elab.async false
set_option linter.all false
set_option maxRecDepth 100000
set_option maxHeartbeats 2000000
namespace L2.TX
open PySem PySem.Spec PyProof.Rows L2 L2.VL L2.PM
theorem frs_tail {n : Nat} {fss : List (List Nat)} {pre : List Nat} {r : Nat} (h : FrS n fss (pre ++ [r])) : r ∈ plc n fss (bitsOf pre) := h pre r [] rfl
end L2.TX
end
section
set_option Elab.async false
set_option linter.all false
set_option maxRecDepth 100000
set_option maxHeartbeats 2000000
namespace L2.TX
open PySem PySem.Spec PyProof.Rows L2 L2.VL L2.PM
def kc (n : Nat) (key : Nat → Nat) (F r : Nat) : Nat := ((List.range n).filter fun q => !F.testBit q && decide (key q < key r)).length
def minN : List Nat → Nat
  | [] => 0
  | [x] => x
  | x :: y :: r => min x (minN (y :: r))
def bm (n : Nat) (fss : List (List Nat)) (key : Nat → Nat) : Nat → Nat → Nat
  | 0, _ => 0
  | k + 1, F => minN ((plc n fss F).map fun r => kc n key F r + bm n fss key k (F ||| 2 ^ r))
end L2.TX
end
section
set_option Elab.async false
set_option linter.all false
set_option maxRecDepth 100000
set_option maxHeartbeats 2000000
namespace L2.TX
open PySem PySem.Spec PyProof.Rows L2 L2.VL L2.PM
def ps : List Int → Int → Nat
  | [], _ => 0
  | a :: r, x => if a = x then 0 else ps r x + 1
theorem ps_get : ∀ {w : List Int} {x : Int}, x ∈ w → w[ps w x]? = some x
  | a :: r, x, h => by
    unfold ps
    by_cases e : a = x
    · rw [if_pos e, e]; rfl
    · rw [if_neg e]
      simpa using ps_get ((List.mem_cons.mp h).resolve_left fun z => e z.symm)
theorem ps_inj {w : List Int} {x y : Int} (hx : x ∈ w) (hy : y ∈ w) (e : ps w x = ps w y) : x = y := by
  have h1 := ps_get hx
  rw [e, ps_get hy] at h1
  exact (Option.some.inj h1).symm
theorem ps_at : ∀ {w : List Int} {i : Nat} {x : Int}, w.Nodup → w[i]? = some x → ps w x = i
  | a :: r, i, x, nd, h => by
    rw [List.nodup_cons] at nd
    unfold ps
    cases i with
    | zero =>
      have : a = x := by simpa using h
      rw [if_pos this]
    | succ i =>
      have h : r[i]? = some x := by simpa using h
      have hx : x ∈ r := List.mem_of_getElem? h
      rw [if_neg (fun e => nd.1 (by rw [e]; exact hx)), ps_at nd.2 h]
def tn (key : Int → Nat) : List Int → Nat
  | [] => 0
  | r :: c => (c.filter fun q => decide (key q < key r)).length + tn key c
theorem tn_zero {key : Int → Nat} : ∀ {c : List Int}, tn key c = 0 → c.Pairwise fun a b => key a ≤ key b
  | [], _ => .nil
  | r :: c, h => by
    unfold tn at h
    have h1 : (c.filter fun q => decide (key q < key r)) = [] := List.length_eq_zero_iff.mp (by omega)
    refine .cons (fun q hq => ?_) (tn_zero (by omega))
    have := List.filter_eq_nil_iff.mp h1 q hq
    simp only [decide_eq_true_eq] at this
    omega
theorem tn_own : ∀ {c : List Int} {key : Int → Nat}, (c.Pairwise fun a b => key a ≤ key b) → tn key c = 0
  | [], _, _ => rfl
  | r :: c, key, h => by
    rw [List.pairwise_cons] at h
    unfold tn
    rw [tn_own h.2, List.filter_eq_nil_iff.mpr fun q hq => by have := h.1 q hq; rw [decide_eq_true_eq]; omega]
    rfl
theorem ps_pw {w : List Int} (nd : w.Nodup) : w.Pairwise fun a b => ps w a < ps w b := by
  rw [List.pairwise_iff_getElem]
  intro i j hi hj hij
  rw [ps_at nd (List.getElem?_eq_getElem hi), ps_at nd (List.getElem?_eq_getElem hj)]
  exact hij
theorem tn_self {w : List Int} (nd : w.Nodup) : tn (ps w) w = 0 := tn_own ((ps_pw nd).imp fun h => Nat.le_of_lt h)
theorem tn_eq {w o : List Int} (nd : w.Nodup) (p : o.Perm w) (h : tn (ps w) o = 0) : o = w :=
  List.Perm.eq_of_pairwise (le := fun a b => ps w a ≤ ps w b) (fun a b ha hb h1 h2 => ps_inj (p.mem_iff.mp ha) hb (Nat.le_antisymm h1 h2)) (tn_zero h) ((ps_pw nd).imp fun h => Nat.le_of_lt h) p
abbrev Hld (n : Nat) (fss : List (List Nat)) (os : List Int) : Prop := Ord n os ∧ ∀ f ∈ fss, fsgn os f ≠ 76
def NearP (n : Nat) (fss : List (List Nat)) (w N : List Int) : Prop := Hld n fss N ∧ ∀ os, Hld n fss os → tn (ps w) N ≤ tn (ps w) os ∧ (tn (ps w) os = tn (ps w) N → lexI os N = false)
theorem ord_nd {n : Nat} {os : List Int} (h : Ord n os) : os.Nodup := h.nodup_iff.mpr (by
  unfold rg
  exact List.Pairwise.map _ (fun a b h z => h (Int.ofNat.inj z)) List.nodup_range)
theorem ord_pm {n : Nat} {os w : List Int} (h : Ord n os) (hw : Ord n w) : os.Perm w := List.Perm.trans h (List.Perm.symm hw)
theorem lexI_conn' : ∀ a b : List Int, lexI a b = false → lexI b a = false → a = b
  | [], [], _, _ => rfl
  | [], _ :: _, h, _ => nomatch h
  | _ :: _, [], _, h => nomatch h
  | a :: r, b :: s, h1, h2 => by
    unfold lexI at h1 h2
    by_cases h : a = b
    · subst h
      rw [if_pos rfl] at h1 h2
      rw [lexI_conn' r s h1 h2]
    · rw [if_neg h] at h1
      rw [if_neg fun z => h z.symm] at h2
      have := of_decide_eq_false h1
      have := of_decide_eq_false h2
      omega
theorem NearP.own {n : Nat} {fss : List (List Nat)} {w N : List Int} (a : NearP n fss w N) (h : Hld n fss w) : N = w := by
  have h1 := (a.2 w h).1
  rw [tn_self (ord_nd h.1)] at h1
  exact tn_eq (ord_nd h.1) (ord_pm a.1.1 h.1) (by omega)
theorem NearP.more {n : Nat} {fss gss : List (List Nat)} {w N M : List Int} (a : NearP n fss w N) (b : NearP n gss w M) (hs : ∀ f ∈ fss, f ∈ gss) : tn (ps w) N ≤ tn (ps w) M ∧ ((∀ f ∈ gss, fsgn N f ≠ 76) → M = N) := by
  have hM : Hld n fss M := ⟨b.1.1, fun f hf => b.1.2 f (hs f hf)⟩
  have h1 := a.2 M hM
  refine ⟨h1.1, fun h => ?_⟩
  have h2 := b.2 N ⟨a.1.1, h⟩
  have e : tn (ps w) N = tn (ps w) M := Nat.le_antisymm h1.1 h2.1
  exact (lexI_conn' N M (h2.2 e) (h1.2 e.symm)).symm
end L2.TX
end
section
set_option Elab.async false
set_option linter.all false
set_option maxRecDepth 100000
set_option maxHeartbeats 2000000
namespace L2.TX
open PySem PySem.Spec PyProof.Rows L2 L2.VL L2.PM
theorem bits_lt {n : Nat} {pre : List Nat} (h : ∀ x ∈ pre, x < n) : bitsOf pre < 2 ^ n := Nat.lt_pow_two_of_testBit _ fun i hi => by
  rw [bits_mem, decide_eq_false_iff_not]
  exact fun z => by have := h i z; omega
theorem frs_lt {n : Nat} {fss : List (List Nat)} {pre : List Nat} (h : FrS n fss pre) : bitsOf pre < 2 ^ n := bits_lt h.ok.2
/-- the fronts of a size -/
def Lv (n : Nat) (fss : List (List Nat)) (i : Nat) (l : List Int) : Prop := l.Nodup ∧ ∀ x, x ∈ l ↔ ∃ pre, FrS n fss pre ∧ pre.length = i ∧ x = ((bitsOf pre : Nat) : Int)
theorem nodup_lt {m : Nat} {l : List Int} (nd : l.Nodup) (h : ∀ x ∈ l, ∃ k : Nat, x = k ∧ k < m) : l.length ≤ m := by
  have := List.Nodup.length_le_of_subset nd (l₂ := (List.range m).map fun (k : Nat) => (k : Int)) fun x hx => by
    obtain ⟨k, rfl, hk⟩ := h x hx
    exact List.mem_map.mpr ⟨k, List.mem_range.mpr hk, rfl⟩
  simpa using this
theorem Lv.len {n i : Nat} {fss : List (List Nat)} {l : List Int} (h : Lv n fss i l) : l.length ≤ 2 ^ n := nodup_lt h.1 fun x hx => by
  obtain ⟨pre, h1, _, rfl⟩ := (h.2 x).mp hx
  exact ⟨_, rfl, frs_lt h1⟩
/-- the next level -/
theorem Lv.next {n i : Nat} {fss : List (List Nat)} {l ks : List Int} (h : Lv n fss i l) (nd : ks.Nodup) (hk : ∀ x, x ∈ ks ↔ ∃ F : Nat, (F : Int) ∈ l ∧ ∃ r ∈ plc n fss F, x = ((F ||| 2 ^ r : Nat) : Int)) : Lv n fss (i + 1) ks := ⟨nd, fun x => by
  rw [hk]
  constructor
  · rintro ⟨F, hF, r, hr, rfl⟩
    obtain ⟨pre, h1, h2, e⟩ := (h.2 _).mp hF
    have e : F = bitsOf pre := by omega
    subst e
    exact ⟨pre ++ [r], h1.snoc hr, by simp [h2], by rw [bitsOf_snoc]⟩
  · rintro ⟨pre, h1, h2, rfl⟩
    obtain ⟨as, a, rfl⟩ : ∃ as a, pre = as ++ [a] := by
      have : pre ≠ [] := fun z => by rw [z] at h2; cases h2
      exact ⟨_, _, (List.dropLast_concat_getLast this).symm⟩
    refine ⟨bitsOf as, (h.2 _).mpr ⟨as, h1.init, by simpa using h2, rfl⟩, a, frs_tail h1, by rw [bitsOf_snoc]⟩⟩
end L2.TX
end
section
set_option Elab.async false
set_option linter.all false
set_option maxRecDepth 100000
set_option maxHeartbeats 2000000
open PySem PySem.Spec PyProof.Rows L2 L2.VL L2.PM L2.TX
local macro_rules | `(tactic| walk_at "w") => `(tactic| (repeat (first | with_reducible refine wp_some ?_ | with_reducible refine wp_lt ?_ | with_reducible refine wp_bs ?_ | with_reducible refine wp_id ?_ | with_reducible refine wp_assoc ?_); try dsimp only))
namespace Law_strictranks_k54_texts_written_and_read
def spl (c : Nat) (t : List Nat) : List (List Nat) := (Txt.split (sx t) (sx [c])).map fun y => y.cps.toList
theorem sx_inj {a b : List Nat} (h : sx a = sx b) : a = b := by
  have := congrArg (fun s : Str => s.cps.toList) h
  unfold sx at this
  simpa using this
theorem spl_sx (c : Nat) (t : List Nat) : (spl c t).map sx = Txt.split (sx t) (sx [c]) := by
  unfold spl
  rw [List.map_map]
  refine (List.map_congr_left fun y _ => ?_).trans (List.map_id _)
  exact sx_list y
theorem spl_join (c : Nat) (t : List Nat) : joinT [c] (spl c t) = t := by
  refine sx_inj ?_
  rw [← join_sx, spl_sx]
  show Builtin.Str.glued _ _ = _
  rw [StrLaws.glued_eq_join, StrLaws.join_split]
theorem spl_free {c : Nat} {t : List Nat} : ∀ p ∈ spl c t, c ∉ p := fun p hp => by
  obtain ⟨y, hy, rfl⟩ := List.mem_map.mp hp
  exact StrLaws.split_free (sx t) c y hy
theorem spl_ne {c : Nat} {t : List Nat} : spl c t ≠ [] := by
  intro h
  have h : Txt.split (sx t) (sx [c]) = [] := List.map_eq_nil_iff.mp h
  unfold Txt.split at h
  split at h
  · cases h
  · split at h
    · cases h
    · rw [StrLaws.partsBetween_eq] at h
      obtain ⟨p, r, e⟩ := StrLaws.partsFrom_ne (sx t) (sx [c]).length 0 (Builtin.Str.occurrences (sx t) (sx [c]) 0 (sx t).length ((sx t).length + 1))
      rw [e] at h
      cases h
theorem sx_len (t : List Nat) : (sx t).length = t.length := by
  unfold sx Str.length
  simp
theorem spl_len (c : Nat) (t : List Nat) : (spl c t).length ≤ t.length + 2 := by
  unfold spl
  rw [List.length_map]
  have := PyProof.Rows.split_le (sx t) (sx [c])
  rw [sx_len] at this
  exact this
theorem joinT_part {c : Nat} : ∀ {ps : List (List Nat)}, ∀ p ∈ ps, p.length ≤ (joinT [c] ps).length
  | [], _, h => by cases h
  | [x], p, h => by rw [List.mem_singleton.mp h]; exact Nat.le_refl _
  | x :: y :: r, p, h => by
    show _ ≤ (x ++ [c] ++ joinT [c] (y :: r)).length
    rw [List.length_append, List.length_append]
    rcases List.mem_cons.mp h with rfl | h
    · omega
    · have := joinT_part (c := c) (ps := y :: r) p h
      omega
theorem spl_part {c : Nat} {t : List Nat} : ∀ p ∈ spl c t, p.length ≤ t.length := fun p hp => by
  have := joinT_part (c := c) p hp
  rwa [spl_join] at this
theorem splitT_eq {c : Nat} {t : List Nat} (h : t.length ≤ 1000000) : splitT t [c] = some (spl c t) := by
  unfold splitT
  rw [if_pos ⟨by rw [sx_len]; simp, by rw [sx_len]; omega⟩]
  rfl
theorem cut_at {c : Nat} : ∀ {p q A B : List Nat}, c ∉ p → c ∉ q → p ++ c :: A = q ++ c :: B → p = q ∧ A = B
  | [], [], A, B, _, _, h => ⟨rfl, by simpa using h⟩
  | [], y :: q, A, B, _, hq, h => by
    have : c = y := by have := congrArg List.head? h; simpa using this
    exact absurd (by rw [this]; simp) hq
  | x :: p, [], A, B, hp, _, h => by
    have : x = c := by have := congrArg List.head? h; simpa using this
    exact absurd (by rw [this]; simp) hp
  | x :: p, y :: q, A, B, hp, hq, h => by
    obtain ⟨e1, e2⟩ := List.cons.inj h
    obtain ⟨h1, h2⟩ := cut_at (c := c) (p := p) (q := q) (fun z => hp (by simp [z])) (fun z => hq (by simp [z])) e2
    exact ⟨by rw [e1, h1], h2⟩
theorem join_free {c : Nat} : ∀ {ps qs : List (List Nat)}, ps ≠ [] → qs ≠ [] → (∀ p ∈ ps, c ∉ p) → (∀ q ∈ qs, c ∉ q) → joinT [c] ps = joinT [c] qs → ps = qs
  | [], _, h, _, _, _, _ => absurd rfl h
  | _, [], _, h, _, _, _ => absurd rfl h
  | [x], [y], _, _, _, _, h => by rw [show x = y from h]
  | [x], y :: z :: r, _, _, h1, _, h => by
    have h : x = y ++ [c] ++ joinT [c] (z :: r) := h
    exact absurd (by rw [h]; simp) (h1 x (by simp))
  | y :: z :: r, [x], _, _, _, h1, h => by
    have h : y ++ [c] ++ joinT [c] (z :: r) = x := h
    exact absurd (by rw [← h]; simp) (h1 x (by simp))
  | x :: y :: r, x' :: y' :: r', _, _, h1, h2, h => by
    have h : x ++ [c] ++ joinT [c] (y :: r) = x' ++ [c] ++ joinT [c] (y' :: r') := h
    rw [List.append_assoc, List.append_assoc] at h
    obtain ⟨e1, e2⟩ := cut_at (h1 x (by simp)) (h2 x' (by simp)) h
    rw [e1, join_free (by simp) (by simp) (fun p hp => h1 p (List.mem_cons_of_mem _ hp)) (fun p hp => h2 p (List.mem_cons_of_mem _ hp)) e2]
theorem spl_of {c : Nat} {ps : List (List Nat)} {t : List Nat} (hn : ps ≠ []) (hf : ∀ p ∈ ps, c ∉ p) (h : joinT [c] ps = t) : spl c t = ps :=
  join_free spl_ne hn spl_free hf (by rw [spl_join, h])
def dg (c : Nat) : Bool := decide (c ∈ [48, 49, 50, 51, 52, 53, 54, 55, 56, 57])
theorem dg_iff {c : Nat} : dg c = true ↔ 48 ≤ c ∧ c ≤ 57 := by
  unfold dg
  rw [decide_eq_true_eq]
  simp only [List.mem_cons, List.not_mem_nil, or_false]
  omega
def numO (w : List Nat) : Option Int := if ((decide (1 ≤ w.length) && decide (w.length ≤ 40)) && w.all dg) = true then (if (decide (w.take 1 = [48]) && !decide (w = [48])) = true then none else some ((PySem.NumText.digitsVal w : Nat) : Int)) else none
theorem all_chs {w : List Nat} {f : List Nat → Bool} {g : Nat → Bool} (h : ∀ c, f [c] = g c) : ((chs w).map f).all id = w.all g := by
  unfold chs
  rw [List.map_map, List.all_map]
  exact congrArg (fun p => w.all p) (funext h)
theorem int_dig {w : List Nat} (h1 : 1 ≤ w.length) (h2 : w.length ≤ 40) (h3 : w.all dg = true) : intS w = some ((PySem.NumText.digitsVal w : Nat) : Int) := by
  have e : (sx w).cps.toList = w := by unfold sx; simp
  unfold intS
  rw [if_pos (by rw [sx_len]; omega), PySem.intText_digits (by rw [e]; exact fun c hc => dg_iff.mp (List.all_eq_true.mp h3 c hc)) (by rw [e]; intro z; rw [z] at h1; simp at h1) (by rw [sx_len]; omega), e]
theorem ixS_0 {w : List Nat} (h1 : 1 ≤ w.length) (h2 : w.length ≤ 1000000) : ixS w 0 = some (w.take 1) := by
  cases w with
  | nil => simp at h1
  | cons c r =>
    have hl : (c :: r).length ≤ cap := by simp only [cap]; omega
    rw [ixS_int ⟨Int.le_refl 0, by simp⟩ hl]
    rfl
end Law_strictranks_k54_texts_written_and_read
end
section
set_option Elab.async false
set_option linter.all false
set_option maxRecDepth 100000
set_option maxHeartbeats 2000000
open PySem PySem.Spec PyProof.Rows L2 L2.VL L2.PM L2.TX
local macro_rules | `(tactic| walk_at "w") => `(tactic| (repeat (first | with_reducible refine wp_some ?_ | with_reducible refine wp_lt ?_ | with_reducible refine wp_bs ?_ | with_reducible refine wp_id ?_ | with_reducible refine wp_assoc ?_); try dsimp only))
namespace Law_strictranks_k54_texts_written_and_read
def isN (d : D) : Bool := match d with
  | .con .non => true
  | _ => false
theorem flat_any : ∀ {xs : List D} {vs : List V}, VL.flatDs xs = some vs → L2.inV .non vs = xs.any isN
  | [], vs, h => by cases h; rfl
  | d :: ds, vs, h => by
    unfold VL.flatDs at h
    split at h
    · rename_i v hv
      obtain ⟨us, h1, rfl⟩ := Option.map_eq_some_iff.mp h
      obtain ⟨rfl, hf⟩ := flatD_of hv
      have ih := flat_any h1
      show (L2.eqV v .non || L2.inV .non us) = (isN (.con v) || _)
      rw [ih]
      congr 1
      cases v <;> first | rfl | cases hf
    · cases h
theorem same_non (d : D) : same d (.con .non) = isN d := by
  cases d with
  | con v => cases v <;> rfl
  | _ => rfl
theorem inU_non {xs : List D} (h : ∀ d ∈ xs, okD 60 d = true) : inU (rN ()) xs = some (xs.any isN) := by
  have h1 : inA (.con .non) (.lst xs) = none ∨ inA (.con .non) (.lst xs) = some (xs.any isN) := by
    unfold inA inD inS
    dsimp only
    cases e : VL.flatDs xs with
    | none => exact .inl (by rfl)
    | some vs =>
      refine .inr ?_
      rw [show VL.flatD (D.con V.non) = some V.non from rfl]
      show (some (L2.inV V.non vs)).or none = _
      rw [flat_any e]; rfl
  show (inA (.con .non) (.lst xs)).or (VL.inN (.con .non) (.lst xs)) = _
  rcases h1 with h1 | h1
  · rw [h1]
    show (if (okD 60 (.con .non) && xs.all (okD 60)) = true then some (xs.any fun d => same d (.con .non)) else none) = _
    rw [if_pos (by rw [Bool.and_eq_true]; exact ⟨rfl, List.all_eq_true.mpr h⟩)]
    exact congrArg (fun p => some (xs.any p)) (funext same_non)
  · rw [h1]; rfl
theorem okD_up {n : Nat} {xs : List D} (h : ∀ d ∈ xs, okD n d = true) : okD (n + 1) (.lst xs) = true := List.all_eq_true.mpr h
def pr (w : List Nat) : List Nat × List Nat × List Nat := ((Txt.partition (sx w) (sx [60])).1.cps.toList, (Txt.partition (sx w) (sx [60])).2.1.cps.toList, (Txt.partition (sx w) (sx [60])).2.2.cps.toList)
theorem partT_eq {w : List Nat} (h : w.length ≤ 1000000) : partT w [60] = some (pr w) := by
  unfold partT
  rw [if_pos ⟨by rw [sx_len]; simp, by rw [sx_len]; omega⟩]
  rfl
theorem rLU (xs : List D) : rL rU xs = .lst xs := congrArg D.lst (map_rU xs)
end Law_strictranks_k54_texts_written_and_read
end
section
set_option Elab.async false
set_option linter.all false
set_option maxRecDepth 100000
set_option maxHeartbeats 2000000
open PySem PySem.Spec PyProof.Rows L2 L2.VL L2.PM L2.TX
local macro_rules | `(tactic| walk_at "w") => `(tactic| (repeat (first | with_reducible refine wp_some ?_ | with_reducible refine wp_lt ?_ | with_reducible refine wp_bs ?_ | with_reducible refine wp_id ?_ | with_reducible refine wp_assoc ?_); try dsimp only))
namespace Law_strictranks_k54_texts_written_and_read
def isIo (a : Int) (b : Option Int) (x : Int) : Bool := decide (a ≤ x) && (match b with | none => true | some b => decide (x ≤ b))
theorem sp_int {i a : Int} {b : Option Int} : g_is_integer (TX.rI i) a b = some (isIo a b i) := by
  unfold g_is_integer isIo
  rw [show isU .int (TX.rI i) = some true from rfl, show isU .bool (TX.rI i) = some false from rfl, show leC (rI a) (TX.rI i) = some (decide (a ≤ i)) from rfl]
  cases decide (a ≤ i) with
  | false => rfl
  | true => cases b <;> rfl
theorem as_ints (ns : List Int) : (asL asI) (rL TX.rI ns) = some ns := optAll_map (f := TX.rI) (fun _ => rfl) ns
def goodO (ns : List Int) : Bool := decide (ns.length ≤ 60) && decide (sortI ns = rg ns.length)
theorem sp_isord {ns : List Int} (h0 : ∀ i ∈ ns, 0 ≤ i) (h1 : ns ≠ []) (hl : ns.length ≤ 200000) : g_is_order (rL TX.rI ns) = some (goodO ns) := by
  have hp : 1 ≤ ns.length := List.length_pos_iff.mpr h1
  refine WP.eq ?_
  unfold g_is_order goodO
  refine wp_eq (b := true) rfl (wp_ifb (fun z => nomatch z) fun _ => wp_assoc (wp_eq (b := ((ns.map TX.rI).length : Int)) rfl ?_))
  rw [List.length_map, decide_eq_true (show (1 : Int) ≤ ns.length by omega), Bool.true_and, show decide ((ns.length : Int) ≤ 60) = decide (ns.length ≤ 60) from decide_eq_decide.mpr (by omega)]
  cases e : decide (ns.length ≤ 60) with
  | false => exact wp_bs (wp_if (fun _ => wp_some rfl) fun z => nomatch z)
  | true =>
    refine wp_bs (wp_if (fun z => nomatch z) fun _ => wp_eq (b := ns.map TX.rI) rfl ?_)
    rw [lcC_comp]
    refine wp_eq (lcC_map (fun _ => true) (by simp only [cap]; omega) (fun _ _ => rfl) (fun i hi => by
      rw [sp_int]
      show some (decide (0 ≤ i) && true) = _
      rw [decide_eq_true (h0 i hi)]; rfl)) ?_
    refine wp_id (wp_if (fun _ => wp_eq (as_ints ns) (wp_eq (b := ((ns.map TX.rI).length : Int)) rfl ?_)) fun z => absurd z (by simp))
    rw [List.length_map]
    exact wp_eq (lrg_eq (by omega)) (wp_some rfl)
def fitB (count : Int) (p : Int × List Int) : Bool := (isIo 0 (some (count - 1)) p.1 && p.2.all fun b => isIo 0 (some (count - 1)) b && !decide (b = p.1)) && (p.2.zip (p.2.drop 1)).all fun q => decide (q.1 < q.2)
theorem sp_fits {count : Int} {p : Int × List Int} (hl : p.2.length ≤ 200000) : g_fits_part count (rP TX.rI (rL TX.rI) p) = some (fitB count p) := by
  obtain ⟨a, bs⟩ := p
  dsimp only at hl
  refine WP.eq ?_
  unfold g_fits_part fitB
  refine wp_eq (b := true) rfl (wp_ifb (fun z => nomatch z) fun _ => wp_assoc (wp_eq (b := 2) rfl ?_))
  refine WP.bind (R := fun b => b = !isIo 0 (some (count - 1)) a) (wp_id (wp_if (fun z => nomatch z) fun _ => wp_eq (b := TX.rI a) rfl (wp_eq sp_int (wp_some rfl)))) fun b hb => ?_
  subst hb
  cases e1 : isIo 0 (some (count - 1)) a with
  | false => exact wp_if (fun _ => wp_some rfl) fun z => nomatch z
  | true =>
    refine wp_if (fun z => nomatch z) fun _ => wp_eq (b := (TX.rI a, rL TX.rI bs)) rfl (wp_eq (b := true) rfl (wp_ifb (fun z => nomatch z) fun _ => wp_assoc (wp_eq (b := bs.map TX.rI) rfl ?_)))
    rw [lcC_comp]
    refine wp_assoc (wp_eq (lcC_map (fun b => isIo 0 (some (count - 1)) b && !decide (b = a)) (by simp only [cap]; omega) (fun _ _ => rfl) (fun b _ => ?_)) (wp_bs ?_))
    · rw [sp_int]
      cases isIo 0 (some (count - 1)) b with
      | false => rfl
      | true =>
        show ((if true = true then (eqD (TX.rI b) (TX.rI a)).bind fun b4 => some (!b4) else some false).bind fun b5 => some b5) = _
        rw [if_pos rfl, show eqD (TX.rI b) (TX.rI a) = some (decide (b = a)) from eqD_int]
        rfl
    · have ea : (bs.map fun b => isIo 0 (some (count - 1)) b && !decide (b = a)).all id = bs.all fun b => isIo 0 (some (count - 1)) b && !decide (b = a) := by rw [List.all_map]; rfl
      rw [ea]
      cases e2 : bs.all fun b => isIo 0 (some (count - 1)) b && !decide (b = a) with
      | false => exact wp_if (fun _ => wp_some rfl) fun z => nomatch z
      | true =>
        have eU : (asL asU) (rL TX.rI bs) = some (bs.map TX.rI) := optAll_id _
        refine wp_if (fun z => nomatch z) fun _ => wp_eq eU (wp_eq eU ?_)
        rw [show cutL (bs.map TX.rI) (some 1) none = (bs.map TX.rI).drop 1 from cutL_drop _ 1, ← List.map_drop, List.zip_map, lcC_comp]
        refine wp_eq (lcC_map (fun q : Int × Int => decide (q.1 < q.2)) (by rw [List.length_zip]; simp only [cap]; omega) (fun _ _ => rfl) (fun q _ => rfl)) (wp_some ?_)
        rw [List.all_map]; rfl
theorem neX_of' {x y : D} {b : Bool} (h : eqD x y = some b) : neX x y = some (!b) := by
  unfold neX neD
  rw [h]; rfl
def goodL (count : Int) (ps : List (Int × List Int)) : Bool := decide (ps.length ≤ 400) && ps.all (fitB count)
theorem sp_areparts {count : Int} {ps : List (Int × List Int)} (hp : ∀ p ∈ ps, p.2 ≠ [] ∧ p.2.length ≤ 200000) (hl : ps.length ≤ 200000) : g_are_parts count (rL (rP TX.rI (rL TX.rI)) ps) = some (goodL count ps) := by
  refine WP.eq ?_
  unfold g_are_parts goodL
  refine wp_eq (b := true) rfl (wp_ifb (fun z => nomatch z) fun _ => wp_assoc (wp_eq (b := ((ps.map (rP TX.rI (rL TX.rI))).length : Int)) rfl ?_))
  rw [List.length_map, show decide ((ps.length : Int) > 400) = !decide (ps.length ≤ 400) by rw [← decide_not]; exact decide_eq_decide.mpr (by omega)]
  cases e : decide (ps.length ≤ 400) with
  | false => exact wp_bs (wp_if (fun _ => wp_some rfl) fun z => nomatch z)
  | true =>
    refine wp_bs (wp_if (fun z => nomatch z) fun _ => wp_eq (b := ps.map (rP TX.rI (rL TX.rI))) rfl ?_)
    rw [lcC_comp]
    refine wp_eq (lcC_map (fitB count) (by simp only [cap]; omega) (fun _ _ => rfl) (fun p h => ?_)) (wp_some ?_)
    · rw [sp_fits (hp p h).2]
      cases fitB count p with
      | false => rfl
      | true =>
        show ((ixU (rP TX.rI (rL TX.rI) p) 1).bind fun x => (neX x (rL rU [])).bind fun b => some b).bind _ = _
        rw [show ixU (rP TX.rI (rL TX.rI) p) 1 = some (rL TX.rI p.2) from rfl]
        show ((neX (rL TX.rI p.2) (rL rU [])).bind fun b => some b).bind (fun b => some b) = _
        rw [show neX (rL TX.rI p.2) (rL rU []) = some (!decide (p.2 = [])) from neX_of' (g_eqT (f := rL TX.rI) (x := p.2) (y := []) (et_L et_I) rfl), decide_eq_false (hp p h).1]
        rfl
    · rw [List.all_map]; rfl
def rowO (r : List Int) : Bool := (decide (1 ≤ (r.length : Int)) && decide ((r.length : Int) ≤ 60)) && r.all (isIo 0 (some 1000000000000000000000000000000))
theorem sp_rowo {r : List Int} (hl : r.length ≤ 200000) : g_is_row (rL TX.rI r) = some (rowO r) := by
  refine WP.eq ?_
  unfold g_is_row rowO
  refine wp_eq (b := true) rfl (wp_ifb (fun z => nomatch z) fun _ => wp_assoc (wp_eq (b := ((r.map TX.rI).length : Int)) rfl ?_))
  rw [List.length_map]
  cases (decide (1 ≤ (r.length : Int)) && decide ((r.length : Int) ≤ 60)) with
  | false => exact wp_bs (wp_if (fun _ => wp_some rfl) fun z => nomatch z)
  | true =>
    refine wp_bs (wp_if (fun z => nomatch z) fun _ => wp_eq (b := r.map TX.rI) rfl ?_)
    rw [lcC_comp]
    refine wp_eq (lcC_map (isIo 0 (some 1000000000000000000000000000000)) (by simp only [cap]; omega) (fun _ _ => rfl) (fun i _ => by rw [sp_int]; rfl)) (wp_some ?_)
    rw [List.all_map]; rfl
def goodT (rs : List (List Int)) : Bool := ((decide (1 ≤ (rs.length : Int)) && decide ((rs.length : Int) ≤ 30)) && rs.all rowO) && rs.all fun r => decide (r.length = (rs.getD 0 []).length)
theorem sp_tab {rs : List (List Int)} (hr : ∀ r ∈ rs, r.length ≤ 200000) (hl : rs.length ≤ 200000) : g_is_tableau (rL (rL TX.rI) rs) = some (goodT rs) := by
  refine WP.eq ?_
  unfold g_is_tableau goodT
  refine wp_eq (b := true) rfl (wp_ifb (fun z => nomatch z) fun _ => wp_assoc (wp_eq (b := ((rs.map (rL TX.rI)).length : Int)) rfl ?_))
  rw [List.length_map]
  cases e : (decide (1 ≤ (rs.length : Int)) && decide ((rs.length : Int) ≤ 30)) with
  | false => exact wp_bs (wp_if (fun _ => wp_some rfl) fun z => nomatch z)
  | true =>
    rw [Bool.and_eq_true, decide_eq_true_eq, decide_eq_true_eq] at e
    refine wp_bs (wp_if (fun z => nomatch z) fun _ => wp_eq (b := rs.map (rL TX.rI)) rfl ?_)
    rw [lcC_comp]
    refine wp_eq (lcC_map rowO (by simp only [cap]; omega) (fun _ _ => rfl) (fun r h => by rw [sp_rowo (hr r h)]; rfl)) ?_
    rw [show (rs.map rowO).all id = rs.all rowO by rw [List.all_map]; rfl]
    cases rs.all rowO with
    | false => exact wp_id (wp_some rfl)
    | true =>
      refine wp_id (wp_if (fun _ => wp_eq (b := rs.map (rL TX.rI)) rfl ?_) fun z => nomatch z)
      rw [lcC_comp]
      have e0 : ixU (rL (rL TX.rI) rs) 0 = some (rL TX.rI (rs.getD 0 [])) := by
        show ixL (rs.map (rL TX.rI)) 0 = _
        have := ixL_nat (xs := rs.map (rL TX.rI)) (k := 0) (rL TX.rI []) (by rw [List.length_map]; omega)
        rw [show ixL (rs.map (rL TX.rI)) 0 = _ from this]
        cases rs with
        | nil => simp at e
        | cons a r => rfl
      refine wp_eq (lcC_map (fun r : List Int => decide (r.length = (rs.getD 0 []).length)) (by simp only [cap]; omega) (fun _ _ => rfl) (fun r _ => ?_)) (wp_some ?_)
      · rw [e0]
        show some (decide (((r.map TX.rI).length : Int) = (((rs.getD 0 []).map TX.rI).length : Int))) = _
        rw [List.length_map, List.length_map]
        congr 1
        exact decide_eq_decide.mpr (by omega)
      · rw [List.all_map]; rfl
theorem zip_asc {bs : List Int} : ((bs.zip (bs.drop 1)).all fun q => decide (q.1 < q.2)) = true ↔ bs.Pairwise (· < ·) := by
  rw [List.all_eq_true]
  induction bs with
  | nil => simp
  | cons a r ih =>
    cases r with
    | nil => simp
    | cons b r =>
      have ih : (∀ q ∈ (b :: r).zip r, decide (q.1 < q.2) = true) ↔ (b :: r).Pairwise (· < ·) := ih
      show (∀ q ∈ (a, b) :: (b :: r).zip r, decide (q.1 < q.2) = true) ↔ _
      rw [List.pairwise_cons, ← ih]
      constructor
      · intro h
        have h1 : a < b := of_decide_eq_true (h (a, b) (by simp))
        refine ⟨fun x hx => ?_, fun q hq => h q (by simp [hq])⟩
        have asc := ih.mp fun q hq => h q (by simp [hq])
        rcases List.mem_cons.mp hx with rfl | hx
        · exact h1
        · exact Int.lt_trans h1 ((List.pairwise_cons.mp asc).1 x hx)
      · rintro ⟨h1, h2⟩ q hq
        rcases List.mem_cons.mp hq with rfl | hq
        · exact decide_eq_true (h1 b (by simp))
        · exact h2 q hq
end Law_strictranks_k54_texts_written_and_read
end
section
set_option Elab.async false
set_option linter.all false
set_option maxRecDepth 100000
set_option maxHeartbeats 2000000
open PySem PySem.Spec PyProof.Rows L2 L2.VL L2.PM L2.TX
local macro_rules | `(tactic| walk_at "w") => `(tactic| (repeat (first | with_reducible refine wp_some ?_ | with_reducible refine wp_lt ?_ | with_reducible refine wp_bs ?_ | with_reducible refine wp_id ?_ | with_reducible refine wp_assoc ?_); try dsimp only))
namespace Law_strictranks_k54_texts_written_and_read
theorem sp_num1 {w : List Nat} (hw : w.length ≤ 1000000) : g_number_in w = some (numO w) := by
  refine WP.eq ?_
  unfold g_number_in
  refine wp_eq (b := (w.length : Int)) (if_pos (by simp only [cap]; omega)) ?_
  unfold numO
  by_cases h : 1 ≤ w.length ∧ w.length ≤ 40
  · rw [decide_eq_true (show (1 : Int) ≤ w.length by omega), decide_eq_true (show (w.length : Int) ≤ 40 by omega), decide_eq_true h.1, decide_eq_true h.2]
    refine wp_ifb (fun z => nomatch z) fun _ => wp_assoc (wp_eq (lcC_map (fun s => inTx s [48, 49, 50, 51, 52, 53, 54, 55, 56, 57]) (by rw [chs_len]; simp only [cap]; omega) (fun _ _ => rfl) (fun _ _ => rfl)) (wp_bs ?_))
    rw [all_chs (g := dg) (fun c => inTx_one c _)]
    cases hd : w.all dg with
    | false => exact wp_if (fun _ => wp_some rfl) fun z => nomatch z
    | true =>
      refine wp_if (fun z => nomatch z) fun _ => wp_eq (ixS_0 h.1 hw) ?_
      cases (decide (w.take 1 = [48]) && !decide (w = [48])) with
      | true => exact wp_bs (wp_some rfl)
      | false => exact wp_ifb (fun z => nomatch z) fun _ => wp_assoc (wp_eq (int_dig h.1 h.2 hd) (wp_bs (wp_some rfl)))
  · have e : ((decide ((1 : Int) ≤ w.length)) && (decide ((w.length : Int) ≤ 40))) = false := by
      rw [← Bool.not_eq_true, Bool.and_eq_true, decide_eq_true_eq, decide_eq_true_eq]
      omega
    have e2 : (decide (1 ≤ w.length) && decide (w.length ≤ 40)) = false := by
      rw [← Bool.not_eq_true, Bool.and_eq_true, decide_eq_true_eq, decide_eq_true_eq]
      exact h
    rw [e, e2]
    exact wp_ifb (fun _ => wp_bs (wp_if (fun _ => wp_some rfl) fun z => nomatch z)) fun z => nomatch z
theorem sp_nums1 {c : Nat} {t : List Nat} (ht : t.length ≤ 100000) : g_numbers_in t [c] = some ((spl c t).map numO) := by
  refine WP.eq ?_
  unfold g_numbers_in
  refine wp_eq (splitT_eq (by omega)) (wp_eq (lcC_map numO (by have := spl_len c t; simp only [cap]; omega) (fun _ _ => rfl) (fun w hw => by rw [sp_num1 (by have := spl_part w hw; omega)]; rfl)) (wp_some rfl))
theorem dig_ex : ∀ n : Nat, ∃ cs : List Nat, PySem.NumText.AllDigits cs ∧ PySem.NumText.digitsVal cs = n ∧ cs ≠ [] ∧ (n < 10 → cs.length = 1) ∧ (10 ≤ n → ∃ c r, cs = c :: r ∧ 49 ≤ c ∧ r ≠ []) ∧ ∀ k, 1 ≤ k → n < 10 ^ k → cs.length ≤ k := fun n => by
  induction n using Nat.strongRecOn with
  | _ n ih =>
    by_cases h : n < 10
    · refine ⟨[48 + n], fun c hc => ?_, ?_, by simp, fun _ => rfl, fun z => absurd h (by omega), fun k hk _ => hk⟩
      · rw [List.mem_singleton.mp hc]; omega
      · show 0 * 10 + (48 + n - 48) = n
        omega
    · obtain ⟨cs, a1, a2, a3, a4, a5, a6⟩ := ih (n / 10) (by omega)
      refine ⟨cs ++ [48 + n % 10], fun c hc => ?_, ?_, by simp, fun z => absurd z h, fun _ => ?_, fun k hk hn => ?_⟩
      · rcases List.mem_append.mp hc with hc | hc
        · exact a1 c hc
        · rw [List.mem_singleton.mp hc]; omega
      · rw [PySem.NumText.digitsVal_snoc, a2]; omega
      · by_cases h2 : n / 10 < 10
        · obtain ⟨c, rfl⟩ : ∃ c, cs = [c] := by
            have := a4 h2
            match cs, this with
            | [c], _ => exact ⟨c, rfl⟩
          have : c - 48 = n / 10 := by
            have : 0 * 10 + (c - 48) = n / 10 := a2
            omega
          exact ⟨c, [48 + n % 10], rfl, by omega, by simp⟩
        · obtain ⟨c, r, rfl, b1, _⟩ := a5 (by omega)
          exact ⟨c, r ++ [48 + n % 10], rfl, b1, by simp⟩
      · rw [List.length_append]
        match k, hk with
        | 1, _ => exact absurd hn (by omega)
        | k + 2, _ =>
          have := a6 (k + 1) (by omega) (by rw [Nat.div_lt_iff_lt_mul (by omega), ← Nat.pow_succ]; exact hn)
          simp only [List.length_singleton]
          omega
theorem str_dig (n : Nat) : (Str.cps (toString (n : Int) : Str)).toList = (Nat.toDigits 10 n).map Char.toNat := by
  show (Str.ofString (Nat.repr n)).cps.toList = _
  rw [Str.ofString_eq_toList]
  unfold Nat.repr
  simp
theorem sI_ex {n : Nat} (hn : n ≤ 1000000000000000000000000000000) : ∃ w, strI (n : Int) = some w ∧ numO w = some (n : Int) ∧ w.all dg = true ∧ w.length ≤ 31 := by
  obtain ⟨cs, a1, a2, a3, a4, a5, a6⟩ := dig_ex n
  have hl : cs.length ≤ 31 := a6 31 (by omega) (by omega)
  have h1 : 1 ≤ cs.length := List.length_pos_iff.mpr a3
  have e : Nat.toDigits 10 n = cs.map Char.ofNat := by
    rw [← a2]
    refine PySem.NumText.toDigits_digitsVal (cs.length - 1) cs (by omega) a1 ?_
    by_cases h : n < 10
    · exact .inl (by rw [a4 h])
    · obtain ⟨c, r, b1, b2, _⟩ := a5 (by omega)
      exact .inr ⟨c, r, b1, b2⟩
  have ed : (Nat.toDigits 10 n).map Char.toNat = cs := by
    rw [e, List.map_map]
    refine (List.map_congr_left fun c hc => ?_).trans (List.map_id _)
    have := a1 c hc
    show (Char.ofNat c).toNat = c
    have all : ∀ k : Fin 58, (Char.ofNat k.val).toNat = k.val := by decide +kernel
    exact all ⟨c, by omega⟩
  refine ⟨cs, ?_, ?_, List.all_eq_true.mpr fun c hc => dg_iff.mpr (a1 c hc), hl⟩
  · unfold strI
    rw [str_dig, ed, if_pos]
    show n.log2 < 1920
    by_cases z : n = 0
    · rw [z]; decide
    · rw [Nat.log2_lt z]
      exact Nat.lt_of_le_of_lt hn (by decide +kernel)
  · unfold numO
    rw [decide_eq_true h1, decide_eq_true (show cs.length ≤ 40 by omega), List.all_eq_true.mpr fun c hc => dg_iff.mpr (a1 c hc), if_pos (show (true && true && true) = true from rfl), a2]
    rw [if_neg]
    intro z
    rw [Bool.and_eq_true, decide_eq_true_eq, Bool.not_eq_true', decide_eq_false_iff_not] at z
    by_cases h : n < 10
    · obtain ⟨c, rfl⟩ : ∃ c, cs = [c] := by
        have := a4 h
        match cs, this with
        | [c], _ => exact ⟨c, rfl⟩
      exact z.2 z.1
    · obtain ⟨c, r, rfl, b1, _⟩ := a5 (by omega)
      have : c = 48 := by have := z.1; simpa using this
      omega
/-- an integer's text -/
def sI (i : Int) : List Nat := (strI i).getD []
theorem sI_ok {i : Int} (h : 0 ≤ i ∧ i ≤ 1000000000000000000000000000000) : strI i = some (sI i) ∧ numO (sI i) = some i ∧ (sI i).all dg = true ∧ (sI i).length ≤ 31 := by
  obtain ⟨n, rfl⟩ : ∃ n : Nat, i = n := ⟨i.toNat, by omega⟩
  obtain ⟨w, h1, h2⟩ := sI_ex (n := n) (by omega)
  unfold sI
  rw [h1]
  exact ⟨rfl, h2⟩
theorem sI_free {i : Int} (h : 0 ≤ i ∧ i ≤ 1000000000000000000000000000000) {c : Nat} (hc : dg c = false) : c ∉ sI i := fun z => by
  have := List.all_eq_true.mp (sI_ok h).2.2.1 c z
  rw [hc] at this
  cases this
end Law_strictranks_k54_texts_written_and_read
end
section
set_option Elab.async false
set_option linter.all false
set_option maxRecDepth 100000
set_option maxHeartbeats 2000000
open PySem PySem.Spec PyProof.Rows L2 L2.VL L2.PM L2.TX
local macro_rules | `(tactic| walk_at "w") => `(tactic| (repeat (first | with_reducible refine wp_some ?_ | with_reducible refine wp_lt ?_ | with_reducible refine wp_bs ?_ | with_reducible refine wp_id ?_ | with_reducible refine wp_assoc ?_); try dsimp only))
namespace Law_strictranks_k54_texts_written_and_read
theorem pr_of {a b : List Nat} (ha : 60 ∉ a) : pr (a ++ 60 :: b) = (a, [60], b) := by
  have hx : sx (a ++ 60 :: b) = (⟨(a ++ 60 :: b).toArray⟩ : Str) := rfl
  have dw : ∀ l : List Nat, 60 ∉ l → (l ++ 60 :: b).dropWhile (· != 60) = 60 :: b := fun l => by
    induction l with
    | nil => intro _; rfl
    | cons x l ih =>
      intro h
      have hx : x ≠ 60 := fun z => h (by rw [z]; simp)
      rw [List.cons_append, List.dropWhile_cons_of_pos (by simpa using hx)]
      exact ih fun z => h (List.mem_cons_of_mem _ z)
  have oc : (Builtin.Str.occurrences (sx (a ++ 60 :: b)) (sx [60]) 0 (sx (a ++ 60 :: b)).length 1).isEmpty = false := by
    have := StrLaws.found_one (sx (a ++ 60 :: b)) 60
    rw [decide_eq_true (show 60 ∈ (sx (a ++ 60 :: b)).cps.toList by unfold sx; simp)] at this
    simpa using this
  have h3 := PyProof.Rows.from_first_some (x := sx (a ++ 60 :: b)) (y := sx [60]) (z := sx [60]) (c := 60) rfl rfl oc
  have h2 : (Txt.partition (sx (a ++ 60 :: b)) (sx [60])).2.1 = sx [60] := by
    unfold Txt.partition
    cases q : Builtin.Str.occurrences (sx (a ++ 60 :: b)) (sx [60]) 0 (sx (a ++ 60 :: b)).length 1 with
    | nil => rw [q] at oc; cases oc
    | cons i r => rfl
  have hs := StrLaws.partition_sum (sx (a ++ 60 :: b)) (sx [60])
  have e3 : (Txt.partition (sx (a ++ 60 :: b)) (sx [60])).2.2 = sx b := by
    have h3 : sx [60] ++ (Txt.partition (sx (a ++ 60 :: b)) (sx [60])).2.2 = ⟨((sx (a ++ 60 :: b)).cps.toList.dropWhile (· != 60)).toArray⟩ := eq_of_beq h3
    rw [show (sx (a ++ 60 :: b)).cps.toList = a ++ 60 :: b by unfold sx; simp, dw a ha] at h3
    have h4 := congrArg (fun s : Str => s.cps.toList) h3
    have h5 : 60 :: (Txt.partition (sx (a ++ 60 :: b)) (sx [60])).2.2.cps.toList = 60 :: b := by
      have : (sx [60] ++ (Txt.partition (sx (a ++ 60 :: b)) (sx [60])).2.2).cps.toList = 60 :: (Txt.partition (sx (a ++ 60 :: b)) (sx [60])).2.2.cps.toList := by
        show ((sx [60]).cps ++ (Txt.partition (sx (a ++ 60 :: b)) (sx [60])).2.2.cps).toList = _
        simp [sx]
      rw [← this]
      simpa using h4
    exact (sx_list _).symm.trans (congrArg sx (List.cons.inj h5).2)
  have e1 : (Txt.partition (sx (a ++ 60 :: b)) (sx [60])).1 = sx a := by
    rw [h2, e3] at hs
    have h4 := congrArg (fun s : Str => s.cps.toList) hs
    have h5 : (Txt.partition (sx (a ++ 60 :: b)) (sx [60])).1.cps.toList ++ 60 :: b = a ++ 60 :: b := by
      have : (((Txt.partition (sx (a ++ 60 :: b)) (sx [60])).1 ++ sx [60]) ++ sx b).cps.toList = (Txt.partition (sx (a ++ 60 :: b)) (sx [60])).1.cps.toList ++ 60 :: b := by
        show (((Txt.partition (sx (a ++ 60 :: b)) (sx [60])).1.cps ++ (sx [60]).cps) ++ (sx b).cps).toList = _
        simp [sx]
      rw [← this]
      refine h4.trans ?_
      unfold sx
      simp
    exact (sx_list _).symm.trans (congrArg sx (List.append_cancel_right h5))
  unfold pr
  rw [e1, h2, e3]
end Law_strictranks_k54_texts_written_and_read
end
section
set_option Elab.async false
set_option linter.all false
set_option maxRecDepth 100000
set_option maxHeartbeats 2000000
open PySem PySem.Spec PyProof.Rows L2 L2.VL L2.PM L2.TX
local macro_rules | `(tactic| walk_at "w") => `(tactic| (repeat (first | with_reducible refine wp_some ?_ | with_reducible refine wp_lt ?_ | with_reducible refine wp_bs ?_ | with_reducible refine wp_id ?_ | with_reducible refine wp_assoc ?_); try dsimp only))
namespace Law_strictranks_k54_texts_written_and_read
def Prs (k : Nat) (t : List Int) : Prop := ∃ a b c : Int, t = [a, b, c] ∧ 0 ≤ a ∧ (0 ≤ b ∧ b < 1000000000000000000000000000000000000000000) ∧ (0 ≤ c ∧ c ≤ k)
theorem Prs.mono {k m : Nat} {t : List Int} (h : Prs k t) (hk : k ≤ m) : Prs m t := let ⟨a, b, c, e, h1, h2, h3⟩ := h; ⟨a, b, c, e, h1, h2, by omega⟩
theorem powN_eq {i j : Int} (h : 0 ≤ j ∧ j ≤ 1000 ∧ i.natAbs < 1606938044258990275541962092341162602522202993782792835301376) : powN i j = some (i ^ j.toNat) := if_pos (by unfold CPwB; simpa using h)
theorem sp_coin {k : Nat} {t : List Int} (ht : Prs k t) (hk : k ≤ 100000) {n : Int} (hn : 0 < n ∧ n < 1000000000000000000000000000000000000000000000000) : WP (g__law_coin t n) fun p => (0 ≤ p.1 ∧ p.1 < n) ∧ Prs (k + 1) p.2 := by
  obtain ⟨a, b, c, rfl, ha, hb, hc⟩ := ht
  unfold g__law_coin
  refine wp_eq (b := a) rfl (wp_ifd (fun h => ?_) fun h => ?_)
  · refine wp_eq (b := a) rfl (wp_eq (modI_eq hn.1) (wp_eq (b := a) rfl (wp_eq (divI_eq ⟨hn.1, by omega⟩) (wp_eq (b := [_, b, c]) rfl (wp_some ?_)))))
    exact ⟨⟨Int.emod_nonneg _ (by omega), Int.emod_lt_of_pos _ hn.1⟩, _, _, _, rfl, Int.ediv_nonneg ha (by omega), hb, by omega⟩
  · refine wp_eq (b := c) rfl (wp_eq (b := [a, b, c + 1]) rfl (wp_eq (b := b) rfl (wp_eq (b := c + 1) rfl (wp_eq (powN_eq (by omega)) (wp_eq (modI_eq (by decide)) ?_)))))
    generalize (b + 15485863 * (c + 1)) ^ (3 : Int).toNat = X
    have x1 := Int.emod_nonneg X (show ((10000000000000000000000000000000000000000000 : Int) + 29) ≠ 0 by decide)
    have x2 := Int.emod_lt_of_pos X (show (0 : Int) < (10000000000000000000000000000000000000000000 : Int) + 29 by decide)
    generalize X % (10000000000000000000000000000000000000000000 + 29) = Y at x1 x2 ⊢
    refine wp_eq (b := c + 1) rfl (wp_eq (powN_eq (by omega)) (wp_eq (modI_eq (by decide)) (wp_eq (modI_eq hn.1) (wp_some ?_))))
    exact ⟨⟨Int.emod_nonneg _ (by omega), Int.emod_lt_of_pos _ hn.1⟩, _, _, _, rfl, ha, hb, by omega⟩
theorem joinT_le {c : Nat} {m : Nat} : ∀ {ps : List (List Nat)}, (∀ p ∈ ps, p.length ≤ m) → (joinT [c] ps).length ≤ ps.length * (m + 1)
  | [], _ => Nat.zero_le _
  | [x], h => by
    have := h x (by simp)
    show x.length ≤ 1 * (m + 1)
    omega
  | x :: y :: r, h => by
    have h1 := h x (by simp)
    have ih := joinT_le (c := c) (ps := y :: r) fun p hp => h p (List.mem_cons_of_mem _ hp)
    show (x ++ [c] ++ joinT [c] (y :: r)).length ≤ (r.length + 1 + 1) * (m + 1)
    rw [List.length_append, List.length_append]
    rw [Nat.succ_mul]
    have ih : (joinT [c] (y :: r)).length ≤ (r.length + 1) * (m + 1) := ih
    simp only [List.length_singleton]
    omega
theorem sum_le {ps : List (List Nat)} {m : Nat} (h : ∀ p ∈ ps, p.length ≤ m) : (ps.map List.length).sum ≤ ps.length * m := by
  induction ps with
  | nil => simp
  | cons p r ih =>
    have h1 := h p (by simp)
    have h2 := ih fun q hq => h q (by simp [hq])
    rw [List.map_cons, List.sum_cons, List.length_cons, Nat.succ_mul]
    omega
end Law_strictranks_k54_texts_written_and_read
end
section
set_option Elab.async false
set_option linter.all false
set_option maxRecDepth 100000
set_option maxHeartbeats 2000000
open PySem PySem.Spec PyProof.Rows L2 L2.VL L2.PM L2.TX
local macro_rules | `(tactic| walk_at "w") => `(tactic| (repeat (first | with_reducible refine wp_some ?_ | with_reducible refine wp_lt ?_ | with_reducible refine wp_bs ?_ | with_reducible refine wp_id ?_ | with_reducible refine wp_assoc ?_); try dsimp only))
namespace Law_strictranks_k54_texts_written_and_read
theorem sp_purse {ns : List Int} (hn : ns.length ≤ 63) {k : Nat} (hk : k < 10) : WP (g__law_purse ns (k : Int)) (Prs 0) := by
  unfold g__law_purse
  refine WP.bind (R := fun _ => True) ?_ fun x _ => ?_
  · exact wp_ifd (fun h => wp_eq (ixL_nat 0 (by omega)) (wp_some trivial)) fun _ => wp_some trivial
  · refine wp_eq (modI_eq (by decide)) (wp_some ⟨_, _, _, rfl, ?_, ?_, by omega⟩)
    · split <;> omega
    · have h1 := Int.emod_nonneg (if x < 0 then -x else x) (show ((100000000000000000000000000000000000000000 : Int) + 37) ≠ 0 by decide)
      have h2 := Int.emod_lt_of_pos (if x < 0 then -x else x) (show (0 : Int) < (100000000000000000000000000000000000000000 : Int) + 37 by decide)
      omega
end Law_strictranks_k54_texts_written_and_read
end
section
set_option Elab.async false
set_option linter.all false
set_option maxRecDepth 100000
set_option maxHeartbeats 2000000
open PySem PySem.Spec PyProof.Rows L2 L2.VL L2.PM L2.TX
local macro_rules | `(tactic| walk_at "w") => `(tactic| (repeat (first | with_reducible refine wp_some ?_ | with_reducible refine wp_lt ?_ | with_reducible refine wp_bs ?_ | with_reducible refine wp_id ?_ | with_reducible refine wp_assoc ?_); try dsimp only))
namespace Law_strictranks_k54_texts_written_and_read
def Bd (i : Int) : Prop := 0 ≤ i ∧ i ≤ 1000000000000000000000000000000
def oT (os : List Int) : List Nat := joinT [62] (os.map sI)
def pT (p : Int × List Int) : List Nat := sI p.1 ++ 60 :: joinT [44] (p.2.map sI)
def psT (ps : List (Int × List Int)) : List Nat := joinT [32] (ps.map pT)
def rwT (r : List Int) : List Nat := joinT [44] (r.map sI)
def tT (rs : List (List Int)) : List Nat := joinT [47] (rs.map rwT)
theorem join_eq {c m n : Nat} {ps : List (List Nat)} (h : ∀ p ∈ ps, p.length ≤ m) (hl : ps.length ≤ n) (hb : n * (m + 1) ≤ 1000000) : joinS [c] ps = some (joinT [c] ps) ∧ (joinT [c] ps).length ≤ n * (m + 1) := by
  have h1 := sum_le h
  have h2 := joinT_le (c := c) h
  have h3 : ps.length * m ≤ n * m := Nat.mul_le_mul_right m hl
  have h4 : ps.length * (m + 1) ≤ n * (m + 1) := Nat.mul_le_mul_right (m + 1) hl
  have h5 : n * (m + 1) = n * m + n := Nat.mul_succ n m
  exact ⟨joinS_eq (by simp only [List.length_singleton, Nat.mul_one]; omega), by omega⟩
theorem sI_lc {xs : List Int} (h : ∀ i ∈ xs, Bd i) (hl : xs.length ≤ 1000) : lcC (fun _ => some true) (fun i => (strI i).bind fun x => some x) xs = some (xs.map sI) :=
  lcC_map sI (by simp only [cap]; omega) (fun _ _ => rfl) fun i hi => by rw [(sI_ok (h i hi)).1]; rfl
theorem sI_lens {xs : List Int} (h : ∀ i ∈ xs, Bd i) : ∀ w ∈ xs.map sI, w.length ≤ 31 := fun w hw => by
  obtain ⟨i, hi, rfl⟩ := List.mem_map.mp hw
  exact (sI_ok (h i hi)).2.2.2
theorem rwT_ok {c : Nat} {xs : List Int} (h : ∀ i ∈ xs, Bd i) (hl : xs.length ≤ 60) : joinS [c] (xs.map sI) = some (joinT [c] (xs.map sI)) ∧ (joinT [c] (xs.map sI)).length ≤ 1920 :=
  join_eq (m := 31) (n := 60) (sI_lens h) (by rw [List.length_map]; exact hl) (by decide)
theorem sp_parttext {p : Int × List Int} (h1 : Bd p.1) (h2 : ∀ i ∈ p.2, Bd i) (hl : p.2.length ≤ 60) : g_part_text p = some (pT p) := by
  obtain ⟨j1, j2⟩ := rwT_ok (c := 44) h2 hl
  have k := sI_ok h1
  refine WP.eq ?_
  unfold g_part_text
  refine wp_eq k.1 (wp_eq (catS_eq (by have := k.2.2.2; simp only [List.length_singleton, cap]; omega)) (wp_eq (sI_lc h2 (by omega)) (wp_eq j1 (wp_eq (catS_eq (by have := k.2.2.2; simp only [List.length_append, List.length_singleton, cap]; omega)) (wp_some ?_)))))
  unfold pT
  rw [List.append_assoc]
  rfl
theorem pT_len {p : Int × List Int} (h1 : Bd p.1) (h2 : ∀ i ∈ p.2, Bd i) (hl : p.2.length ≤ 60) : (pT p).length ≤ 1952 := by
  have j2 := (rwT_ok (c := 44) h2 hl).2
  have k := (sI_ok h1).2.2.2
  unfold pT
  rw [List.length_append, List.length_cons]
  omega
/-- parts as the law makes them -/
def PtOk (n : Nat) (p : Int × List Int) : Prop := (0 ≤ p.1 ∧ p.1 < n) ∧ p.2 ≠ [] ∧ (∀ i ∈ p.2, (0 ≤ i ∧ i < (n : Int)) ∧ i ≠ p.1) ∧ p.2.Pairwise (· < ·)
theorem asc_len {n : Nat} {bs : List Int} (h : ∀ i ∈ bs, 0 ≤ i ∧ i < (n : Int)) (pw : bs.Pairwise (· < ·)) : bs.length ≤ n := by
  have nd : bs.Nodup := pw.imp fun h => by omega
  have := List.Nodup.length_le_of_subset nd (l₂ := (List.range n).map fun (k : Nat) => (k : Int)) fun x hx => List.mem_map.mpr ⟨x.toNat, List.mem_range.mpr (by have := h x hx; omega), by have := h x hx; omega⟩
  simpa using this
theorem PtOk.bd {n : Nat} {p : Int × List Int} (hn : n ≤ 60) (h : PtOk n p) : Bd p.1 ∧ (∀ i ∈ p.2, Bd i) ∧ p.2.length ≤ 60 := by
  refine ⟨⟨h.1.1, by have := h.1.2; omega⟩, fun i hi => ⟨(h.2.2.1 i hi).1.1, by have := (h.2.2.1 i hi).1.2; omega⟩, ?_⟩
  have := asc_len (fun i hi => (h.2.2.1 i hi).1) h.2.2.2
  omega
theorem PtOk.fit {n : Nat} {p : Int × List Int} (h : PtOk n p) : fitB n p = true := by
  unfold fitB
  rw [Bool.and_eq_true, Bool.and_eq_true, List.all_eq_true]
  refine ⟨⟨?_, fun b hb => ?_⟩, zip_asc.mpr h.2.2.2⟩
  · show (decide (0 ≤ p.1) && decide (p.1 ≤ (n : Int) - 1)) = true
    rw [decide_eq_true h.1.1, decide_eq_true (by have := h.1.2; omega)]; rfl
  · obtain ⟨⟨b1, b2⟩, b3⟩ := h.2.2.1 b hb
    show ((decide (0 ≤ b) && decide (b ≤ (n : Int) - 1)) && !decide (b = p.1)) = true
    rw [decide_eq_true b1, decide_eq_true (show b ≤ (n : Int) - 1 by omega), decide_eq_false b3]; rfl
theorem goodL_ok {n : Nat} {ps : List (Int × List Int)} (hl : ps.length ≤ 400) (h : ∀ p ∈ ps, PtOk n p) : goodL n ps = true := by
  unfold goodL
  rw [decide_eq_true hl, List.all_eq_true.mpr fun p hp => (h p hp).fit]; rfl
theorem goodO_ok {n : Nat} {os : List Int} (hn : n ≤ 60) (ho : Ord n os) : goodO os = true := by
  unfold goodO
  rw [decide_eq_true (by rw [ho.len]; exact hn), ho.len, decide_eq_true ho.sort]; rfl
def TbOk (rs : List (List Int)) : Prop := ∃ m, (1 ≤ m ∧ m ≤ 60) ∧ (1 ≤ rs.length ∧ rs.length ≤ 30) ∧ ∀ r ∈ rs, r.length = m ∧ ∀ i ∈ r, Bd i
theorem goodT_ok {rs : List (List Int)} (h : TbOk rs) : goodT rs = true := by
  obtain ⟨m, hm, hl, hr⟩ := h
  have h0 : (rs.getD 0 []).length = m := by
    rw [List.getD_eq_getElem?_getD, List.getElem?_eq_getElem (show 0 < rs.length by omega)]
    exact (hr _ (List.getElem_mem _)).1
  unfold goodT
  rw [decide_eq_true (show (1 : Int) ≤ rs.length by omega), decide_eq_true (show (rs.length : Int) ≤ 30 by omega), List.all_eq_true.mpr fun r h => ?_, List.all_eq_true.mpr fun r h => ?_]
  · rfl
  · rw [h0]; exact decide_eq_true (hr r h).1
  · unfold rowO
    have e := (hr r h).1
    rw [decide_eq_true (show (1 : Int) ≤ r.length by omega), decide_eq_true (show (r.length : Int) ≤ 60 by omega), List.all_eq_true.mpr fun i hi => ?_]
    · rfl
    · obtain ⟨b1, b2⟩ := (hr r h).2 i hi
      show (decide (0 ≤ i) && decide (i ≤ 1000000000000000000000000000000)) = true
      rw [decide_eq_true b1, decide_eq_true b2]; rfl
theorem sp_needcount {n : Nat} (hn : 1 ≤ n ∧ n ≤ 60) : g_need_count n 60 = some () := by
  unfold g_need_count
  rw [sp_int]
  have : isIo 1 (some 60) (n : Int) = true := by
    show (decide ((1 : Int) ≤ n) && decide ((n : Int) ≤ 60)) = true
    rw [decide_eq_true (by omega), decide_eq_true (by omega)]; rfl
  rw [this]
  rfl
theorem sp_showorder {n : Nat} {os : List Int} (hn : 1 ≤ n ∧ n ≤ 60) (ho : Ord n os) : g_show_order os = some (oT os) := by
  have hl := ho.len
  have hb : ∀ i ∈ os, Bd i := fun i hi => by have := ho.inb i hi; exact ⟨this.1, by omega⟩
  refine WP.eq ?_
  unfold g_show_order g_need_order
  refine wp_assoc (wp_eq (sp_isord (fun i hi => (hb i hi).1) (fun z => by rw [z] at hl; simp at hl; omega) (by omega)) ?_)
  rw [goodO_ok hn.2 ho]
  exact wp_bs (wp_eq (sI_lc hb (by omega)) (wp_id (wp_of (rwT_ok (c := 62) hb (by omega)).1 rfl)))
theorem sp_partstext {n : Nat} {ps : List (Int × List Int)} (hn : n ≤ 60) (hl : ps.length ≤ 50) (h : ∀ p ∈ ps, PtOk n p) : lcC (fun _ => some true) (fun part => (g_part_text part).bind fun x => some x) ps = some (ps.map pT) ∧ joinS [32] (ps.map pT) = some (psT ps) ∧ (psT ps).length ≤ 97650 := by
  obtain ⟨a, b⟩ := join_eq (c := 32) (m := 1952) (n := 50) (ps := ps.map pT) (fun w hw => by
    obtain ⟨p, hp, rfl⟩ := List.mem_map.mp hw
    obtain ⟨b1, b2, b3⟩ := (h p hp).bd hn
    exact pT_len b1 b2 b3) (by rw [List.length_map]; exact hl) (by decide)
  refine ⟨lcC_map pT (by simp only [cap]; omega) (fun _ _ => rfl) fun p hp => ?_, a, b⟩
  obtain ⟨b1, b2, b3⟩ := (h p hp).bd hn
  rw [sp_parttext b1 b2 b3]
  rfl
theorem sp_showparts {n : Nat} {ps : List (Int × List Int)} (hn : 1 ≤ n ∧ n ≤ 60) (hl : ps.length ≤ 50) (h : ∀ p ∈ ps, PtOk n p) : g_show_parts n ps = some (psT ps) := by
  obtain ⟨a, b, _⟩ := sp_partstext hn.2 hl h
  refine WP.eq ?_
  unfold g_show_parts
  refine wp_eq (sp_needcount hn) (wp_eq (sp_areparts (fun p hp => ⟨(h p hp).2.1, by have := ((h p hp).bd hn.2).2.2; omega⟩) (by omega)) ?_)
  rw [goodL_ok (by omega) h]
  refine wp_if (fun z => nomatch z) fun _ => wp_id ?_
  unfold g_parts_text
  exact wp_eq a (wp_id (wp_of b rfl))
theorem sp_rows {rs : List (List Int)} (h : TbOk rs) : lcC (fun _ => some true) (fun row => (lcC (fun _ => some true) (fun faults => (strI faults).bind fun x => some x) row).bind fun x => (joinS [44] x).bind fun y => some y) rs = some (rs.map rwT) ∧ joinS [47] (rs.map rwT) = some (tT rs) ∧ (tT rs).length ≤ 57630 := by
  obtain ⟨m, hm, hl, hr⟩ := h
  obtain ⟨a, b⟩ := join_eq (c := 47) (m := 1920) (n := 30) (ps := rs.map rwT) (fun w hw => by
    obtain ⟨r, h, rfl⟩ := List.mem_map.mp hw
    exact (rwT_ok (c := 44) (hr r h).2 (by have := (hr r h).1; omega)).2) (by rw [List.length_map]; exact hl.2) (by decide)
  refine ⟨lcC_map rwT (by simp only [cap]; omega) (fun _ _ => rfl) fun r h => ?_, a, b⟩
  have e := (hr r h).1
  rw [sI_lc (hr r h).2 (by omega)]
  show (joinS [44] (r.map sI)).bind _ = _
  rw [(rwT_ok (c := 44) (hr r h).2 (by omega)).1]
  rfl
theorem sp_showtableau {rs : List (List Int)} (h : TbOk rs) : g_show_tableau rs = some (tT rs) := by
  obtain ⟨a, b, _⟩ := sp_rows h
  have g := goodT_ok h
  obtain ⟨m, hm, hl, hr⟩ := h
  refine WP.eq ?_
  unfold g_show_tableau g_need_tableau
  refine wp_assoc (wp_eq (sp_tab (fun r h => by have := (hr r h).1; omega) (by omega)) ?_)
  rw [g]
  refine wp_assoc (wp_ifb (fun z => nomatch z) fun _ => wp_assoc (wp_eq (ixL_int [] ⟨by omega, by omega⟩) (wp_bs ?_)))
  have : (rs.getD (0 : Int).toNat []).length = m := by
    rw [List.getD_eq_getElem?_getD, List.getElem?_eq_getElem (show (0 : Int).toNat < rs.length by show 0 < rs.length; omega)]
    exact (hr _ (List.getElem_mem _)).1
  rw [this, decide_eq_false (by omega)]
  exact wp_bs (wp_eq a (wp_id (wp_of b rfl)))
end Law_strictranks_k54_texts_written_and_read
end
section
set_option Elab.async false
set_option linter.all false
set_option maxRecDepth 100000
set_option maxHeartbeats 2000000
open PySem PySem.Spec PyProof.Rows L2 L2.VL L2.PM L2.TX
local macro_rules | `(tactic| walk_at "w") => `(tactic| (repeat (first | with_reducible refine wp_some ?_ | with_reducible refine wp_lt ?_ | with_reducible refine wp_bs ?_ | with_reducible refine wp_id ?_ | with_reducible refine wp_assoc ?_); try dsimp only))
namespace Law_strictranks_k54_texts_written_and_read
theorem nums_back {xs : List Int} (h : ∀ i ∈ xs, Bd i) : (xs.map sI).map numO = xs.map some := by
  rw [List.map_map]
  exact List.map_congr_left fun i hi => (sI_ok (h i hi)).2.1
theorem sI_cut {c : Nat} (hc : dg c = false) {xs : List Int} (h : ∀ i ∈ xs, Bd i) (hn : xs ≠ []) : spl c (joinT [c] (xs.map sI)) = xs.map sI :=
  spl_of (fun z => hn (List.map_eq_nil_iff.mp z)) (fun p hp => by
    obtain ⟨i, hi, rfl⟩ := List.mem_map.mp hp
    exact sI_free (h i hi) hc) rfl
theorem nums_read {c : Nat} (hc : dg c = false) {xs : List Int} (h : ∀ i ∈ xs, Bd i) (hn : xs ≠ []) (hl : xs.length ≤ 60) : g_numbers_in (joinT [c] (xs.map sI)) [c] = some (xs.map some) := by
  rw [sp_nums1 (by have := (rwT_ok (c := c) h hl).2; omega), sI_cut hc h hn, nums_back h]
theorem rO_some (xs : List Int) : (xs.map some).map (rO TX.rI) = xs.map TX.rI := by
  rw [List.map_map]; rfl
theorem rL_some (xs : List Int) : rL (rO TX.rI) (xs.map some) = rL TX.rI xs := congrArg D.lst (rO_some xs)
theorem none_not (xs : List Int) : (none : Option Int) ∉ xs.map some := fun z => by
  obtain ⟨i, _, e⟩ := List.mem_map.mp z
  cases e
theorem sp_needpieces {xs : List D} (h : ∀ d ∈ xs, okD 60 d = true) (h2 : ∀ d ∈ xs, isN d = false) : g_need_pieces xs = some () := by
  unfold g_need_pieces
  rw [inU_non h, show xs.any isN = false from List.any_eq_false.mpr fun d hd => by rw [h2 d hd]; simp]
  rfl
theorem okD_ints {n : Nat} (xs : List Int) : okD (n + 1) (rL TX.rI xs) = true := okD_up fun d hd => by
  obtain ⟨i, _, rfl⟩ := List.mem_map.mp hd
  cases n <;> rfl
theorem sp_readorder {n : Nat} {os : List Int} (hn : 1 ≤ n ∧ n ≤ 60) (ho : Ord n os) : g_read_order (oT os) = some (os.map some) := by
  have hl := ho.len
  have hb : ∀ i ∈ os, Bd i := fun i hi => by have := ho.inb i hi; exact ⟨this.1, by omega⟩
  have hne : os ≠ [] := fun z => by rw [z] at hl; simp at hl; omega
  refine WP.eq ?_
  unfold g_read_order
  refine wp_eq (b := ()) rfl (wp_eq (nums_read (by decide) hb hne (by omega)) ?_)
  rw [rO_some, rL_some]
  refine wp_eq (sp_needpieces (fun d hd => ?_) (fun d hd => ?_)) (wp_eq (sp_isord (fun i hi => (hb i hi).1) hne (by omega)) ?_)
  · obtain ⟨i, _, rfl⟩ := List.mem_map.mp hd; rfl
  · obtain ⟨i, _, rfl⟩ := List.mem_map.mp hd; rfl
  · rw [goodO_ok hn.2 ho]
    exact wp_some rfl
theorem sp_partin {p : Int × List Int} (h1 : Bd p.1) (h2 : ∀ i ∈ p.2, Bd i) (hl : p.2.length ≤ 60) (hn : p.2 ≠ []) : g_part_in (pT p) = some (some (some p.1, p.2.map some)) := by
  have k := sI_ok h1
  have hp := pT_len h1 h2 hl
  have e : pr (pT p) = (sI p.1, [60], joinT [44] (p.2.map sI)) := pr_of (sI_free h1 (by decide))
  refine WP.eq ?_
  unfold g_part_in
  refine wp_eq (partT_eq (by omega)) ?_
  rw [e]
  dsimp only
  refine wp_eq (sp_num1 (by have := k.2.2.2; omega)) (wp_eq (nums_read (by decide) h2 hn hl) ?_)
  rw [k.2.1, decide_eq_false (none_not p.2), decide_eq_false (show ¬ ([60] : List Nat) = [] by decide)]
  exact wp_some rfl
theorem rP_some (p : Int × List Int) : rP (rO TX.rI) (rL (rO TX.rI)) (some p.1, p.2.map some) = rP TX.rI (rL TX.rI) p := by
  show D.tup [TX.rI p.1, rL (rO TX.rI) (p.2.map some)] = D.tup [TX.rI p.1, rL TX.rI p.2]
  rw [rL_some]
def sP (p : Int × List Int) : Option Int × List (Option Int) := (some p.1, p.2.map some)
theorem rPs_some (ps : List (Int × List Int)) : (ps.map sP).map (rP (rO TX.rI) (rL (rO TX.rI))) = ps.map (rP TX.rI (rL TX.rI)) := by
  rw [List.map_map]
  exact List.map_congr_left fun p _ => rP_some p
theorem rLP_some (ps : List (Int × List Int)) : rL (rP (rO TX.rI) (rL (rO TX.rI))) (ps.map sP) = rL (rP TX.rI (rL TX.rI)) ps := congrArg D.lst (rPs_some ps)
theorem joinT_mem {c x : Nat} : ∀ {ps : List (List Nat)}, x ∈ joinT [c] ps → x = c ∨ ∃ p ∈ ps, x ∈ p
  | [], h => by cases h
  | [y], h => .inr ⟨y, by simp, h⟩
  | y :: z :: r, h => by
    have h : x ∈ y ++ [c] ++ joinT [c] (z :: r) := h
    rcases List.mem_append.mp h with h | h
    · rcases List.mem_append.mp h with h | h
      · exact .inr ⟨y, by simp, h⟩
      · exact .inl (List.mem_singleton.mp h)
    · rcases joinT_mem h with h | ⟨p, h1, h2⟩
      · exact .inl h
      · exact .inr ⟨p, List.mem_cons_of_mem _ h1, h2⟩
theorem nums_free {c d : Nat} {xs : List Int} (h : ∀ i ∈ xs, Bd i) (hc : dg c = false) (hcd : c ≠ d) : c ∉ joinT [d] (xs.map sI) := fun z => by
  rcases joinT_mem z with z | ⟨p, hp, z⟩
  · exact hcd z
  · obtain ⟨i, hi, rfl⟩ := List.mem_map.mp hp
    exact sI_free (h i hi) hc z
theorem pT_free {c : Nat} {p : Int × List Int} (h1 : Bd p.1) (h2 : ∀ i ∈ p.2, Bd i) (hc : dg c = false) (h60 : c ≠ 60) (h44 : c ≠ 44) : c ∉ pT p := fun z => by
  rcases List.mem_append.mp z with z | z
  · exact sI_free h1 hc z
  · rcases List.mem_cons.mp z with z | z
    · exact h60 z
    · exact nums_free h2 hc h44 z
theorem sp_readparts {n : Nat} {ps : List (Int × List Int)} (hn : 1 ≤ n ∧ n ≤ 60) (hl : ps.length ≤ 50) (h : ∀ p ∈ ps, PtOk n p) : g_read_parts n (psT ps) = some (ps.map sP) := by
  have hb := fun p hp => (h p hp).bd hn.2
  have tl := (sp_partstext hn.2 hl h).2.2
  refine WP.eq ?_
  unfold g_read_parts
  refine wp_eq (sp_needcount hn) (wp_eq (b := ()) rfl (wp_eq (b := ps.map sP) ?_ ?_))
  · by_cases e : ps = []
    · subst e; rfl
    · have ne : psT ps ≠ [] := fun z => by
        obtain ⟨p, hp⟩ := List.exists_mem_of_ne_nil ps e
        have : (pT p).length ≤ (psT ps).length := joinT_part (pT p) (List.mem_map.mpr ⟨p, hp, rfl⟩)
        rw [z] at this
        unfold pT at this
        simp at this
      have sp : spl 32 (psT ps) = ps.map pT := spl_of (fun z => e (List.map_eq_nil_iff.mp z)) (fun w hw => by
        obtain ⟨p, hp, rfl⟩ := List.mem_map.mp hw
        exact pT_free (hb p hp).1 (hb p hp).2.1 (by decide) (by decide) (by decide)) rfl
      rw [decide_eq_false ne]
      refine WP.eq (wp_if (fun _ => wp_eq (splitT_eq (by omega)) ?_) fun z => nomatch z)
      rw [sp]
      refine wp_id (wp_of ((lcC_comp pT ps).trans (lcC_map sP (by simp only [cap]; omega) (fun _ _ => rfl) fun p hp => ?_)) rfl)
      rw [sp_partin (hb p hp).1 (hb p hp).2.1 (hb p hp).2.2 (h p hp).2.1]
      rfl
  · rw [rPs_some, rLP_some]
    refine wp_eq (sp_needpieces (fun d hd => ?_) (fun d hd => ?_)) (wp_eq (sp_areparts (fun p hp => ⟨(h p hp).2.1, by have := (hb p hp).2.2; omega⟩) (by omega)) ?_)
    · obtain ⟨p, _, rfl⟩ := List.mem_map.mp hd
      show ([TX.rI p.1, rL TX.rI p.2]).all (okD 59) = true
      rw [List.all_cons, List.all_cons, okD_ints (n := 58)]
      rfl
    · obtain ⟨i, _, rfl⟩ := List.mem_map.mp hd; rfl
    · rw [goodL_ok (by omega) h]
      exact wp_some rfl
def sR (r : List Int) : List (Option Int) := r.map some
theorem rRs_some (rs : List (List Int)) : (rs.map sR).map (rL (rO TX.rI)) = rs.map (rL TX.rI) := by
  rw [List.map_map]
  exact List.map_congr_left fun r _ => rL_some r
theorem rLR_some (rs : List (List Int)) : rL (rL (rO TX.rI)) (rs.map sR) = rL (rL TX.rI) rs := congrArg D.lst (rRs_some rs)
theorem sp_readtableau {rs : List (List Int)} (h : TbOk rs) : g_read_tableau (tT rs) = some (rs.map sR) := by
  have tl := (sp_rows h).2.2
  have g := goodT_ok h
  obtain ⟨m, hm, hl, hr⟩ := h
  have rn : ∀ r ∈ rs, r ≠ [] := fun r hh z => by have := (hr r hh).1; rw [z] at this; simp at this; omega
  have sp : spl 47 (tT rs) = rs.map rwT := spl_of (fun z => by
    have := List.map_eq_nil_iff.mp z
    rw [this] at hl
    simp at hl) (fun w hw => by
    obtain ⟨r, hh, rfl⟩ := List.mem_map.mp hw
    exact nums_free (hr r hh).2 (by decide) (by decide)) rfl
  refine WP.eq ?_
  unfold g_read_tableau
  refine wp_eq (b := ()) rfl (wp_eq (splitT_eq (by omega)) ?_)
  rw [sp]
  refine wp_eq ((lcC_comp rwT rs).trans (lcC_map sR (by simp only [cap]; omega) (fun _ _ => rfl) fun r hh => ?_)) ?_
  · unfold g_row_in
    rw [show rwT r = joinT [44] (r.map sI) from rfl, nums_read (by decide) (hr r hh).2 (rn r hh) (by have := (hr r hh).1; omega)]
    show ((if decide ((none : Option Int) ∈ r.map some) = true then _ else _ : Option (Option (List (Option Int))))).bind _ = _
    rw [decide_eq_false (none_not r)]
    rfl
  · rw [rRs_some, rLR_some]
    refine wp_eq (sp_needpieces (fun d hd => ?_) (fun d hd => ?_)) (wp_eq (sp_tab (fun r hh => by have := (hr r hh).1; omega) (by omega)) ?_)
    · obtain ⟨r, _, rfl⟩ := List.mem_map.mp hd
      exact okD_ints (n := 59) r
    · obtain ⟨i, _, rfl⟩ := List.mem_map.mp hd; rfl
    · rw [g]
      exact wp_some rfl
end Law_strictranks_k54_texts_written_and_read
end
section
set_option Elab.async false
set_option linter.all false
set_option maxRecDepth 100000
set_option maxHeartbeats 2000000
open PySem PySem.Spec PyProof.Rows L2 L2.VL L2.PM L2.TX
local macro_rules | `(tactic| walk_at "w") => `(tactic| (repeat (first | with_reducible refine wp_some ?_ | with_reducible refine wp_lt ?_ | with_reducible refine wp_bs ?_ | with_reducible refine wp_id ?_ | with_reducible refine wp_assoc ?_); try dsimp only))
namespace Law_strictranks_k54_texts_written_and_read
theorem sp_shuf {k : Nat} {t : List Int} (ht : Prs k t) {n : Nat} (hn : n ≤ 60) (hk : k + n ≤ 100000) : WP (g__law_shuffled t n) fun p => Ord n p.1 ∧ Prs (k + n) p.2 := by
  unfold g__law_shuffled
  refine wp_eq (lrg_eq (by omega)) (wp_eq (rng0 (by omega)) (WP.bind (R := fun s => Ord n s.2.2 ∧ Prs (k + n) s.1) ?_ fun s h => wp_some h))
  refine wp_foN (fun j s => Prs (k + j) s.1 ∧ s.2.1.length + j = n ∧ (s.2.2 ++ s.2.1).Perm (rg n)) ⟨ht, by simp, List.Perm.refl _⟩ ?_ ?_
  · rintro j ⟨t, left, found⟩ hj ⟨ht, hl, hp⟩
    dsimp only at ht hl hp
    unfold g__law_shuffled_b1
    dsimp only
    refine (sp_coin ht (by omega) ⟨by omega, by omega⟩).bind fun ⟨r, t2⟩ ⟨hr, ht2⟩ => ?_
    dsimp only at hr ht2
    obtain ⟨i, rfl⟩ : ∃ i : Nat, r = i := ⟨r.toNat, by omega⟩
    have hi : i < left.length := by omega
    refine wp_eq (popL_nat hi (by simp [cap]; omega)) (wp_eq (appL_eq ?_) (wp_some ⟨ht2, ?_, ?_⟩))
    · have := hp.length_eq
      simp [rg] at this
      simp [cap]; omega
    · simp [List.length_eraseIdx, hi]; omega
    · refine List.Perm.trans ?_ hp
      rw [List.append_assoc]
      refine List.Perm.append_left _ ?_
      have p : left.Perm (left[i] :: left.eraseIdx i) := by
        rw [List.eraseIdx_eq_take_drop_succ]
        have e : left = left.take i ++ (left[i] :: left.drop (i + 1)) := by rw [← List.drop_eq_getElem_cons hi, List.take_append_drop]
        generalize left[i] = y at e ⊢
        generalize left.take i = u at e ⊢
        generalize left.drop (i + 1) = v at e ⊢
        rw [e]
        exact List.perm_middle
      exact p.symm
  · rintro ⟨t, left, found⟩ ⟨ht, hl, hp⟩
    have : left = [] := List.eq_nil_of_length_eq_zero (by simpa using hl)
    dsimp only at hp
    rw [this, List.append_nil] at hp
    exact ⟨hp, ht⟩
theorem sp_part1 {k : Nat} {t : List Int} {ps : List (Int × List Int)} {n : Nat} (ht : Prs k t) (hk : k ≤ 90000) (hn : 2 ≤ n ∧ n ≤ 60) (hp : ∀ p ∈ ps, PtOk n p) (hl : ps.length ≤ 1000) (tu : Int) : WP (g__law_parts_b1 n (t, ps) tu) fun s => Prs (k + 16) s.1 ∧ s.2.length ≤ ps.length + 2 ∧ ∀ p ∈ s.2, PtOk n p := by
  unfold g__law_parts_b1
  dsimp only
  refine (sp_coin ht (by omega) ⟨by omega, by omega⟩).bind fun ru hru => (sp_coin hru.2 (by omega) ⟨by decide, by decide⟩).bind fun x2 hx2 => (ix_draw (P := fun b : Int => 1 ≤ b ∧ b ≤ 12) hx2.1 fun y hy => ?_).bind fun x3 hx3 => (sp_coin hx2.2 (by omega) ⟨by omega, by omega⟩).bind fun x4 hx4 => ?_
  · simp only [List.mem_cons, List.not_mem_nil, or_false] at hy
    omega
  obtain ⟨m, em⟩ : ∃ m : Nat, 1 + x4.1 = m := ⟨(1 + x4.1).toNat, by have := hx4.1; omega⟩
  have hm : m ≤ 12 := by have := hx4.1; omega
  rw [em]
  refine wp_eq (rng0 (by omega)) (WP.bind (R := fun s : List Int × List Int => Prs (k + 3 + m) s.1 ∧ s.2.length = m ∧ ∀ i ∈ s.2, 0 ≤ i ∧ i < (n : Int)) ?_ fun s hs => ?_)
  · refine wp_foN (fun j s => Prs (k + 3 + j) s.1 ∧ s.2.length = j ∧ ∀ i ∈ s.2, 0 ≤ i ∧ i < (n : Int)) ⟨hx4.2.mono (by omega), rfl, fun _ h => nomatch h⟩ (fun j s hj h => ?_) fun s h => h
    obtain ⟨h1, h2, h3⟩ := h
    unfold g__law_parts_b2
    refine (sp_coin h1 (by omega) ⟨by omega, by omega⟩).bind fun c hc => wp_eq (appL_eq (by simp only [cap]; omega)) (wp_some ⟨hc.2, by simp [h2], fun i hi => ?_⟩)
    rcases List.mem_append.mp hi with z | z
    · exact h3 i z
    · rw [List.mem_singleton.mp z]; exact hc.1
  · obtain ⟨s1, s2, s3⟩ := hs
    refine wp_eq (lcC_flt (fun one => !decide (one = ru.1)) (by simp only [cap]; omega) (fun _ _ => rfl)) ?_
    have fm : ∀ i, i ∈ s.2.filter (fun one => !decide (one = ru.1)) → (0 ≤ i ∧ i < (n : Int)) ∧ i ≠ ru.1 := fun i hi => by
      obtain ⟨a, b⟩ := List.mem_filter.mp hi
      exact ⟨s3 i a, by simpa using b⟩
    have fl : (s.2.filter fun one => !decide (one = ru.1)).length ≤ 4000 := Nat.le_trans (List.length_filter_le _ _) (by omega)
    refine wp_eq (b := sortU (s.2.filter fun one => !decide (one = ru.1))) (if_pos fl) (wp_eq (appL_eq (by simp only [cap]; omega)) ?_)
    have pk : PtOk n (ru.1, if (!decide (sortU (s.2.filter fun one => !decide (one = ru.1)) = [])) = true then sortU (s.2.filter fun one => !decide (one = ru.1)) else [if decide (ru.1 > 0) = true then 0 else 1]) := by
      by_cases e : sortU (s.2.filter fun one => !decide (one = ru.1)) = []
      · rw [decide_eq_true e]
        have hr := hru.1
        refine ⟨hr, by simp, fun i hi => ?_, by simp⟩
        have hi : i = if decide (ru.1 > 0) = true then 0 else 1 := by simpa using hi
        by_cases z : ru.1 > 0
        · rw [decide_eq_true z, if_pos rfl] at hi
          subst hi
          exact ⟨by omega, by dsimp only; omega⟩
        · rw [decide_eq_false z] at hi
          have hi : i = 1 := hi
          subst hi
          exact ⟨by omega, by dsimp only; omega⟩
      · rw [decide_eq_false e]
        exact ⟨hru.1, e, fun i hi => fm i ((sortU_mem _ i).mp hi), sortU_rise _⟩
    revert pk
    generalize (if (!decide (sortU (s.2.filter fun one => !decide (one = ru.1)) = [])) = true then sortU (s.2.filter fun one => !decide (one = ru.1)) else [if decide (ru.1 > 0) = true then 0 else 1]) = ah
    intro pk
    have all1 : ∀ p ∈ ps ++ [(ru.1, ah)], PtOk n p := fun p hpp => by
      rcases List.mem_append.mp hpp with z | z
      · exact hp p z
      · rw [List.mem_singleton.mp z]; exact pk
    have hl1 : 0 < (ps ++ [(ru.1, ah)]).length := by simp
    refine (sp_coin s1 (by omega) ⟨by decide, by decide⟩).bind fun x7 hx7 => WP.bind (R := fun f => f.length ≤ ps.length + 2 ∧ ∀ p ∈ f, PtOk n p) (wp_ifd (fun _ => ?_) fun _ => wp_some ⟨by simp, all1⟩) fun f hf => wp_some ⟨hx7.2.mono (by omega), hf⟩
    have e0 : ixL (ps ++ [(ru.1, ah)]) 0 = some ((ps ++ [(ru.1, ah)])[0]) := ixL_lt (k := 0) hl1
    refine wp_eq e0 (wp_eq e0 (wp_eq (appL_eq (by simp only [List.length_append, List.length_singleton, cap]; omega)) (wp_some ⟨by simp, fun p hpp => ?_⟩)))
    rcases List.mem_append.mp hpp with z | z
    · exact all1 p z
    · rw [List.mem_singleton.mp z]
      exact all1 _ (List.getElem_mem hl1)
theorem sp_parts {k : Nat} {t : List Int} {n : Nat} (ht : Prs k t) (hk : k ≤ 80000) (hn : 1 ≤ n ∧ n ≤ 60) : WP (g__law_parts t n 20) fun p => p.1.length ≤ 50 ∧ (∀ q ∈ p.1, PtOk n q) ∧ Prs (k + 400) p.2 := by
  unfold g__law_parts
  refine (sp_coin ht (by omega) ⟨by decide, by decide⟩).bind fun x hx => ?_
  obtain ⟨m, em, hm, hm2⟩ : ∃ m : Nat, mulI x.1 (if decide ((n : Int) > 1) = true then 1 else 0) = some (m : Int) ∧ m ≤ 20 ∧ (2 ≤ n ∨ m = 0) := by
    by_cases h : (n : Int) > 1
    · refine ⟨x.1.toNat, ?_, by have := hx.1; omega, .inl (by omega)⟩
      rw [decide_eq_true h, if_pos rfl, mulI_eq (.inr (by decide))]
      congr 1
      have := hx.1
      omega
    · refine ⟨0, ?_, by omega, .inr rfl⟩
      rw [decide_eq_false h, if_neg (fun z => nomatch z), mulI_eq (.inr (by decide))]
      congr 1
      omega
  refine wp_eq em (wp_eq (rng0 (by omega)) (WP.bind (R := fun s : List Int × List (Int × List Int) => s.2.length ≤ 50 ∧ (∀ q ∈ s.2, PtOk n q) ∧ Prs (k + 400) s.1) ?_ fun s hs => wp_some hs))
  refine wp_foN (fun j s => s.2.length ≤ 2 * j ∧ (∀ q ∈ s.2, PtOk n q) ∧ Prs (k + 1 + 16 * j) s.1) ⟨by simp, (fun _ h => nomatch h), hx.2.mono (by omega)⟩ (fun j s hj h => ?_) fun s h => ⟨by have := h.1; omega, h.2.1, h.2.2.mono (by omega)⟩
  obtain ⟨t2, ps⟩ := s
  obtain ⟨h1, h2, h3⟩ := h
  dsimp only at h1 h2 h3
  exact (sp_part1 h3 (by omega) ⟨by omega, hn.2⟩ h2 (by omega) _).mono fun s hs => ⟨by have := hs.2.1; omega, hs.2.2, hs.1.mono (by omega)⟩
theorem sp_tableau {k : Nat} {t : List Int} (ht : Prs k t) (hk : k ≤ 80000) : WP (g__law_tableau t) fun p => TbOk p.1 ∧ Prs (k + 2000) p.2 := by
  unfold g__law_tableau
  refine (sp_coin ht (by omega) ⟨by decide, by decide⟩).bind fun way hway => (sp_coin hway.2 (by omega) ⟨by decide, by decide⟩).bind fun x hx => (sp_coin hx.2 (by omega) ⟨by decide, by decide⟩).bind fun x1 hx1 => wp_lt (wp_lt ?_)
  refine WP.bind (R := fun c : Int => ∃ m : Nat, c = m ∧ 1 ≤ m ∧ m ≤ 60) (wp_ifd (fun _ => wp_some ⟨60, rfl, by decide, by decide⟩) fun _ => wp_some ⟨(1 + x.1).toNat, by have := hx.1; omega, by have := hx.1; omega, by have := hx.1; omega⟩) fun c ⟨m, ec, hm⟩ => ?_
  subst ec
  refine WP.bind (R := fun c : Int => ∃ m : Nat, c = m ∧ 1 ≤ m ∧ m ≤ 30) (wp_ifd (fun _ => wp_some ⟨30, rfl, by decide, by decide⟩) fun _ => wp_some ⟨(1 + x1.1).toNat, by have := hx1.1; omega, by have := hx1.1; omega, by have := hx1.1; omega⟩) fun c ⟨q, ec, hq⟩ => ?_
  subst ec
  refine (ix_draw (P := fun b : Int => 1 ≤ b ∧ b ≤ 1000000000000000000000000000001) hway.1 fun y hy => ?_).bind fun mo hmo => ?_
  · simp only [List.mem_cons, List.not_mem_nil, or_false] at hy
    omega
  refine wp_eq (rng0 (by omega)) (WP.bind (R := fun s : List Int × List (List Int) => s.2.length = q ∧ (∀ r ∈ s.2, r.length = m ∧ ∀ i ∈ r, Bd i) ∧ Prs (k + 3 + q * 60) s.1) ?_ fun s hs => wp_some ⟨⟨m, hm, by rw [hs.1]; exact hq, hs.2.1⟩, hs.2.2.mono (by omega)⟩)
  refine wp_foN (fun j s => s.2.length = j ∧ (∀ r ∈ s.2, r.length = m ∧ ∀ i ∈ r, Bd i) ∧ Prs (k + 3 + j * 60) s.1) ⟨rfl, (fun _ h => nomatch h), hx1.2.mono (by omega)⟩ (fun j s hj h => ?_) fun s h => h
  obtain ⟨t2, rs⟩ := s
  obtain ⟨h1, h2, h3⟩ := h
  dsimp only at h1 h2 h3
  unfold g__law_tableau_b3
  dsimp only
  refine wp_eq (rng0 (by omega)) (WP.bind (R := fun p : List Int × List Int => (p.1.length = m ∧ ∀ i ∈ p.1, Bd i) ∧ Prs (k + 3 + j * 60 + m) p.2) ?_ fun p hp => wp_eq (appL_eq (by simp only [cap]; omega)) (wp_some ⟨by simp [h1], fun r hr => ?_, hp.2.mono (by omega)⟩))
  · refine wp_lcX (by simp only [List.length_map, List.length_range, cap]; omega) (fun pre ys t => (ys.length = pre.length ∧ ∀ i ∈ ys, Bd i) ∧ Prs (k + 3 + j * 60 + pre.length) t) ⟨⟨rfl, fun _ h => nomatch h⟩, h3⟩ (fun pre x post ys t e ⟨⟨y1, y2⟩, y3⟩ => wp_some ?_) fun ys t h => ⟨⟨by have := h.1.1; simpa using this, h.1.2⟩, by have := h.2; simpa using this⟩
    have hpl : pre.length < m := by
      have := congrArg List.length e
      simp at this
      omega
    refine (sp_coin y3 (by omega) ⟨by omega, by omega⟩).bind fun c hc => wp_some ⟨⟨by simp [y1], fun i hi => ?_⟩, by rw [List.length_append]; exact hc.2⟩
    rcases List.mem_append.mp hi with z | z
    · exact y2 i z
    · rw [List.mem_singleton.mp z]
      exact ⟨hc.1.1, by have := hc.1.2; omega⟩
  · rcases List.mem_append.mp hr with z | z
    · exact h2 r z
    · rw [List.mem_singleton.mp z]
      exact hp.1
end Law_strictranks_k54_texts_written_and_read
end
section
set_option Elab.async false
set_option linter.all false
set_option maxRecDepth 100000
set_option maxHeartbeats 2000000
open PySem PySem.Spec PyProof.Rows L2 L2.VL L2.PM L2.TX
local macro_rules | `(tactic| walk_at "w") => `(tactic| (repeat (first | with_reducible refine wp_some ?_ | with_reducible refine wp_lt ?_ | with_reducible refine wp_bs ?_ | with_reducible refine wp_id ?_ | with_reducible refine wp_assoc ?_); try dsimp only))
namespace Law_strictranks_k54_texts_written_and_read
theorem RB.intK {n k : Nat} {i : Int} (h0 : 0 ≤ i) (hk : 0 < k) (hi : i < 10 ^ k) (hl : Sm i) : RB n k (TX.rI i) := ⟨.int i, (by cases n <;> rfl), by have hl : i.natAbs.log2 < 1920 := hl; simpa [PyData.showable] using hl, by
  simp only [PyData.shown]
  exact toString_length_le h0 hk hi, by simp [PyData.depth]⟩
end Law_strictranks_k54_texts_written_and_read
end
section
set_option Elab.async false
set_option linter.all false
set_option maxRecDepth 100000
set_option maxHeartbeats 2000000
open PySem PySem.Spec PyProof.Rows L2 L2.VL L2.PM L2.TX
local macro_rules | `(tactic| walk_at "w") => `(tactic| (repeat (first | with_reducible refine wp_some ?_ | with_reducible refine wp_lt ?_ | with_reducible refine wp_bs ?_ | with_reducible refine wp_id ?_ | with_reducible refine wp_assoc ?_); try dsimp only))
namespace Law_strictranks_k54_texts_written_and_read
theorem eqD_refl {xs : List D} (h : okD 60 (.lst xs) = true) : eqD ((rL rU) xs) ((rL rU) xs) = some true := by
  rw [rLU]
  show (if (okD 60 (.lst xs) && okD 60 (.lst xs)) = true then some (same (.lst xs) (.lst xs)) else none) = _
  rw [h, same_self _ _ h]
  rfl
end Law_strictranks_k54_texts_written_and_read
end
section
set_option Elab.async false
set_option linter.all false
set_option maxRecDepth 100000
set_option maxHeartbeats 2000000
open PySem PySem.Spec PyProof.Rows L2 L2.VL L2.PM L2.TX
local macro_rules | `(tactic| walk_at "w") => `(tactic| (repeat (first | with_reducible refine wp_some ?_ | with_reducible refine wp_lt ?_ | with_reducible refine wp_bs ?_ | with_reducible refine wp_id ?_ | with_reducible refine wp_assoc ?_); try dsimp only))
namespace Law_strictranks_k54_texts_written_and_read
theorem rb_bd {n : Nat} {i : Int} (h : Bd i) : RB n 31 (TX.rI i) := RB.intK h.1 (by decide) (by have := h.2; show i < 10000000000000000000000000000000; omega) (sm_of (by have := h.1; have := h.2; omega))
theorem rb_ints {n : Nat} {xs : List Int} (h : ∀ i ∈ xs, Bd i) (hl : xs.length ≤ 60) : RB (n + 1) 1983 (rL TX.rI xs) :=
  (RB.lst (n := n) (B := 31) fun d hd => by
    obtain ⟨i, hi, rfl⟩ := List.mem_map.mp hd
    exact rb_bd (h i hi)).mono (by rw [List.length_map]; omega)
theorem rep_three {n : Nat} {os : List Int} {ps : List (Int × List Int)} {rs : List (List Int)} {m : Nat} (hn : n ≤ 60) (ho : Ord n os) (hm : m ≤ 60) (hl : ps.length ≤ 50) (hp : ∀ p ∈ ps, PtOk m p) (hr : TbOk rs) : ∃ t, repG (rF3 (rL TX.rI) (rL (rP TX.rI (rL TX.rI))) (rL (rL TX.rI)) (os, ps, rs)) = some t := by
  obtain ⟨q, hq, hl2, h2⟩ := hr
  refine repG_lst (RB.lst (n := 59) (B := 198753) fun d hd => ?_) (by show 3 * _ + 3 ≤ _; omega)
  simp only [List.mem_cons, List.not_mem_nil, or_false] at hd
  rcases hd with rfl | rfl | rfl
  · exact (rb_ints (n := 58) (fun i hi => by have := ho.inb i hi; exact ⟨this.1, by omega⟩) (by rw [ho.len]; exact hn)).mono (by omega)
  · refine (RB.lst (n := 58) (B := 3973) fun d hd => ?_).mono (by rw [List.length_map]; omega)
    obtain ⟨p, hpp, rfl⟩ := List.mem_map.mp hd
    obtain ⟨b1, b2, b3⟩ := (hp p hpp).bd hm
    refine (RB.tup (n := 57) (B := 1983) fun d hd => ?_).mono (by show 2 * _ + 3 ≤ _; omega)
    simp only [List.mem_cons, List.not_mem_nil, or_false] at hd
    rcases hd with rfl | rfl
    · exact (rb_bd b1).mono (by omega)
    · exact rb_ints (n := 56) b2 b3
  · refine (RB.lst (n := 58) (B := 1983) fun d hd => ?_).mono (by rw [List.length_map]; omega)
    obtain ⟨r, hrr, rfl⟩ := List.mem_map.mp hd
    exact rb_ints (n := 57) (h2 r hrr).2 (by have := (h2 r hrr).1; omega)
theorem sI_small {i : Int} (h : Bd i) : ∀ c ∈ sI i, c < 1114112 := fun c hc => by
  have := dg_iff.mp (List.all_eq_true.mp (sI_ok h).2.2.1 c hc)
  omega
theorem nums_small {c : Nat} (hc : c < 1114112) {xs : List Int} (h : ∀ i ∈ xs, Bd i) : ∀ x ∈ joinT [c] (xs.map sI), x < 1114112 := fun x hx => by
  rcases joinT_mem hx with z | ⟨p, hp, z⟩
  · rw [z]; exact hc
  · obtain ⟨i, hi, rfl⟩ := List.mem_map.mp hp
    exact sI_small (h i hi) x z
theorem okS_of {t : List Nat} (h : ∀ c ∈ t, c < 1114112) : okS t = true := List.all_eq_true.mpr fun c hc => decide_eq_true (h c hc)
theorem sp_turn {n m : Nat} {os : List Int} {ps : List (Int × List Int)} {rs : List (List Int)} {t1 t2 t3 : List Int} {tx : List Nat} (hn : 1 ≤ n ∧ n ≤ 60) (ho : Ord n os) (hm : 1 ≤ m ∧ m ≤ 60) (hl : ps.length ≤ 50) (hp : ∀ p ∈ ps, PtOk m p) (hr : TbOk rs)
    (hx : repG (rF3 (rL TX.rI) (rL (rP TX.rI (rL TX.rI))) (rL (rL TX.rI)) (os, ps, rs)) = some tx) (tu : Int) : g__law_right_b1 (os, t1) m (ps, t2) (rs, t3) tx [oT os, psT ps, tT rs] () tu = some (.nx ()) := by
  have e3 : rF3 (rL (rO TX.rI)) (rL (rP (rO TX.rI) (rL (rO TX.rI)))) (rL (rL (rO TX.rI))) (os.map some, ps.map sP, rs.map sR) = rF3 (rL TX.rI) (rL (rP TX.rI (rL TX.rI))) (rL (rL TX.rI)) (os, ps, rs) := by
    show D.lst [rL (rO TX.rI) (os.map some), rL (rP (rO TX.rI) (rL (rO TX.rI))) (ps.map sP), rL (rL (rO TX.rI)) (rs.map sR)] = D.lst [rL TX.rI os, rL (rP TX.rI (rL TX.rI)) ps, rL (rL TX.rI) rs]
    rw [rL_some, rLP_some, rLR_some]
  refine WP.eq ?_
  unfold g__law_right_b1
  refine wp_eq (b := oT os) rfl (wp_eq (sp_readorder hn ho) (wp_eq (b := psT ps) rfl (wp_eq (sp_readparts hm hl hp) (wp_eq (b := tT rs) rfl (wp_eq (sp_readtableau hr) (wp_lt ?_))))))
  rw [e3]
  refine wp_eq hx ?_
  rw [decide_eq_true rfl]
  refine wp_ifb (fun z => nomatch z) fun _ => wp_assoc (wp_eq hx (wp_bs ?_))
  rw [decide_eq_true rfl]
  have c1 : os.length < cap := by rw [ho.len]; simp only [cap]; omega
  obtain ⟨q, hq, hl2, h2⟩ := hr
  obtain ⟨r0, rr, rfl⟩ : ∃ r0 rr, rs = r0 :: rr := by
    cases rs with
    | nil => simp at hl2
    | cons a b => exact ⟨a, b, rfl⟩
  have c2 : r0.length < cap := by have := (h2 r0 (by simp)).1; simp only [cap]; omega
  have w1 : wrU [63] [0] (rF3 (rL TX.rI) (rL (rP TX.rI (rL TX.rI))) (rL (rL TX.rI)) (os, ps, r0 :: rr)) = some (.lst [.lst (os.map TX.rI ++ [rS [63]]), rL (rP TX.rI (rL TX.rI)) ps, rL (rL TX.rI) (r0 :: rr)]) := by
    show ((if (os.map TX.rI).length < cap then some (D.lst (os.map TX.rI ++ [rS [63]])) else none).map fun d' => D.lst ([rL TX.rI os, rL (rP TX.rI (rL TX.rI)) ps, rL (rL TX.rI) (r0 :: rr)].set 0 d')) = _
    rw [List.length_map, if_pos c1]
    rfl
  have w2 : wrU [63] [2, 0] (.lst [.lst (os.map TX.rI ++ [rS [63]]), rL (rP TX.rI (rL TX.rI)) ps, rL (rL TX.rI) (r0 :: rr)]) = some (.lst [.lst (os.map TX.rI ++ [rS [63]]), rL (rP TX.rI (rL TX.rI)) ps, .lst (.lst (r0.map TX.rI ++ [rS [63]]) :: rr.map (rL TX.rI))]) := by
    show ((((if (r0.map TX.rI).length < cap then some (D.lst (r0.map TX.rI ++ [rS [63]])) else none).map fun d' => D.lst ((rL TX.rI r0 :: rr.map (rL TX.rI)).set 0 d')).map fun d' => D.lst ([.lst (os.map TX.rI ++ [rS [63]]), rL (rP TX.rI (rL TX.rI)) ps, rL (rL TX.rI) (r0 :: rr)].set 2 d')) : Option D) = _
    rw [List.length_map, if_pos c2]
    rfl
  refine wp_if (fun z => nomatch z) fun _ => wp_eq w1 (wp_eq w2 (wp_eq (b := rL (rP TX.rI (rL TX.rI)) ps) rfl (wp_eq (neX_of' (g_eqT (f := rL (rP TX.rI (rL TX.rI))) (x := ps) (y := []) (et_L (et_P et_I (et_L et_I))) rfl)) ?_)))
  refine WP.bind (R := fun _ => True) ?_ fun _ _ => wp_some rfl
  cases ps with
  | nil => exact wp_some trivial
  | cons p pr =>
    have c3 : p.2.length < cap := by have := ((hp p (by simp)).bd hm.2).2.2; simp only [cap]; omega
    have w3 : ∃ d, wrU [63] [1, 0, 1] (.lst [.lst (os.map TX.rI ++ [rS [63]]), rL (rP TX.rI (rL TX.rI)) (p :: pr), .lst (.lst (r0.map TX.rI ++ [rS [63]]) :: rr.map (rL TX.rI))]) = some d := by
      refine ⟨.lst [.lst (os.map TX.rI ++ [rS [63]]), .lst (.tup [TX.rI p.1, .lst (p.2.map TX.rI ++ [rS [63]])] :: pr.map (rP TX.rI (rL TX.rI))), .lst (.lst (r0.map TX.rI ++ [rS [63]]) :: rr.map (rL TX.rI))], ?_⟩
      show (((((if (p.2.map TX.rI).length < cap then some (D.lst (p.2.map TX.rI ++ [rS [63]])) else none).map fun d' => D.tup ([TX.rI p.1, rL TX.rI p.2].set 1 d')).map fun d' => D.lst ((rP TX.rI (rL TX.rI) p :: pr.map (rP TX.rI (rL TX.rI))).set 0 d')).map fun d' => D.lst ([.lst (os.map TX.rI ++ [rS [63]]), rL (rP TX.rI (rL TX.rI)) (p :: pr), .lst (.lst (r0.map TX.rI ++ [rS [63]]) :: rr.map (rL TX.rI))].set 1 d')) : Option D) = _
      rw [List.length_map, if_pos c3]
      rfl
    obtain ⟨d, w3⟩ := w3
    exact wp_if (fun _ => wp_eq w3 (wp_some trivial)) fun _ => wp_some trivial
theorem sp_right {k : Nat} {t : List Int} (ht : Prs k t) (hk : k ≤ 50000) : WP (g__law_right t) fun p => p.1 = true ∧ Prs (k + 3000) p.2 := by
  unfold g__law_right
  have pick : ∀ {x y : Int}, (0 ≤ x ∧ x < 9) → (0 ≤ y ∧ y < 6) → ∃ n : Nat, ixL [1 + x, 60] (y / 5) = some (n : Int) ∧ 1 ≤ n ∧ n ≤ 60 := fun {x y} hx hy => by
    have : y / 5 = 0 ∨ y / 5 = 1 := by omega
    rcases this with e | e <;> rw [e]
    · exact ⟨(1 + x).toNat, by show some (1 + x) = _; congr 1; omega, by omega, by omega⟩
    · exact ⟨60, rfl, by decide, by decide⟩
  refine (sp_coin ht (by omega) ⟨by decide, by decide⟩).bind fun x hx => (sp_coin hx.2 (by omega) ⟨by decide, by decide⟩).bind fun x1 hx1 => ?_
  obtain ⟨n, en, hn⟩ := pick hx.1 hx1.1
  refine wp_eq en ((sp_shuf hx1.2 hn.2 (by omega)).bind fun os hos => (sp_coin hos.2 (by omega) ⟨by decide, by decide⟩).bind fun x3 hx3 => (sp_coin hx3.2 (by omega) ⟨by decide, by decide⟩).bind fun x4 hx4 => ?_)
  obtain ⟨m, em, hm⟩ := pick hx3.1 hx4.1
  refine wp_eq em ((sp_parts hx4.2 (by omega) hm).bind fun ps hps => (sp_tableau hps.2.2 (by omega)).bind fun rs hrs => ?_)
  obtain ⟨os, t1⟩ := os
  obtain ⟨ps, t2⟩ := ps
  obtain ⟨rs, t3⟩ := rs
  obtain ⟨ho, -⟩ := hos
  obtain ⟨hl, hp, -⟩ := hps
  obtain ⟨hr, h5⟩ := hrs
  dsimp only at ho hl hp hr h5 ⊢
  obtain ⟨tx, hx⟩ := rep_three hn.2 ho hm.2 hl hp hr
  have hb : ∀ i ∈ os, Bd i := fun i hi => by have := ho.inb i hi; exact ⟨this.1, by omega⟩
  obtain ⟨p1, p2, p3⟩ := sp_partstext hm.2 hl hp
  obtain ⟨r1, r2, r3⟩ := sp_rows hr
  have p1' : lcC (fun _ => some true) (fun p : Int × List Int => (strI p.1).bind fun x_5 => (catS x_5 [60]).bind fun x_6 => (lcC (fun _ => some true) (fun one => (strI one).bind fun x_7 => some x_7) p.2).bind fun x_8 => (joinS [44] x_8).bind fun x_9 => (catS x_6 x_9).bind fun x_10 => some x_10) ps = some (ps.map pT) := by
    refine lcC_map pT (by simp only [cap]; omega) (fun _ _ => rfl) fun p hpp => ?_
    obtain ⟨b1, b2, b3⟩ := (hp p hpp).bd hm.2
    exact sp_parttext b1 b2 b3
  refine wp_eq hx (wp_eq p1' (wp_eq r1 (wp_eq (sI_lc hb (by rw [ho.len]; omega)) (wp_eq (rwT_ok (c := 62) hb (by rw [ho.len]; exact hn.2)).1 (wp_eq p2 (wp_eq r2 (wp_lt (wp_eq (sp_showorder hn ho) (wp_eq (sp_showparts hm hl hp) (wp_eq (sp_showtableau hr) ?_))))))))))
  have ok : ([oT os, psT ps, tT rs].all okS) = true := by
    rw [List.all_eq_true]
    intro w hw
    simp only [List.mem_cons, List.not_mem_nil, or_false] at hw
    rcases hw with rfl | rfl | rfl
    · exact okS_of (nums_small (by decide) hb)
    · refine okS_of fun c hc => ?_
      rcases joinT_mem hc with z | ⟨w, hw, z⟩
      · rw [z]; decide
      · obtain ⟨p, hpp, rfl⟩ := List.mem_map.mp hw
        obtain ⟨b1, b2, b3⟩ := (hp p hpp).bd hm.2
        rcases List.mem_append.mp z with z | z
        · exact sI_small b1 c z
        · rcases List.mem_cons.mp z with z | z
          · rw [z]; decide
          · exact nums_small (by decide) b2 c z
    · refine okS_of fun c hc => ?_
      obtain ⟨q, hq, hl2, h2⟩ := hr
      rcases joinT_mem hc with z | ⟨w, hw, z⟩
      · rw [z]; decide
      · obtain ⟨r, hrr, rfl⟩ := List.mem_map.mp hw
        exact nums_small (by decide) (h2 r hrr).2 c z
  refine wp_eq (eqG_same (ok := fun xs : List (List Nat) => xs.all okS) ok) (wp_if (fun z => nomatch z) fun _ => wp_eq (rng0 (n := 2) (by decide)) (wp_out (wp_foWN (fun _ _ => True) trivial (fun j s hj _ => ?_) fun s _ => wp_some ⟨rfl, h5.mono (by omega)⟩)))
  exact wp_of (sp_turn hn ho hm hl hp hr hx _) trivial
theorem sp_law {ns : List Int} (hn : ns.length ≤ 63) : g_law ns = some true := by
  refine WP.eq ?_
  unfold g_law
  obtain ⟨m, em, hm⟩ : ∃ m : Nat, (if (if (ns.length : Int) < 5 then (ns.length : Int) else 5) > 1 then (if (ns.length : Int) < 5 then (ns.length : Int) else 5) else 1) = (m : Int) ∧ m ≤ 5 := by
    refine ⟨(if (if (ns.length : Int) < 5 then (ns.length : Int) else 5) > 1 then (if (ns.length : Int) < 5 then (ns.length : Int) else 5) else 1).toNat, ?_, ?_⟩ <;> (repeat' split) <;> omega
  rw [em]
  refine wp_eq (rng0 (by omega)) (wp_out (wp_foWN (fun _ _ => True) trivial (fun k s hk _ => ?_) fun s _ => ?_))
  · unfold g_law_b1
    refine (sp_purse hn (by omega)).bind fun t ht => wp_eq (rng0 (n := 8) (by decide)) (wp_out (wp_foWN (fun j s => Prs (j * 3000) s) (by simpa using ht) (fun j s hj h => ?_) fun s _ => wp_some trivial))
    unfold g_law_b2
    refine (sp_right h (by omega)).bind fun p hp => ?_
    rw [hp.1]
    exact wp_if (fun z => nomatch z) fun _ => wp_some (hp.2.mono (by omega))
  · have f1 : ∀ p ∈ [((1 : Int), [(3 : Int)]), (2, [0, 1])], PtOk 4 p := fun p hp => by
      simp only [List.mem_cons, List.not_mem_nil, or_false] at hp
      rcases hp with rfl | rfl
      · exact ⟨by decide, by decide, by decide, by decide⟩
      · exact ⟨by decide, by decide, by decide, by decide⟩
    have e1 := sp_showparts (n := 4) (by decide) (by decide) f1
    have e2 := sp_readorder (n := 3) (os := [2, 0, 1]) (by decide) (by show List.Perm _ _; decide)
    have e3 := sp_showtableau (rs := [[0, 2], [1, 0]]) ⟨2, by decide, by decide, fun r hr => by
      simp only [List.mem_cons, List.not_mem_nil, or_false] at hr
      rcases hr with rfl | rfl
      · exact ⟨rfl, fun i hi => by simp at hi; unfold Bd; omega⟩
      · exact ⟨rfl, fun i hi => by simp at hi; unfold Bd; omega⟩⟩
    have e4 := sp_readparts (n := 3) (ps := []) (by decide) (by decide) (fun _ h => nomatch h)
    have e5 := sp_showparts (n := 9) (ps := []) (by decide) (by decide) (fun _ h => nomatch h)
    have d1 : psT [((1 : Int), [(3 : Int)]), (2, [0, 1])] = [49, 60, 51, 32, 50, 60, 48, 44, 49] := by decide +kernel
    have d2 : oT [2, 0, 1] = [50, 62, 48, 62, 49] := by decide +kernel
    have d3 : tT [[0, 2], [1, 0]] = [48, 44, 50, 47, 49, 44, 48] := by decide +kernel
    rw [d1] at e1
    rw [d2] at e2
    rw [d3] at e3
    refine wp_eq e1 (wp_eq e2 (wp_eq e3 (wp_lt (wp_eq e4 (wp_eq (appL_eq (by decide)) (wp_eq (b := true) ?_ ?_))))))
    · exact eqD_refl (xs := [rS [49, 60, 51, 32, 50, 60, 48, 44, 49], rL TX.rI [2, 0, 1], rS [48, 44, 50, 47, 49, 44, 48], rL TX.rI []]) (by decide +kernel)
    · exact wp_id (wp_if (fun _ => wp_eq e5 (wp_some rfl)) fun z => nomatch z)
end Law_strictranks_k54_texts_written_and_read
end
section
set_option Elab.async false
set_option linter.all false
set_option maxRecDepth 100000
set_option maxHeartbeats 2000000
open PySem PySem.Spec PyProof.Rows L2 L2.VL L2.PM L2.TX
local macro_rules | `(tactic| walk_at "w") => `(tactic| (repeat (first | with_reducible refine wp_some ?_ | with_reducible refine wp_lt ?_ | with_reducible refine wp_bs ?_ | with_reducible refine wp_id ?_ | with_reducible refine wp_assoc ?_); try dsimp only))
namespace Law_strictranks_k54_texts_written_and_read
theorem law_spec' (ns : List Int) (hn : ns.length ≤ 63) : L2.VL.FRes.post (F_law [L2.VL.shA (.lst (ns.map fun n => .con (.int n)))]) (fun d _ _ => d = .bl true) fun _ _ => False := by
  obtain ⟨outs, e⟩ := (rf_law ns).run true (sp_law hn)
  have e : F_law [L2.VL.shA (.lst (ns.map fun n => .con (.int n)))] = some (.ret (rB true) false outs) := e
  rw [e]
  exact rfl
end Law_strictranks_k54_texts_written_and_read
end
set_option maxRecDepth 100000
theorem PySem.Challenge.cw_strictranks_k54_texts_written_and_read_holds : PySem.Challenge.rw_strictranks_k54_texts_written_and_read.Holds := by
  exact Law_strictranks_k54_texts_written_and_read.holds Law_strictranks_k54_texts_written_and_read.law_spec'
