import PyProof.Rows.All
import Wide.All
import OpenK.AllK
import Wide.FinOn
import HandS.ForMost
import HandS.Defaults
import HandS.IsInst
import HandS.Wide
import HandS.Walk
import HandS.Style
import HandS.TupAny
import HandS.List
import HandS.MakeKwOnly
import HandS.Lambda
import HandS.EndTab
import KE.SortKeyHeap
import HandS.SortInts
import HandS.ForExc
import HandS.ExcInit
import HandS.ExcField
import HandS.FStr
import HandS.ExcIs
import KE.KExcInit
import KE.KExcIs
import HandS.CallSlots
import HandS.Comp
import HandS.DeepEq
import HandS.Dict
import HandS.Iter
import HandS.MakeKw
import HandS.Text
import HandS.TupLe
import HandS.TupMul
import KE.DataAny
import KE.DataCmp
import KE.DataMinKey
import KE.GoesEnum
import KE.KEqDict
import KE.KExcLine
import KE.KLam
import KE.KNestM
import KE.RegKIsAll
import KE.RegKTryMore
import OpenK.KOps
import PyProof.Rows.Range3
import HandS.SetFor
import HandS.Set
import HandS.Strs
import HandS.SetKeys
import KE.SortCalls
import HandS.WordsDict
import HandS.More
import HandS.SetBool
import HandS.Small
import KE.KEqNest
import KE.KMinBuiltin
import HandS.DictComp
import KE.KTryMore
import PyProof.CollectIter
import PyProof.WalksMore
import PyProof.Rows.FactsExc_KeyError
import PyProof.DictUpdate
import HandS.Zip
import HandS.Finally
import HandS.Spec
import PyProof.DictMoreH
import HandS.Head0
import HandS.Head1
import HandS.Head2
import HandS.HeadHook1
import HandS.HeadHook2
import HandS.HeadHook3
import HandS.HeadHook4
import HandS.HeadWalk
import KE.KStateDown
import HandS.CallRecv
import HandS.Deep
import HandS.DictTup
import KE.KItemsList
import PySem.Challenge.RW_taleless_k55_whole_ways_are_shortest
set_option Elab.async false
set_option maxRecDepth 100000
set_option maxHeartbeats 4000000
set_option autoImplicit false
set_option linter.unusedVariables false
set_option linter.unusedSectionVars false
namespace Tl
open PySem L2 TL
def Fr (p : Addr) (H H' : Hp) : Prop := ∀ b o, b ≠ p → H b = some o → H' b = some o
theorem Fr.refl {p : Addr} {H : Hp} : Fr p H H := fun _ _ _ e => e
theorem Fr.trans {p : Addr} {H H1 H2 : Hp} (a : Fr p H H1) (b : Fr p H1 H2) : Fr p H H2 := fun c o n e => b c o n (a c o n e)
theorem Fr.new {p q : Addr} {H H1 : Hp} {o : HO} (a : Fr p H H1) (h : H1 q = none) : Fr p H (upd H1 q o) := fun c u n e => by
  have e1 := a c u n e
  rw [upd_ne (ne_of_none e1 h)]
  exact e1
theorem Fr.at {p : Addr} {H H1 : Hp} {o : HO} (a : Fr p H H1) : Fr p H (upd H1 p o) := fun c u n e => by
  rw [upd_ne n]
  exact a c u n e
theorem Fr.of {p : Addr} {H H1 : Hp} (a : Same H H1) : Fr p H H1 := fun c u _ e => a c u e
theorem Fr.seq {K : PySem.W.Frag} {p a : Addr} {H H' : Hp} {xs : List V} (e : Fr p H H') (n : a ≠ p) (h : SqL K H a xs) : SqL K H' a xs := by
  rcases h with (h | ⟨o, h⟩) | h
  · exact .inl (.inl (e _ _ n h))
  · exact .inl (.inr ⟨o, e _ _ n h⟩)
  · exact .inr h
theorem Fr.tup {K : PySem.W.Frag} {p a : Addr} {H H' : Hp} {xs : List V} (e : Fr p H H') (n : a ≠ p) (h : SqT K H a xs) : SqT K H' a xs := by
  rcases h with (h | ⟨o, h⟩) | h
  · exact .inl (.inl (e _ _ n h))
  · exact .inl (.inr ⟨o, e _ _ n h⟩)
  · exact .inr h
theorem Fr.same {p : Addr} {H H1 : Hp} (a : Fr p H H1) (h : H p = none) : Same H H1 := fun b o e => a b o (ne_of_none e h) e
theorem Same.new {q : Addr} {H H1 : Hp} {o : HO} (a : Same H H1) (h : H1 q = none) : Same H (upd H1 q o) := fun c u e => by
  have e1 := a c u e
  rw [upd_ne (ne_of_none e1 h)]
  exact e1
theorem Fr.free {p q : Addr} {H H1 : Hp} (a : Fr p H H1) (h : H1 q = none) (n : q ≠ p) : H q = none := by
  cases e : H q with
  | none => rfl
  | some o =>
    rw [a q o n e] at h
    cases h
theorem Fr.mut {p q : Addr} {H H1 : Hp} {o : HO} (a : Fr p H H1) (h : H q = none) : Fr p H (upd H1 q o) := fun c u n e => by
  rw [upd_ne (ne_of_none e h)]
  exact a c u n e
theorem Same.mut {q : Addr} {H H1 : Hp} {o : HO} (a : Same H H1) (h : H q = none) : Same H (upd H1 q o) := fun c u e => by
  rw [upd_ne (ne_of_none e h)]
  exact a c u e
def Bag (H : Hp) (p : Addr) (n : Nat) : Prop := ∃ a b c : Int, H p = some (.lst [.int a, .int b, .int c]) ∧ 0 ≤ a ∧ 0 ≤ b ∧ b < 2 ^ 62 ∧ 0 ≤ c ∧ c ≤ n
theorem Bag.up {H : Hp} {p : Addr} {n m : Nat} (b : Bag H p n) (h : n ≤ m) : Bag H p m := by
  obtain ⟨a, b, c, e, h1, h2, h3, h4, h5⟩ := b
  exact ⟨a, b, c, e, h1, h2, h3, h4, by omega⟩
theorem Bag.tr {H H' : Hp} {p : Addr} {n : Nat} (b : Bag H p n) (s : Same H H') : Bag H' p n := by
  obtain ⟨a, b, c, e, h⟩ := b
  exact ⟨a, b, c, s _ _ e, h⟩
theorem Bag.new {H : Hp} {p q : Addr} {n : Nat} {o : HO} (b : Bag H p n) (h : H q = none) : Bag (upd H q o) p n := b.tr (Same.new (Same.refl H) h)
theorem Bag.mut {H : Hp} {p q : Addr} {n : Nat} {o : HO} (b : Bag H p n) (h : q ≠ p) : Bag (upd H q o) p n := by
  obtain ⟨a, b, c, e, r⟩ := b
  exact ⟨a, b, c, by rw [upd_ne h.symm]; exact e, r⟩
theorem Bag.ne {H : Hp} {p q : Addr} {n : Nat} (b : Bag H p n) (h : H q = none) : q ≠ p := by
  obtain ⟨a, b, c, e, _⟩ := b
  exact (ne_of_none e h).symm
theorem take_snoc {α : Type} {l : List α} {i : Nat} {x : α} (h : l[i]? = some x) : l.take (i + 1) = l.take i ++ [x] := by
  rw [List.take_add_one, h]
  rfl
theorem sign_at {z : Str} {r : Int} (h0 : 0 ≤ r) (h1 : r < (z.cps.toList.length : Int)) : ∃ c, atI z.cps.toList r = some c ∧ c ∈ z.cps.toList := by
  obtain ⟨j, rfl⟩ : ∃ j : Nat, r = (j : Int) := ⟨r.toNat, by omega⟩
  have hj : j < z.cps.toList.length := by omega
  exact ⟨z.cps.toList[j], atI_nat (List.getElem?_eq_getElem hj), List.getElem_mem hj⟩
def S (cs : List Nat) : Str := ⟨cs.toArray⟩
theorem tl_S (cs : List Nat) : tl (S cs) = cs := rfl
theorem S_len (cs : List Nat) : (S cs).length = cs.length := by rw [len_tl, tl_S]
theorem joinL_nil : ∀ ps : List (List Nat), joinL [] ps = ps.flatten
  | [] => rfl
  | [p] => by simp [joinL]
  | p :: q :: r => by
    show p ++ ([] ++ joinL [] (q :: r)) = _
    rw [joinL_nil (q :: r)]
    simp
theorem join_S (ps : List (List Nat)) : Txt.join (S []) (ps.map S) = S ps.flatten := ext_tl (by
  rw [join_eq, tl_join, tl_S, tl_S, List.map_map]
  rw [show (tl ∘ S) = id from rfl, List.map_id, joinL_nil])
theorem flat_ones : ∀ cs : List Nat, (cs.map fun c => [c]).flatten = cs
  | [] => rfl
  | c :: r => by
    rw [List.map_cons, List.flatten_cons, flat_ones r]
    rfl
theorem join_ones (cs : List Nat) : Txt.join (S []) (cs.map fun c => S [c]) = S cs := by
  have e := join_S (cs.map fun c => [c])
  rw [List.map_map, flat_ones] at e
  exact e
theorem ones_sum (cs : List Nat) (k : Nat) : ((cs.map fun c => S [c]).map (·.length)).sum + (cs.map fun c => S [c]).length * k = cs.length * (k + 1) := by
  rw [List.map_map, List.length_map]
  have e : (List.map ((fun x => x.length) ∘ fun c => S [c]) cs).sum = cs.length := by
    induction cs with
    | nil => rfl
    | cons c r ih => rw [List.map_cons, List.sum_cons, ih, List.length_cons]; show 1 + _ = _; omega
  rw [e, Nat.mul_succ]
  omega
theorem mm_b (L : Nat) (m : Int) (h : 1 ≤ m) : 1 ≤ (if (if (L : Int) < m then (L : Int) else m) > 1 then (if (L : Int) < m then (L : Int) else m) else 1) ∧ (if (if (L : Int) < m then (L : Int) else m) > 1 then (if (L : Int) < m then (L : Int) else m) else 1) ≤ m := by
  split
  · split <;> omega
  · omega
theorem mul01 {i : Int} {c : Prop} [Decidable c] : CMul i (if c then 1 else 0) := .inr (by split <;> exact ⟨by decide, by decide⟩)
theorem sz_ {n : Nat} (h : n ≤ 100000 := by decide) : n ≤ sizeLine := Nat.le_trans h (by decide)
theorem sz_lt {n : Nat} (h : n < 100000) : n < sizeLine := Nat.lt_of_lt_of_le h (by decide)
theorem sz3 {a b c : V} : [a, b, c].length ≤ sizeLine := by show 3 ≤ sizeLine; decide
theorem sz2 {a b : V} : [a, b].length ≤ sizeLine := by show 2 ≤ sizeLine; decide
section
variable {X : Cx}
def CPowW (i j : Int) : Prop := 0 ≤ j ∧ (Builtin.Int.intBits i : Int) * j ≤ 2 ^ 27
theorem op_powW : OpR X (binaryOp .Pow) (rI CPowW fun i j => .int (i ^ j.toNat)) := opI fun _ _ _ _ _ _ _ hc q => PyProof.Rows.pow_int hc.1 hc.2 q
def mulS (x : Str) (n : Int) : Str := if n < 1 then Str.empty else if (n == 1 || x.length == 0) = true then x else ⟨(List.replicate n.toNat x.cps).foldl (· ++ ·) #[]⟩
theorem rep_size (a : Array Nat) : ∀ (m : Nat) (acc : Array Nat), (List.foldl (fun x1 x2 => x1 ++ x2) acc (List.replicate m a)).size = acc.size + m * a.size
  | 0, acc => by simp
  | m + 1, acc => by
    rw [List.replicate_succ, List.foldl_cons, rep_size a m, Array.size_append, Nat.succ_mul]
    omega
theorem op_mul_str : OpR X (binaryOp .Mult) (fun x y H Q => ∃ (i : Str) (n : Int), x = .str i ∧ y = .int n ∧ n < 2 ^ 30 ∧ -(2 ^ 30) < n ∧ i.length * n.toNat ≤ sizeLine ∧ Q (.str (mulS i n)) H) := by
  intro pins s σ H x y v u Q I rx ry h
  obtain ⟨i, n, rfl, rfl, h1, h2, h3, q⟩ := h
  obtain ⟨t, rfl⟩ := rx
  obtain ⟨t', rfl⟩ := ry
  have hs : sizeLine = 16777216 := by decide
  refine PySem.P.mul_str (by
    rw [decide_eq_false (by omega), decide_eq_false (by omega)]
    rfl) (fun a b => ?_) (fun a b => ?_) ?_
  · have e1 : (i.length : Int) * n ≤ 2 ^ 63 - 1 := by
      have e2 : ((i.length * n.toNat : Nat) : Int) = (i.length : Int) * n := by
        rw [Int.natCast_mul, Int.toNat_of_nonneg (by omega)]
      omega
    have e3 : (i.length : Int) ≤ (2 ^ 63 - 1) / n := (Int.le_ediv_iff_mul_le (by omega)).mpr e1
    omega
  · unfold Builtin.Str.tooLong
    exact decide_eq_false (by omega)
  · show Made.post _ _ _
    unfold mulS at q
    by_cases c1 : n < 1
    · rw [if_pos c1] at q ⊢
      exact ⟨by decide, ⟨.str Str.empty, H, I.tok _, ⟨_, rfl⟩, q⟩⟩
    · rw [if_neg c1] at q ⊢
      by_cases c2 : (n == 1 || i.length == 0) = true
      · rw [if_pos c2] at q ⊢
        exact ⟨.str i, H, I, ⟨_, rfl⟩, q⟩
      · rw [if_neg c2] at q ⊢
        exact ⟨by
          show (List.foldl (fun x1 x2 => x1 ++ x2) #[] (List.replicate n.toNat i.cps)).size ≤ sizeLine
          rw [rep_size]
          show 0 + n.toNat * i.length ≤ sizeLine
          rw [Nat.zero_add, Nat.mul_comm]
          exact h3, ⟨.str _, H, I.tok _, ⟨_, rfl⟩, q⟩⟩
end
section
variable {X : Cx} {CX : CXT} {k n : Nat} {f : Addr} {fd : FuncData} {ps ks : List Str} {sp : Sp} {E : XK} {x : Str} {p pos : Pos} {kws : List Keyword} {tk : TA} {g : List Value → List Value → List Value} {gV : List V → List V → List V}
end
end Tl
namespace Tl
open PySem L2 TL PySem.Spec PyProof.Rows
structure ExK (K : PySem.W.Frag) (C : Addr) (bmB : List Value) (newId : String) : Prop where
  made : PySem.W.excInitIn K C bmB newId = true
  over : PySem.W.excOver K C bmB = true
  hdct : PySem.W.hasDictIn K C = true
  seta : PySem.W.findIn K (.ref C) "__setattr__" = some (some (.builtin "object.__setattr__"))
  base : PySem.W.subIn K (.ref C) (.type "BaseException") = some true
  tyC : PySem.W.typeIn K (.ref C) = some (.type "type")
  keep : PySem.W.keepIn K (.ref C) = true
section
open PySem.Builtin PySem.Builtin.ObjectAttr
variable {prog : Program} {w : World} {A : Around} {E : Value → Shared → Prop} {R : Result → Shared → Prop} {hp : Heap} {g : Array GenState} {d : Drawn} {t : Nat} {os : OsState} {B : String} {bmB : List Value}
end
section
variable {X : Cx} {pins : List (Addr × Obj)} {σ : L2.St} {H : Hp} {s : Shared} {a C dx : Addr} {f : Str} {y : V} {u : Value} {fs : List (Str × V)} {Q : Unit → Shared → Prop} {E : Value → Shared → Prop} {A : Around} {B newId initId : String} {bmB : List Value}
end
section
variable {X : Cx} {o e : Expr} {es : List Expr} {to te : TE} {ta : TA} {f : Str} {p p' p1 p2 pos : Pos} {B newId initId : String} {bmB : List Value}
end
end Tl
namespace Tl
open PySem L2 TL PySem.Spec PyProof.Rows
section
variable {X : Cx} {a D : Addr} {d : Option Addr} {oe : Obj} {pn : List (Addr × Obj)}
end
end Tl
namespace Tl
open PySem L2 TL LamX
class Tabl where
  T : List (Addr × Str)
inductive D where
  | non | bl (b : Bool) | int (i : Int) | str (x : Str) | lst (xs : List D) | tup (xs : List D) | dic (kvs : List (Key × D)) | ptr (a : Addr) | dct (kvs : List (Key × D))
def scl : V → Bool
  | .non => true | .bl _ => true | .int _ => true | .str _ => true | _ => false
def ofV : V → D
  | .bl b => .bl b | .int i => .int i | .str x => .str x | _ => .non
def Sub (G H : Hp) : Prop := ∀ b o, G b = some o → H b = some o
theorem Sub.refl (G : Hp) : Sub G G := fun _ _ h => h
theorem Sub.trans {G H I : Hp} (a : Sub G H) (b : Sub H I) : Sub G I := fun x o h => b x o (a x o h)
theorem Sub.new {G : Hp} {p : Addr} {o : HO} (h : G p = none) : Sub G (upd G p o) := fun b u e => by
  rw [upd_ne (ne_of_none e h)]
  exact e
theorem Sub.up {G H : Hp} {p : Addr} {o : HO} (s : Sub G H) : Sub (upd G p o) (upd H p o) := fun b u e => by
  by_cases h : b = p
  · subst h
    rw [upd_same] at e ⊢
    exact e
  · rw [upd_ne h] at e ⊢
    exact s b u e
theorem Sub.off {G H : Hp} {p : Addr} {o : HO} (s : Sub G H) (h : G p = none) : Sub G (upd H p o) := fun b u e => by
  rw [upd_ne (ne_of_none e h)]
  exact s b u e
theorem Sub.none {G H : Hp} {p : Addr} (s : Sub G H) (h : H p = none) : G p = none := by
  cases e : G p with
  | none => rfl
  | some o =>
    rw [s p o e] at h
    cases h
theorem Sub.seq {K : PySem.W.Frag} {G H : Hp} {a : Addr} {xs : List V} (e : Sub G H) (h : SqT K G a xs) : SqT K H a xs := by
  rcases h with (h | ⟨o, h⟩) | h
  · exact .inl (.inl (e _ _ h))
  · exact .inl (.inr ⟨o, e _ _ h⟩)
  · exact .inr h
theorem Sub.seqL {K : PySem.W.Frag} {G H : Hp} {a : Addr} {xs : List V} (e : Sub G H) (h : SqL K G a xs) : SqL K H a xs := by
  rcases h with (h | ⟨o, h⟩) | h
  · exact .inl (.inl (e _ _ h))
  · exact .inl (.inr ⟨o, e _ _ h⟩)
  · exact .inr h
theorem Sub.rd {G H : Hp} {a : Addr} {u : HO} (e : Sub G H) (h : Rd G a u) : Rd H a u := by
  rcases h with h | ⟨o, h⟩
  · exact .inl (e _ _ h)
  · exact .inr ⟨o, e _ _ h⟩
mutual
/-- the value v stands for the data d in G -/
inductive Is (K : PySem.W.Frag) (G : Hp) : V → D → Prop where
  | non : Is K G .non .non
  | bl (b : Bool) : Is K G (.bl b) (.bl b)
  | int (i : Int) : Is K G (.int i) (.int i)
  | str (x : Str) : Is K G (.str x) (.str x)
  | lst {p : Addr} {xs : List V} {ds : List D} (h : G p = some (.lst xs)) (a : IsAll K G xs ds) : Is K G (.ref p) (.lst ds)
  | tup {p : Addr} {xs : List V} {ds : List D} (h : SqT K G p xs) (a : IsAll K G xs ds) : Is K G (.ref p) (.tup ds)
  | dic {p : Addr} {kvs : List (Key × V)} {es : List (Key × D)} (h : Rd G p (.dK kvs)) (a : IsKv K G kvs es) : Is K G (.ref p) (.dic es)
  | ptr (a : Addr) : Is K G (.ref a) (.ptr a)
  | dct {p : Addr} {o : Obj} {kvs : List (Key × V)} {es : List (Key × D)} (h : G p = some (.frz o (.dK kvs))) (a : IsKv K G kvs es) : Is K G (.ref p) (.dct es)
inductive IsAll (K : PySem.W.Frag) (G : Hp) : List V → List D → Prop where
  | nil : IsAll K G [] []
  | cons {x : V} {xs : List V} {d : D} {ds : List D} (h : Is K G x d) (r : IsAll K G xs ds) : IsAll K G (x :: xs) (d :: ds)
inductive IsKv (K : PySem.W.Frag) (G : Hp) : List (Key × V) → List (Key × D) → Prop where
  | nil : IsKv K G [] []
  | cons {k : Key} {x : V} {xs : List (Key × V)} {d : D} {ds : List (Key × D)} (h : Is K G x d) (r : IsKv K G xs ds) : IsKv K G ((k, x) :: xs) ((k, d) :: ds)
end
section
variable {K : PySem.W.Frag} {G G' : Hp}
mutual
theorem Is.mono (s : Sub G G') : ∀ {v : V} {d : D}, Is K G v d → Is K G' v d
  | _, _, .non => .non
  | _, _, .bl b => .bl b
  | _, _, .int i => .int i
  | _, _, .str x => .str x
  | _, _, .lst h a => .lst (s _ _ h) (IsAll.mono s a)
  | _, _, .tup h a => .tup (s.seq h) (IsAll.mono s a)
  | _, _, .dic h a => .dic (s.rd h) (IsKv.mono s a)
  | _, _, .ptr a => .ptr a
  | _, _, .dct h a => .dct (s _ _ h) (IsKv.mono s a)
theorem IsAll.mono (s : Sub G G') : ∀ {vs : List V} {ds : List D}, IsAll K G vs ds → IsAll K G' vs ds
  | _, _, .nil => .nil
  | _, _, .cons h r => .cons (Is.mono s h) (IsAll.mono s r)
theorem IsKv.mono (s : Sub G G') : ∀ {vs : List (Key × V)} {ds : List (Key × D)}, IsKv K G vs ds → IsKv K G' vs ds
  | _, _, .nil => .nil
  | _, _, .cons h r => .cons (Is.mono s h) (IsKv.mono s r)
end
theorem Is.scl : ∀ {v : V}, scl v = true → Is K G v (ofV v)
  | .non, _ => .non
  | .bl _, _ => .bl _
  | .int _, _ => .int _
  | .str _, _ => .str _
theorem IsAll.len {vs : List V} {ds : List D} (h : IsAll K G vs ds) : vs.length = ds.length := by
  induction vs generalizing ds with
  | nil => cases h; rfl
  | cons x xs ih =>
    cases h with
    | cons a r => rw [List.length_cons, List.length_cons, ih r]
theorem IsAll.get : ∀ {vs : List V} {ds : List D} {i : Nat} {v : V}, IsAll K G vs ds → vs[i]? = some v → ∃ d, ds[i]? = some d ∧ Is K G v d
  | _, _, _, _, .nil, e => by simp at e
  | _, _, 0, _, .cons h _, e => by
    have e := Option.some.inj e
    subst e
    exact ⟨_, rfl, h⟩
  | _, _, i + 1, v, .cons _ r, e => by
    obtain ⟨d, h1, h2⟩ := IsAll.get (i := i) (v := v) r (by simpa using e)
    exact ⟨d, by simpa using h1, h2⟩
theorem IsAll.at : ∀ {vs : List V} {ds : List D} {i : Nat} {d : D}, IsAll K G vs ds → ds[i]? = some d → ∃ v, vs[i]? = some v ∧ Is K G v d
  | _, _, _, _, .nil, e => by simp at e
  | _, _, 0, _, .cons h _, e => by
    have e := Option.some.inj e
    subst e
    exact ⟨_, rfl, h⟩
  | _, _, i + 1, v, .cons _ r, e => by
    obtain ⟨d, h1, h2⟩ := IsAll.at (i := i) (d := v) r (by simpa using e)
    exact ⟨d, by simpa using h1, h2⟩
theorem IsAll.app : ∀ {vs ws : List V} {ds es : List D}, IsAll K G vs ds → IsAll K G ws es → IsAll K G (vs ++ ws) (ds ++ es)
  | _, _, _, _, .nil, b => b
  | _, _, _, _, .cons h r, b => .cons h (IsAll.app r b)
theorem IsAll.set {v : V} {d : D} (h : Is K G v d) : ∀ {vs : List V} {ds : List D} (i : Nat), IsAll K G vs ds → IsAll K G (vs.set i v) (ds.set i d)
  | _, _, _, .nil => .nil
  | _, _, 0, .cons _ r => .cons h r
  | _, _, i + 1, .cons a r => .cons a (IsAll.set h i r)
theorem IsAll.take : ∀ {vs : List V} {ds : List D} (n : Nat), IsAll K G vs ds → IsAll K G (vs.take n) (ds.take n)
  | _, _, 0, _ => .nil
  | _, _, _ + 1, .nil => .nil
  | _, _, n + 1, .cons h r => .cons h (IsAll.take n r)
theorem IsAll.drop : ∀ {vs : List V} {ds : List D} (n : Nat), IsAll K G vs ds → IsAll K G (vs.drop n) (ds.drop n)
  | _, _, 0, r => r
  | _, _, _ + 1, .nil => .nil
  | _, _, n + 1, .cons _ r => IsAll.drop n r
theorem IsAll.rep {v : V} {d : D} (h : Is K G v d) : ∀ n : Nat, IsAll K G (List.replicate n v) (List.replicate n d)
  | 0 => .nil
  | n + 1 => .cons h (IsAll.rep h n)
end
inductive IsFs (K : PySem.W.Frag) (G : Hp) : List (Str × V) → List (Str × D) → Prop where
  | nil : IsFs K G [] []
  | cons {f : Str} {x : V} {xs : List (Str × V)} {d : D} {ds : List (Str × D)} (h : Is K G x d) (r : IsFs K G xs ds) : IsFs K G ((f, x) :: xs) ((f, d) :: ds)
theorem IsFs.mono {K : PySem.W.Frag} {G G' : Hp} (s : Sub G G') : ∀ {xs : List (Str × V)} {ds : List (Str × D)}, IsFs K G xs ds → IsFs K G' xs ds
  | _, _, .nil => .nil
  | _, _, .cons h r => .cons (h.mono s) (IsFs.mono s r)
inductive IsKt (K : PySem.W.Frag) (G : Hp) : List (List Key × V) → List (List Key × D) → Prop where
  | nil : IsKt K G [] []
  | cons {k : List Key} {x : V} {xs : List (List Key × V)} {d : D} {ds : List (List Key × D)} (h : Is K G x d) (r : IsKt K G xs ds) : IsKt K G ((k, x) :: xs) ((k, d) :: ds)
theorem IsKt.mono {K : PySem.W.Frag} {G G' : Hp} (s : Sub G G') : ∀ {xs : List (List Key × V)} {ds : List (List Key × D)}, IsKt K G xs ds → IsKt K G' xs ds
  | _, _, .nil => .nil
  | _, _, .cons h r => .cons (h.mono s) (IsKt.mono s r)
inductive MO where
  | lst (xs : List D) | dic (kvs : List (Key × D)) | ins (C dx : Addr) (fs : List (Str × D)) | dt (kvs : List (List Key × D)) | ex (Q : Hp → HO → Prop)
def Plain : HO → Prop
  | .lst _ => True | .tup _ => True | .dK _ => True | .ins _ _ _ => True | .dT _ => True | .ext φ => ∀ a q, HO.ext φ ≠ CodeO a q | .frz _ _ => True | _ => False
def MOk (K : PySem.W.Frag) (G H : Hp) (p : Addr) : MO → Prop
  | .lst xs => ∃ vs, H p = some (.lst vs) ∧ IsAll K G vs xs
  | .dic kvs => ∃ vs, H p = some (.dK vs) ∧ IsKv K G vs kvs
  | .dt kvs => ∃ vs, H p = some (.dT vs) ∧ IsKt K G vs kvs
  | .ins C dx fs => ∃ vs, H p = some (.ins C dx vs) ∧ IsFs K G vs fs
  | .ex Q => ∃ o, H p = some o ∧ Plain o ∧ ∀ G', Sub G G' → Q G' o
theorem Plain.notab {o : HO} (h : Plain o) : ∀ ps, o ≠ .tbl ps := fun ps z => by
  rw [z] at h
  exact h
theorem Plain.nocode {o : HO} (h : Plain o) (a : Addr) (q : Str) : o ≠ CodeO a q := fun z => by
  rw [z] at h
  unfold CodeO at h
  exact h a q rfl
theorem MOk.get {K : PySem.W.Frag} {G H : Hp} {p : Addr} {o : MO} (h : MOk K G H p o) : ∃ u, H p = some u ∧ Plain u := by
  cases o with
  | lst xs => exact ⟨_, h.choose_spec.1, trivial⟩
  | dic kvs => exact ⟨_, h.choose_spec.1, trivial⟩
  | ins C dx fs => exact ⟨_, h.choose_spec.1, trivial⟩
  | dt kvs => exact ⟨_, h.choose_spec.1, trivial⟩
  | ex Q => exact ⟨_, h.choose_spec.1, h.choose_spec.2.1⟩
theorem MOk.some {K : PySem.W.Frag} {G H : Hp} {p : Addr} {o : MO} (h : MOk K G H p o) : H p ≠ none := by
  obtain ⟨u, e, _⟩ := h.get
  rw [e]
  exact fun z => nomatch z
theorem MOk.notab {K : PySem.W.Frag} {G H : Hp} {p : Addr} {o : MO} (h : MOk K G H p o) : ∀ ps, H p ≠ Option.some (.tbl ps) := fun ps z => by
  obtain ⟨u, e, hu⟩ := h.get
  rw [e] at z
  exact hu.notab ps (Option.some.inj z)
theorem MOk.mono {K : PySem.W.Frag} {G G' H H' : Hp} {p : Addr} {o : MO} (s : Sub G G') (e : H' p = H p) (h : MOk K G H p o) : MOk K G' H' p o := by
  cases o with
  | lst xs =>
    obtain ⟨vs, a, b⟩ := h
    exact ⟨vs, e.trans a, b.mono s⟩
  | dic kvs =>
    obtain ⟨vs, a, b⟩ := h
    exact ⟨vs, e.trans a, b.mono s⟩
  | ins C dx fs =>
    obtain ⟨vs, a, b⟩ := h
    exact ⟨vs, e.trans a, b.mono s⟩
  | dt kvs =>
    obtain ⟨vs, a, b⟩ := h
    exact ⟨vs, e.trans a, b.mono s⟩
  | ex Q =>
    obtain ⟨o, a, b, c⟩ := h
    exact ⟨o, e.trans a, b, fun G2 s2 => c G2 (s.trans s2)⟩
structure Sto where
  n : Nat
  μ : Addr → Option MO
def Sto.at (s : Sto) (m : Nat) : Sto := ⟨m, s.μ⟩
def Sto.put (s : Sto) (a : Addr) (o : MO) : Sto := ⟨s.n, fun b => if b = a then some o else s.μ b⟩
def Sto.off (s : Sto) (a : Addr) : Sto := ⟨s.n, fun b => if b = a then none else s.μ b⟩
theorem Sto.put_same {s : Sto} {a : Addr} {o : MO} : (s.put a o).μ a = some o := if_pos rfl
theorem Sto.put_ne {s : Sto} {a b : Addr} {o : MO} (h : b ≠ a) : (s.put a o).μ b = s.μ b := if_neg h
theorem Sto.off_same {s : Sto} {a : Addr} : (s.off a).μ a = none := if_pos rfl
theorem Sto.off_ne {s : Sto} {a b : Addr} (h : b ≠ a) : (s.off a).μ b = s.μ b := if_neg h
def XIs (K : PySem.W.Frag) (G : Hp) (d : Option Addr) (fs : List (Str × D)) : Prop := (d = none ∧ fs = []) ∨ ∃ dd vs, d = some dd ∧ G dd = some (.xd vs) ∧ IsFs K G vs fs
theorem XIs.mono {K : PySem.W.Frag} {G G' : Hp} {d : Option Addr} {fs : List (Str × D)} (s : Sub G G') (h : XIs K G d fs) : XIs K G' d fs := by
  rcases h with h | ⟨dd, vs, h1, h2, h3⟩
  · exact .inl h
  · exact .inr ⟨dd, vs, h1, s _ _ h2, h3.mono s⟩
inductive Slot where
  | un | d (x : D) | ow (o : MO) | raw (v : V) | bag | scr (ns : List Int) | exn (a : Addr) (d : Option Addr) (fs : List (Str × D))
abbrev Slot.own (xs : List D) : Slot := .ow (.lst xs)
def SlotOk (K : PySem.W.Frag) (B : Option Addr) (M : Addr → Prop) (G H : Hp) : Option V → Slot → Prop
  | _, .un => True
  | o, .d x => ∃ v, o = some v ∧ Is K G v x
  | o, .ow u => ∃ p : Addr, o = some (.ref p) ∧ MOk K G H p u ∧ G p = none ∧ M p ∧ B ≠ some p
  | o, .raw v => o = some v
  | o, .bag => ∃ p, o = some (.ref p) ∧ B = some p
  | o, .scr ns => ∃ a, o = some (.ref a) ∧ SqL K G a (ns.map V.int)
  | o, .exn a d fs => o = some (.ref a) ∧ XIs K G d fs
structure En [Tabl] (K : PySem.W.Frag) (B : Option Addr) (M : Addr → Prop) (n : Sto) (G0 H0 G H : Hp) (σ : L2.St) (δ : List Slot) : Prop where
  sub0 : Sub G0 G
  sub : Sub G H
  same : ∀ b o, H0 b = some o → ¬ M b → H b = some o
  free : ∀ b, H b = none → M b
  fresh : ∀ b, ¬ M b → G0 b = none → G b = none
  bagged : ∀ p, B = some p → Bag H p n.n ∧ G p = none ∧ M p
  tabs : Tabs Tabl.T H
  tin : ∀ b ps, H b = some (.tbl ps) → M b
  gnt : ∀ b ps, G b ≠ some (.tbl ps)
  len : σ.length = δ.length
  slot : ∀ (i : Nat) (s : Slot), δ[i]? = some s → SlotOk K B M G H (σ[i]?.getD none) s
  dis : ∀ (i j : Nat) (p : Addr) (x y : MO), δ[i]? = some (.ow x) → δ[j]? = some (.ow y) → σ[i]? = some (some (.ref p)) → σ[j]? = some (some (.ref p)) → i = j
  mob : ∀ a o, n.μ a = some o → MOk K G H a o ∧ G a = none ∧ M a ∧ B ≠ some a
  mow : ∀ (i : Nat) (x : MO) (a : Addr), δ[i]? = some (.ow x) → σ[i]? = some (some (.ref a)) → n.μ a = none
structure Eo [Tabl] (K : PySem.W.Frag) (B : Option Addr) (m0 : Addr → Option MO) (n : Sto) (G0 H0 G H : Hp) : Prop where
  sub0 : Sub G0 G
  sub : Sub G H
  same : ∀ b o, H0 b = some o → B ≠ some b → m0 b = none → (∀ ps, o ≠ .tbl ps) → H b = some o
  fresh : ∀ b, H0 b ≠ none → B ≠ some b → m0 b = none → (∀ ps, H0 b ≠ some (.tbl ps)) → G0 b = none → G b = none
  bagged : ∀ p, B = some p → Bag H p n.n ∧ G p = none
  tabs : Tabs Tabl.T H
  gnt : ∀ b ps, G b ≠ some (.tbl ps)
  mob : ∀ a o, n.μ a = some o → MOk K G H a o ∧ G a = none ∧ B ≠ some a ∧ (H0 a = none ∨ m0 a ≠ none ∨ ∃ ps, H0 a = some (.tbl ps))
def MOf (B : Option Addr) (m0 : Addr → Option MO) (H0 : Hp) : Addr → Prop := fun b => H0 b = none ∨ B = some b ∨ (∃ ps, H0 b = some (.tbl ps)) ∨ m0 b ≠ none
theorem MOf.not {B : Option Addr} {m0 : Addr → Option MO} {H0 : Hp} {b : Addr} {o : HO} (e : H0 b = some o) (nb : B ≠ some b) (nm : m0 b = none) (nt : ∀ ps, o ≠ .tbl ps) : ¬ MOf B m0 H0 b := fun z => by
  rcases z with z | z | ⟨ps, z⟩ | z
  · rw [e] at z
    cases z
  · exact nb z
  · rw [e] at z
    exact nt ps (Option.some.inj z)
  · exact z nm
theorem tabs_but {T : List (Addr × Str)} {H : Hp} {c : Addr} {o : HO} (t : Tabs T H) (h : H c = none ∨ ∃ u, H c = some u ∧ Plain u) : Tabs T (upd H c o) := fun p hp => by
  obtain ⟨ps, h1, h2, h3⟩ := t p hp
  have ne : ∀ b u, H b = some u → (¬ Plain u) → b ≠ c := fun b u e nu z => by
    rw [z] at e
    rcases h with h | ⟨u', h, hp⟩
    · rw [h] at e
      cases e
    · rw [h] at e
      cases e
      exact nu hp
  refine ⟨ps, by rw [upd_ne (ne _ _ h1 fun z => z)]; exact h1, h2, fun pos cv hc => ?_⟩
  obtain ⟨c0, e1, e2⟩ := h3 pos cv hc
  exact ⟨c0, e1, by rw [upd_ne (ne _ _ e2 fun z => z.nocode _ _ rfl)]; exact e2⟩
theorem tabs_fr {T : List (Addr × Str)} {H H' : Hp} {p : Addr} {n : Nat} (t : Tabs T H) (b : Bag H p n) (f : Fr p H H') : Tabs T H' := fun q hq => by
  obtain ⟨ps, h1, h2, h3⟩ := t q hq
  obtain ⟨x, y, z, e, _⟩ := b
  refine ⟨ps, f _ _ (fun z => by rw [z, e] at h1; cases h1) h1, h2, fun pos cv hc => ?_⟩
  obtain ⟨c0, e1, e2⟩ := h3 pos cv hc
  exact ⟨c0, e1, f _ _ (fun z => by rw [z, e] at e2; unfold CodeO at e2; cases e2) e2⟩
theorem ne_M {M : Addr → Prop} {p b : Addr} (mp : M p) (h : ¬ M b) : b ≠ p := fun z => h (by rw [z]; exact mp)
theorem not_none {α : Type} {x : Option α} {y : α} (h : x = some y) : x ≠ none := by
  rw [h]
  exact fun z => nomatch z
theorem some_of {α : Type} {x : Option α} (h : x ≠ none) : ∃ y, x = some y := by
  cases x with
  | none => exact absurd rfl h
  | some y => exact ⟨y, rfl⟩
section
variable [Tabl] {K : PySem.W.Frag} {B : Option Addr} {M : Addr → Prop} {n : Sto} {G0 H0 G H : Hp} {σ : L2.St} {δ : List Slot}
omit [Tabl] in
theorem Bag.some {H : Hp} {p : Addr} {n : Nat} (b : Bag H p n) : H p ≠ none := by
  obtain ⟨a, b, c, e, _⟩ := b
  exact not_none e
omit [Tabl] in
theorem Bag.notab {H : Hp} {p : Addr} {n : Nat} (b : Bag H p n) : ∀ ps, H p ≠ Option.some (.tbl ps) := fun ps z => by
  obtain ⟨a, b, c, e, _⟩ := b
  rw [e] at z
  cases z
theorem En.out {m0 : Addr → Option MO} (E : En K B (MOf B m0 H0) n G0 H0 G H σ δ) : Eo K B m0 n G0 H0 G H :=
  ⟨E.sub0, E.sub, fun b o e nb nm nt => E.same b o e (MOf.not e nb nm nt), fun b h0 nb nm nt g0 => E.fresh b (fun z => by
    rcases z with z | z | ⟨ps, z⟩ | z
    · exact h0 z
    · exact nb z
    · exact nt ps z
    · exact z nm) g0, fun p hp => ⟨(E.bagged p hp).1, (E.bagged p hp).2.1⟩, E.tabs, E.gnt, fun a o h => by
    obtain ⟨h1, h2, h3, h4⟩ := E.mob a o h
    refine ⟨h1, h2, h4, ?_⟩
    rcases h3 with z | z | z | z
    · exact .inl z
    · exact absurd z h4
    · exact .inr (.inr z)
    · exact .inr (.inl z)⟩
omit [Tabl] in
theorem look_some {i : Nat} {o : V} (h : σ[i]?.getD none = some o) : σ[i]? = some (some o) := by
  cases q : σ[i]? with
  | none =>
    rw [q] at h
    cases h
  | some u =>
    rw [q] at h
    exact congrArg Option.some h
theorem En.var (E : En K B M n G0 H0 G H σ δ) {i : Nat} {x : D} (h : δ[i]? = some (.d x)) : ∃ v, σ[i]? = some (some v) ∧ Is K G v x := by
  obtain ⟨v, e, a⟩ := E.slot i _ h
  exact ⟨v, look_some e, a⟩
theorem En.owo (E : En K B M n G0 H0 G H σ δ) {i : Nat} {o : MO} (h : δ[i]? = some (.ow o)) : ∃ p, σ[i]? = some (some (.ref p)) ∧ MOk K G H p o ∧ G p = none ∧ M p ∧ B ≠ some p ∧ n.μ p = none := by
  obtain ⟨p, e, a, b, c, d⟩ := E.slot i _ h
  exact ⟨p, look_some e, a, b, c, d, E.mow i o p h (look_some e)⟩
theorem En.ownd (E : En K B M n G0 H0 G H σ δ) {i : Nat} {xs : List D} (h : δ[i]? = some (.own xs)) : ∃ p vs, σ[i]? = some (some (.ref p)) ∧ H p = some (.lst vs) ∧ IsAll K G vs xs ∧ G p = none ∧ M p ∧ B ≠ some p := by
  obtain ⟨p, e, ⟨vs, h1, h2⟩, b, c, d, _⟩ := E.owo h
  exact ⟨p, vs, e, h1, h2, b, c, d⟩
theorem En.bagd (E : En K B M n G0 H0 G H σ δ) {i : Nat} (h : δ[i]? = some .bag) : ∃ p, σ[i]? = some (some (.ref p)) ∧ B = some p := by
  obtain ⟨p, e, a⟩ := E.slot i _ h
  exact ⟨p, look_some e, a⟩
theorem En.growM {n' : Sto} {G' H' : Hp} (E : En K B M n G0 H0 G H σ δ) (sg : Sub G G') (s : Sub G' H') (k : ∀ b o, H b = some o → B ≠ some b → n.μ b = none → (∀ ps, o ≠ .tbl ps) → H' b = some o) (fr : ∀ b, H b ≠ none → (∀ ps, H b ≠ some (.tbl ps)) → n.μ b = none → G b = none → G' b = none) (bg : ∀ p, B = some p → Bag H' p n'.n) (tb : Tabs Tabl.T H') (gn : ∀ b ps, G' b ≠ some (.tbl ps))
    (mb : ∀ a o, n'.μ a = some o → MOk K G' H' a o ∧ G' a = none ∧ B ≠ some a ∧ (H a = none ∨ n.μ a ≠ none ∨ ∃ ps, H a = some (.tbl ps))) : En K B M n' G0 H0 G' H' σ δ := by
  have nB : ∀ p, B = some p → n.μ p = none := fun p hp => by
    cases e : n.μ p with
    | none => rfl
    | some o => exact absurd hp (E.mob p o e).2.2.2
  have mM : ∀ b, n.μ b ≠ none → M b := fun b hb => by
    obtain ⟨o, e⟩ := some_of hb
    exact (E.mob b o e).2.2.1
  have nM : ∀ b, ¬ M b → n.μ b = none := fun b hb => Classical.byContradiction fun z => hb (mM b z)
  have key : ∀ b, (H' b = none ∨ ∃ ps, H' b = some (.tbl ps)) → M b := fun b hb => by
    by_cases z : B = some b
    · exact (E.bagged b z).2.2
    · cases e : H b with
      | none => exact E.free b e
      | some o =>
        by_cases nm : n.μ b = none
        · by_cases nt : ∀ ps, o ≠ .tbl ps
          · have := k b o e z nm nt
            rcases hb with hb | ⟨ps, hb⟩
            · rw [this] at hb
              cases hb
            · rw [this] at hb
              exact absurd (Option.some.inj hb) (nt ps)
          · obtain ⟨ps, nt⟩ := Classical.not_forall.mp nt
            exact E.tin b ps (by rw [e, Classical.not_not.mp nt])
        · exact mM b nm
  refine ⟨E.sub0.trans sg, s, fun b o e nm => k b o (E.same b o e nm) (fun z => nm (E.bagged b z).2.2) (nM b nm) fun ps z => nm (E.tin b ps (by rw [E.same b o e nm, z])), fun b hb => key b (.inl hb),
    fun b nm g0 => fr b (fun z => nm (E.free b z)) (fun ps z => nm (E.tin b ps z)) (nM b nm) (E.fresh b nm g0), fun p hp => ?_, tb, fun b ps hb => key b (.inr ⟨ps, hb⟩), gn, E.len, fun i s hs => ?_, E.dis, fun a o h => ?_, fun i x a hi hs => ?_⟩
  · obtain ⟨b1, b2, b3⟩ := E.bagged p hp
    exact ⟨bg p hp, fr p b1.some b1.notab (nB p hp) b2, b3⟩
  · have h := E.slot i s hs
    cases s with
    | un => trivial
    | d x =>
      obtain ⟨v, e, a⟩ := h
      exact ⟨v, e, a.mono sg⟩
    | ow o =>
      obtain ⟨p, e, a, gp, mp, np⟩ := h
      have nm := E.mow i o p hs (look_some e)
      obtain ⟨u, hu, pu⟩ := a.get
      exact ⟨p, e, a.mono sg ((k p u hu np nm pu.notab).trans hu.symm), fr p a.some a.notab nm gp, mp, np⟩
    | raw v => exact h
    | bag => exact h
    | scr ns => exact ⟨_, h.choose_spec.1, sg.seqL h.choose_spec.2⟩
    | exn a d fs => exact ⟨h.1, h.2.mono sg⟩
  · obtain ⟨h1, h2, h3, h4⟩ := mb a o h
    refine ⟨h1, h2, ?_, h3⟩
    rcases h4 with z | z | ⟨ps, z⟩
    · exact E.free a z
    · exact mM a z
    · exact E.tin a ps z
  · obtain ⟨p, e, mo, _, _, _, nm⟩ := E.owo hi
    rw [hs] at e
    have e : a = p := by injection (Option.some.inj (Option.some.inj e))
    subst e
    cases q : n'.μ a with
    | none => rfl
    | some o =>
      rcases (mb a o q).2.2.2 with z | z | ⟨ps, z⟩
      · exact absurd z mo.some
      · exact absurd nm z
      · exact absurd z (mo.notab ps)
theorem En.grow {n' : Sto} {G' H' : Hp} (E : En K B M n G0 H0 G H σ δ) (sg : Sub G G') (s : Sub G' H') (k : ∀ b o, H b = some o → B ≠ some b → (∀ ps, o ≠ .tbl ps) → H' b = some o) (fr : ∀ b, H b ≠ none → (∀ ps, H b ≠ some (.tbl ps)) → G b = none → G' b = none) (bg : ∀ p, B = some p → Bag H' p n'.n) (tb : Tabs Tabl.T H') (gn : ∀ b ps, G' b ≠ some (.tbl ps)) (hm : n'.μ = n.μ := by rfl) : En K B M n' G0 H0 G' H' σ δ :=
  E.growM sg s (fun b o e nb _ nt => k b o e nb nt) (fun b hb nt _ gb => fr b hb nt gb) bg tb gn fun a o h => by
    rw [hm] at h
    obtain ⟨h1, h2, h3, h4⟩ := E.mob a o h
    obtain ⟨u, hu, pu⟩ := h1.get
    exact ⟨h1.mono sg ((k a u hu h4 pu.notab).trans hu.symm), fr a h1.some h1.notab h2, h4, .inr (.inl (not_none h))⟩
theorem En.set {i : Nat} {o : Option V} {s : Slot} (E : En K B M n G0 H0 G H σ δ) (h : SlotOk K B M G H o s) (hd : ∀ x, s ≠ .ow x) : En K B M n G0 H0 G H (σ.set i o) (δ.set i s) := by
  have key : ∀ (m : Nat) (z : MO), (δ.set i s)[m]? = some (.ow z) → m ≠ i := fun m zs hm z => by
    subst z
    have hi : m < δ.length := by
      have := (List.getElem?_eq_some_iff.mp hm).1
      rw [List.length_set] at this
      exact this
    rw [List.getElem?_set_self hi] at hm
    exact absurd (Option.some.inj hm) (hd zs)
  refine ⟨E.sub0, E.sub, E.same, E.free, E.fresh, E.bagged, E.tabs, E.tin, E.gnt, by rw [List.length_set, List.length_set, E.len], fun j t ht => ?_, fun j k p xs ys hj hk sj sk => ?_, E.mob, fun j x a hj sj => ?_⟩
  · by_cases hj : i = j
    · subst hj
      have hi : i < δ.length := by
        have := (List.getElem?_eq_some_iff.mp ht).1
        rw [List.length_set] at this
        exact this
      rw [List.getElem?_set_self hi] at ht
      rw [List.getElem?_set_self (by rw [E.len]; exact hi)]
      cases ht
      exact h
    · rw [List.getElem?_set_ne hj] at ht
      rw [List.getElem?_set_ne hj]
      exact E.slot j t ht
  · have e1 := (key j xs hj).symm
    have e2 := (key k ys hk).symm
    rw [List.getElem?_set_ne e1] at hj sj
    rw [List.getElem?_set_ne e2] at hk sk
    exact E.dis j k p xs ys hj hk sj sk
  · have e1 := (key j x hj).symm
    rw [List.getElem?_set_ne e1] at hj sj
    exact E.mow j x a hj sj
theorem gnt_upd {G : Hp} {p : Addr} {o : HO} (g : ∀ b ps, G b ≠ some (.tbl ps)) (ho : ∀ ps, o ≠ .tbl ps) : ∀ b ps, upd G p o b ≠ some (.tbl ps) := fun b ps z => by
  by_cases hb : b = p
  · subst hb
    rw [upd_same] at z
    exact ho ps (Option.some.inj z)
  · rw [upd_ne hb] at z
    exact g b ps z
theorem En.laid {p : Addr} {o : HO} (E : En K B M n G0 H0 G H σ δ) (hp : H p = none) (ho : ∀ ps, o ≠ .tbl ps := by intro _ z; cases z) : En K B M n G0 H0 (upd G p o) (upd H p o) σ δ :=
  E.grow (Sub.new (E.sub.none hp)) E.sub.up (fun b u e _ _ => by rw [upd_ne (ne_of_none e hp)]; exact e)
    (fun b hb _ gb => by
      have : b ≠ p := fun z => hb (by rw [z]; exact hp)
      rw [upd_ne this]
      exact gb) (fun q hq => (E.bagged q hq).1.new hp) (tabs_but E.tabs (.inl hp)) (gnt_upd E.gnt ho)
theorem En.newc {p : Addr} {o : HO} (E : En K B M n G0 H0 G H σ δ) (hp : H p = none) : En K B M n G0 H0 G (upd H p o) σ δ :=
  E.grow (Sub.refl G) (E.sub.off (E.sub.none hp)) (fun b u e _ _ => by rw [upd_ne (ne_of_none e hp)]; exact e) (fun b _ _ g => g) (fun q hq => (E.bagged q hq).1.new hp) (tabs_but E.tabs (.inl hp)) E.gnt
theorem En.nomob {p : Addr} (E : En K B M n G0 H0 G H σ δ) (hp : H p = none) : n.μ p = none := by
  cases e : n.μ p with
  | none => rfl
  | some o => exact absurd hp (E.mob p o e).1.some
theorem En.ownO {i : Nat} {p : Addr} {u : HO} {o : MO} (E : En K B M n G0 H0 G H σ δ) (hp : H p = none) (a : MOk K G (upd H p u) p o) : En K B M n G0 H0 G (upd H p u) (σ.set i (some (.ref p))) (δ.set i (.ow o)) := by
  have gp := E.sub.none hp
  have nb : B ≠ some p := fun z => (E.bagged p z).1.some hp
  have E1 : En K B M n G0 H0 G (upd H p u) σ δ := E.newc hp
  have np := E.nomob hp
  have at_ : ∀ (j : Nat) (z : MO) (q : Addr), i = j → (δ.set i (.ow o))[j]? = some (.ow z) → (σ.set i (some (.ref p)))[j]? = some (some (.ref q)) → p = q := fun j z q hj hm sm => by
    subst hj
    have hi : i < δ.length := by
      have := (List.getElem?_eq_some_iff.mp hm).1
      rw [List.length_set] at this
      exact this
    rw [List.getElem?_set_self (by rw [E.len]; exact hi)] at sm
    injection (Option.some.inj (Option.some.inj sm))
  refine ⟨E1.sub0, E1.sub, E1.same, E1.free, E1.fresh, E1.bagged, E1.tabs, E1.tin, E1.gnt, by rw [List.length_set, List.length_set, E.len], fun j t ht => ?_, fun j k q xs' ys' hj hk sj sk => ?_, E1.mob, fun j x b hj sj => ?_⟩
  · by_cases hj : i = j
    · subst hj
      have hi : i < δ.length := by
        have := (List.getElem?_eq_some_iff.mp ht).1
        rw [List.length_set] at this
        exact this
      rw [List.getElem?_set_self hi] at ht
      rw [List.getElem?_set_self (by rw [E.len]; exact hi)]
      cases ht
      exact ⟨p, rfl, a, gp, E.free p hp, nb⟩
    · rw [List.getElem?_set_ne hj] at ht
      rw [List.getElem?_set_ne hj]
      exact E1.slot j t ht
  · have key : ∀ (m : Nat) (zs : MO), δ[m]? = some (.ow zs) → σ[m]? = some (some (.ref p)) → False := fun m zs hm sm => by
      obtain ⟨q, e1, e2, _⟩ := E.owo hm
      rw [sm] at e1
      have e1 : p = q := by injection (Option.some.inj (Option.some.inj e1))
      rw [← e1] at e2
      exact e2.some hp
    by_cases e1 : i = j
    · by_cases e2 : i = k
      · rw [← e1, ← e2]
      · have sj := at_ j xs' q e1 hj sj
        rw [List.getElem?_set_ne e2] at hk sk
        exact (key k ys' hk (by rw [sj]; exact sk)).elim
    · by_cases e2 : i = k
      · have sk := at_ k ys' q e2 hk sk
        rw [List.getElem?_set_ne e1] at hj sj
        exact (key j xs' hj (by rw [sk]; exact sj)).elim
      · rw [List.getElem?_set_ne e1] at hj sj
        rw [List.getElem?_set_ne e2] at hk sk
        exact E.dis j k q xs' ys' hj hk sj sk
  · by_cases e1 : i = j
    · rw [← at_ j x b e1 hj sj]
      exact np
    · rw [List.getElem?_set_ne e1] at hj sj
      exact E.mow j x b hj sj
theorem En.own {i : Nat} {p : Addr} {vs : List V} {xs : List D} (E : En K B M n G0 H0 G H σ δ) (hp : H p = none) (a : IsAll K G vs xs) : En K B M n G0 H0 G (upd H p (.lst vs)) (σ.set i (some (.ref p))) (δ.set i (.own xs)) :=
  E.ownO hp ⟨vs, upd_same, a⟩
theorem En.chgO {i : Nat} {p : Addr} {u : HO} {o o' : MO} (E : En K B M n G0 H0 G H σ δ) (hi : δ[i]? = some (.ow o)) (hs : σ[i]? = some (some (.ref p))) (a : MOk K G (upd H p u) p o') : En K B M n G0 H0 G (upd H p u) σ (δ.set i (.ow o')) := by
  obtain ⟨q, e1, mo, gp, mp, nb, nm⟩ := E.owo hi
  rw [hs] at e1
  have e1 : p = q := by injection (Option.some.inj (Option.some.inj e1))
  subst e1
  have hil : i < δ.length := (List.getElem?_eq_some_iff.mp hi).1
  have pu : Plain u := by
    obtain ⟨w, hw, pw⟩ := a.get
    rw [upd_same] at hw
    cases hw
    exact pw
  have hj' : ∀ (m : Nat) (zs : MO), (δ.set i (.ow o'))[m]? = some (.ow zs) → ∃ zs, δ[m]? = some (.ow zs) := fun m zs hm => by
    by_cases e1 : i = m
    · exact ⟨o, e1 ▸ hi⟩
    · rw [List.getElem?_set_ne e1] at hm
      exact ⟨zs, hm⟩
  refine ⟨E.sub0, E.sub.off gp, fun b o e hb => ?_, fun b hb => ?_, E.fresh, fun r hr => ?_, tabs_but E.tabs (.inr mo.get), fun b ps hb => ?_, E.gnt, by rw [List.length_set, E.len], fun j t ht => ?_, fun j k r zs ys hj hk sj sk => ?_, fun b z hb => ?_, fun j x b hj sj => ?_⟩
  · rw [upd_ne (ne_M mp hb)]
    exact E.same b o e hb
  · by_cases z : b = p
    · rw [z]
      exact mp
    · rw [upd_ne z] at hb
      exact E.free b hb
  · obtain ⟨b1, b2, b3⟩ := E.bagged r hr
    exact ⟨b1.mut fun z => nb (by rw [z]; exact hr), b2, b3⟩
  · by_cases z : b = p
    · rw [z]
      exact mp
    · rw [upd_ne z] at hb
      exact E.tin b ps hb
  · by_cases hj : i = j
    · subst hj
      rw [List.getElem?_set_self hil] at ht
      cases ht
      rw [hs]
      exact ⟨p, rfl, a, gp, mp, nb⟩
    · rw [List.getElem?_set_ne hj] at ht
      have h := E.slot j t ht
      cases t with
      | un => trivial
      | d x => exact h
      | ow zs =>
        obtain ⟨r, f1, f2, f3⟩ := h
        refine ⟨r, f1, f2.mono (Sub.refl G) ?_, f3⟩
        rw [upd_ne]
        intro z
        subst z
        exact hj (E.dis i j r o zs hi ht hs (look_some f1))
      | raw v => exact h
      | bag => exact h
      | scr ns => exact h
      | exn a d fs => exact h
  · obtain ⟨_, g1⟩ := hj' j zs hj
    obtain ⟨_, g2⟩ := hj' k ys hk
    exact E.dis j k r _ _ g1 g2 sj sk
  · obtain ⟨h1, h2⟩ := E.mob b z hb
    have : b ≠ p := fun y => by
      rw [y, nm] at hb
      cases hb
    exact ⟨h1.mono (Sub.refl G) (upd_ne this), h2⟩
  · obtain ⟨_, g1⟩ := hj' j x hj
    exact E.mow j _ b g1 sj
theorem En.chg {i : Nat} {p : Addr} {vs vs' : List V} {xs xs' : List D} (E : En K B M n G0 H0 G H σ δ) (hi : δ[i]? = some (.own xs)) (hs : σ[i]? = some (some (.ref p))) (hp : H p = some (.lst vs)) (a : IsAll K G vs' xs') : En K B M n G0 H0 G (upd H p (.lst vs')) σ (δ.set i (.own xs')) :=
  E.chgO hi hs ⟨vs', upd_same, a⟩
def MO.frz : MO → Option D
  | .lst xs => some (.lst xs) | .dic kvs => some (.dic kvs) | _ => none
theorem MOk.is {G H : Hp} {p : Addr} {o : MO} {d : D} {u : HO} (h : MOk K G H p o) (hu : H p = Option.some u) (hd : o.frz = Option.some d) (s : Sub G (upd G p u)) : Is K (upd G p u) (.ref p) d := by
  cases o with
  | lst xs =>
    cases hd
    obtain ⟨vs, a, b⟩ := h
    rw [a] at hu
    cases hu
    exact .lst upd_same (b.mono s)
  | dic xs =>
    cases hd
    obtain ⟨vs, a, b⟩ := h
    rw [a] at hu
    cases hu
    exact .dic (.inl upd_same) (b.mono s)
  | ins C dx fs => cases hd
  | dt xs => cases hd
  | ex Q => cases hd
theorem En.frzO {i : Nat} {o : MO} {d : D} (E : En K B M n G0 H0 G H σ δ) (hi : δ[i]? = some (.ow o)) (hd : o.frz = some d) : ∃ G', Sub G G' ∧ En K B M n G0 H0 G' H σ (δ.set i (.d d)) := by
  obtain ⟨p, e1, mo, gp, mp, nb, nm⟩ := E.owo hi
  obtain ⟨u, hu, pu⟩ := mo.get
  have hil : i < δ.length := (List.getElem?_eq_some_iff.mp hi).1
  have sg : Sub G (upd G p u) := Sub.new gp
  have hj' : ∀ (m : Nat) (zs : MO), (δ.set i (.d d))[m]? = some (.ow zs) → δ[m]? = some (.ow zs) := fun m zs hm => by
    by_cases e : i = m
    · subst e
      rw [List.getElem?_set_self hil] at hm
      cases hm
    · rw [List.getElem?_set_ne e] at hm
      exact hm
  refine ⟨upd G p u, sg, E.sub0.trans sg, fun b o e => ?_, E.same, E.free, fun b hb gb => ?_, fun r hr => ?_, E.tabs, E.tin, gnt_upd E.gnt pu.notab, by rw [List.length_set, E.len], fun j t ht => ?_, fun j k r zs ys hj hk sj sk => ?_, fun b z hb => ?_, fun j x b hj sj => ?_⟩
  · by_cases hb : b = p
    · subst hb
      rw [upd_same] at e
      cases e
      exact hu
    · rw [upd_ne hb] at e
      exact E.sub b o e
  · rw [upd_ne (ne_M mp hb)]
    exact E.fresh b hb gb
  · obtain ⟨b1, b2, b3⟩ := E.bagged r hr
    exact ⟨b1, by rw [upd_ne fun z => nb (by rw [← z]; exact hr)]; exact b2, b3⟩
  · by_cases hj : i = j
    · subst hj
      rw [List.getElem?_set_self hil] at ht
      cases ht
      rw [e1]
      exact ⟨_, rfl, mo.is hu hd sg⟩
    · rw [List.getElem?_set_ne hj] at ht
      have h := E.slot j t ht
      cases t with
      | un => trivial
      | d x =>
        obtain ⟨v, f1, f2⟩ := h
        exact ⟨v, f1, f2.mono sg⟩
      | ow zs =>
        obtain ⟨r, f1, f2, f4, f5⟩ := h
        refine ⟨r, f1, f2.mono sg rfl, ?_, f5⟩
        rw [upd_ne]
        · exact f4
        · intro z
          subst z
          exact hj (E.dis i j r o zs hi ht e1 (look_some f1))
      | raw v => exact h
      | bag => exact h
      | scr ns => exact ⟨_, h.choose_spec.1, sg.seqL h.choose_spec.2⟩
      | exn a d fs => exact ⟨h.1, h.2.mono sg⟩
  · exact E.dis j k r zs ys (hj' j zs hj) (hj' k ys hk) sj sk
  · obtain ⟨h1, h2, h3, h4⟩ := E.mob b z hb
    have : b ≠ p := fun y => by
      rw [y, nm] at hb
      cases hb
    exact ⟨h1.mono sg rfl, by rw [upd_ne this]; exact h2, h3, h4⟩
  · exact E.mow j x b (hj' j x hj) sj
theorem En.frz {i : Nat} {xs : List D} (E : En K B M n G0 H0 G H σ δ) (hi : δ[i]? = some (.own xs)) : ∃ G', Sub G G' ∧ En K B M n G0 H0 G' H σ (δ.set i (.d (.lst xs))) := E.frzO hi rfl
theorem En.rebase {c : Addr} (E : En K B M n G0 H0 G H σ δ) (hc : B ≠ some c) (hm : n.μ c = none) (ho : ∀ (i : Nat) (x : MO), δ[i]? = some (.ow x) → σ[i]? ≠ some (some (.ref c))) (hs : ∃ o, H c = some o ∧ ∀ ps, o ≠ .tbl ps) : En K B (fun b => M b ∧ b ≠ c) n G H G H σ δ where
  sub0 := Sub.refl G
  sub := E.sub
  same := fun b o e _ => e
  free := fun b hb => ⟨E.free b hb, fun z => by
    obtain ⟨xs, hs, _⟩ := hs
    rw [z, hs] at hb
    cases hb⟩
  tabs := E.tabs
  gnt := E.gnt
  tin := fun b ps hb => ⟨E.tin b ps hb, fun z => by
    obtain ⟨xs, hs, nt⟩ := hs
    rw [z, hs] at hb
    exact nt ps (Option.some.inj hb)⟩
  fresh := fun b _ g => g
  bagged := fun p hp => ⟨(E.bagged p hp).1, (E.bagged p hp).2.1, (E.bagged p hp).2.2, fun z => hc (z ▸ hp)⟩
  len := E.len
  slot := fun i s hs => by
    have h := E.slot i s hs
    cases s with
    | un => trivial
    | d x => exact h
    | ow x =>
      obtain ⟨p, e, hp, gp, mp, np⟩ := h
      exact ⟨p, e, hp, gp, ⟨mp, fun z => ho i x hs (z ▸ look_some e)⟩, np⟩
    | raw v => exact h
    | bag => exact h
    | scr ns => exact h
    | exn a d fs => exact h
  dis := E.dis
  mob := fun a o h => by
    obtain ⟨h1, h2, h3, h4⟩ := E.mob a o h
    exact ⟨h1, h2, ⟨h3, fun z => by rw [z, hm] at h; cases h⟩, h4⟩
  mow := E.mow
theorem En.back {n' : Sto} {c : Addr} {G' H' : Hp} {σ' : L2.St} {δ' : List Slot} (E : En K B M n G0 H0 G H σ δ) (E' : En K B (fun b => M b ∧ b ≠ c) n' G H G' H' σ' δ') : En K B M n' G0 H0 G' H' σ' δ' where
  sub0 := E.sub0.trans E'.sub0
  sub := E'.sub
  same := fun b o e nm => E'.same b o (E.same b o e nm) fun z => nm z.1
  free := fun b hb => (E'.free b hb).1
  fresh := fun b nm g0 => E'.fresh b (fun z => nm z.1) (E.fresh b nm g0)
  bagged := fun p hp => ⟨(E'.bagged p hp).1, (E'.bagged p hp).2.1, (E'.bagged p hp).2.2.1⟩
  tabs := E'.tabs
  gnt := E'.gnt
  tin := fun b ps hb => (E'.tin b ps hb).1
  len := E'.len
  slot := fun i s hs => by
    have h := E'.slot i s hs
    cases s with
    | un => trivial
    | d x => exact h
    | ow x =>
      obtain ⟨p, e, hp, gp, mp, np⟩ := h
      exact ⟨p, e, hp, gp, mp.1, np⟩
    | raw v => exact h
    | bag => exact h
    | scr ns => exact h
    | exn a d fs => exact h
  dis := E'.dis
  mob := fun a o h => by
    obtain ⟨h1, h2, h3, h4⟩ := E'.mob a o h
    exact ⟨h1, h2, h3.1, h4⟩
  mow := E'.mow
theorem En.beside {c : Addr} {u : HO} (E : En K B M n G0 H0 G H σ δ) (hl : H c = none ∨ ∃ u, H c = some u ∧ Plain u) (hu : ∀ ps, u ≠ .tbl ps) (hc : B ≠ some c) (hm : n.μ c = none) (gc : G c = none) (mc : M c) (ho : ∀ (i : Nat) (x : MO), δ[i]? = some (.ow x) → σ[i]? ≠ some (some (.ref c))) : En K B M n G0 H0 G (upd H c u) σ δ where
  sub0 := E.sub0
  sub := E.sub.off gc
  same := fun b u e nm => by
    rw [upd_ne (ne_M mc nm)]
    exact E.same b u e nm
  free := fun b hb => by
    by_cases z : b = c
    · rw [z]
      exact mc
    · rw [upd_ne z] at hb
      exact E.free b hb
  fresh := E.fresh
  bagged := fun p hp => ⟨(E.bagged p hp).1.mut fun z => hc (z ▸ hp), (E.bagged p hp).2⟩
  tabs := tabs_but E.tabs hl
  gnt := E.gnt
  tin := fun b ps hb => by
    by_cases z : b = c
    · rw [z]
      exact mc
    · rw [upd_ne z] at hb
      exact E.tin b ps hb
  len := E.len
  slot := fun i s hs => by
    have h := E.slot i s hs
    cases s with
    | un => trivial
    | d x => exact h
    | ow x =>
      obtain ⟨p, e, hp, r⟩ := h
      exact ⟨p, e, hp.mono (Sub.refl G) (upd_ne (fun (z : p = c) => ho i x hs (by rw [← z]; exact look_some e))), r⟩
    | raw v => exact h
    | bag => exact h
    | scr ns => exact h
    | exn a d fs => exact h
  dis := E.dis
  mob := fun a o h => by
    obtain ⟨h1, h2⟩ := E.mob a o h
    exact ⟨h1.mono (Sub.refl G) (upd_ne fun z => by rw [z, hm] at h; cases h), h2⟩
  mow := E.mow
theorem En.mnew {p : Addr} {u : HO} {o : MO} (E : En K B M n G0 H0 G H σ δ) (hp : H p = none) (a : MOk K G (upd H p u) p o) : En K B M (n.put p o) G0 H0 G (upd H p u) σ δ := by
  have E1 : En K B M n G0 H0 G (upd H p u) σ δ := E.newc hp
  refine ⟨E1.sub0, E1.sub, E1.same, E1.free, E1.fresh, E1.bagged, E1.tabs, E1.tin, E1.gnt, E1.len, E1.slot, E1.dis, fun b z hb => ?_, fun i x b hi hs => ?_⟩
  · by_cases e : b = p
    · subst e
      rw [Sto.put_same] at hb
      cases hb
      exact ⟨a, E.sub.none hp, E.free b hp, fun z => (E.bagged b z).1.some hp⟩
    · rw [Sto.put_ne e] at hb
      exact E1.mob b z hb
  · obtain ⟨q, e1, mo, _⟩ := E.owo hi
    rw [hs] at e1
    have e1 : b = q := by injection (Option.some.inj (Option.some.inj e1))
    subst e1
    rw [Sto.put_ne (fun z => mo.some (by rw [z]; exact hp))]
    exact E1.mow i x b hi hs
theorem En.mchg {p : Addr} {u : HO} {o o' : MO} (E : En K B M n G0 H0 G H σ δ) (hp : n.μ p = some o) (a : MOk K G (upd H p u) p o') : En K B M (n.put p o') G0 H0 G (upd H p u) σ δ := by
  obtain ⟨mo, gp, mp, nb⟩ := E.mob p o hp
  have np : ∀ (i : Nat) (x : MO) (b : Addr), δ[i]? = some (.ow x) → σ[i]? = some (some (.ref b)) → b ≠ p := fun i x b hi hs z => by
    have := E.mow i x b hi hs
    rw [z, hp] at this
    cases this
  refine ⟨E.sub0, E.sub.off gp, fun b o e hb => ?_, fun b hb => ?_, E.fresh, fun r hr => ?_, tabs_but E.tabs (.inr mo.get), fun b ps hb => ?_, E.gnt, E.len, fun j t ht => ?_, E.dis, fun b z hb => ?_, fun j x b hj sj => ?_⟩
  · rw [upd_ne (ne_M mp hb)]
    exact E.same b o e hb
  · by_cases z : b = p
    · rw [z]
      exact mp
    · rw [upd_ne z] at hb
      exact E.free b hb
  · obtain ⟨b1, b2, b3⟩ := E.bagged r hr
    exact ⟨b1.mut fun z => nb (by rw [z]; exact hr), b2, b3⟩
  · by_cases z : b = p
    · rw [z]
      exact mp
    · rw [upd_ne z] at hb
      exact E.tin b ps hb
  · have h := E.slot j t ht
    cases t with
    | un => trivial
    | d x => exact h
    | ow x =>
      obtain ⟨r, f1, f2, f3⟩ := h
      exact ⟨r, f1, f2.mono (Sub.refl G) (upd_ne (np j x r ht (look_some f1))), f3⟩
    | raw v => exact h
    | bag => exact h
    | scr ns => exact h
    | exn a d fs => exact h
  · by_cases e : b = p
    · subst e
      rw [Sto.put_same] at hb
      cases hb
      exact ⟨a, gp, mp, nb⟩
    · rw [Sto.put_ne e] at hb
      obtain ⟨h1, h2⟩ := E.mob b z hb
      exact ⟨h1.mono (Sub.refl G) (upd_ne e), h2⟩
  · rw [Sto.put_ne (np j x b hj sj)]
    exact E.mow j x b hj sj
theorem En.mfrz {p : Addr} {o : MO} {d : D} (E : En K B M n G0 H0 G H σ δ) (hp : n.μ p = some o) (hd : o.frz = some d) : ∃ G', Sub G G' ∧ En K B M (n.off p) G0 H0 G' H σ δ ∧ Is K G' (.ref p) d := by
  obtain ⟨mo, gp, mp, nb⟩ := E.mob p o hp
  obtain ⟨u, hu, pu⟩ := mo.get
  have sg : Sub G (upd G p u) := Sub.new gp
  have np : ∀ (i : Nat) (x : MO) (b : Addr), δ[i]? = some (.ow x) → σ[i]? = some (some (.ref b)) → b ≠ p := fun i x b hi hs z => by
    have := E.mow i x b hi hs
    rw [z, hp] at this
    cases this
  refine ⟨upd G p u, sg, ⟨E.sub0.trans sg, fun b o e => ?_, E.same, E.free, fun b hb gb => ?_, fun r hr => ?_, E.tabs, E.tin, gnt_upd E.gnt pu.notab, E.len, fun j t ht => ?_, E.dis, fun b z hb => ?_, fun j x b hj sj => ?_⟩, mo.is hu hd sg⟩
  · by_cases hb : b = p
    · subst hb
      rw [upd_same] at e
      cases e
      exact hu
    · rw [upd_ne hb] at e
      exact E.sub b o e
  · rw [upd_ne (ne_M mp hb)]
    exact E.fresh b hb gb
  · obtain ⟨b1, b2, b3⟩ := E.bagged r hr
    exact ⟨b1, by rw [upd_ne fun z => nb (by rw [← z]; exact hr)]; exact b2, b3⟩
  · have h := E.slot j t ht
    cases t with
    | un => trivial
    | d x =>
      obtain ⟨v, f1, f2⟩ := h
      exact ⟨v, f1, f2.mono sg⟩
    | ow x =>
      obtain ⟨r, f1, f2, f4, f5⟩ := h
      exact ⟨r, f1, f2.mono sg rfl, by rw [upd_ne (np j x r ht (look_some f1))]; exact f4, f5⟩
    | raw v => exact h
    | bag => exact h
    | scr ns => exact ⟨_, h.choose_spec.1, sg.seqL h.choose_spec.2⟩
    | exn a d fs => exact ⟨h.1, h.2.mono sg⟩
  · have e : b ≠ p := fun z => by
      rw [z, Sto.off_same] at hb
      cases hb
    rw [Sto.off_ne e] at hb
    obtain ⟨h1, h2, h3, h4⟩ := E.mob b z hb
    exact ⟨h1.mono sg rfl, by rw [upd_ne e]; exact h2, h3, h4⟩
  · rw [Sto.off_ne (np j x b hj sj)]
    exact E.mow j x b hj sj
end
end Tl
namespace Tl
open PySem L2 TL LamX
structure Exn where
  cls : Value
  fs : List (Str × D)
structure XZ where
  W : WX
  X : Exn → List Slot → Sto → Prop
def WOk [Tabl] (K : PySem.W.Frag) (Z : XZ) (B : Option Addr) (M : Addr → Prop) (G0 H0 : Hp) : Prop :=
  ∀ (e : Exn) (d : Option Addr) (σ : L2.St) (δ : List Slot) (G H : Hp) (n : Sto), Z.X e δ n → En K B M n G0 H0 G H σ δ → XIs K G d e.fs → Z.W e.cls d σ H
def XZ.calm : XZ := ⟨fun _ _ _ _ => False, fun _ _ _ => False⟩
theorem WOk.calm [Tabl] {K : PySem.W.Frag} {B : Option Addr} {M : Addr → Prop} {G0 H0 : Hp} : WOk K .calm B M G0 H0 := fun _ _ _ _ _ _ _ z => z.elim
section
variable [Tabl] (K : PySem.W.Frag) (Z : XZ)
def GK (te : TE) (δ : List Slot) (n : Sto) (Φ : D → Sto → Prop) : Prop :=
  ∀ (B : Option Addr) (M : Addr → Prop) (G0 H0 : Hp), WOk K Z B M G0 H0 → ∀ (G H : Hp) (σ : L2.St), En K B M n G0 H0 G H σ δ → ∀ Q : VK, (∀ (v : V) (d : D) (G' H' : Hp) (n' : Sto), Φ d n' → En K B M n' G0 H0 G' H' σ δ → Sub G G' → Is K G' v d → Q v H') → te σ H Q
def GA (ta : TA) (δ : List Slot) (n : Sto) (Φ : List D → Sto → Prop) : Prop :=
  ∀ (B : Option Addr) (M : Addr → Prop) (G0 H0 : Hp), WOk K Z B M G0 H0 → ∀ (G H : Hp) (σ : L2.St), En K B M n G0 H0 G H σ δ → ∀ Q : List V → Hp → Prop, (∀ (vs : List V) (ds : List D) (G' H' : Hp) (n' : Sto), Φ ds n' → En K B M n' G0 H0 G' H' σ δ → Sub G G' → IsAll K G' vs ds → Q vs H') → ta σ H Q
def GT (tt : TT) (δ : List Slot) (n : Sto) (Φ : Bool → Sto → Prop) : Prop :=
  ∀ (B : Option Addr) (M : Addr → Prop) (G0 H0 : Hp), WOk K Z B M G0 H0 → ∀ (G H : Hp) (σ : L2.St), En K B M n G0 H0 G H σ δ → ∀ Q : Bool → Hp → Prop, (∀ (b : Bool) (G' H' : Hp) (n' : Sto), Φ b n' → En K B M n' G0 H0 G' H' σ δ → Sub G G' → Q b H') → tt σ H Q
def GO (to : TO) (δ : List Slot) (n : Sto) (Φ : Option Int → Sto → Prop) : Prop :=
  ∀ (B : Option Addr) (M : Addr → Prop) (G0 H0 : Hp), WOk K Z B M G0 H0 → ∀ (G H : Hp) (σ : L2.St), En K B M n G0 H0 G H σ δ → ∀ Q : Option Int → Hp → Prop, (∀ (b : Option Int) (G' H' : Hp) (n' : Sto), Φ b n' → En K B M n' G0 H0 G' H' σ δ → Sub G G' → Q b H') → to σ H Q
def RK (r : R2) (x y : D) (δ : List Slot) (n : Sto) (Φ : D → Sto → Prop) : Prop :=
  ∀ (B : Option Addr) (M : Addr → Prop) (G0 H0 : Hp), WOk K Z B M G0 H0 → ∀ (G H : Hp) (σ : L2.St), En K B M n G0 H0 G H σ δ → ∀ (v w : V), Is K G v x → Is K G w y → ∀ Q : VK, (∀ (v : V) (d : D) (G' H' : Hp) (n' : Sto), Φ d n' → En K B M n' G0 H0 G' H' σ δ → Sub G G' → Is K G' v d → Q v H') → r v w H Q
def RU (r : V → Hp → VK → Prop) (x : D) (δ : List Slot) (n : Sto) (Φ : D → Sto → Prop) : Prop :=
  ∀ (B : Option Addr) (M : Addr → Prop) (G0 H0 : Hp), WOk K Z B M G0 H0 → ∀ (G H : Hp) (σ : L2.St), En K B M n G0 H0 G H σ δ → ∀ (v : V), Is K G v x → ∀ Q : VK, (∀ (v : V) (d : D) (G' H' : Hp) (n' : Sto), Φ d n' → En K B M n' G0 H0 G' H' σ δ → Sub G G' → Is K G' v d → Q v H') → r v H Q
def RC (r : List V → Hp → VK → Prop) (xs : List D) (δ : List Slot) (n : Sto) (Φ : D → Sto → Prop) : Prop :=
  ∀ (B : Option Addr) (M : Addr → Prop) (G0 H0 : Hp), WOk K Z B M G0 H0 → ∀ (G H : Hp) (σ : L2.St), En K B M n G0 H0 G H σ δ → ∀ (vs : List V), IsAll K G vs xs → ∀ Q : VK, (∀ (v : V) (d : D) (G' H' : Hp) (n' : Sto), Φ d n' → En K B M n' G0 H0 G' H' σ δ → Sub G G' → Is K G' v d → Q v H') → r vs H Q
def RS (r : V → Option Int → Option Int → Hp → VK → Prop) (x : D) (lo hi : Option Int) (δ : List Slot) (n : Sto) (Φ : D → Sto → Prop) : Prop :=
  ∀ (B : Option Addr) (M : Addr → Prop) (G0 H0 : Hp), WOk K Z B M G0 H0 → ∀ (G H : Hp) (σ : L2.St), En K B M n G0 H0 G H σ δ → ∀ (v : V), Is K G v x → ∀ Q : VK, (∀ (v : V) (d : D) (G' H' : Hp) (n' : Sto), Φ d n' → En K B M n' G0 H0 G' H' σ δ → Sub G G' → Is K G' v d → Q v H') → r v lo hi H Q
def SC (sp : Sp) (xs : List D) (δ : List Slot) (n : Sto) (Φ : D → Sto → Prop) : Prop :=
  ∀ (B : Option Addr) (M : Addr → Prop) (G0 H0 : Hp), WOk K Z B M G0 H0 → ∀ (G H : Hp) (σ : L2.St), En K B M n G0 H0 G H σ δ → ∀ (vs : List V), IsAll K G vs xs → ∀ (Q : VK) (E : XK), (∀ (v : V) (d : D) (G' H' : Hp) (n' : Sto), Φ d n' → En K B M n' G0 H0 G' H' σ δ → Sub G G' → Is K G' v d → Q v H') → sp vs H Q E
def SB (sp : Sp) (xs : List D) (δ : List Slot) (n : Sto) (Φ : D → Sto → Prop) : Prop :=
  ∀ (p : Addr) (M : Addr → Prop) (G0 H0 : Hp), WOk K Z (some p) M G0 H0 → ∀ (G H : Hp) (σ : L2.St), En K (some p) M n G0 H0 G H σ δ → ∀ (vs : List V), IsAll K G vs xs → ∀ (Q : VK) (E : XK), (∀ (v : V) (d : D) (G' H' : Hp) (n' : Sto), Φ d n' → En K (some p) M n' G0 H0 G' H' σ δ → Sub G G' → Is K G' v d → Q v H') → sp (.ref p :: vs) H Q E
def GS (B : Option Addr) (ts : TS) (δ : List Slot) (n : Sto) (N : List Slot → Sto → Prop) (R : D → Sto → Prop) (Bk Ct : List Slot → Sto → Prop) : Prop :=
  ∀ (m0 : Addr → Option MO) (G0 H0 : Hp), WOk K Z B (MOf B m0 H0) G0 H0 → ∀ (G H : Hp) (σ : L2.St) (E : Ends), En K B (MOf B m0 H0) n G0 H0 G H σ δ → (∀ σ' δ' G' H' n', N δ' n' → En K B (MOf B m0 H0) n' G0 H0 G' H' σ' δ' → Sub G G' → E.nx σ' H') →
    (∀ v d G' H' n', R d n' → Eo K B m0 n' G0 H0 G' H' → Is K G' v d → E.rt v H') → (∀ σ' δ' G' H' n', Bk δ' n' → En K B (MOf B m0 H0) n' G0 H0 G' H' σ' δ' → Sub G G' → E.bk σ' H') → (∀ σ' δ' G' H' n', Ct δ' n' → En K B (MOf B m0 H0) n' G0 H0 G' H' σ' δ' → Sub G G' → E.ct σ' H') → ts E σ H
end
section
variable [Tabl] {K : PySem.W.Frag} {Z : XZ} {B : Option Addr} {δ : List Slot} {n : Sto} {Φ : D → Sto → Prop} {ta tb te : TE} {aa ab : TA} {tt tu : TT} {N Bk Ct : List Slot → Sto → Prop} {R : D → Sto → Prop} {ts tz : TS}
theorem gk_var {i : Nat} {x : D} (h : δ[i]? = some (.d x)) (k : Φ x n) : GK K Z (tVar i) δ n Φ := fun B M G0 H0 xw G H σ E Q q => by
  obtain ⟨v, e, a⟩ := E.var h
  exact ⟨v, e, q v x G H n k E (Sub.refl G) a⟩
theorem gk_c {v : V} (h : scl v = true) (k : Φ (ofV v) n) : GK K Z (tC v) δ n Φ := fun B M G0 H0 xw G H σ E Q q => q v _ G H n k E (Sub.refl G) (Is.scl h)
theorem gk_op {r : R2} (h : GK K Z ta δ n fun x n1 => GK K Z tb δ n1 fun y n2 => RK K Z r x y δ n2 Φ) : GK K Z (tOp r ta tb) δ n Φ := fun B M G0 H0 xw G H σ E Q q =>
  h B M G0 H0 xw G H σ E _ fun v x G1 H1 n1 f1 E1 s1 a1 => f1 B M G0 H0 xw G1 H1 σ E1 _ fun w y G2 H2 n2 f2 E2 s2 a2 => f2 B M G0 H0 xw G2 H2 σ E2 v w (a1.mono s2) a2 Q fun u d G3 H3 n3 f3 E3 s3 a3 => q u d G3 H3 n3 f3 E3 ((s1.trans s2).trans s3) a3
theorem gk_un {r : V → Hp → VK → Prop} (h : GK K Z ta δ n fun x n1 => RU K Z r x δ n1 Φ) : GK K Z (tUn r ta) δ n Φ := fun B M G0 H0 xw G H σ E Q q =>
  h B M G0 H0 xw G H σ E _ fun v x G1 H1 n1 f1 E1 s1 a1 => f1 B M G0 H0 xw G1 H1 σ E1 v a1 Q fun u d G3 H3 n3 f3 E3 s3 a3 => q u d G3 H3 n3 f3 E3 (s1.trans s3) a3
theorem ga_nil {Φ : List D → Sto → Prop} (k : Φ [] n) : GA K Z tNil δ n Φ := fun B M G0 H0 xw G H σ E Q q => q [] [] G H n k E (Sub.refl G) .nil
theorem ga_cons {Φ : List D → Sto → Prop} (h : GK K Z ta δ n fun x n1 => GA K Z aa δ n1 fun xs n2 => Φ (x :: xs) n2) : GA K Z (tCons ta aa) δ n Φ := fun B M G0 H0 xw G H σ E Q q =>
  h B M G0 H0 xw G H σ E _ fun v x G1 H1 n1 f1 E1 s1 a1 => f1 B M G0 H0 xw G1 H1 σ E1 _ fun vs xs G2 H2 n2 f2 E2 s2 a2 => q (v :: vs) (x :: xs) G2 H2 n2 f2 E2 (s1.trans s2) (.cons (a1.mono s2) a2)
theorem gk_tup (h : GA K Z aa δ n fun xs n1 => xs.length ≤ 100000 ∧ Φ (.tup xs) n1) : GK K Z (tTup aa) δ n Φ := fun B M G0 H0 xw G H σ E Q q =>
  h B M G0 H0 xw G H σ E _ fun vs xs G1 H1 n1 f1 E1 s1 a1 => ⟨by rw [a1.len]; exact sz_ f1.1, fun p hp =>
    have s2 := Sub.new (o := .tup vs) (E1.sub.none hp)
    q _ _ _ _ n1 f1.2 (E1.laid hp) (s1.trans s2) (.tup (SqT.of upd_same) (a1.mono s2))⟩
theorem gk_lst (h : GA K Z aa δ n fun xs n1 => xs.length ≤ 100000 ∧ Φ (.lst xs) n1) : GK K Z (tLst aa) δ n Φ := fun B M G0 H0 xw G H σ E Q q =>
  h B M G0 H0 xw G H σ E _ fun vs xs G1 H1 n1 f1 E1 s1 a1 => ⟨by rw [a1.len]; exact sz_ f1.1, fun p hp =>
    have s2 := Sub.new (o := .lst vs) (E1.sub.none hp)
    q _ _ _ _ n1 f1.2 (E1.laid hp) (s1.trans s2) (.lst upd_same (a1.mono s2))⟩
theorem gk_cb {r : List V → Hp → VK → Prop} (h : GA K Z aa δ n fun xs n1 => RC K Z r xs δ n1 Φ) : GK K Z (tCB r aa) δ n Φ := fun B M G0 H0 xw G H σ E Q q =>
  h B M G0 H0 xw G H σ E _ fun vs xs G1 H1 n1 f1 E1 s1 a1 => f1 B M G0 H0 xw G1 H1 σ E1 vs a1 Q fun u d G3 H3 n3 f3 E3 s3 a3 => q u d G3 H3 n3 f3 E3 (s1.trans s3) a3
theorem gk_call {sp : Sp} {E : XK} (h : GA K Z aa δ n fun xs n1 => SC K Z sp xs δ n1 Φ) : GK K Z (tCall sp [] E aa) δ n Φ := fun B M G0 H0 xw G H σ E Q q =>
  h B M G0 H0 xw G H σ E _ fun vs xs G1 H1 n1 f1 E1 s1 a1 => by
    show sp (vs ++ []) _ _ _
    rw [List.append_nil]
    exact f1 B M G0 H0 xw G1 H1 σ E1 vs a1 Q _ fun u d G3 H3 n3 f3 E3 s3 a3 => q u d G3 H3 n3 f3 E3 (s1.trans s3) a3
theorem gk_callB {sp : Sp} {E : XK} {i : Nat} (hi : δ[i]? = some .bag) (h : GA K Z aa δ n fun xs n1 => SB K Z sp xs δ n1 Φ) : GK K Z (tCall sp [] E (tCons (tVar i) aa)) δ n Φ := fun B M G0 H0 xw G H σ E Q q => by
  obtain ⟨p, e, rfl⟩ := E.bagd hi
  refine ⟨.ref p, e, ?_⟩
  refine h (some p) M G0 H0 xw G H σ E _ fun vs xs G1 H1 n1 f1 E1 s1 a1 => ?_
  show sp ((.ref p :: vs) ++ []) _ _ _
  rw [List.append_nil]
  exact f1 p M G0 H0 xw G1 H1 σ E1 vs a1 Q _ fun u d G3 H3 n3 f3 E3 s3 a3 => q u d G3 H3 n3 f3 E3 (s1.trans s3) a3
theorem gk_callN {sp : Sp} {E : XK} {k m : Nat} {gV : List V → List V → List V} {gD : List D → List D → List D} (hg : ∀ {G : Hp} {vs zs : List V} {xs ys : List D}, IsAll K G vs xs → IsAll K G zs ys → IsAll K G (gV vs zs) (gD xs ys))
    (h : GA K Z aa δ n fun xs n1 => GA K Z ab δ n1 fun ys n2 => xs.length = k ∧ ys.length = m ∧ SC K Z sp (gD xs ys) δ n2 Φ) : GK K Z (tCallN k m sp gV E aa ab) δ n Φ := fun B M G0 H0 xw G H σ E Q q =>
  h B M G0 H0 xw G H σ E _ fun vs xs G1 H1 n1 f1 E1 s1 a1 => f1 B M G0 H0 xw G1 H1 σ E1 _ fun zs ys G2 H2 n2 f2 E2 s2 a2 =>
    ⟨(a1.len).trans f2.1, (a2.len).trans f2.2.1, f2.2.2 B M G0 H0 xw G2 H2 σ E2 _ (hg (a1.mono s2) a2) Q _ fun u d G3 H3 n3 f3 E3 s3 a3 => q u d G3 H3 n3 f3 E3 ((s1.trans s2).trans s3) a3⟩
theorem gk_ifE (h : GT K Z tt δ n fun b n1 => (b = true → GK K Z ta δ n1 Φ) ∧ (b = false → GK K Z tb δ n1 Φ)) : GK K Z (tIf tt ta tb) δ n Φ := fun B M G0 H0 xw G H σ E Q q =>
  h B M G0 H0 xw G H σ E _ fun b G1 H1 n1 f1 E1 s1 => by
    cases b with
    | true =>
      show ta σ H1 Q
      exact f1.1 rfl B M G0 H0 xw G1 H1 σ E1 Q fun u d G3 H3 n3 f3 E3 s3 a3 => q u d G3 H3 n3 f3 E3 (s1.trans s3) a3
    | false =>
      show tb σ H1 Q
      exact f1.2 rfl B M G0 H0 xw G1 H1 σ E1 Q fun u d G3 H3 n3 f3 E3 s3 a3 => q u d G3 H3 n3 f3 E3 (s1.trans s3) a3
theorem gk_andV (h : GK K Z ta δ n fun x n1 => ∃ b, x = .bl b ∧ (b = true → GK K Z tb δ n1 Φ) ∧ (b = false → Φ (.bl false) n1)) : GK K Z (tAndV ta tb) δ n Φ := fun B M G0 H0 xw G H σ E Q q =>
  h B M G0 H0 xw G H σ E _ fun v x G1 H1 n1 f1 E1 s1 a1 => by
    obtain ⟨b, rfl, h1, h2⟩ := f1
    cases a1
    refine ⟨b, rfl, ?_⟩
    cases b with
    | true =>
      show tb σ H1 Q
      exact h1 rfl B M G0 H0 xw G1 H1 σ E1 Q fun u d G3 H3 n3 f3 E3 s3 a3 => q u d G3 H3 n3 f3 E3 (s1.trans s3) a3
    | false => exact q _ _ G1 H1 n1 (h2 rfl) E1 s1 (.bl false)
theorem gk_orV (h : GK K Z ta δ n fun x n1 => ∃ b, x = .bl b ∧ (b = true → Φ (.bl true) n1) ∧ (b = false → GK K Z tb δ n1 Φ)) : GK K Z (tOrV ta tb) δ n Φ := fun B M G0 H0 xw G H σ E Q q =>
  h B M G0 H0 xw G H σ E _ fun v x G1 H1 n1 f1 E1 s1 a1 => by
    obtain ⟨b, rfl, h1, h2⟩ := f1
    cases a1
    refine ⟨b, rfl, ?_⟩
    cases b with
    | true => exact q _ _ G1 H1 n1 (h1 rfl) E1 s1 (.bl true)
    | false =>
      show tb σ H1 Q
      exact h2 rfl B M G0 H0 xw G1 H1 σ E1 Q fun u d G3 H3 n3 f3 E3 s3 a3 => q u d G3 H3 n3 f3 E3 (s1.trans s3) a3
theorem gk_notV (h : GK K Z ta δ n fun x n1 => ∃ b, x = .bl b ∧ Φ (.bl (!b)) n1) : GK K Z (tNotV ta) δ n Φ := fun B M G0 H0 xw G H σ E Q q =>
  h B M G0 H0 xw G H σ E _ fun v x G1 H1 n1 f1 E1 s1 a1 => by
    obtain ⟨b, rfl, h1⟩ := f1
    cases a1
    exact ⟨b, rfl, q _ _ G1 H1 n1 h1 E1 s1 (.bl _)⟩
theorem go_none {Φ : Option Int → Sto → Prop} (k : Φ none n) : GO K Z tNoPart δ n Φ := fun B M G0 H0 xw G H σ E Q q => q none G H n k E (Sub.refl G)
theorem go_some {Φ : Option Int → Sto → Prop} (h : GK K Z ta δ n fun x n1 => ∃ i, x = .int i ∧ Φ (some i) n1) : GO K Z (tPart ta) δ n Φ := fun B M G0 H0 xw G H σ E Q q =>
  h B M G0 H0 xw G H σ E _ fun v x G1 H1 n1 f1 E1 s1 a1 => by
    obtain ⟨i, rfl, h1⟩ := f1
    cases a1
    exact ⟨i, rfl, q _ G1 H1 n1 h1 E1 s1⟩
theorem gk_sl {r : V → Option Int → Option Int → Hp → VK → Prop} {tl th : TO} (h : GK K Z te δ n fun x n1 => GO K Z tl δ n1 fun lo n2 => GO K Z th δ n2 fun hi n3 => RS K Z r x lo hi δ n3 Φ) : GK K Z (tSl r te tl th) δ n Φ := fun B M G0 H0 xw G H σ E Q q =>
  h B M G0 H0 xw G H σ E _ fun v x G1 H1 n1 f1 E1 s1 a1 => f1 B M G0 H0 xw G1 H1 σ E1 _ fun lo G2 H2 n2 f2 E2 s2 => f2 B M G0 H0 xw G2 H2 σ E2 _ fun hi G3 H3 n3 f3 E3 s3 =>
    f3 B M G0 H0 xw G3 H3 σ E3 v ((a1.mono s2).mono s3) Q fun u d G4 H4 n4 f4 E4 s4 a4 => q u d G4 H4 n4 f4 E4 (((s1.trans s2).trans s3).trans s4) a4
theorem gk_m1 {r : V → List V → Hp → VK → Prop} (h : GK K Z ta δ n fun x n1 => ∃ z, x = .str z ∧ GK K Z tb δ n1 fun y n2 => RU K Z (fun w H Q => r (.str z) [w] H Q) y δ n2 Φ) : GK K Z (tM1 r ta tb) δ n Φ := fun B M G0 H0 xw G H σ E Q q =>
  h B M G0 H0 xw G H σ E _ fun v x G1 H1 n1 f1 E1 s1 a1 => by
    obtain ⟨z, rfl, h1⟩ := f1
    cases a1
    exact ⟨⟨z, rfl⟩, h1 B M G0 H0 xw G1 H1 σ E1 _ fun w y G2 H2 n2 f2 E2 s2 a2 => f2 B M G0 H0 xw G2 H2 σ E2 w a2 Q fun u d G4 H4 n4 f4 E4 s4 a4 => q u d G4 H4 n4 f4 E4 ((s1.trans s2).trans s4) a4⟩
section
variable {Φ : Bool → Sto → Prop}
theorem gt_test (h : GK K Z te δ n fun x n1 => ∃ b, x = .bl b ∧ Φ b n1) : GT K Z (tTest te) δ n Φ := fun B M G0 H0 xw G H σ E Q q =>
  h B M G0 H0 xw G H σ E _ fun v x G1 H1 n1 f1 E1 s1 a1 => by
    obtain ⟨b, rfl, h1⟩ := f1
    cases a1
    exact ⟨b, rfl, q b G1 H1 n1 h1 E1 s1⟩
theorem gt_B (h : GK K Z te δ n fun x n1 => ∃ b, x = .bl b ∧ Φ b n1) : GT K Z (tB te) δ n Φ := gt_test h
theorem gt_not (h : GT K Z tt δ n fun b n1 => Φ (!b) n1) : GT K Z (tNot tt) δ n Φ := fun B M G0 H0 xw G H σ E Q q => h B M G0 H0 xw G H σ E _ fun b G1 H1 n1 f1 E1 s1 => q _ G1 H1 n1 f1 E1 s1
theorem gt_and (h : GT K Z tt δ n fun b n1 => (b = true → GT K Z tu δ n1 Φ) ∧ (b = false → Φ false n1)) : GT K Z (tAnd tt tu) δ n Φ := fun B M G0 H0 xw G H σ E Q q =>
  h B M G0 H0 xw G H σ E _ fun b G1 H1 n1 f1 E1 s1 => by
    cases b with
    | true =>
      show tu σ H1 Q
      exact f1.1 rfl B M G0 H0 xw G1 H1 σ E1 Q fun c G2 H2 n2 f2 E2 s2 => q c G2 H2 n2 f2 E2 (s1.trans s2)
    | false => exact q false G1 H1 n1 (f1.2 rfl) E1 s1
theorem gt_or (h : GT K Z tt δ n fun b n1 => (b = true → Φ true n1) ∧ (b = false → GT K Z tu δ n1 Φ)) : GT K Z (tOr tt tu) δ n Φ := fun B M G0 H0 xw G H σ E Q q =>
  h B M G0 H0 xw G H σ E _ fun b G1 H1 n1 f1 E1 s1 => by
    cases b with
    | true => exact q true G1 H1 n1 (f1.1 rfl) E1 s1
    | false =>
      show tu σ H1 Q
      exact f1.2 rfl B M G0 H0 xw G1 H1 σ E1 Q fun c G2 H2 n2 f2 E2 s2 => q c G2 H2 n2 f2 E2 (s1.trans s2)
theorem gt_yes (k : Φ true n) : GT K Z tYes δ n Φ := fun B M G0 H0 xw G H σ E Q q => q true G H n k E (Sub.refl G)
end
theorem rk_I0 {g : Int → Int → V} {i j : Int} (h : scl (g i j) = true) (k : Φ (ofV (g i j)) n) : RK K Z (rI0 g) (.int i) (.int j) δ n Φ := fun B M G0 H0 xw G H σ E v w a b Q q => by
  cases a
  cases b
  exact ⟨i, j, rfl, rfl, q _ _ G H n k E (Sub.refl G) (Is.scl h)⟩
theorem rk_I {C : Int → Int → Prop} {g : Int → Int → V} {i j : Int} (h : scl (g i j) = true) (hc : C i j) (k : Φ (ofV (g i j)) n) : RK K Z (rI C g) (.int i) (.int j) δ n Φ := fun B M G0 H0 xw G H σ E v w a b Q q => by
  cases a
  cases b
  exact ⟨i, j, rfl, rfl, hc, q _ _ G H n k E (Sub.refl G) (Is.scl h)⟩
theorem ru_U {g : Int → V} {i : Int} (h : scl (g i) = true) (k : Φ (ofV (g i)) n) : RU K Z (rU g) (.int i) δ n Φ := fun B M G0 H0 xw G H σ E v a Q q => by
  cases a
  exact ⟨i, rfl, q _ _ G H n k E (Sub.refl G) (Is.scl h)⟩
def toV : D → Option V
  | .non => some .non | .bl b => some (.bl b) | .int i => some (.int i) | .str x => some (.str x) | _ => none
theorem Is.val {G : Hp} {v u : V} {d : D} (a : Is K G v d) (h : toV d = some u) : v = u := by
  cases a <;> first | exact Option.some.inj h | (cases h)
theorem rk_eq {x y : D} {u w : V} (hx : toV x = some u) (hy : toV y = some w) (hs : scal u w = true) (k : Φ (.bl (decide (u = w))) n) : RK K Z rEq x y δ n Φ := fun B M G0 H0 xw G H σ E v v' a b Q q => by
  cases a.val hx
  cases b.val hy
  exact ⟨hs, q _ _ G H n k E (Sub.refl G) (.bl _)⟩
theorem rk_ne {x y : D} {u w : V} (hx : toV x = some u) (hy : toV y = some w) (hs : scal u w = true) (k : Φ (.bl (!decide (u = w))) n) : RK K Z rNe x y δ n Φ := fun B M G0 H0 xw G H σ E v v' a b Q q => by
  cases a.val hx
  cases b.val hy
  exact ⟨hs, q _ _ G H n k E (Sub.refl G) (.bl _)⟩
def isNonD : D → Bool
  | .non => true | _ => false
theorem Is.non_iff {G : Hp} {v : V} {d : D} (a : Is K G v d) : decide (v = .non) = isNonD d := by
  cases a <;> first | rfl | (simp [isNonD])
theorem rk_isN {x : D} (k : Φ (.bl (isNonD x)) n) : RK K Z (fun x y H Q => y = .non ∧ Q (.bl (decide (x = .non))) H) x .non δ n Φ := fun B M G0 H0 xw G H σ E v v' a b Q q => by
  cases b
  exact ⟨rfl, by rw [a.non_iff]; exact q _ _ G H n k E (Sub.refl G) (.bl _)⟩
theorem rk_notN {x : D} (k : Φ (.bl (!isNonD x)) n) : RK K Z (fun x y H Q => y = .non ∧ Q (.bl (!decide (x = .non))) H) x .non δ n Φ := fun B M G0 H0 xw G H σ E v v' a b Q q => by
  cases b
  exact ⟨rfl, by rw [a.non_iff]; exact q _ _ G H n k E (Sub.refl G) (.bl _)⟩
theorem rk_addS {x y : Str} (h : x.length + y.length ≤ sizeLine) (k : Φ (.str (x ++ y)) n) : RK K Z (fun x y H Q => ∃ i j, x = .str i ∧ y = .str j ∧ i.length + j.length ≤ sizeLine ∧ Q (.str (i ++ j)) H) (.str x) (.str y) δ n Φ := fun B M G0 H0 xw G H σ E v w a b Q q => by
  cases a
  cases b
  exact ⟨x, y, rfl, rfl, h, q _ _ G H n k E (Sub.refl G) (.str _)⟩
theorem rk_mulS {x : Str} {m : Int} (h1 : m < 2 ^ 30) (h2 : -(2 ^ 30) < m) (h : x.length * m.toNat ≤ sizeLine) (k : Φ (.str (mulS x m)) n) : RK K Z (fun x y H Q => ∃ (i : Str) (n : Int), x = .str i ∧ y = .int n ∧ n < 2 ^ 30 ∧ -(2 ^ 30) < n ∧ i.length * n.toNat ≤ sizeLine ∧ Q (.str (mulS i n)) H) (.str x) (.int m) δ n Φ := fun B M G0 H0 xw G H σ E v w a b Q q => by
  cases a
  cases b
  exact ⟨x, m, rfl, rfl, h1, h2, h, q _ _ G H n k E (Sub.refl G) (.str _)⟩
theorem rk_ltS {x y : Str} (k : Φ (.bl (decide (tl x < tl y))) n) : RK K Z (fun x y H Q => ∃ i j, x = .str i ∧ y = .str j ∧ Q (.bl (decide (i.cps.toList < j.cps.toList))) H) (.str x) (.str y) δ n Φ := fun B M G0 H0 xw G H σ E v w a b Q q => by
  cases a
  cases b
  exact ⟨x, y, rfl, rfl, q _ _ G H n k E (Sub.refl G) (.bl _)⟩
theorem rk_cat {xs ys : List D} (h : xs.length + ys.length ≤ 100000) (k : Φ (.lst (xs ++ ys)) n) : RK K Z rCat (.lst xs) (.lst ys) δ n Φ := fun B M G0 H0 xw G H σ E v w a b Q q => by
  cases a with
  | lst h1 a1 =>
    cases b with
    | lst h2 a2 =>
      refine ⟨_, _, _, _, rfl, rfl, E.sub _ _ h1, E.sub _ _ h2, by rw [a1.len, a2.len]; exact sz_ h, fun p hp => ?_⟩
      have s2 : ∀ o, Sub G (upd G p o) := fun o => Sub.new (E.sub.none hp)
      exact q _ _ _ _ n k (E.laid hp) (s2 _) (.lst upd_same ((a1.app a2).mono (s2 _)))
theorem atI_lt {α : Type} {xs : List α} {i : Int} {v : α} (h : atI xs i = some v) : ∃ j : Nat, ixN xs.length i = some j ∧ xs[j]? = some v := by
  unfold atI at h
  cases e : ixN xs.length i with
  | none =>
    rw [e] at h
    cases h
  | some j =>
    rw [e] at h
    exact ⟨j, rfl, h⟩
theorem IsAll.atI {G : Hp} {vs : List V} {ds : List D} {i : Int} {d : D} (a : IsAll K G vs ds) (h : L2.atI ds i = some d) : ∃ v, L2.atI vs i = some v ∧ Is K G v d := by
  obtain ⟨j, e1, e2⟩ := atI_lt h
  obtain ⟨v, e3, e4⟩ := a.at e2
  refine ⟨v, ?_, e4⟩
  unfold L2.atI
  rw [a.len, e1]
  exact e3
theorem rk_ixL {xs : List D} {i : Int} {d : D} (h : L2.atI xs i = some d) (k : Φ d n) : RK K Z (rIxL K) (.lst xs) (.int i) δ n Φ := fun B M G0 H0 xw G H σ E v w a b Q q => by
  cases a with
  | lst h1 a1 =>
    cases b
    obtain ⟨v, e1, e2⟩ := a1.atI h
    exact ⟨_, _, i, v, rfl, rfl, SqL.of (E.sub _ _ h1), e1, q _ _ G H n k E (Sub.refl G) e2⟩
theorem rk_ixT {xs : List D} {i : Int} {d : D} (h : L2.atI xs i = some d) (k : Φ d n) : RK K Z (rIxT K) (.tup xs) (.int i) δ n Φ := fun B M G0 H0 xw G H σ E v w a b Q q => by
  cases a with
  | tup h1 a1 =>
    cases b
    obtain ⟨v, e1, e2⟩ := a1.atI h
    exact ⟨_, _, i, v, rfl, rfl, E.sub.seq h1, e1, q _ _ G H n k E (Sub.refl G) e2⟩
theorem rk_ixS {z : Str} {i : Int} {c : Nat} (hz : z.length ≤ 100000) (h : L2.atI (tl z) i = some c) (k : Φ (.str (S [c])) n) : RK K Z rIxS (.str z) (.int i) δ n Φ := fun B M G0 H0 xw G H σ E v w a b Q q => by
  cases a
  cases b
  exact ⟨z, i, c, rfl, rfl, sz_ hz, h, q _ _ G H n k E (Sub.refl G) (.str _)⟩
theorem rs_str {z : Str} {lo hi : Option Int} (hz : z.length ≤ 100000) (k : Φ (.str (cutS z lo hi)) n) : RS K Z rSlS (.str z) lo hi δ n Φ := fun B M G0 H0 xw G H σ E v a Q q => by
  cases a
  exact ⟨z, rfl, sz_ hz, q _ _ G H n k E (Sub.refl G) (.str _)⟩
def cutD (xs : List D) (lo hi : Option Int) : List D := (xs.drop (HT.sIx xs.length 0 lo)).take (HT.sIx xs.length xs.length hi - HT.sIx xs.length 0 lo)
theorem IsAll.cut {G : Hp} {vs : List V} {ds : List D} (a : IsAll K G vs ds) (lo hi : Option Int) : IsAll K G (cutV vs lo hi) (cutD ds lo hi) := by
  unfold cutV cutD
  rw [a.len]
  exact (a.drop _).take _
theorem rs_lst {xs : List D} {lo hi : Option Int} (k : Φ (.lst (cutD xs lo hi)) n) : RS K Z (rSlL K) (.lst xs) lo hi δ n Φ := fun B M G0 H0 xw G H σ E v a Q q => by
  cases a with
  | lst h1 a1 =>
    refine ⟨_, _, rfl, SqL.of (E.sub _ _ h1), fun p hp => ?_⟩
    have s2 : ∀ o, Sub G (upd G p o) := fun o => Sub.new (E.sub.none hp)
    exact q _ _ _ _ n k (E.laid hp) (s2 _) (.lst upd_same ((a1.cut lo hi).mono (s2 _)))
theorem rc_lenS {z : Str} (h : z.length ≤ 100000) (k : Φ (.int z.length) n) : RC K Z (fun xs H Q => ∃ z, xs = [.str z] ∧ z.length ≤ sizeLine ∧ Q (.int z.length) H) [.str z] δ n Φ := fun B M G0 H0 xw G H σ E vs a Q q => by
  cases a with
  | cons a r =>
    cases r
    cases a
    exact ⟨z, rfl, sz_ h, q _ _ G H n k E (Sub.refl G) (.int _)⟩
theorem rc_lenL {xs : List D} (k : Φ (.int xs.length) n) : RC K Z (fun xs H Q => ∃ p ys, xs = [.ref p] ∧ (SqL K H p ys ∨ SqT K H p ys) ∧ Q (.int ys.length) H) [.lst xs] δ n Φ := fun B M G0 H0 xw G H σ E vs a Q q => by
  cases a with
  | cons a r =>
    cases r
    cases a with
    | lst h1 a1 => exact ⟨_, _, rfl, .inl (SqL.of (E.sub _ _ h1)), by rw [a1.len]; exact q _ _ G H n k E (Sub.refl G) (.int _)⟩
theorem rc_lenT {xs : List D} (k : Φ (.int xs.length) n) : RC K Z (fun xs H Q => ∃ p ys, xs = [.ref p] ∧ (SqL K H p ys ∨ SqT K H p ys) ∧ Q (.int ys.length) H) [.tup xs] δ n Φ := fun B M G0 H0 xw G H σ E vs a Q q => by
  cases a with
  | cons a r =>
    cases r
    cases a with
    | tup h1 a1 => exact ⟨_, _, rfl, .inr (E.sub.seq h1), by rw [a1.len]; exact q _ _ G H n k E (Sub.refl G) (.int _)⟩
theorem rc_ord {c : Nat} (k : Φ (.int c) n) : RC K Z (fun xs H Q => ∃ x, xs = [.str x] ∧ x.length = 1 ∧ Q (.int (x.cps.getD 0 0 : Nat)) H) [.str (S [c])] δ n Φ := fun B M G0 H0 xw G H σ E vs a Q q => by
  cases a with
  | cons a r =>
    cases r
    cases a
    exact ⟨S [c], rfl, rfl, q _ _ G H n k E (Sub.refl G) (.int _)⟩
theorem rc_abs {i : Int} (k : Φ (.int (if i < 0 then -i else i)) n) : RC K Z (fun xs H Q => ∃ i, xs = [.int i] ∧ Q (.int (if i < 0 then -i else i)) H) [.int i] δ n Φ := fun B M G0 H0 xw G H σ E vs a Q q => by
  cases a with
  | cons a r =>
    cases r
    cases a
    exact ⟨i, rfl, q _ _ G H n k E (Sub.refl G) (.int _)⟩
theorem rc_int1 {i : Int} (k : Φ (.int i) n) : RC K Z (fun xs H Q => (∃ i, xs = [.int i] ∧ Q (.int i) H) ∨ ∃ k, xs = [.bl k] ∧ Q (.int (if k then 1 else 0)) H) [.int i] δ n Φ := fun B M G0 H0 xw G H σ E vs a Q q => by
  cases a with
  | cons a r =>
    cases r
    cases a
    exact .inl ⟨i, rfl, q _ _ G H n k E (Sub.refl G) (.int _)⟩
theorem rc_intB {b : Bool} (k : Φ (.int (if b then 1 else 0)) n) : RC K Z (fun xs H Q => (∃ i, xs = [.int i] ∧ Q (.int i) H) ∨ ∃ k, xs = [.bl k] ∧ Q (.int (if k then 1 else 0)) H) [.bl b] δ n Φ := fun B M G0 H0 xw G H σ E vs a Q q => by
  cases a with
  | cons a r =>
    cases r
    cases a
    exact .inr ⟨b, rfl, q _ _ G H n k E (Sub.refl G) (.int _)⟩
theorem rc_max2 {i j : Int} (k : Φ (.int (if j > i then j else i)) n) : RC K Z (fun xs H Q => ∃ i j, xs = [.int i, .int j] ∧ Q (.int (if j > i then j else i)) H) [.int i, .int j] δ n Φ := fun B M G0 H0 xw G H σ E vs a Q q => by
  cases a with
  | cons a r =>
    cases r with
    | cons b r =>
      cases r
      cases a
      cases b
      exact ⟨i, j, rfl, q _ _ G H n k E (Sub.refl G) (.int _)⟩
theorem rc_min2 {i j : Int} (k : Φ (.int (if j < i then j else i)) n) : RC K Z (fun xs H Q => ∃ i j, xs = [.int i, .int j] ∧ Q (.int (if j < i then j else i)) H) [.int i, .int j] δ n Φ := fun B M G0 H0 xw G H σ E vs a Q q => by
  cases a with
  | cons a r =>
    cases r with
    | cons b r =>
      cases r
      cases a
      cases b
      exact ⟨i, j, rfl, q _ _ G H n k E (Sub.refl G) (.int _)⟩
theorem ru_join {z : Str} {ys : List Str} (h : (ys.map (·.length)).sum + ys.length * z.length ≤ 16777216) (k : Φ (.str (Txt.join z ys)) n) :
    RU K Z (fun w H Q => (fun x xs H Q => ∃ a p, ∃ ys : List Str, x = .str a ∧ xs = [.ref p] ∧ (SqL K H p (ys.map V.str) ∨ SqT K H p (ys.map V.str)) ∧ (ys.map (·.length)).sum + ys.length * a.length ≤ 16777216 ∧ Q (.str (Txt.join a ys)) H) (V.str z) [w] H Q) (.lst (ys.map D.str)) δ n Φ := fun B M G0 H0 xw G H σ E v a Q q => by
  cases a with
  | @lst p xs _ h1 a1 =>
    have e : ∀ (ys : List Str) (xs : List V), IsAll K G xs (ys.map D.str) → xs = ys.map V.str := by
      intro ys
      induction ys with
      | nil => intro xs a; cases a; rfl
      | cons y r ih =>
        intro xs a
        cases a with
        | cons a b =>
          cases a
          rw [ih _ b]
          rfl
    have e := e ys xs a1
    subst e
    exact ⟨z, p, ys, rfl, rfl, .inl (SqL.of (E.sub _ _ h1)), h, q _ _ G H n k E (Sub.refl G) (.str _)⟩
theorem rc_listL {xs : List D} (k : Φ (.lst xs) n) : RC K Z (fun ws H Q => ∃ p ys, ws = [.ref p] ∧ (SqL K H p ys ∨ SqT K H p ys) ∧ ∀ l, H l = none → Q (.ref l) (upd H l (.lst ys))) [.lst xs] δ n Φ := fun B M G0 H0 xw G H σ E vs a Q q => by
  cases a with
  | cons a r =>
    cases r
    cases a with
    | lst h1 a1 =>
      refine ⟨_, _, rfl, .inl (SqL.of (E.sub _ _ h1)), fun p hp => ?_⟩
      have s2 : ∀ o, Sub G (upd G p o) := fun o => Sub.new (E.sub.none hp)
      exact q _ _ _ _ n k (E.laid hp) (s2 _) (.lst upd_same (a1.mono (s2 _)))
theorem gs_seq (h : GS K Z B ts δ n (fun δ' n' => GS K Z B tz δ' n' N R Bk Ct) R Bk Ct) : GS K Z B (tSeq ts tz) δ n N R Bk Ct := fun m0 G0 H0 xw G H σ E e hn hr hb hc =>
  h m0 G0 H0 xw G H σ { E with nx := tz E } e (fun σ' δ' G' H' n' q e' s' => q m0 G0 H0 xw G' H' σ' E e' (fun σ2 δ2 G2 H2 n2 x y z => hn σ2 δ2 G2 H2 n2 x y (s'.trans z)) hr (fun σ2 δ2 G2 H2 n2 x y z => hb σ2 δ2 G2 H2 n2 x y (s'.trans z)) (fun σ2 δ2 G2 H2 n2 x y z => hc σ2 δ2 G2 H2 n2 x y (s'.trans z))) hr hb hc
theorem gs_next (k : N δ n) : GS K Z B tNext δ n N R Bk Ct := fun m0 G0 H0 xw G H σ E e hn hr hb hc => hn σ δ G H n k e (Sub.refl G)
theorem gs_brk (k : Bk δ n) : GS K Z B tBreak δ n N R Bk Ct := fun m0 G0 H0 xw G H σ E e hn hr hb hc => hb σ δ G H n k e (Sub.refl G)
theorem gs_cont (k : Ct δ n) : GS K Z B tCont δ n N R Bk Ct := fun m0 G0 H0 xw G H σ E e hn hr hb hc => hc σ δ G H n k e (Sub.refl G)
theorem gs_asg {i : Nat} (h : GK K Z te δ n fun d n' => N (δ.set i (.d d)) n') : GS K Z B (tAsg te (gName i)) δ n N R Bk Ct := fun m0 G0 H0 xw G H σ E e hn hr hb hc =>
  h B (MOf B m0 H0) G0 H0 xw G H σ e _ fun v d G1 H1 n1 f1 E1 s1 a1 => hn _ _ G1 H1 n1 f1 (E1.set (s := .d d) ⟨v, rfl, a1⟩ fun _ z => nomatch z) s1
theorem gs_ret (h : GK K Z te δ n R) : GS K Z B (tRet te) δ n N R Bk Ct := fun m0 G0 H0 xw G H σ E e hn hr hb hc => h B (MOf B m0 H0) G0 H0 xw G H σ e _ fun v d G1 H1 n1 f1 E1 s1 a1 => hr v d G1 H1 n1 f1 E1.out a1
theorem gs_drop (h : GK K Z te δ n fun _ n' => N δ n') : GS K Z B (tDrop te) δ n N R Bk Ct := fun m0 G0 H0 xw G H σ E e hn hr hb hc => h B (MOf B m0 H0) G0 H0 xw G H σ e _ fun v d G1 H1 n1 f1 E1 s1 a1 => hn σ δ G1 H1 n1 f1 E1 s1
theorem gs_if (h : GT K Z tt δ n fun b n1 => (b = true → GS K Z B ts δ n1 N R Bk Ct) ∧ (b = false → GS K Z B tz δ n1 N R Bk Ct)) : GS K Z B (tIfS tt ts tz) δ n N R Bk Ct := fun m0 G0 H0 xw G H σ E e hn hr hb hc =>
  h B (MOf B m0 H0) G0 H0 xw G H σ e _ fun b G1 H1 n1 f1 E1 s1 => by
    cases b with
    | true =>
      show ts E σ H1
      exact f1.1 rfl m0 G0 H0 xw G1 H1 σ E E1 (fun σ2 δ2 G2 H2 n2 x y z => hn σ2 δ2 G2 H2 n2 x y (s1.trans z)) hr (fun σ2 δ2 G2 H2 n2 x y z => hb σ2 δ2 G2 H2 n2 x y (s1.trans z)) (fun σ2 δ2 G2 H2 n2 x y z => hc σ2 δ2 G2 H2 n2 x y (s1.trans z))
    | false =>
      show tz E σ H1
      exact f1.2 rfl m0 G0 H0 xw G1 H1 σ E E1 (fun σ2 δ2 G2 H2 n2 x y z => hn σ2 δ2 G2 H2 n2 x y (s1.trans z)) hr (fun σ2 δ2 G2 H2 n2 x y z => hb σ2 δ2 G2 H2 n2 x y (s1.trans z)) (fun σ2 δ2 G2 H2 n2 x y z => hc σ2 δ2 G2 H2 n2 x y (s1.trans z))
theorem gs_par {i j : Nat} (h : GA K Z aa δ n fun ds n' => ∃ x y, ds = [x, y] ∧ N ((δ.set i (.d x)).set j (.d y)) n') : GS K Z B (tPar i j aa) δ n N R Bk Ct := fun m0 G0 H0 xw G H σ E e hn hr hb hc =>
  h B (MOf B m0 H0) G0 H0 xw G H σ e _ fun vs ds G1 H1 n1 f1 E1 s1 a1 => by
    obtain ⟨x, y, rfl, f1⟩ := f1
    cases a1 with
    | cons ha r =>
      cases r with
      | cons hb' r =>
        cases r
        exact ⟨_, _, rfl, hn _ _ G1 H1 n1 f1 ((E1.set (s := .d x) ⟨_, rfl, ha⟩ fun _ z => nomatch z).set (s := .d y) ⟨_, rfl, hb'⟩ fun _ z => nomatch z) s1⟩
theorem gs_own {i : Nat} (h : GA K Z aa δ n fun ds n' => ds.length ≤ 100000 ∧ N (δ.set i (.own ds)) n') : GS K Z B (tAsg (tLst aa) (gName i)) δ n N R Bk Ct := fun m0 G0 H0 xw G H σ E e hn hr hb hc =>
  h B (MOf B m0 H0) G0 H0 xw G H σ e _ fun vs ds G1 H1 n1 f1 E1 s1 a1 => ⟨by rw [a1.len]; exact sz_ f1.1, fun p hp => hn _ _ G1 _ n1 f1.2 (E1.own hp a1) s1⟩
theorem gs_app {i : Nat} {xs : List D} (hi : δ[i]? = some (.own xs)) (hl : xs.length < 100000) (h : GK K Z te δ n fun d n' => N (δ.set i (.own (xs ++ [d]))) n') : GS K Z B (tDrop (tBM K "list" rAppend (tVar i) (tCons te tNil))) δ n N R Bk Ct := fun m0 G0 H0 xw G H σ E e hn hr hb hc => by
  obtain ⟨p, vs, e1, e2, a, gp, h0⟩ := e.ownd hi
  refine ⟨_, e1, .inl ⟨rfl, _, SqL.of e2⟩, ?_⟩
  refine h B (MOf B m0 H0) G0 H0 xw G H σ e _ fun v d G1 H1 n1 f1 E1 s1 a1 => ?_
  obtain ⟨q, ws, g1, g2, b, _⟩ := E1.ownd hi
  rw [e1] at g1
  have g1 : p = q := by injection (Option.some.inj (Option.some.inj g1))
  subst g1
  exact ⟨p, ws, v, rfl, rfl, g2, by rw [b.len]; exact sz_lt hl, hn _ _ G1 _ n1 f1 (E1.chg hi e1 g2 (b.app (.cons a1 .nil))) s1⟩
theorem gk_ownIx {i : Nat} {xs : List D} (hi : δ[i]? = some (.own xs)) (h : GK K Z ta δ n fun y n1 => ∃ j d, y = .int j ∧ L2.atI xs j = some d ∧ Φ d n1) : GK K Z (tOp (rIxL K) (tVar i) ta) δ n Φ := fun B M G0 H0 xw G H σ E Q q => by
  obtain ⟨p, vs, e1, e2, a, gp, h0⟩ := E.ownd hi
  refine ⟨_, e1, ?_⟩
  refine h B M G0 H0 xw G H σ E _ fun w y G2 H2 n2 f2 E2 s2 a2 => ?_
  obtain ⟨j, d, rfl, hj, f2⟩ := f2
  obtain ⟨r, ws, g1, g2, b, _⟩ := E2.ownd hi
  rw [e1] at g1
  have g1 : p = r := by injection (Option.some.inj (Option.some.inj g1))
  subst g1
  cases a2
  obtain ⟨v, w1, w2⟩ := b.atI hj
  exact ⟨p, ws, j, v, rfl, rfl, SqL.of g2, w1, q v d G2 H2 n2 f2 E2 s2 w2⟩
theorem gk_ownLen {i : Nat} {xs : List D} (hi : δ[i]? = some (.own xs)) (k : Φ (.int xs.length) n) : GK K Z (tCB (fun xs H Q => ∃ p ys, xs = [.ref p] ∧ (SqL K H p ys ∨ SqT K H p ys) ∧ Q (.int ys.length) H) (tCons (tVar i) tNil)) δ n Φ := fun B M G0 H0 xw G H σ E Q q => by
  obtain ⟨p, vs, e1, e2, a, gp, h0⟩ := E.ownd hi
  exact ⟨_, e1, p, vs, rfl, .inl (SqL.of e2), by rw [a.len]; exact q _ _ G H n k E (Sub.refl G) (.int _)⟩
end
end Tl
namespace Tl
open PySem L2 TL LamX
def startD (N : List Str) (ds : List D) : List Slot := ds.map Slot.d ++ List.replicate (N.length - ds.length) .un
def startG (N : List Str) (ds : List D) : List Slot := .bag :: (ds.map Slot.d ++ List.replicate (N.length - (ds.length + 1)) .un)
def MobOk (K : PySem.W.Frag) (B : Option Addr) (n : Sto) (G H : Hp) : Prop := ∀ a o, n.μ a = some o → MOk K G H a o ∧ G a = none ∧ B ≠ some a
section
variable [Tabl] {K : PySem.W.Frag}
theorem slots_app {B : Option Addr} {M : Addr → Prop} {G H : Hp} {vs : List V} {ds : List D} (a : IsAll K G vs ds) (m : Nat) (i : Nat) (s : Slot) (h : (ds.map Slot.d ++ List.replicate m .un)[i]? = some s) :
    SlotOk K B M G H ((vs.map some ++ List.replicate m none)[i]?.getD none) s ∧ ∀ x, s ≠ .ow x := by
  by_cases hi : i < ds.length
  · rw [List.getElem?_append_left (by rw [List.length_map]; exact hi), List.getElem?_map] at h
    obtain ⟨d, hd, rfl⟩ := Option.map_eq_some_iff.mp h
    obtain ⟨v, hv, iv⟩ := a.at hd
    rw [List.getElem?_append_left (by rw [List.length_map, a.len]; exact hi), List.getElem?_map, hv]
    exact ⟨⟨v, rfl, iv⟩, fun _ z => nomatch z⟩
  · rw [List.getElem?_append_right (by rw [List.length_map]; omega)] at h
    have := List.mem_of_getElem? h
    rw [List.mem_replicate] at this
    rw [this.2]
    exact ⟨True.intro, fun _ z => nomatch z⟩
theorem En.start {G H : Hp} {vs : List V} {ds : List D} {N : List Str} {n : Sto} (mb : MobOk K none n G H) (tb : Tabs Tabl.T H) (gn : ∀ b ps, G b ≠ some (.tbl ps)) (s : Sub G H) (a : IsAll K G vs ds) : En K none (MOf none n.μ H) n G H G H (L2.start N vs) (startD N ds) where
  sub0 := Sub.refl G
  sub := s
  same := fun b o e _ => e
  free := fun b hb => .inl hb
  fresh := fun b _ g => g
  bagged := fun p z => nomatch z
  tabs := tb
  gnt := gn
  tin := fun b ps h => .inr (.inr (.inl ⟨ps, h⟩))
  mob := fun a o h => ⟨(mb a o h).1, (mb a o h).2.1, .inr (.inr (.inr (not_none h))), (mb a o h).2.2⟩
  len := by
    unfold L2.start startD
    rw [List.length_append, List.length_append, List.length_map, List.length_map, List.length_replicate, List.length_replicate, a.len]
  slot := fun i t ht => by
    unfold L2.start
    rw [a.len]
    exact (slots_app a _ i t ht).1
  dis := fun i j p xs ys hi hj si sj => absurd rfl ((slots_app (B := none) (M := MOf none n.μ H) (H := H) a _ i _ hi).2 xs)
  mow := fun i x b hi _ => absurd rfl ((slots_app (B := none) (M := MOf none n.μ H) (H := H) a _ i _ hi).2 x)
theorem En.startB {G H : Hp} {p : Addr} {n : Sto} {vs : List V} {ds : List D} {N : List Str} (mb : MobOk K (some p) n G H) (tb : Tabs Tabl.T H) (gn : ∀ b ps, G b ≠ some (.tbl ps)) (s : Sub G H) (gp : G p = none) (bg : Bag H p n.n) (a : IsAll K G vs ds) : En K (some p) (MOf (some p) n.μ H) n G H G H (L2.start N (.ref p :: vs)) (startG N ds) where
  sub0 := Sub.refl G
  sub := s
  same := fun b o e _ => e
  free := fun b hb => .inl hb
  fresh := fun b _ g => g
  bagged := fun q z => by
    cases z
    exact ⟨bg, gp, .inr (.inl rfl)⟩
  tabs := tb
  gnt := gn
  tin := fun b ps h => .inr (.inr (.inl ⟨ps, h⟩))
  mob := fun a o h => ⟨(mb a o h).1, (mb a o h).2.1, .inr (.inr (.inr (not_none h))), (mb a o h).2.2⟩
  len := by
    unfold L2.start startG
    simp only [List.length_append, List.length_map, List.length_replicate, List.length_cons, a.len]
    omega
  slot := fun i t ht => by
    unfold L2.start
    rw [List.length_cons, a.len]
    unfold startG at ht
    cases i with
    | zero =>
      cases ht
      exact ⟨p, rfl, rfl⟩
    | succ i => exact (slots_app a _ i t ht).1
  dis := fun i j q xs ys hi hj si sj => by
    unfold startG at hi
    cases i with
    | zero => cases hi
    | succ i => exact absurd rfl ((slots_app (B := none) (M := MOf none n.μ H) (H := H) a _ i _ hi).2 xs)
  mow := fun i x b hi _ => by
    unfold startG at hi
    cases i with
    | zero => cases hi
    | succ i => exact absurd rfl ((slots_app (B := none) (M := MOf none n.μ H) (H := H) a _ i _ hi).2 x)
end
def SameOff (vs : List Nat) (σ' σ : L2.St) : Prop := σ'.length = σ.length ∧ ∀ i, i ∉ vs → σ'[i]? = σ[i]?
def GG [Tabl] (K : PySem.W.Frag) (g : TG) (x : D) (δ δ' : List Slot) (vs : List Nat) : Prop :=
  ∀ (B : Option Addr) (M : Addr → Prop) (n : Sto) (G0 H0 G H : Hp) (σ : L2.St), En K B M n G0 H0 G H σ δ → ∀ v, Is K G v x → ∀ Q : L2.St → Hp → Prop, (∀ σ', En K B M n G0 H0 G H σ' δ' → SameOff vs σ' σ → Q σ' H) → g v σ H Q
def GGs [Tabl] (K : PySem.W.Frag) (g : TGs) (xs : List D) (δ δ' : List Slot) (vs : List Nat) : Prop :=
  ∀ (B : Option Addr) (M : Addr → Prop) (n : Sto) (G0 H0 G H : Hp) (σ : L2.St), En K B M n G0 H0 G H σ δ → ∀ us, IsAll K G us xs → ∀ Q : L2.St → Hp → Prop, (∀ σ', En K B M n G0 H0 G H σ' δ' → SameOff vs σ' σ → Q σ' H) → g us σ H Q
def IterD (K : PySem.W.Frag) (J : It) (G : Hp) (xs : List D) : Prop :=
  ∀ G' H', Sub G G' → Sub G' H' → ∀ i, (i = xs.length → J.stop i H') ∧ ∀ x, xs[i]? = some x → J.go i H' ∧ ∀ v H'', J.yld i H' v H'' → (H'' = H' ∧ Is K G' v x) ∨ ∃ p o, H' p = none ∧ H'' = upd H' p o ∧ (∀ ps, o ≠ .tbl ps) ∧ Is K (upd G' p o) v x
def GI [Tabl] (K : PySem.W.Frag) (Z : XZ) (wi : TI) (δ : List Slot) (n : Sto) (Ψ : List D → Sto → Prop) : Prop :=
  ∀ (B : Option Addr) (M : Addr → Prop) (G0 H0 : Hp), WOk K Z B M G0 H0 → ∀ (G H : Hp) (σ : L2.St), En K B M n G0 H0 G H σ δ → ∀ R : It → Hp → Prop, (∀ J xs G' H' n', Ψ xs n' → En K B M n' G0 H0 G' H' σ δ → Sub G G' → IterD K J G' xs → R J H') → wi σ H R
def wipeD (δ : List Slot) : List Nat → List Slot
  | [] => δ
  | v :: vs => (wipeD δ vs).set v .un
section
variable [Tabl] {K : PySem.W.Frag} {Z : XZ} {δ : List Slot} {n : Sto} {te : TE} {aa : TA}
theorem SameOff.refl {vs : List Nat} {σ : L2.St} : SameOff vs σ σ := ⟨rfl, fun _ _ => rfl⟩
theorem SameOff.set {vs : List Nat} {σ : L2.St} {j : Nat} {o : Option V} (h : j ∈ vs) : SameOff vs (σ.set j o) σ := ⟨by rw [List.length_set], fun i hi => by
  rw [List.getElem?_set_ne]
  intro z
  subst z
  exact hi h⟩
theorem SameOff.trans {vs : List Nat} {σ σ' σ2 : L2.St} (a : SameOff vs σ2 σ') (b : SameOff vs σ' σ) : SameOff vs σ2 σ := ⟨a.1.trans b.1, fun i hi => (a.2 i hi).trans (b.2 i hi)⟩
theorem wipe_at {σ : L2.St} {vs : List Nat} {i : Nat} (h : i ∉ vs) : (wipe σ vs)[i]? = σ[i]? := by
  induction vs with
  | nil => rfl
  | cons v vs ih =>
    unfold wipe
    rw [List.getElem?_set_ne (fun z => h (by rw [z]; exact List.mem_cons_self))]
    exact ih fun z => h (List.mem_cons_of_mem _ z)
theorem wipe_in {σ : L2.St} {vs : List Nat} {i : Nat} (h : i ∈ vs) (hi : i < σ.length) : (wipe σ vs)[i]? = some none := by
  induction vs with
  | nil => cases h
  | cons v vs ih =>
    unfold wipe
    by_cases z : v = i
    · subst z
      rw [List.getElem?_set_self (by rw [wipe_length]; exact hi)]
    · rw [List.getElem?_set_ne z]
      rcases List.mem_cons.mp h with y | y
      · exact absurd y.symm z
      · exact ih y
theorem SameOff.wipe {vs : List Nat} {σ' σ : L2.St} (h : SameOff vs σ' σ) : L2.wipe σ' vs = L2.wipe σ vs := by
  apply List.ext_getElem?
  intro i
  by_cases hi : i ∈ vs
  · by_cases hl : i < σ.length
    · rw [wipe_in hi hl, wipe_in hi (by rw [h.1]; exact hl)]
    · rw [List.getElem?_eq_none (by rw [wipe_length, h.1]; omega), List.getElem?_eq_none (by rw [wipe_length]; omega)]
  · rw [wipe_at hi, wipe_at hi]
    exact h.2 i hi
theorem SameOff.off {vs : List Nat} {σ : L2.St} : SameOff vs (L2.wipe σ vs) σ := ⟨wipe_length σ vs, fun _ hi => wipe_at hi⟩
theorem En.wipe {B : Option Addr} {M : Addr → Prop} {G0 H0 G H : Hp} {σ : L2.St} (E : En K B M n G0 H0 G H σ δ) : ∀ vs : List Nat, En K B M n G0 H0 G H (L2.wipe σ vs) (wipeD δ vs)
  | [] => E
  | v :: vs => (En.wipe E vs).set (i := v) (s := .un) (o := none) True.intro fun _ z => nomatch z
theorem gg_name {j : Nat} {x : D} {vs : List Nat} (h : j ∈ vs) : GG K (gName j) x δ (δ.set j (.d x)) vs := fun B M n G0 H0 G H σ E v a Q q => q _ (E.set (s := .d x) ⟨v, rfl, a⟩ fun _ z => nomatch z) (.set h)
theorem ggs_nil {vs : List Nat} : GGs K gNil [] δ δ vs := fun B M n G0 H0 G H σ E us a Q q => by
  cases a
  exact ⟨rfl, q σ E .refl⟩
theorem ggs_cons {g : TG} {gs : TGs} {x : D} {xs : List D} {δ1 δ2 : List Slot} {vs : List Nat} (h : GG K g x δ δ1 vs) (h2 : GGs K gs xs δ1 δ2 vs) : GGs K (gCons g gs) (x :: xs) δ δ2 vs := fun B M n G0 H0 G H σ E us a Q q => by
  cases a with
  | cons a r => exact ⟨_, _, rfl, h B M n G0 H0 G H σ E _ a _ fun σ1 E1 s1 => h2 B M n G0 H0 G H σ1 E1 _ r _ fun σ2 E2 s2 => q σ2 E2 (s2.trans s1)⟩
theorem gg_tup {m : Nat} {gs : TGs} {xs : List D} {δ1 : List Slot} {vs : List Nat} (hm : xs.length = m) (h : GGs K gs xs δ δ1 vs) : GG K (gTup K m gs) (.tup xs) δ δ1 vs := fun B M n G0 H0 G H σ E v a Q q => by
  cases a with
  | tup h1 a1 => exact ⟨_, _, rfl, E.sub.seq h1, (a1.len).trans hm, h B M n G0 H0 G H σ E _ a1 Q q⟩
theorem gi_list {Ψ : List D → Sto → Prop} (h : GK K Z te δ n fun d n1 => ∃ xs, d = .lst xs ∧ Ψ xs n1) : GI K Z (iList K te) δ n Ψ := fun B M G0 H0 xw G H σ E R r =>
  h B M G0 H0 xw G H σ E _ fun v d G1 H1 n1 f1 E1 s1 a1 => by
    obtain ⟨xs, rfl, f1⟩ := f1
    cases a1 with
    | @lst p vs _ h1 a1 =>
      refine ⟨p, rfl, ⟨vs, SqL.of (E1.sub _ _ h1)⟩, r _ xs G1 H1 n1 f1 E1 s1 fun G' H' s2 s3 i => ⟨fun hi => ⟨vs, SqL.of (s3 _ _ (s2 _ _ h1)), by rw [a1.len, hi]; exact Nat.le_refl _⟩, fun x hx => ?_⟩⟩
      obtain ⟨u, hu, iu⟩ := a1.at hx
      refine ⟨⟨vs, u, SqL.of (s3 _ _ (s2 _ _ h1)), hu⟩, fun v H'' y => .inl ⟨y.1, ?_⟩⟩
      have := y.2 vs (SqL.of (s3 _ _ (s2 _ _ h1)))
      rw [hu] at this
      cases this
      exact iu.mono s2
theorem gi_tup {Ψ : List D → Sto → Prop} (h : GK K Z te δ n fun d n1 => ∃ xs, d = .tup xs ∧ Ψ xs n1) : GI K Z (iTup K te) δ n Ψ := fun B M G0 H0 xw G H σ E R r =>
  h B M G0 H0 xw G H σ E _ fun v d G1 H1 n1 f1 E1 s1 a1 => by
    obtain ⟨xs, rfl, f1⟩ := f1
    cases a1 with
    | @tup p vs _ h1 a1 =>
      refine ⟨p, rfl, ⟨vs, E1.sub.seq h1⟩, r _ xs G1 H1 n1 f1 E1 s1 fun G' H' s2 s3 i => ⟨fun hi => ⟨vs, s3.seq (s2.seq h1), by rw [a1.len, hi]; exact Nat.le_refl _⟩, fun x hx => ?_⟩⟩
      obtain ⟨u, hu, iu⟩ := a1.at hx
      refine ⟨⟨vs, u, s3.seq (s2.seq h1), hu⟩, fun v H'' y => .inl ⟨y.1, ?_⟩⟩
      have := y.2 vs (s3.seq (s2.seq h1))
      rw [hu] at this
      cases this
      exact iu.mono s2
def charsD (z : Str) : List D := (tl z).map fun c => D.str (S [c])
theorem gi_str {Ψ : List D → Sto → Prop} (h : GK K Z te δ n fun d n1 => ∃ z, d = .str z ∧ Ψ (charsD z) n1) : GI K Z (iStr te) δ n Ψ := fun B M G0 H0 xw G H σ E R r =>
  h B M G0 H0 xw G H σ E _ fun v d G1 H1 n1 f1 E1 s1 a1 => by
    obtain ⟨z, rfl, f1⟩ := f1
    cases a1
    have hl : (charsD z).length = z.cps.size := by
      unfold charsD
      rw [List.length_map]
      exact Array.length_toList
    refine ⟨z, rfl, r _ _ G1 H1 n1 f1 E1 s1 fun G' H' s2 s3 i => ⟨fun hi => ?_, fun x hx => ?_⟩⟩
    · show z.cps.size ≤ i
      omega
    · have hi : i < z.cps.size := hl ▸ (List.getElem?_eq_some_iff.mp hx).1
      refine ⟨hi, fun v H'' y => .inl ⟨y.1, ?_⟩⟩
      obtain ⟨c, hc, rfl⟩ := y.2
      unfold charsD at hx
      rw [List.getElem?_map] at hx
      have e : (tl z)[i]? = some c := by
        show z.cps.toList[i]? = some c
        rw [Array.getElem?_toList]
        exact hc
      rw [e] at hx
      cases hx
      exact .str _
def rangeD (lo : Int) (m : Nat) : List D := (List.range m).map fun i : Nat => D.int (lo + i)
theorem rangeD_at {lo : Int} {m i : Nat} {x : D} (h : (rangeD lo m)[i]? = some x) : i < m ∧ x = .int (lo + i) := by
  unfold rangeD at h
  rw [List.getElem?_map] at h
  by_cases hi : i < m
  · rw [List.getElem?_range hi] at h
    cases h
    exact ⟨hi, rfl⟩
  · rw [List.getElem?_eq_none (by rw [List.length_range]; omega)] at h
    cases h
theorem rangeD_len {lo : Int} {m : Nat} : (rangeD lo m).length = m := by
  unfold rangeD
  rw [List.length_map, List.length_range]
theorem iter_rng {G : Hp} {lo : Int} {m : Nat} : IterD K (Itr lo m) G (rangeD lo m) := fun G' H' s2 s3 i => ⟨fun hi => by
    rw [rangeD_len] at hi
    exact Nat.le_of_eq hi.symm, fun x hx => by
    obtain ⟨h1, rfl⟩ := rangeD_at hx
    refine ⟨h1, fun v H'' y => .inl ⟨y.1, ?_⟩⟩
    rw [y.2]
    exact .int _⟩
theorem gi_rng1 {Ψ : List D → Sto → Prop} (h : GA K Z aa δ n fun ds n1 => ∃ m : Int, ds = [.int m] ∧ -(2 ^ 62) ≤ m ∧ m < 2 ^ 62 ∧ Ψ (rangeD 0 m.toNat) n1) : GI K Z (iRng1 aa) δ n Ψ := fun B M G0 H0 xw G H σ E R r =>
  h B M G0 H0 xw G H σ E _ fun vs ds G1 H1 n1 f1 E1 s1 a1 => by
    obtain ⟨m, rfl, h1, h2, f1⟩ := f1
    cases a1 with
    | cons a b =>
      cases b
      cases a
      exact ⟨m, rfl, h1, h2, r _ _ G1 H1 n1 f1 E1 s1 iter_rng⟩
theorem gi_rng2 {Ψ : List D → Sto → Prop} (h : GA K Z aa δ n fun ds n1 => ∃ a b : Int, ds = [.int a, .int b] ∧ (-(2 ^ 62) ≤ a ∧ a < 2 ^ 62 ∧ -(2 ^ 62) ≤ b ∧ b < 2 ^ 62) ∧ Ψ (rangeD a (b - a).toNat) n1) : GI K Z (iRng2 aa) δ n Ψ := fun B M G0 H0 xw G H σ E R r =>
  h B M G0 H0 xw G H σ E _ fun vs ds G1 H1 n1 f1 E1 s1 a1 => by
    obtain ⟨i, j, rfl, h1, f1⟩ := f1
    cases a1 with
    | cons a b =>
      cases b with
      | cons b c =>
        cases c
        cases a
        cases b
        exact ⟨i, j, rfl, h1, r _ _ G1 H1 n1 f1 E1 s1 iter_rng⟩
def enumD (xs : List D) : List D := xs.mapIdx fun i x => D.tup [.int (i : Nat), x]
theorem gi_enum {Ψ : List D → Sto → Prop} (h : GA K Z aa δ n fun ds n1 => ∃ xs, ds = [.lst xs] ∧ Ψ (enumD xs) n1) : GI K Z (iEnum K aa) δ n Ψ := fun B M G0 H0 xw G H σ E R r =>
  h B M G0 H0 xw G H σ E _ fun vs ds G1 H1 n1 f1 E1 s1 a1 => by
    obtain ⟨xs, rfl, f1⟩ := f1
    cases a1 with
    | cons a b =>
      cases b
      cases a with
      | @lst p vs _ h1 a1 =>
        refine ⟨p, vs, rfl, SqL.of (E1.sub _ _ h1), r _ _ G1 H1 n1 f1 E1 s1 fun G' H' s2 s3 i => ⟨fun hi => ⟨vs, SqL.of (s3 _ _ (s2 _ _ h1)), ?_⟩, fun x hx => ?_⟩⟩
        · unfold enumD at hi
          rw [List.length_mapIdx] at hi
          rw [a1.len, hi]
          exact Nat.le_refl _
        · unfold enumD at hx
          rw [List.getElem?_mapIdx] at hx
          obtain ⟨d, hd, rfl⟩ := Option.map_eq_some_iff.mp hx
          obtain ⟨u, hu, iu⟩ := a1.at hd
          refine ⟨⟨vs, u, SqL.of (s3 _ _ (s2 _ _ h1)), hu⟩, fun v H'' y => .inr ?_⟩
          obtain ⟨T, u', rfl, y1, y2, y3⟩ := y
          have := y3 vs (SqL.of (s3 _ _ (s2 _ _ h1)))
          rw [hu] at this
          cases this
          have sn := Sub.new (o := .tup [.int (i : Nat), u]) (s3.none y1)
          exact ⟨T, _, y1, y2, (fun _ z => nomatch z), .tup (SqT.of upd_same) (.cons (.int _) (.cons ((iu.mono s2).mono sn) .nil))⟩
end
section
variable [Tabl] {K : PySem.W.Frag} {Z : XZ} {B : Option Addr} {δ : List Slot} {n : Sto} {Φ : D → Sto → Prop} {N Bk Ct : List Slot → Sto → Prop} {R : D → Sto → Prop} {tb : TS} {wi : TI} {g : TG}
theorem En.yld {B : Option Addr} {M : Addr → Prop} {G0 H0 G H H' : Hp} {σ : L2.St} {v : V} {x : D} (E : En K B M n G0 H0 G H σ δ) (y : (H' = H ∧ Is K G v x) ∨ ∃ p o, H p = none ∧ H' = upd H p o ∧ (∀ ps, o ≠ .tbl ps) ∧ Is K (upd G p o) v x) :
    ∃ G', Sub G G' ∧ En K B M n G0 H0 G' H' σ δ ∧ Is K G' v x ∧ ∀ c, H c ≠ none → H' c = H c ∧ G' c = G c := by
  rcases y with ⟨rfl, a⟩ | ⟨p, o, hp, rfl, ho, a⟩
  · exact ⟨G, Sub.refl G, E, a, fun c _ => ⟨rfl, rfl⟩⟩
  · refine ⟨_, Sub.new (E.sub.none hp), E.laid hp ho, a, fun c hc => ?_⟩
    have : c ≠ p := fun z => hc (by rw [z]; exact hp)
    exact ⟨upd_ne this, upd_ne this⟩
theorem En.settle {B : Option Addr} {M : Addr → Prop} {G0 H0 G H : Hp} {σ : L2.St} {c : Addr} {o : HO} (E : En K B M n G0 H0 G H σ δ) (hc : H c = some o) (gc : G c = none) (mc : M c) (nb : B ≠ some c) (nm : n.μ c = none) (oc : ∀ (i : Nat) (x : MO), δ[i]? = some (.ow x) → σ[i]? ≠ some (some (.ref c))) (no : ∀ ps, o ≠ .tbl ps := by intro _ z; cases z) : En K B M n G0 H0 (upd G c o) H σ δ where
  sub0 := E.sub0.trans (Sub.new gc)
  sub := fun b u e => by
    by_cases hb : b = c
    · subst hb
      rw [upd_same] at e
      cases e
      exact hc
    · rw [upd_ne hb] at e
      exact E.sub b u e
  same := E.same
  free := E.free
  fresh := fun b nm g0 => by
    rw [upd_ne (ne_M mc nm)]
    exact E.fresh b nm g0
  bagged := fun p hp => by
    obtain ⟨b1, b2, b3⟩ := E.bagged p hp
    exact ⟨b1, by rw [upd_ne fun z => nb (by rw [← z]; exact hp)]; exact b2, b3⟩
  tabs := E.tabs
  tin := E.tin
  gnt := gnt_upd E.gnt no
  len := E.len
  slot := fun i s hs => by
    have h := E.slot i s hs
    cases s with
    | un => trivial
    | d x =>
      obtain ⟨v, e, a⟩ := h
      exact ⟨v, e, a.mono (Sub.new gc)⟩
    | ow x =>
      obtain ⟨p, e, hp, gp, r⟩ := h
      exact ⟨p, e, hp.mono (Sub.new gc) rfl, by rw [upd_ne fun (z : p = c) => oc i x hs (by rw [← z]; exact look_some e)]; exact gp, r⟩
    | raw v => exact h
    | bag => exact h
    | scr ns => exact ⟨_, h.choose_spec.1, (Sub.new gc).seqL h.choose_spec.2⟩
    | exn a d fs => exact ⟨h.1, h.2.mono (Sub.new gc)⟩
  dis := E.dis
  mob := fun a u h => by
    obtain ⟨h1, h2, h3⟩ := E.mob a u h
    exact ⟨h1.mono (Sub.new gc) rfl, by rw [upd_ne fun z => by rw [z, nm] at h; cases h]; exact h2, h3⟩
  mow := E.mow
end
section
variable [Tabl] {K : PySem.W.Frag} {Z : XZ} {δ : List Slot} {n : Sto} {Φ : D → Sto → Prop} {te : TE} {tt : TT} {wi : TI} {g : TG} {vs : List Nat}
def Lw [Tabl] (K : PySem.W.Frag) (B : Option Addr) (M : Addr → Prop) (G0 H0 G1 : Hp) (σ : L2.St) (δ : List Slot) (Iv : Nat → List D → Sto → Prop) (c : Addr) (i : Nat) (H : Hp) : Prop :=
  ∃ (acc : List D) (va : List V) (n' : Sto) (G' : Hp), Iv i acc n' ∧ acc.length ≤ i ∧ H c = some (.lst va) ∧ IsAll K G' va acc ∧ G' c = none ∧ n'.μ c = none ∧ En K B M n' G0 H0 G' H σ δ ∧ Sub G1 G'
theorem wipeD_at {i : Nat} (h : i ∉ vs) : (wipeD δ vs)[i]? = δ[i]? := by
  induction vs with
  | nil => rfl
  | cons v vs ih =>
    unfold wipeD
    rw [List.getElem?_set_ne (fun z => h (by rw [z]; exact List.mem_cons_self))]
    exact ih fun z => h (List.mem_cons_of_mem _ z)
def OffD (vs : List Nat) (δ2 δ : List Slot) : Prop := ∀ i, i ∉ vs → δ2[i]? = δ[i]?
theorem En.home {B : Option Addr} {M : Addr → Prop} {G0 H0 G' H : Hp} {σ σ2 : L2.St} {δ2 : List Slot} {c : Addr} {n' n2 : Sto} {G2 H2 : Hp} (E : En K B M n' G0 H0 G' H σ δ) (e : En K B (fun b => M b ∧ b ≠ c) n2 G' H G2 H2 σ2 δ2) (so : SameOff vs σ2 σ) (sd : OffD vs δ2 δ) (ho : ∀ i ∈ vs, ∀ x, δ[i]? ≠ some (.ow x)) : En K B M n2 G0 H0 G2 H2 σ δ := by
  refine ⟨E.sub0.trans e.sub0, e.sub, fun b o h0 nm => e.same b o (E.same b o h0 nm) fun z => nm z.1, fun b hb => (e.free b hb).1, fun b nm g0 => e.fresh b (fun z => nm z.1) (E.fresh b nm g0), fun p hp => ⟨(e.bagged p hp).1, (e.bagged p hp).2.1, (e.bagged p hp).2.2.1⟩, e.tabs, fun b ps hb => (e.tin b ps hb).1, e.gnt, E.len, fun m t ht => ?_, E.dis, fun a o h => ?_, fun i x a hi hs => ?_⟩
  · have old := E.slot m t ht
    cases t with
    | un => trivial
    | d y =>
      obtain ⟨u, f1, f2⟩ := old
      exact ⟨u, f1, f2.mono e.sub0⟩
    | ow ys =>
      have hm : m ∉ vs := fun z => ho m z ys ht
      have h2 := e.slot m (.ow ys) ((sd m hm).trans ht)
      rw [so.2 m hm] at h2
      obtain ⟨p, f1, f3, f4, f5, f6⟩ := h2
      exact ⟨p, f1, f3, f4, f5.1, f6⟩
    | raw u => exact old
    | bag => exact old
    | scr ns => exact ⟨_, old.choose_spec.1, e.sub0.seqL old.choose_spec.2⟩
    | exn a d fs => exact ⟨old.1, old.2.mono e.sub0⟩
  · obtain ⟨h1, h2, h3, h4⟩ := e.mob a o h
    exact ⟨h1, h2, h3.1, h4⟩
  · have hm : i ∉ vs := fun z => ho i z x hi
    exact e.mow i x a ((sd i hm).trans hi) ((so.2 i hm).trans hs)
theorem En.apart {B : Option Addr} {M : Addr → Prop} {G0 H0 G H : Hp} {σ : L2.St} {c : Addr} (e : En K B (fun b => M b ∧ b ≠ c) n G0 H0 G H σ δ) : n.μ c = none := by
  cases q : n.μ c with
  | none => rfl
  | some o => exact absurd rfl (e.mob c o q).2.2.1.2
theorem gk_lc (ho : ∀ i ∈ vs, ∀ x, δ[i]? ≠ some (.ow x)) (h : GI K Z wi δ n fun xs n1 => xs.length ≤ 50000 ∧ ∃ Iv : Nat → List D → Sto → Prop, Iv 0 [] n1 ∧ (∀ i x acc n', xs[i]? = some x → Iv i acc n' → acc.length ≤ i → ∃ δ2, GG K g x (wipeD δ vs) δ2 vs ∧ OffD vs δ2 δ ∧
      GT K .calm tt δ2 n' fun b n2 => (b = true → GK K .calm te δ2 n2 fun y n3 => Iv (i + 1) (acc ++ [y]) n3) ∧ (b = false → Iv (i + 1) acc n2)) ∧ ∀ acc n', Iv xs.length acc n' → acc.length ≤ xs.length → Φ (.lst acc) n') :
    GK K Z (tLc wi g tt te vs) δ n Φ := fun B M G0 H0 xw G H σ E Q q =>
  h B M G0 H0 xw G H σ E _ fun J xs G1 H1 n1 f1 E1 s1 a1 => by
    obtain ⟨hx5, Iv, h0, hs, hd⟩ := f1
    intro c hc
    have nbc : B ≠ some c := fun z => (E1.bagged c z).1.some hc
    have gc := E1.sub.none hc
    have mc := E1.free c hc
    have oc : ∀ (i : Nat) (x : MO), δ[i]? = some (.ow x) → σ[i]? ≠ some (some (.ref c)) := fun i xs hi z => by
      obtain ⟨p, e1, e2, _⟩ := E1.owo hi
      rw [z] at e1
      cases e1
      exact e2.some hc
    refine ⟨fun i m H' => m = xs.length - i ∧ i ≤ xs.length ∧ Lw K B M G0 H0 G1 σ δ Iv c i H', ⟨xs.length, by simp, Nat.zero_le _, [], [], n1, G1, h0, Nat.le_refl _, upd_same, .nil, gc, E1.nomob hc, E1.newc hc, Sub.refl G1⟩, ?_⟩
    rintro i m H' ⟨rfl, hi, acc, va, n', G', iv, hl, hc', ia, gc', nm', e', s'⟩
    obtain ⟨j1, j2⟩ := a1 G' H' s' e'.sub i
    by_cases hlt : i < xs.length
    · obtain ⟨x, hx⟩ : ∃ x, xs[i]? = some x := ⟨xs[i], by simp [hlt]⟩
      obtain ⟨jg, jy⟩ := j2 x hx
      refine .inr ⟨jg, Lw K B M G0 H0 G1 σ δ Iv c (i + 1), fun H2 q => ⟨xs.length - (i + 1), by omega, rfl, hlt, q⟩, fun v H'' y => ?_⟩
      obtain ⟨G2, s2, e2, a2, kc⟩ := e'.yld (jy v H'' y)
      have hc2 : H'' c = some (.lst va) ∧ G2 c = none := by
        obtain ⟨k1, k2⟩ := kc c (not_none hc')
        exact ⟨k1.trans hc', k2.trans gc'⟩
      obtain ⟨hc2, gc2⟩ := hc2
      obtain ⟨δ2, gg, od, ht⟩ := hs i x acc n' hx iv hl
      have Eb := (e2.rebase (c := c) nbc nm' oc ⟨_, hc2, fun _ z => nomatch z⟩).wipe vs
      refine gg B _ n' G2 H'' G2 H'' _ Eb v a2 _ fun σ3 e3 s3 => ⟨?_, ?_⟩
      · rw [s3.wipe]
        exact SameOff.off.wipe
      · have so : SameOff vs σ3 σ := s3.trans SameOff.off
        refine ht B _ G2 H'' .calm G2 H'' σ3 e3 _ fun b G4 H4 n4 f4 e4 s4 => ?_
        have ncm : ¬ (M c ∧ c ≠ c) := fun z => z.2 rfl
        cases b with
        | false =>
          show Lw K B M G0 H0 G1 σ δ Iv c (i + 1) H4
          exact ⟨acc, va, n4, G4, f4.2 rfl, by omega, e4.same c _ hc2 ncm, (ia.mono s2).mono s4, e4.fresh c ncm gc2, e4.apart, e2.home e4 so od ho, (s'.trans s2).trans s4⟩
        | true =>
          show te σ3 H4 _
          refine f4.1 rfl B _ G2 H'' .calm G4 H4 σ3 e4 _ fun y d G5 H5 n5 f5 e5 s5 a5 => ?_
          have hc5 := e5.same c _ hc2 ncm
          have gc5 := e5.fresh c ncm gc2
          refine ⟨va, hc5, by rw [ia.len]; exact sz_lt (by omega), acc ++ [d], va ++ [y], n5, G5, f5, by rw [List.length_append, List.length_singleton]; omega, upd_same, (((ia.mono s2).mono s4).mono s5).app (.cons a5 .nil), gc5, e5.apart, (e2.home e5 so od ho).beside (.inr ⟨_, hc5, trivial⟩) (fun _ z => nomatch z) nbc e5.apart gc5 mc oc, ((s'.trans s2).trans s4).trans s5⟩
    · have ei : i = xs.length := by omega
      subst ei
      -- the new list becomes one that stays
      have sn := Sub.new (o := .lst va) gc'
      exact .inl ⟨j1 rfl, q _ (.lst acc) _ H' n' (hd acc n' iv hl) (e'.settle hc' gc' mc nbc nm' oc) ((s1.trans s').trans sn) (.lst upd_same (ia.mono sn))⟩
end
end Tl
namespace Tl
open PySem L2 TL LamX
def m00 : Addr → Option MO := fun _ => none
def dN (Φ : D → Nat → Prop) : D → Sto → Prop := fun d n => Φ d n.n
theorem dN.mk {Φ : D → Nat → Prop} {d : D} {m : Nat} {μ : Addr → Option MO} (h : Φ d m) : dN Φ d ⟨m, μ⟩ := h
def spP [Tabl] (K : PySem.W.Frag) (Pc : List D → (D → Prop) → Prop) : Sp := fun vs H Q _ => ∃ (G : Hp) (ds : List D) (Φ : D → Prop), Tabs Tabl.T H ∧ (∀ b ps, G b ≠ some (.tbl ps)) ∧ Sub G H ∧ IsAll K G vs ds ∧ Pc ds Φ ∧
  ∀ (v : V) (d : D) (G' H' : Hp) (n' : Sto), Φ d → Eo K none m00 n' G H G' H' → Is K G' v d → Q v H'
def spB [Tabl] (K : PySem.W.Frag) (Pc : Nat → List D → (D → Nat → Prop) → Prop) : Sp := fun vs H Q _ => ∃ (G : Hp) (p : Addr) (n : Nat) (rest : List V) (ds : List D) (Φ : D → Nat → Prop), vs = .ref p :: rest ∧ Tabs Tabl.T H ∧ (∀ b ps, G b ≠ some (.tbl ps)) ∧ Sub G H ∧ G p = none ∧ Bag H p n ∧ IsAll K G rest ds ∧ Pc n ds Φ ∧
  ∀ (v : V) (d : D) (G' H' : Hp) (n' : Sto), Φ d n'.n → Eo K (some p) m00 n' G H G' H' → Is K G' v d → Q v H'
def spL [Tabl] (K : PySem.W.Frag) : Sp := fun vs H Q _ => ∃ (a : Addr) (ns : List Int), vs = [.ref a] ∧ Tabs Tabl.T H ∧ SqL K H a (ns.map V.int) ∧ ns.length ≤ 63 ∧ ∀ H', Q (.bl true) H'
theorem bag_kept {H H' : Hp} {p : Addr} {n : Nat} (b : Bag H p n) (k : ∀ xs, H p = some (.lst xs) → H' p = some (.lst xs)) : Bag H' p n := by
  obtain ⟨x, y, z, e, h⟩ := b
  exact ⟨x, y, z, k _ e, h⟩
theorem m00_ok {K : PySem.W.Frag} {B : Option Addr} {n : Nat} {G H : Hp} : MobOk K B ⟨n, m00⟩ G H := fun _ _ h => nomatch h
section
variable [Tabl] {K : PySem.W.Frag} {Z : XZ} {B : Option Addr} {δ : List Slot} {n : Sto} {Φ : D → Sto → Prop}
theorem En.afterP {M : Addr → Prop} {G0 H0 G H G' H' : Hp} {σ : L2.St} {n' : Sto} (E : En K B M n G0 H0 G H σ δ) (eo : Eo K none m00 n' G H G' H') : En K B M n G0 H0 G' H' σ δ :=
  E.grow eo.sub0 eo.sub (fun b o e _ nt => eo.same b o e (fun z => nomatch z) rfl nt) (fun b hb nt gb => eo.fresh b hb (fun z => nomatch z) rfl nt gb)
    (fun p hp => bag_kept (E.bagged p hp).1 fun xs e => eo.same p _ e (fun z => nomatch z) rfl (fun _ z => nomatch z)) eo.tabs eo.gnt
theorem En.afterB {p : Addr} {M : Addr → Prop} {G0 H0 G H G' H' : Hp} {σ : L2.St} {m : Nat} {μ : Addr → Option MO} {n' : Sto} (E : En K (some p) M ⟨m, μ⟩ G0 H0 G H σ δ) (eo : Eo K (some p) m00 n' G H G' H') : En K (some p) M ⟨n'.n, μ⟩ G0 H0 G' H' σ δ :=
  E.grow eo.sub0 eo.sub (fun b o e nb nt => eo.same b o e nb rfl nt)
    (fun b hb nt gb => by
      by_cases z : some p = some b
      · exact (eo.bagged b (by rw [← z])).2
      · exact eo.fresh b hb z rfl nt gb)
    (fun r hr => (eo.bagged r hr).1) eo.tabs eo.gnt
theorem sc_P {Pc : List D → (D → Prop) → Prop} {xs : List D} (k : Pc xs fun d => Φ d n) : SC K Z (spP K Pc) xs δ n Φ := fun B M G0 H0 xw G H σ E vs h Q X q =>
  ⟨G, xs, _, E.tabs, E.gnt, E.sub, h, k, fun v d G' H' n' hd eo hv => q v d G' H' n hd (E.afterP eo) eo.sub0 hv⟩
theorem sb_P {Pc : Nat → List D → (D → Nat → Prop) → Prop} {xs : List D} {m : Nat} {μ : Addr → Option MO} (k : Pc m xs fun d m' => Φ d ⟨m', μ⟩) : SB K Z (spB K Pc) xs δ ⟨m, μ⟩ Φ := fun p M G0 H0 xw G H σ E vs h Q X q =>
  have b := E.bagged p rfl
  ⟨G, p, m, vs, xs, _, rfl, E.tabs, E.gnt, E.sub, b.2.1, b.1, h, k, fun v d G' H' n' hd eo hv => q v d G' H' _ hd (E.afterB eo) eo.sub0 hv⟩
theorem En.drawn {p : Addr} {m n' : Nat} {μ : Addr → Option MO} {M : Addr → Prop} {G0 H0 G H H' : Hp} {σ : L2.St} (E : En K (some p) M ⟨m, μ⟩ G0 H0 G H σ δ) (bg : Bag H' p n') (fr : Fr p H H') : En K (some p) M ⟨n', μ⟩ G0 H0 G H' σ δ :=
  E.grow (Sub.refl G) (fun b o e => fr b o (fun z => by rw [z, (E.bagged p rfl).2.1] at e; cases e) (E.sub b o e)) (fun b o e nb _ => fr b o (fun z => nb (by rw [z])) e) (fun b _ _ g => g) (fun q hq => by cases hq; exact bg) (tabs_fr E.tabs (E.bagged p rfl).1 fr) E.gnt
end
section
variable [Tabl] {P : Program} {w : World} {K : PySem.W.Frag} {mg : Str → Option Value} {base : Heap}
theorem fn_P {x qual : Str} {st : Stmt} {f : Addr} {fd : FuncData} {N ps : List Str} {k : Nat} {Pc : List D → (D → Prop) → Prop} (F : Fun K x qual st f fd) (S : FnScope N ps (defScope st)) (hl : ∀ ds Φ, Pc ds Φ → ds.length = ps.length)
    (hb : ∀ (cdv : Value) (A : Around) (outer : List Env) (s : Shared) (H : Hp) (E : XK), Room k (A.deeper (PyProof.Rows.envOfC qual (defScope st) s.heap.objs.size f cdv)) →
      ∃ t, PSs (cxOf CX0 P w K mg base N qual (defScope st) f cdv A outer s H E).nox (defBody st) t ∧ ∀ ds Φ, Pc ds Φ → GS K .calm none t (startD N ds) ⟨0, m00⟩ (fun _ _ => Φ .non) (fun d _ => Φ d) (fun _ _ => False) (fun _ _ => False)) :
    FnOk P w K mg base CX0 (k + 1) f fd ps (spP K Pc) := by
  refine F.ok S (fun vs H Q E h => ?_) (fun cdv A outer s H vs Q E hr h => ?_)
  · obtain ⟨G, ds, Φ, _, _, _, hv, hp, _⟩ := h
    rw [hv.len, hl ds Φ hp]
  · obtain ⟨G, ds, Φ, tb, gn, hs, hv, hp, q⟩ := h
    obtain ⟨t, h1, h2⟩ := hb cdv A outer s H E hr
    exact ⟨t, h1, h2 ds Φ hp m00 G H .calm G H _ _ (En.start m00_ok tb gn hs hv) (fun σ' δ' G' H' n' hd e _ => q .non .non G' H' n' hd e.out .non) (fun v d G' H' n' hd eo hv => q v d G' H' n' hd eo hv) (fun _ _ _ _ _ z => z.elim) (fun _ _ _ _ _ z => z.elim)⟩
theorem fn_B {x qual : Str} {st : Stmt} {f : Addr} {fd : FuncData} {N ps : List Str} {k : Nat} {Pc : Nat → List D → (D → Nat → Prop) → Prop} (F : Fun K x qual st f fd) (S : FnScope N ps (defScope st)) (hl : ∀ n ds Φ, Pc n ds Φ → ds.length + 1 = ps.length)
    (hb : ∀ (cdv : Value) (A : Around) (outer : List Env) (s : Shared) (H : Hp) (E : XK), Room k (A.deeper (PyProof.Rows.envOfC qual (defScope st) s.heap.objs.size f cdv)) →
      ∃ t, PSs (cxOf CX0 P w K mg base N qual (defScope st) f cdv A outer s H E).nox (defBody st) t ∧ ∀ p n ds Φ, Pc n ds Φ → GS K .calm (some p) t (startG N ds) ⟨n, m00⟩ (fun _ n' => dN Φ .non n') (dN Φ) (fun _ _ => False) (fun _ _ => False)) :
    FnOk P w K mg base CX0 (k + 1) f fd ps (spB K Pc) := by
  refine F.ok S (fun vs H Q E h => ?_) (fun cdv A outer s H vs Q E hr h => ?_)
  · obtain ⟨G, p, n, rest, ds, Φ, rfl, _, _, _, _, _, hv, hp, _⟩ := h
    rw [List.length_cons, hv.len, hl n ds Φ hp]
  · obtain ⟨G, p, n, rest, ds, Φ, rfl, tb, gn, hs, gp, bg, hv, hp, q⟩ := h
    obtain ⟨t, h1, h2⟩ := hb cdv A outer s H E hr
    exact ⟨t, h1, h2 p n ds Φ hp m00 G H .calm G H _ _ (En.startB m00_ok tb gn hs gp bg hv) (fun σ' δ' G' H' n' hd e _ => q .non .non G' H' n' hd e.out .non) (fun v d G' H' n' hd eo hv => q v d G' H' n' hd eo hv) (fun _ _ _ _ _ z => z.elim) (fun _ _ _ _ _ z => z.elim)⟩
theorem En.startS {H : Hp} {a : Addr} {ns : List Int} {N : List Str} (tb : Tabs Tabl.T H) (h : SqL K H a (ns.map V.int)) : ∃ G, En K none (MOf none m00 H) ⟨0, m00⟩ G H G H (L2.start N [.ref a]) (.scr ns :: List.replicate (N.length - 1) .un) := by
  have key : ∃ G : Hp, Sub G H ∧ (∀ b ps, G b ≠ some (.tbl ps)) ∧ SqL K G a (ns.map V.int) := by
    rcases h with h | h
    · refine ⟨fun b => if b = a then H b else none, fun b o e => ?_, fun b ps z => ?_, .inl ?_⟩
      · by_cases z : b = a
        · simpa [z] using e
        · simp [z] at e
      · by_cases hb : b = a
        · have z : H b = some (.tbl ps) := by simpa [hb] using z
          rw [hb] at z
          rcases h with h | ⟨o, h⟩
          · rw [h] at z
            cases z
          · rw [h] at z
            cases z
        · simp [hb] at z
      · rcases h with h | ⟨o, h⟩
        · exact .inl (by simp [h])
        · exact .inr ⟨o, by simp [h]⟩
    · exact ⟨fun _ => none, (fun b o e => nomatch e), (fun b ps z => nomatch z), .inr h⟩
  obtain ⟨G, sg, gn, hG⟩ := key
  refine ⟨G, Sub.refl _, sg, fun b o e _ => e, fun b hb => .inl hb, fun b _ g => g, fun p z => (nomatch z), tb, fun b ps h => .inr (.inr (.inl ⟨ps, h⟩)), gn, ?_, fun i s hs => ?_, fun i j p xs ys hi hj si sj => ?_, fun _ _ h => (nomatch h), fun _ _ _ _ _ => rfl⟩
  · unfold L2.start
    simp
  · cases i with
    | zero =>
      cases hs
      exact ⟨a, rfl, hG⟩
    | succ i =>
      have : s = .un := (List.mem_replicate.mp (List.mem_of_getElem? (show (List.replicate (N.length - 1) Slot.un)[i]? = some s from hs))).2
      rw [this]
      trivial
  · cases i with
    | zero => cases hi
    | succ i =>
      have := (List.mem_replicate.mp (List.mem_of_getElem? (show (List.replicate (N.length - 1) Slot.un)[i]? = some _ from hi))).2
      cases this
end
def unbag (δ : List Slot) : List Slot := δ.map fun s => match s with | .bag => .un | s => s
section
variable [Tabl] {K : PySem.W.Frag} {Z : XZ} {B : Option Addr} {δ : List Slot} {n : Sto} {Φ : D → Sto → Prop} {te ta tb : TE} {aa : TA} {N Bk Ct : List Slot → Sto → Prop} {R : D → Sto → Prop} {ts : TS}
theorem mof_eq {p : Addr} {m0 : Addr → Option MO} {H0 : Hp} (h : MOf none m0 H0 p) : MOf (some p) m0 H0 = MOf none m0 H0 := by
  funext b
  apply propext
  constructor
  · rintro (z | z | z | z)
    · exact .inl z
    · cases z
      exact h
    · exact .inr (.inr (.inl z))
    · exact .inr (.inr (.inr z))
  · rintro (z | z | z | z)
    · exact .inl z
    · cases z
    · exact .inr (.inr (.inl z))
    · exact .inr (.inr (.inr z))
theorem mof_ne {p b : Addr} {m0 : Addr → Option MO} {H0 : Hp} (h : MOf none m0 H0 p) (h1 : H0 b ≠ none) (h2 : ∀ ps, H0 b ≠ some (.tbl ps)) (h3 : m0 b = none) : some p ≠ some b := fun z => by
  cases z
  rcases h with h | h | ⟨ps, h⟩ | h
  · exact h1 h
  · cases h
  · exact h2 ps h
  · exact h h3
theorem En.unbag {p : Addr} {k : Nat} {m0 : Addr → Option MO} {G0 H0 G H : Hp} {σ : L2.St} (h0 : MOf none m0 H0 p) (E : En K (some p) (MOf (some p) m0 H0) n G0 H0 G H σ δ) : En K none (MOf none m0 H0) ⟨k, n.μ⟩ G0 H0 G H σ (Tl.unbag δ) := by
  rw [mof_eq h0] at E
  have key : ∀ (i : Nat) (x : MO), (Tl.unbag δ)[i]? = some (.ow x) → δ[i]? = some (.ow x) := fun i xs hi => by
    unfold Tl.unbag at hi
    rw [List.getElem?_map] at hi
    obtain ⟨t, h1, h2⟩ := Option.map_eq_some_iff.mp hi
    cases t <;> first | (cases h2; exact h1) | (cases h2)
  refine ⟨E.sub0, E.sub, E.same, E.free, E.fresh, fun q z => (nomatch z), E.tabs, E.tin, E.gnt, by rw [E.len]; unfold Tl.unbag; rw [List.length_map], fun i s hs => ?_, fun i j q xs ys hi hj si sj => E.dis i j q xs ys (key i xs hi) (key j ys hj) si sj, fun a o h => ?_, fun i x a hi hs => E.mow i x a (key i x hi) hs⟩
  · unfold Tl.unbag at hs
    rw [List.getElem?_map] at hs
    obtain ⟨t, h1, h2⟩ := Option.map_eq_some_iff.mp hs
    have h := E.slot i t h1
    cases t with
    | un => cases h2; trivial
    | d x => cases h2; exact h
    | ow x =>
      cases h2
      obtain ⟨q, e, hp, gp, mp, np⟩ := h
      exact ⟨q, e, hp, gp, mp, fun z => nomatch z⟩
    | raw v => cases h2; exact h
    | bag => cases h2; trivial
    | scr ns => cases h2; exact h
    | exn a d fs => cases h2; exact h
  · obtain ⟨h1, h2, h3, h4⟩ := E.mob a o h
    exact ⟨h1, h2, h3, fun z => nomatch z⟩
theorem gs_newbag {spb : Sp} {X : XK} {i j k : Nat} {μ : Addr → Option MO} {ns : List Int} (hspb : ∀ (a : Addr) (i : Int) (H : Hp) (Q : VK) (E : XK), SqL K H a (ns.map V.int) → 0 ≤ i → i ≤ 63 → (∀ (p : Addr) (H' : Hp), H p = none → Bag H' p 0 → Same H H' → Q (.ref p) H') → spb [.ref a, .int i] H Q E)
    (hi : δ[i]? = some (.scr ns)) (hj : ∀ x, δ[j]? ≠ some (.ow x)) (h : GK K .calm te δ ⟨k, μ⟩ fun d n1 => ∃ k : Int, d = .int k ∧ 0 ≤ k ∧ k ≤ 63 ∧ ∀ p, GS K .calm (some p) ts (δ.set j .bag) ⟨0, n1.μ⟩ (fun δ' n' => N (unbag δ') ⟨0, n'.μ⟩) (fun d n' => R d ⟨0, n'.μ⟩) (fun δ' n' => Bk (unbag δ') ⟨0, n'.μ⟩) (fun δ' n' => Ct (unbag δ') ⟨0, n'.μ⟩)) :
    GS K .calm none (tSeq (tAsg (tCall spb [] X (tCons (tVar i) (tCons te tNil))) (gName j)) ts) δ ⟨k, μ⟩ N R Bk Ct := fun m0 G0 H0 xw G H σ E e hn hr hb hc => by
  obtain ⟨a, e1, e2⟩ := e.slot i _ hi
  refine ⟨_, look_some e1, ?_⟩
  refine h none (MOf none m0 H0) G0 H0 xw G H σ e _ fun v d G1 H1 n1 f1 E1 s1 a1 => ?_
  obtain ⟨k, rfl, k0, k1, f1⟩ := f1
  cases a1
  refine hspb a k H1 _ _ (E1.sub.seqL (s1.seqL e2)) k0 k1 fun p H2 hp bg sm => ?_
  have h0p : MOf none m0 H0 p := E1.free p hp
  have gp : G1 p = none := E1.sub.none hp
  have E2 : En K none (MOf none m0 H0) n1 G0 H0 G1 H2 σ δ := E1.grow (Sub.refl G1) (fun b o e => sm b o (E1.sub b o e)) (fun b o e _ _ => sm b o e) (fun b _ _ g => g) (fun q z => nomatch z) (E1.tabs.ext sm) E1.gnt
  have E3 : En K (some p) (MOf (some p) m0 H0) ⟨0, n1.μ⟩ G0 H0 G1 H2 (σ.set j (some (.ref p))) (δ.set j .bag) := by
    have hno : ∀ (m : Nat) (x : MO), (δ.set j .bag)[m]? = some (.ow x) → m ≠ j ∧ δ[m]? = some (.ow x) := fun m xs hm => by
      by_cases z : j = m
      · subst z
        by_cases hl : j < δ.length
        · rw [List.getElem?_set_self hl] at hm
          cases hm
        · rw [List.getElem?_eq_none (by rw [List.length_set]; omega)] at hm
          cases hm
      · rw [List.getElem?_set_ne z] at hm
        exact ⟨fun y => z y.symm, hm⟩
    rw [mof_eq h0p]
    refine ⟨E2.sub0, E2.sub, E2.same, E2.free, E2.fresh, fun q z => ?_, E2.tabs, E2.tin, E2.gnt, by rw [List.length_set, List.length_set, E2.len], fun m t ht => ?_, fun m l q xs ys hm hl sm sl => ?_, fun a o ha => ?_, fun m x a hm sm => ?_⟩
    · cases z
      exact ⟨bg, gp, h0p⟩
    · by_cases z : j = m
      · subst z
        have hl : j < δ.length := by
          have := (List.getElem?_eq_some_iff.mp ht).1
          rw [List.length_set] at this
          exact this
        rw [List.getElem?_set_self hl] at ht
        rw [List.getElem?_set_self (by rw [E2.len]; exact hl)]
        cases ht
        exact ⟨p, rfl, rfl⟩
      · rw [List.getElem?_set_ne z] at ht
        rw [List.getElem?_set_ne z]
        have h := E2.slot m t ht
        cases t with
        | un => trivial
        | d x => exact h
        | ow x =>
          obtain ⟨q, e, hq, gq, mq, nq⟩ := h
          have e2' := E1.slot m _ ht
          obtain ⟨q', e', hq', _⟩ := e2'
          rw [e] at e'
          cases e'
          exact ⟨q, e, hq, gq, mq, fun z => by cases z; exact hq'.some hp⟩
        | raw v => exact h
        | bag =>
          obtain ⟨q, _, z⟩ := h
          cases z
        | scr ns => exact h
        | exn a d fs => exact h
    · obtain ⟨n1, d1⟩ := hno m xs hm
      obtain ⟨n2, d2⟩ := hno l ys hl
      rw [List.getElem?_set_ne n1.symm] at sm
      rw [List.getElem?_set_ne n2.symm] at sl
      exact E2.dis m l q xs ys d1 d2 sm sl
    · obtain ⟨h1, h2, h3, _⟩ := E2.mob a o ha
      exact ⟨h1, h2, h3, fun z => by cases z; exact (E1.mob p o ha).1.some hp⟩
    · obtain ⟨n1, d1⟩ := hno m x hm
      rw [List.getElem?_set_ne n1.symm] at sm
      exact E2.mow m x a d1 sm
  show ts E (σ.set j (some (.ref p))) H2
  refine f1 p m0 G0 H0 .calm G1 H2 _ E E3 (fun σ2 δ2 G2 H3 n2 x y z => hn σ2 _ G2 H3 _ x (y.unbag h0p) (s1.trans z)) (fun v d G' H' n' x eo iv => hr v d G' H' _ x ⟨eo.sub0, eo.sub, fun b o hb _ nm nt => eo.same b o hb (mof_ne h0p (not_none hb) (fun ps z => nt ps (Option.some.inj (hb.symm.trans z))) nm) nm nt, fun b hb _ nm nt g0 => eo.fresh b hb (mof_ne h0p hb nt nm) nm nt g0, fun _ z => (nomatch z), eo.tabs, eo.gnt, fun a o h => ?_⟩ iv)
    (fun σ2 δ2 G2 H3 n2 x y z => hb σ2 _ G2 H3 _ x (y.unbag h0p) (s1.trans z)) (fun σ2 δ2 G2 H3 n2 x y z => hc σ2 _ G2 H3 _ x (y.unbag h0p) (s1.trans z))
  obtain ⟨h1, h2, h3, h4⟩ := eo.mob a o h
  exact ⟨h1, h2, (fun z => nomatch z), h4⟩
theorem gk_scrLen {i : Nat} {ns : List Int} (hi : δ[i]? = some (.scr ns)) (k : Φ (.int ns.length) n) : GK K Z (tCB (fun xs H Q => ∃ p ys, xs = [.ref p] ∧ (SqL K H p ys ∨ SqT K H p ys) ∧ Q (.int ys.length) H) (tCons (tVar i) tNil)) δ n Φ := fun B M G0 H0 xw G H σ E Q q => by
  obtain ⟨a, e1, e2⟩ := E.slot i _ hi
  exact ⟨_, look_some e1, a, ns.map V.int, rfl, .inl (E.sub.seqL e2), by rw [List.length_map]; exact q _ _ G H n k E (Sub.refl G) (.int _)⟩
theorem rk_add {i j : Int} (k : Φ (.int (i + j)) n) : RK K Z (rI0 fun i j => .int (i + j)) (.int i) (.int j) δ n Φ := rk_I0 rfl k
theorem rk_sub {i j : Int} (k : Φ (.int (i - j)) n) : RK K Z (rI0 fun i j => .int (i - j)) (.int i) (.int j) δ n Φ := rk_I0 rfl k
theorem rk_lt {i j : Int} (k : Φ (.bl (decide (i < j))) n) : RK K Z (rI0 fun i j => .bl (decide (i < j))) (.int i) (.int j) δ n Φ := rk_I0 rfl k
theorem rk_le {i j : Int} (k : Φ (.bl (decide (i ≤ j))) n) : RK K Z (rI0 fun i j => .bl (decide (i ≤ j))) (.int i) (.int j) δ n Φ := rk_I0 rfl k
theorem rk_gt {i j : Int} (k : Φ (.bl (decide (j < i))) n) : RK K Z (rI0 fun i j => .bl (decide (j < i))) (.int i) (.int j) δ n Φ := rk_I0 rfl k
theorem rk_ge {i j : Int} (k : Φ (.bl (decide (j ≤ i))) n) : RK K Z (rI0 fun i j => .bl (decide (j ≤ i))) (.int i) (.int j) δ n Φ := rk_I0 rfl k
theorem rk_mul {i j : Int} (h : CMul i j) (k : Φ (.int (i * j)) n) : RK K Z (rI CMul fun i j => .int (i * j)) (.int i) (.int j) δ n Φ := rk_I rfl h k
theorem rk_fdiv {i j : Int} (h : CDiv i j) (k : Φ (.int (i / j)) n) : RK K Z (rI CDiv fun i j => .int (i / j)) (.int i) (.int j) δ n Φ := rk_I rfl h k
theorem rk_mod {i j : Int} (h : 0 < j) (k : Φ (.int (i % j)) n) : RK K Z (rI (fun _ j => 0 < j) fun i j => .int (i % j)) (.int i) (.int j) δ n Φ := rk_I rfl h k
theorem rk_eqI {i j : Int} (k : Φ (.bl (decide (i = j))) n) : RK K Z rEq (.int i) (.int j) δ n Φ := rk_eq rfl rfl rfl (by simpa using k)
theorem rk_neI {i j : Int} (k : Φ (.bl (!decide (i = j))) n) : RK K Z rNe (.int i) (.int j) δ n Φ := rk_ne rfl rfl rfl (by simpa using k)
theorem rk_eqS {i j : Str} (k : Φ (.bl (decide (i = j))) n) : RK K Z rEq (.str i) (.str j) δ n Φ := rk_eq rfl rfl rfl (by simpa using k)
theorem rk_neS {i j : Str} (k : Φ (.bl (!decide (i = j))) n) : RK K Z rNe (.str i) (.str j) δ n Φ := rk_ne rfl rfl rfl (by simpa using k)
theorem rk_eqB {i j : Bool} (k : Φ (.bl (decide (i = j))) n) : RK K Z rEq (.bl i) (.bl j) δ n Φ := rk_eq rfl rfl rfl (by simpa using k)
theorem rk_neB {i j : Bool} (k : Φ (.bl (!decide (i = j))) n) : RK K Z rNe (.bl i) (.bl j) δ n Φ := rk_ne rfl rfl rfl (by simpa using k)
theorem ru_neg {i : Int} (k : Φ (.int (-i)) n) : RU K Z (rU fun i => .int (-i)) (.int i) δ n Φ := ru_U rfl k
theorem gk_chain {tc : TE} {r r' : R2} (h : GK K Z ta δ n fun x n1 => GK K Z tb δ n1 fun y n2 => RK K Z r x y δ n2 fun z n3 => ∃ k, z = .bl k ∧ (k = true → GK K Z tc δ n3 fun u n4 => RK K Z r' y u δ n4 Φ) ∧ (k = false → Φ (.bl false) n3)) : GK K Z (tChain r r' ta tb tc) δ n Φ := fun B M G0 H0 xw G H σ E Q q =>
  h B M G0 H0 xw G H σ E _ fun v x G1 H1 n1 f1 E1 s1 a1 => f1 B M G0 H0 xw G1 H1 σ E1 _ fun w y G2 H2 n2 f2 E2 s2 a2 => f2 B M G0 H0 xw G2 H2 σ E2 v w (a1.mono s2) a2 _ fun u d G3 H3 n3 f3 E3 s3 a3 => by
    obtain ⟨k, rfl, h1, h2⟩ := f3
    cases a3
    refine ⟨k, rfl, ?_⟩
    cases k with
    | true =>
      rw [if_pos rfl]
      exact h1 rfl B M G0 H0 xw G3 H3 σ E3 _ fun u' d' G4 H4 n4 f4 E4 s4 a4 => f4 B M G0 H0 xw G4 H4 σ E4 w u' ((a2.mono s3).mono s4) a4 Q fun u5 d5 G5 H5 n5 f5 E5 s5 a5 => q u5 d5 G5 H5 n5 f5 E5 ((((s1.trans s2).trans s3).trans s4).trans s5) a5
    | false =>
      rw [if_neg Bool.false_ne_true]
      exact q _ _ G3 H3 n3 (h2 rfl) E3 ((s1.trans s2).trans s3) (.bl _)
theorem gs_par3 {i j l : Nat} (h : GA K Z aa δ n fun ds n' => ∃ x y z, ds = [x, y, z] ∧ N (((δ.set i (.d x)).set j (.d y)).set l (.d z)) n') : GS K Z B (tPar3 i j l aa) δ n N R Bk Ct := fun m0 G0 H0 xw G H σ E e hn hr hb hc =>
  h B (MOf B m0 H0) G0 H0 xw G H σ e _ fun vs ds G1 H1 n1 f1 E1 s1 a1 => by
    obtain ⟨x, y, z, rfl, f1⟩ := f1
    cases a1 with
    | cons ha r =>
      cases r with
      | cons hb' r =>
        cases r with
        | cons hc' r =>
          cases r
          exact ⟨_, _, _, rfl, hn _ _ G1 H1 n1 f1 (((E1.set (s := .d x) ⟨_, rfl, ha⟩ fun _ z => nomatch z).set (s := .d y) ⟨_, rfl, hb'⟩ fun _ z => nomatch z).set (s := .d z) ⟨_, rfl, hc'⟩ fun _ z => nomatch z) s1⟩
theorem gs_unp {g : TG} {vs : List Nat} (h : GK K Z te δ n fun d n' => ∃ δ', GG K g d δ δ' vs ∧ N δ' n') : GS K Z B (tAsg te g) δ n N R Bk Ct := fun m0 G0 H0 xw G H σ E e hn hr hb hc =>
  h B (MOf B m0 H0) G0 H0 xw G H σ e _ fun v d G1 H1 n1 f1 E1 s1 a1 => by
    obtain ⟨δ', g1, f1⟩ := f1
    exact g1 B _ n1 G0 H0 G1 H1 σ E1 v a1 _ fun σ' E2 _ => hn σ' δ' G1 H1 n1 f1 E2 s1
theorem rc_tupL {xs : List D} (k : Φ (.tup xs) n) : RC K Z (fun xs H Q => ∃ p ys, xs = [.ref p] ∧ ((SqL K H p ys ∧ ∀ l, H l = none → Q (.ref l) (upd H l (.tup ys))) ∨ (SqT K H p ys ∧ Q (.ref p) H))) [.lst xs] δ n Φ := fun B M G0 H0 xw G H σ E vs a Q q => by
  cases a with
  | cons a r =>
    cases r
    cases a with
    | lst h1 a1 =>
      refine ⟨_, _, rfl, .inl ⟨SqL.of (E.sub _ _ h1), fun p hp => ?_⟩⟩
      have s2 : ∀ o, Sub G (upd G p o) := fun o => Sub.new (E.sub.none hp)
      exact q _ _ _ _ n k (E.laid hp) (s2 _) (.tup (SqT.of upd_same) (a1.mono (s2 _)))
theorem rc_tupT {xs : List D} (k : Φ (.tup xs) n) : RC K Z (fun xs H Q => ∃ p ys, xs = [.ref p] ∧ ((SqL K H p ys ∧ ∀ l, H l = none → Q (.ref l) (upd H l (.tup ys))) ∨ (SqT K H p ys ∧ Q (.ref p) H))) [.tup xs] δ n Φ := fun B M G0 H0 xw G H σ E vs a Q q => by
  cases a with
  | cons a r =>
    cases r
    cases a with
    | tup h1 a1 => exact ⟨_, _, rfl, .inr ⟨E.sub.seq h1, q _ _ G H n k E (Sub.refl G) (.tup h1 a1)⟩⟩
theorem rc_listT {xs : List D} (k : Φ (.lst xs) n) : RC K Z (fun ws H Q => ∃ p ys, ws = [.ref p] ∧ (SqL K H p ys ∨ SqT K H p ys) ∧ ∀ l, H l = none → Q (.ref l) (upd H l (.lst ys))) [.tup xs] δ n Φ := fun B M G0 H0 xw G H σ E vs a Q q => by
  cases a with
  | cons a r =>
    cases r
    cases a with
    | tup h1 a1 =>
      refine ⟨_, _, rfl, .inr (E.sub.seq h1), fun p hp => ?_⟩
      have s2 : ∀ o, Sub G (upd G p o) := fun o => Sub.new (E.sub.none hp)
      exact q _ _ _ _ n k (E.laid hp) (s2 _) (.lst upd_same (a1.mono (s2 _)))
theorem rk_catT {xs ys : List D} (h : xs.length + ys.length ≤ 100000) (k : Φ (.tup (xs ++ ys)) n) : RK K Z (rCatA K) (.tup xs) (.tup ys) δ n Φ := fun B M G0 H0 xw G H σ E v w a b Q q => by
  cases a with
  | @tup p vs _ h1 a1 =>
    cases b with
    | @tup p2 ws _ h2 a2 =>
      refine ⟨_, _, _, _, rfl, rfl, E.sub.seq h1, E.sub.seq h2, by rw [a1.len, a2.len]; exact sz_ h, fun e => ?_, fun _ e => ?_, fun _ _ p hp => ?_⟩
      · subst e
        cases a1
        exact q _ _ G H n k E (Sub.refl G) (.tup h2 a2)
      · subst e
        cases a2
        rw [List.append_nil] at k
        exact q _ _ G H n k E (Sub.refl G) (.tup h1 a1)
      · have s2 : ∀ o, Sub G (upd G p o) := fun o => Sub.new (E.sub.none hp)
        exact q _ _ _ _ n k (E.laid hp) (s2 _) (.tup (SqT.of upd_same) ((a1.app a2).mono (s2 _)))
theorem cut_whole {xs : List D} {lo hi : Option Int} (h : HT.sIx xs.length 0 lo = 0 ∧ HT.sIx xs.length xs.length hi = xs.length) : cutD xs lo hi = xs := by
  unfold cutD
  rw [h.1, h.2, Nat.sub_zero, List.drop_zero, List.take_length]
theorem rs_tup {xs : List D} {lo hi : Option Int} (k : Φ (.tup (cutD xs lo hi)) n) : RS K Z (rSlA K) (.tup xs) lo hi δ n Φ := fun B M G0 H0 xw G H σ E v a Q q => by
  cases a with
  | @tup p vs _ h1 a1 =>
    refine ⟨_, _, rfl, E.sub.seq h1, fun e => ?_, fun _ p hp => ?_⟩
    · rw [a1.len] at e
      rw [cut_whole e] at k
      exact q _ _ G H n k E (Sub.refl G) (.tup h1 a1)
    · have s2 : ∀ o, Sub G (upd G p o) := fun o => Sub.new (E.sub.none hp)
      exact q _ _ _ _ n k (E.laid hp) (s2 _) (.tup (SqT.of upd_same) ((a1.cut lo hi).mono (s2 _)))
mutual
def toP : D → PyData
  | .non => .none
  | .bl b => .bool b
  | .int i => .int i
  | .str x => .str x
  | .lst xs => .list (toPs xs)
  | .tup xs => .tuple (toPs xs)
  | .dic _ => .none
  | .ptr _ => .none
  | .dct kvs => .dict (toPk kvs)
def toPs : List D → List PyData
  | [] => []
  | x :: xs => toP x :: toPs xs
def toPk : List (Key × D) → List (PyData × PyData)
  | [] => []
  | (.inl i, x) :: xs => (.int i, toP x) :: toPk xs
  | (.inr z, x) :: xs => (.str z, toP x) :: toPk xs
end
inductive Shp : Nat → D → Prop where
  | non {k : Nat} : Shp k .non
  | bl {k : Nat} (b : Bool) : Shp k (.bl b)
  | int {k : Nat} (i : Int) : Shp k (.int i)
  | str {k : Nat} {x : Str} (h : ∀ c ∈ tl x, c < 1114112) : Shp k (.str x)
  | lst {k : Nat} {xs : List D} (h : ∀ x ∈ xs, Shp k x) : Shp (k + 1) (.lst xs)
  | tup {k : Nat} {xs : List D} (h : ∀ x ∈ xs, Shp k x) : Shp (k + 1) (.tup xs)
mutual
theorem Is.dp {G H : Hp} (s : Sub G H) : ∀ {v : V} {d : D} {k : Nat}, Is K G v d → Shp k d → Dp K H v (toP d)
  | _, _, _, .non, _ => by unfold toP; exact .non
  | _, _, _, .bl b, _ => by unfold toP; exact .bl b
  | _, _, _, .int i, _ => by unfold toP; exact .int i
  | _, _, _, .str x, _ => by unfold toP; exact .str x
  | _, _, _, .lst h a, hs => by
    unfold toP
    cases hs with
    | lst hs => exact .lst (SqL.of (s _ _ h)) (IsAll.dp s a hs)
  | _, _, _, .tup h a, hs => by
    unfold toP
    cases hs with
    | tup hs => exact .tup (s.seq h) (IsAll.dp s a hs)
  | _, _, _, .dic _ _, hs => by cases hs
  | _, _, _, .dct _ _, hs => by cases hs
  | _, _, _, .ptr _, hs => by cases hs
theorem IsAll.dp {G H : Hp} (s : Sub G H) : ∀ {vs : List V} {ds : List D} {k : Nat}, IsAll K G vs ds → (∀ x ∈ ds, Shp k x) → DpAll K H vs (toPs ds)
  | _, _, _, .nil, _ => by unfold toPs; exact .nil
  | _, _, _, .cons h r, hs => by
    unfold toPs
    exact .cons (Is.dp s h (hs _ List.mem_cons_self)) (IsAll.dp s r fun x hx => hs x (List.mem_cons_of_mem _ hx))
end
theorem toPs_lay {xs : List D} : (∀ x ∈ xs, (toP x).canLay0 = true) → PyData.canLayAll0 (toPs xs) = true := by
  induction xs with
  | nil => intro _; unfold toPs PyData.canLayAll0; rfl
  | cons x xs ih =>
    intro h
    unfold toPs PyData.canLayAll0
    rw [h x List.mem_cons_self, ih fun y hy => h y (List.mem_cons_of_mem _ hy)]
    rfl
theorem toPs_depth {xs : List D} {k : Nat} : (∀ x ∈ xs, (toP x).depth ≤ k) → PyData.depthAll (toPs xs) ≤ k := by
  induction xs with
  | nil => intro _; unfold toPs PyData.depthAll; exact Nat.zero_le _
  | cons x xs ih =>
    intro h
    unfold toPs PyData.depthAll
    exact Nat.max_le.mpr ⟨h x List.mem_cons_self, ih fun y hy => h y (List.mem_cons_of_mem _ hy)⟩
theorem Shp.ok {k : Nat} {d : D} (h : Shp k d) : (toP d).canLay0 = true ∧ (toP d).depth ≤ k := by
  induction h with
  | non => unfold toP; simp [PyData.canLay0, PyData.depth]
  | bl => unfold toP; simp [PyData.canLay0, PyData.depth]
  | int => unfold toP; simp [PyData.canLay0, PyData.depth]
  | @str k x h =>
    unfold toP
    simp only [PyData.canLay0, PyData.depth, Nat.zero_le, and_true]
    unfold PyData.strOk
    rw [Array.all_eq_true']
    intro c hc
    exact decide_eq_true (h c (Array.mem_toList_iff.mpr hc))
  | lst h ih =>
    unfold toP
    simp only [PyData.canLay0, PyData.depth]
    exact ⟨toPs_lay fun x hx => (ih x hx).1, Nat.succ_le_succ (toPs_depth fun x hx => (ih x hx).2)⟩
  | tup h ih =>
    unfold toP
    simp only [PyData.canLay0, PyData.depth]
    exact ⟨toPs_lay fun x hx => (ih x hx).1, Nat.succ_le_succ (toPs_depth fun x hx => (ih x hx).2)⟩
def eqD (x y : D) : Bool := PyData.eqv (toP x) (toP y)
theorem eqD_self {k : Nat} {x : D} (h : Shp k x) : eqD x x = true := PySem.SeqAt.eqv_refl _ h.ok.1
def tyn : D → String
  | .non => "NoneType" | .bl _ => "bool" | .int _ => "int" | .str _ => "str" | .lst _ => "list" | .tup _ => "tuple" | .dic _ => "dict" | .ptr _ => "?" | .dct _ => "dict"
def isPtr : D → Bool
  | .ptr _ => true | _ => false
theorem Is.ty {G H : Hp} {v : V} {d : D} (s : Sub G H) (a : Is K G v d) (np : isPtr d = false) : TyX K H v (.type (tyn d)) := by
  cases a with
  | non => exact .base .non
  | bl b => exact .base (.bl b)
  | int i => exact .base (.int i)
  | str x => exact .base (.str x)
  | lst h _ => exact .base (.lst (s _ _ h))
  | tup h _ =>
    rcases s.seq h with (h | ⟨o, h⟩) | ⟨o, _, _, h, c, _⟩
    · exact .base (.tup h)
    · exact .fTuple h
    · exact .kTuple h c
  | dic h _ =>
    rcases s.rd h with h | ⟨o, h⟩
    · exact .base (.dK h)
    · exact .fDict h
  | ptr _ => cases np
  | dct h _ => exact .fDict (s _ _ h)
def KitB (K : PySem.W.Frag) (t c : String) (b : Bool) : Prop := PySem.W.kitOne K (.type t) (.type c) = some b
theorem gk_isi {c : String} (h : GK K Z te δ n fun d n1 => ∃ b, isPtr d = false ∧ KitB K (tyn d) c b ∧ Φ (.bl b) n1) : GK K Z (tCB (rIsi K) (tCons te (tCons (tC (.ty c)) tNil))) δ n Φ := fun B M G0 H0 xw G H σ E Q q =>
  h B M G0 H0 xw G H σ E _ fun v d G1 H1 n1 f1 E1 s1 a1 => by
    obtain ⟨b, np, hb, f1⟩ := f1
    exact ⟨v, .ty c, _, _, b, rfl, .ty c, a1.ty E1.sub np, hb, q _ _ G1 H1 n1 f1 E1 s1 (.bl b)⟩
theorem gk_callD {sp : Sp} {E : XK} {ds : List V} {es : List D} (hd : ∀ G, IsAll K G ds es) (h : GA K Z aa δ n fun xs n1 => SC K Z sp (xs ++ es) δ n1 Φ) : GK K Z (tCall sp ds E aa) δ n Φ := fun B M G0 H0 xw G H σ E Q q =>
  h B M G0 H0 xw G H σ E _ fun vs xs G1 H1 n1 f1 E1 s1 a1 => f1 B M G0 H0 xw G1 H1 σ E1 _ (a1.app (hd G1)) Q _ fun u d G3 H3 n3 f3 E3 s3 a3 => q u d G3 H3 n3 f3 E3 (s1.trans s3) a3
end
end Tl
namespace Tl
open PySem L2 TL LamX
section
variable [Tabl] {K : PySem.W.Frag} {Z : XZ} {B : Option Addr} {δ : List Slot} {n : Sto} {Φ : D → Sto → Prop} {te ta tb : TE} {aa : TA} {tt : TT} {wi : TI} {g : TG} {vs : List Nat} {N Bk Ct : List Slot → Sto → Prop} {R : D → Sto → Prop} {ts : TS}
theorem gk_i {i : Int} (k : Φ (.int i) n) : GK K Z (tC (.int i)) δ n Φ := gk_c rfl k
theorem gk_s {x : Str} (k : Φ (.str x) n) : GK K Z (tC (.str x)) δ n Φ := gk_c rfl k
theorem gk_b {b : Bool} (k : Φ (.bl b) n) : GK K Z (tC (.bl b)) δ n Φ := gk_c rfl k
theorem gk_n (k : Φ .non n) : GK K Z (tC .non) δ n Φ := gk_c rfl k
theorem OffD.wipe : OffD vs (wipeD δ vs) δ := fun _ hi => wipeD_at hi
theorem OffD.set {δ2 : List Slot} {j : Nat} {s : Slot} (h : OffD vs δ2 δ) (hj : j ∈ vs) : OffD vs (δ2.set j s) δ := fun i hi => by
  rw [List.getElem?_set_ne (fun z => hi (by rw [← z]; exact hj))]
  exact h i hi
theorem gk_map1 {j : Nat} {f : D → D} (ho : ∀ x, δ[j]? ≠ some (.ow x)) (h : GI K Z wi δ n fun xs n1 => xs.length ≤ 50000 ∧ (∀ x ∈ xs, GK K .calm te ((wipeD δ [j]).set j (.d x)) n1 fun y n2 => y = f x ∧ n2 = n1) ∧ Φ (.lst (xs.map f)) n1) :
    GK K Z (tLc wi (gName j) tYes te [j]) δ n Φ := by
  refine gk_lc (fun i hi xs => ?_) fun B M G0 H0 xw G H σ E R r => h B M G0 H0 xw G H σ E R fun J xs G' H' n' q e s it => r J xs G' H' n' ⟨q.1, fun i acc m => acc = (xs.take i).map f ∧ m = n', ⟨rfl, rfl⟩, ?_, ?_⟩ e s it
  · cases List.mem_singleton.mp hi
    exact ho xs
  · rintro i x acc m hx ⟨rfl, rfl⟩ _
    refine ⟨_, gg_name (List.mem_singleton.mpr rfl), OffD.wipe.set (List.mem_singleton.mpr rfl), gt_yes ⟨fun _ => ?_, fun z => nomatch z⟩⟩
    refine fun B M G0 H0 xw G H σ E Q k => q.2.1 x (List.mem_of_getElem? hx) B M G0 H0 xw G H σ E Q fun v d G' H' n' z => k v d G' H' n' ?_
    obtain ⟨rfl, rfl⟩ := z
    refine ⟨?_, rfl⟩
    rw [take_snoc hx, List.map_append]
    rfl
  · rintro acc m ⟨rfl, rfl⟩ _
    rw [List.take_length]
    exact q.2.2
theorem gk_draw1 {j : Nat} {Pd : D → Prop} (c : Nat) (ho : ∀ x, δ[j]? ≠ some (.ow x)) (h : GI K Z wi δ n fun xs n1 => ∃ n0 μ, n1 = ⟨n0, μ⟩ ∧ xs.length ≤ 50000 ∧ (∀ i x m, xs[i]? = some x → m ≤ n0 + c * i → GK K .calm te ((wipeD δ [j]).set j (.d x)) ⟨m, μ⟩ fun y n2 => ∃ m2, n2 = ⟨m2, μ⟩ ∧ Pd y ∧ m2 ≤ n0 + c * (i + 1)) ∧
      ∀ ys m, ys.length = xs.length → (∀ y ∈ ys, Pd y) → m ≤ n0 + c * xs.length → Φ (.lst ys) ⟨m, μ⟩) :
    GK K Z (tLc wi (gName j) tYes te [j]) δ n Φ := by
  refine gk_lc (fun i hi xs => ?_) fun B M G0 H0 xw G H σ E R r => h B M G0 H0 xw G H σ E R fun J xs G' H' n' q e s it => ?_
  · cases List.mem_singleton.mp hi
    exact ho xs
  obtain ⟨n0, μ, rfl, q⟩ := q
  refine r J xs G' H' _ ⟨q.1, fun i acc m => acc.length = i ∧ (∀ y ∈ acc, Pd y) ∧ ∃ m', m = ⟨m', μ⟩ ∧ m' ≤ n0 + c * i, ⟨rfl, fun _ z => (nomatch z), n0, rfl, Nat.le_refl _⟩, ?_, ?_⟩ e s it
  · rintro i x acc m hx ⟨hl, hp, m', rfl, hm⟩ _
    refine ⟨_, gg_name (List.mem_singleton.mpr rfl), OffD.wipe.set (List.mem_singleton.mpr rfl), gt_yes ⟨fun _ => ?_, fun z => nomatch z⟩⟩
    refine fun B M G0 H0 xw G H σ E Q k => q.2.1 i x m' hx hm B M G0 H0 xw G H σ E Q fun v d G' H' n' z => k v d G' H' n' ?_
    obtain ⟨m2, rfl, z1, z2⟩ := z
    refine ⟨?_, fun y hy => ?_, m2, rfl, z2⟩
    · rw [List.length_append, hl]
      rfl
    · rcases List.mem_append.mp hy with hy | hy
      · exact hp y hy
      · rw [List.mem_singleton.mp hy]
        exact z1
  · rintro acc m ⟨hl, hp, m', rfl, hm⟩ _
    exact q.2.2 acc m' hl hp hm
theorem gk_filt1 {j : Nat} {f : D → D} {c : D → Bool} (ho : ∀ x, δ[j]? ≠ some (.ow x)) (h : GI K Z wi δ n fun xs n1 => xs.length ≤ 50000 ∧ (∀ x ∈ xs, GT K .calm tt ((wipeD δ [j]).set j (.d x)) n1 fun b n2 => b = c x ∧ n2 = n1 ∧ (b = true → GK K .calm te ((wipeD δ [j]).set j (.d x)) n1 fun y n3 => y = f x ∧ n3 = n1)) ∧ Φ (.lst ((xs.filter c).map f)) n1) :
    GK K Z (tLc wi (gName j) tt te [j]) δ n Φ := by
  refine gk_lc (fun i hi xs => ?_) fun B M G0 H0 xw G H σ E R r => h B M G0 H0 xw G H σ E R fun J xs G' H' n' q e s it => r J xs G' H' n' ⟨q.1, fun i acc m => acc = ((xs.take i).filter c).map f ∧ m = n', ⟨rfl, rfl⟩, ?_, ?_⟩ e s it
  · cases List.mem_singleton.mp hi
    exact ho xs
  · rintro i x acc m hx ⟨rfl, rfl⟩ _
    refine ⟨_, gg_name (List.mem_singleton.mpr rfl), OffD.wipe.set (List.mem_singleton.mpr rfl), ?_⟩
    refine fun B M G0 H0 xw G H σ E Q k => q.2.1 x (List.mem_of_getElem? hx) B M G0 H0 xw G H σ E Q fun b G' H' n' z => k b G' H' n' ?_
    obtain ⟨rfl, rfl, z⟩ := z
    refine ⟨fun hb => ?_, fun hb => ?_⟩
    · refine fun B M G0 H0 xw G H σ E Q k => z hb B M G0 H0 xw G H σ E Q fun v d G' H' n' y => k v d G' H' n' ?_
      obtain ⟨rfl, rfl⟩ := y
      refine ⟨?_, rfl⟩
      rw [take_snoc hx, List.filter_append, List.map_append]
      simp [hb]
    · refine ⟨?_, rfl⟩
      rw [take_snoc hx, List.filter_append, List.map_append]
      simp [hb]
  · rintro acc m ⟨rfl, rfl⟩ _
    rw [List.take_length]
    exact q.2.2
end
def kgP {α : Type} (plan : List (Nat × Nat)) (us ms ws : List α) : List α := plan.flatMap fun q => ((if q.1 = 0 then us else if q.1 = 1 then ms else ws)[q.2]?).toList
theorem opt_is {K : PySem.W.Frag} {G : Hp} {vs : List V} {ds : List D} (r : IsAll K G vs ds) (i : Nat) : IsAll K G (vs[i]?).toList (ds[i]?).toList := by
  cases e : vs[i]? with
  | none =>
    have : ds[i]? = none := by
      rw [List.getElem?_eq_none_iff] at e ⊢
      rw [← r.len]
      exact e
    rw [this]
    exact .nil
  | some x =>
    obtain ⟨u, h1, h2⟩ := r.get e
    rw [h1]
    exact .cons h2 .nil
theorem kgP_is {K : PySem.W.Frag} {G : Hp} {plan : List (Nat × Nat)} {us ms ws : List V} {us' ms' ws' : List D} (r1 : IsAll K G us us') (r2 : IsAll K G ms ms') (r3 : IsAll K G ws ws') : IsAll K G (kgP plan us ms ws) (kgP plan us' ms' ws') := by
  induction plan with
  | nil => exact .nil
  | cons q plan ih =>
    unfold kgP at ih ⊢
    rw [List.flatMap_cons, List.flatMap_cons]
    refine IsAll.app ?_ ih
    by_cases h0 : q.1 = 0
    · rw [if_pos h0, if_pos h0]
      exact opt_is r1 _
    · by_cases h1 : q.1 = 1
      · rw [if_neg h0, if_pos h1, if_neg h0, if_pos h1]
        exact opt_is r2 _
      · rw [if_neg h0, if_neg h1, if_neg h0, if_neg h1]
        exact opt_is r3 _
def sclAll (vs : List V) : Bool := vs.all scl
theorem IsAll.scl {K : PySem.W.Frag} {G : Hp} : ∀ {vs : List V}, sclAll vs = true → IsAll K G vs (vs.map ofV)
  | [], _ => .nil
  | v :: vs, h => by
    unfold sclAll at h
    rw [List.all_cons, Bool.and_eq_true] at h
    exact .cons (Is.scl h.1) (IsAll.scl h.2)
theorem gk_kw [Tabl] {K : PySem.W.Frag} {Z : XZ} {δ : List Slot} {n : Sto} {Φ : D → Sto → Prop} {aa ab : TA} {sp : Sp} {E : XK} {k m : Nat} {plan : List (Nat × Nat)} {ms : List V} (hm : sclAll ms = true)
    (h : GA K Z aa δ n fun xs n1 => GA K Z ab δ n1 fun ys n2 => xs.length = k ∧ ys.length = m ∧ SC K Z sp (kgP plan xs (ms.map ofV) ys) δ n2 Φ) : GK K Z (tCallN k m sp (fun vs zs => kgP plan vs ms zs) E aa ab) δ n Φ :=
  gk_callN (gD := fun xs ys => kgP plan xs (ms.map ofV) ys) (fun a b => kgP_is a (IsAll.scl hm) b) h
theorem gk_dfl [Tabl] {K : PySem.W.Frag} {Z : XZ} {δ : List Slot} {n : Sto} {Φ : D → Sto → Prop} {aa : TA} {sp : Sp} {E : XK} {ms : List V} (hm : sclAll ms = true) (h : GA K Z aa δ n fun xs n1 => SC K Z sp (xs ++ ms.map ofV) δ n1 Φ) : GK K Z (tCall sp ms E aa) δ n Φ :=
  gk_callD (fun _ => IsAll.scl hm) h
theorem ones_of {Pc : Nat → Prop} : ∀ {ys : List D}, (∀ y ∈ ys, ∃ c, Pc c ∧ y = .str (S [c])) → ∃ cs : List Nat, ys = (cs.map fun c => S [c]).map D.str ∧ (∀ c ∈ cs, Pc c) ∧ cs.length = ys.length
  | [], _ => ⟨[], rfl, fun _ z => (nomatch z), rfl⟩
  | y :: ys, h => by
    obtain ⟨c, hc, rfl⟩ := h y List.mem_cons_self
    obtain ⟨cs, rfl, h2, h3⟩ := ones_of (ys := ys) fun y hy => h y (List.mem_cons_of_mem _ hy)
    exact ⟨c :: cs, rfl, fun x hx => (List.mem_cons.mp hx).elim (fun z => z ▸ hc) (h2 x), by rw [List.length_cons, List.length_cons, h3]⟩
theorem ru_ones [Tabl] {K : PySem.W.Frag} {Z : XZ} {δ : List Slot} {n : Sto} {Φ : D → Sto → Prop} {cs : List Nat} (h : cs.length ≤ 100000) (k : Φ (.str (S cs)) n) :
    RU K Z (fun w H Q => (fun x xs H Q => ∃ a p, ∃ ys : List Str, x = .str a ∧ xs = [.ref p] ∧ (SqL K H p (ys.map V.str) ∨ SqT K H p (ys.map V.str)) ∧ (ys.map (·.length)).sum + ys.length * a.length ≤ 16777216 ∧ Q (.str (Txt.join a ys)) H) (V.str "") [w] H Q) (.lst ((cs.map fun c => S [c]).map D.str)) δ n Φ := by
  refine ru_join ?_ ?_
  · rw [ones_sum]
    show cs.length * (0 + 1) ≤ 16777216
    omega
  · rw [show (Str.ofString "" : Str) = S [] from rfl, join_ones]
    exact k
theorem at_2 {a b : D} {r : Int} (h0 : 0 ≤ r) (h1 : r < 2) : ∃ d, L2.atI [a, b] r = some d ∧ (d = a ∨ d = b) := by
  obtain ⟨j, rfl⟩ : ∃ j : Nat, r = (j : Int) := ⟨r.toNat, by omega⟩
  match j, h1 with
  | 0, _ => exact ⟨_, rfl, .inl rfl⟩
  | 1, _ => exact ⟨_, rfl, .inr rfl⟩
theorem at_any {xs : List D} {r : Int} (h0 : 0 ≤ r) (h1 : r < (xs.length : Int)) : ∃ d, L2.atI xs r = some d ∧ d ∈ xs := by
  obtain ⟨j, rfl⟩ : ∃ j : Nat, r = (j : Int) := ⟨r.toNat, by omega⟩
  have hj : j < xs.length := by omega
  exact ⟨xs[j], atI_nat (List.getElem?_eq_getElem hj), List.getElem_mem hj⟩
theorem cutD_to {xs : List D} {i : Int} (h : 0 ≤ i) : cutD xs none (some i) = xs.take i.toNat := by
  have e : HT.sIx xs.length xs.length (some i) = min i.toNat xs.length := by
    unfold HT.sIx
    simp only
    split <;> omega
  unfold cutD
  rw [show HT.sIx xs.length 0 none = 0 from rfl, e, List.drop_zero, Nat.sub_zero, List.take_eq_take_iff]
  omega
theorem cutD_from {xs : List D} {i : Int} (h : 0 ≤ i) : cutD xs (some i) none = xs.drop i.toNat := by
  have e : HT.sIx xs.length 0 (some i) = min i.toNat xs.length := by
    unfold HT.sIx
    simp only
    split <;> omega
  unfold cutD
  rw [show HT.sIx xs.length xs.length none = xs.length from rfl, e]
  by_cases hl : i.toNat ≤ xs.length
  · rw [Nat.min_eq_left hl, List.take_of_length_le (by rw [List.length_drop]; omega)]
  · rw [Nat.min_eq_right (by omega), List.drop_eq_nil_of_le (Nat.le_refl _), List.drop_eq_nil_of_le (by omega), List.take_nil]
section
variable [Tabl] {K : PySem.W.Frag} {Z : XZ} {δ : List Slot} {n : Sto} {Φ : D → Sto → Prop}
theorem rs_tupTo {xs : List D} {i : Int} (h : 0 ≤ i) (k : Φ (.tup (xs.take i.toNat)) n) : RS K Z (rSlA K) (.tup xs) none (some i) δ n Φ := rs_tup (by rw [cutD_to h]; exact k)
theorem rs_tupFrom {xs : List D} {i : Int} (h : 0 ≤ i) (k : Φ (.tup (xs.drop i.toNat)) n) : RS K Z (rSlA K) (.tup xs) (some i) none δ n Φ := rs_tup (by rw [cutD_from h]; exact k)
theorem rs_lstTo {xs : List D} {i : Int} (h : 0 ≤ i) (k : Φ (.lst (xs.take i.toNat)) n) : RS K Z (rSlL K) (.lst xs) none (some i) δ n Φ := rs_lst (by rw [cutD_to h]; exact k)
theorem rs_lstFrom {xs : List D} {i : Int} (h : 0 ≤ i) (k : Φ (.lst (xs.drop i.toNat)) n) : RS K Z (rSlL K) (.lst xs) (some i) none δ n Φ := rs_lst (by rw [cutD_from h]; exact k)
end
theorem str_app_len (x y : Str) : (x ++ y).length = x.length + y.length := by rw [len_tl, tl_append, List.length_append, ← len_tl, ← len_tl]
end Tl
namespace Tl
open PySem PySem.Spec PyProof.Rows L2 TL LamX
structure LamP (sc scope : Scope) (p : Str) : Prop where
  kind : scope.kind = .function
  co : scope.isCoroutine = false
  gen : scope.isGenerator = false
  own : ∀ y ∈ scope.names, y.2 ≠ .cell ∧ (y.2 = .local → y.1 = p)
  par : scope.names.lookup p = some .local
  free : ∀ y ∈ scope.names, y.2 = .free → sc.names.lookup y.1 = some .cell ∨ sc.names.lookup y.1 = some .free
theorem LamP.has {X : Cx} {scope : Scope} {p : Str} (L : LamP X.env.scope scope p) (ok : X.Ok) : ∀ y ∈ scope.names, y.2 = .free → ∃ c, X.env.cells.lookup y.1 = some c := fun y hy e => by
  rcases L.free y hy e with k | k
  · exact ok.has _ (.inl k)
  · exact ok.has _ (.inr k)
section
variable {X : Cx} {pins : List (Addr × Obj)} {σ : L2.St} {H : Hp} {s : Shared}
end
section
variable {X : Cx} {pins : List (Addr × Obj)} {σ : L2.St} {H : Hp} {s : Shared}
structure SkJ (X : Cx) (pins : List (Addr × Obj)) (σ : L2.St) (f a kS : Addr) (e1 : Nat) (fo : Obj) (W : List V → Hp → Prop) (i : Nat) (s' : Shared) : Prop where
  ex : ∃ (kvs : List V) (H' : Hp) (kA : Array Value) (e : Nat), Inv X pins σ H' s' ∧ s'.heap.get? kS = some (seqObj "list" kA e) ∧ s'.heap.get? a = some (seqObj "list" #[] e1) ∧ H' kS = none ∧ H' a = none ∧ s'.heap.get? f = some fo ∧ H' f = none ∧ Vals kvs kA.toList ∧ W kvs H' ∧ kvs.length = i
def FpR (X : Cx) (pins : List (Addr × Obj)) (b : Addr) : Prop := b ≠ X.env.locals ∧ b ∉ X.fs ∧ b ∉ frs X.stack ∧ (b ∈ X.ex ∨ X.s_0.heap.objs.size ≤ b) ∧ (∀ x c, X.env.cells.lookup x = some c → c ≠ b) ∧ ∀ p ∈ X.pn ++ pins, p.1 ≠ b
theorem FpR.ok {b : Addr} (h : FpR X pins b) (hn : H b = none) : FpOk X pins H b := ⟨hn, h.1, h.2.1, h.2.2.2.1, h.2.2.2.2.1, h.2.2.2.2.2⟩
theorem Vals.snoc {xs : List V} {us : List Value} {x : V} {u : Value} (r : Vals xs us) (h : RelV x u) : Vals (xs ++ [x]) (us ++ [u]) := r.append (.cons h .nil)
theorem each_zip : ∀ {xs : List V} {vs : List Value} {ks : List PyData}, Vals xs vs → ks.length = xs.length → PySem.W.EachIs (fun v (q : V × PyData) => RelV q.1 v) vs (xs.zip ks)
  | _, _, [], .nil, _ => .nil
  | _, _, [], .cons _ _, h => by simp at h
  | _, _, _ :: _, .nil, h => by simp at h
  | _, _, _ :: ks, .cons r t, h => .cons r (each_zip t (by simpa using h))
theorem vals_each : ∀ {vs : List Value} {qs : List (V × PyData)}, PySem.W.EachIs (fun v (q : V × PyData) => RelV q.1 v) vs qs → Vals (qs.map Prod.fst) vs
  | _, _, .nil => .nil
  | _, _, .cons r t => .cons r (vals_each t)
theorem dpAll_each (I : Inv X pins σ H s) : ∀ {kvs : List V} {us : List Value} {ks : List PyData}, DpAll X.K H kvs ks → Vals kvs us → PySem.W.EachIs (fun v k => ∃ as, Reads s.heap v k as) us ks
  | _, _, _, .nil, .nil => .nil
  | _, _, _, .cons d t, .cons r q => .cons (Dp.reads I _ _ _ d r) (dpAll_each I t q)
def keyed (xs : List V) (ks : List PyData) : List V := ((xs.zip ks).mergeSort (PySem.W.dataLe false Prod.snd)).map Prod.fst
theorem keyed_len {xs : List V} {ks : List PyData} (h : ks.length = xs.length) : (keyed xs ks).length = xs.length := by
  unfold keyed
  rw [List.length_map, List.length_mergeSort, List.length_zip, h, Nat.min_self]
open PySem.W in
end
end Tl
namespace Tl
open PySem PySem.Spec L2 TL LamX
section
variable [Tabl] {K : PySem.W.Frag} {Z : XZ} {B : Option Addr} {δ : List Slot} {n : Sto} {Φ : D → Sto → Prop} {te tb : TE}
def keyedD (ds : List D) (ks : List PyData) : List D := ((ds.zip ks).mergeSort (PySem.W.dataLe false Prod.snd)).map Prod.fst
theorem IsAll.dpD {G H : Hp} (s : Sub G H) : ∀ {kvs : List V} {es : List D} {k : Nat}, IsAll K G kvs es → (∀ x ∈ es, Shp k x) → DpAll K H kvs (es.map toP)
  | _, _, _, .nil, _ => .nil
  | _, _, _, .cons h r, hs => .cons (Is.dp s h (hs _ List.mem_cons_self)) (IsAll.dpD s r fun x hx => hs x (List.mem_cons_of_mem _ hx))
theorem map_f1 : ∀ {xs : List V} {ds : List D} {ks : List PyData}, xs.length = ds.length → ((xs.zip ds).zip ks).map (fun q => (q.1.1, q.2)) = xs.zip ks
  | [], [], ks, _ => by simp
  | _ :: _, _ :: _, [], _ => by simp
  | x :: xs, d :: ds, k :: ks, h => by
    simp only [List.zip_cons_cons, List.map_cons]
    rw [map_f1 (by simpa using h)]
theorem map_f2 : ∀ {xs : List V} {ds : List D} {ks : List PyData}, xs.length = ds.length → ((xs.zip ds).zip ks).map (fun q => (q.1.2, q.2)) = ds.zip ks
  | [], [], ks, _ => by simp
  | _ :: _, _ :: _, [], _ => by simp
  | x :: xs, d :: ds, k :: ks, h => by
    simp only [List.zip_cons_cons, List.map_cons]
    rw [map_f2 (by simpa using h)]
theorem isAll_pairs {G : Hp} : ∀ {ps : List ((V × D) × PyData)}, (∀ q ∈ ps, Is K G q.1.1 q.1.2) → IsAll K G (ps.map fun q => q.1.1) (ps.map fun q => q.1.2)
  | [], _ => .nil
  | q :: ps, h => .cons (h q List.mem_cons_self) (isAll_pairs fun x hx => h x (List.mem_cons_of_mem _ hx))
theorem zip_is {G : Hp} : ∀ {xs : List V} {ds : List D}, IsAll K G xs ds → ∀ q ∈ xs.zip ds, Is K G q.1 q.2
  | _, _, .nil, q, h => by simp at h
  | _, _, .cons a r, q, h => by
    rw [List.zip_cons_cons] at h
    rcases List.mem_cons.mp h with rfl | h
    · exact a
    · exact zip_is r q h
theorem isAll_keyed {G : Hp} {xs : List V} {ds : List D} {ks : List PyData} (a : IsAll K G xs ds) : IsAll K G (keyed xs ks) (keyedD ds ks) := by
  have e1 : keyed xs ks = (((xs.zip ds).zip ks).mergeSort (PySem.W.dataLe false Prod.snd)).map fun q => q.1.1 := by
    unfold keyed
    rw [← map_f1 (ks := ks) a.len, ← PySem.W.sort_maps (r := PySem.W.dataLe false (Prod.snd : (V × D) × PyData → PyData)) (fun q : (V × D) × PyData => (q.1.1, q.2)) (fun _ _ _ _ => rfl), List.map_map]
    rfl
  have e2 : keyedD ds ks = (((xs.zip ds).zip ks).mergeSort (PySem.W.dataLe false Prod.snd)).map fun q => q.1.2 := by
    unfold keyedD
    rw [← map_f2 (ks := ks) a.len, ← PySem.W.sort_maps (r := PySem.W.dataLe false (Prod.snd : (V × D) × PyData → PyData)) (fun q : (V × D) × PyData => (q.1.2, q.2)) (fun _ _ _ _ => rfl), List.map_map]
    rfl
  rw [e1, e2]
  refine isAll_pairs fun q hq => ?_
  have hq := (List.mergeSort_perm _ _).mem_iff.mp hq
  exact zip_is a q.1 (List.of_mem_zip hq).1
end
structure FunC (K : PySem.W.Frag) (x qual : Str) (st : Stmt) (f : Addr) (fd : FuncData) (c : Addr) : Prop where
  ex : ∃ (oc : Value) (od : Option Addr) (kV doc pm : Value) (an : Option Addr) (ct : Value) (osl : Array (Option Value)),
    fd = PySem.W.fnOf x qual (defArgs st) (defBody st) (defScope st) .none kV doc pm an (.ref c) ct ∧ K.lookup f = some ⟨oc, od, .func fd, osl⟩ ∧ PySem.W.codeIn K (.ref c) qual = true
section
variable [Tabl] {P : Program} {w : World} {K : PySem.W.Frag} {mg : Str → Option Value} {base : Heap}
omit [Tabl] in
theorem FunC.ok {x qual : Str} {st : Stmt} {f c : Addr} {fd : FuncData} {N ps : List Str} {k : Nat} {sp : Sp} (F : FunC K x qual st f fd c) (S : FnScope N ps (defScope st)) (len : ∀ vs H Q E, sp vs H Q E → vs.length = ps.length)
    (hbody : ∀ (A : Around) (outer : List Env) (s : Shared) (H : Hp) (vs : List V) (Q : VK) (E : XK), Room k (A.deeper (PyProof.Rows.envOfC qual (defScope st) s.heap.objs.size f (.ref c))) → sp vs H Q E →
      ∃ t, PSs (cxOf CX0 P w K mg base N qual (defScope st) f (.ref c) A outer s H E).nox (defBody st) t ∧ t { nx := fun _ H' => Q .non H', rt := Q } (start N vs) H) : FnOk P w K mg base CX0 (k + 1) f fd ps sp := by
  obtain ⟨oc, od, kV, doc, pm, an, ct, osl, rfl, lk, hcd⟩ := F.ex
  refine fn_of lk hcd S len fun A outer s H vs Q E hr hsp => ?_
  obtain ⟨t, h, q⟩ := hbody A outer s H vs Q E hr hsp
  exact ⟨t, h.nox, q⟩
end
end Tl
namespace Tl
open PySem PySem.Spec L2 TL LamX
section
variable [Tabl] {K : PySem.W.Frag} {Z : XZ} {B : Option Addr} {δ : List Slot} {n : Sto} {N Bk Ct : List Slot → Sto → Prop} {R : D → Sto → Prop} {te : TE}
end
end Tl
namespace Tl
open PySem PySem.Spec L2 TL LamX
section
variable {X : Cx} {K : PySem.W.Frag}
end
end Tl
namespace Tl
open PySem PySem.Spec L2 TL LamX
section
variable [Tabl] {K : PySem.W.Frag} {Z : XZ} {B : Option Addr} {δ : List Slot} {n : Sto} {Φ : D → Sto → Prop} {te ta tb : TE} {aa : TA} {tt : TT} {wi : TI} {g : TG} {vs : List Nat} {N Bk Ct : List Slot → Sto → Prop} {R : D → Sto → Prop} {ts : TS}
omit [Tabl] in
theorem IsAll.bls {G : Hp} : ∀ {vs : List V} {bs : List Bool}, IsAll K G vs (bs.map D.bl) → vs = bs.map V.bl
  | _, [], .nil => rfl
  | _, b :: bs, .cons h r => by
    cases h
    rw [IsAll.bls r]
    rfl
omit [Tabl] in
theorem IsAll.toInts {G : Hp} : ∀ {vs : List V} {ns : List Int}, IsAll K G vs (ns.map D.int) → vs = ns.map V.int
  | _, [], .nil => rfl
  | _, b :: bs, .cons h r => by
    cases h
    rw [IsAll.toInts r]
    rfl
omit [Tabl] in
theorem IsAll.strs {G : Hp} : ∀ zs : List Str, IsAll K G (zs.map V.str) (zs.map D.str)
  | [] => .nil
  | z :: r => .cons (.str z) (IsAll.strs r)
theorem rc_all {bs : List Bool} (k : Φ (.bl (bs.all id)) n) : RC K Z (rAll K) [.lst (bs.map D.bl)] δ n Φ := fun B M G0 H0 xw G H σ E vs a Q q => by
  cases a with
  | cons a r =>
    cases r
    cases a with
    | lst h1 a1 => exact ⟨_, bs, rfl, a1.bls ▸ SqL.of (E.sub _ _ h1), q _ _ G H n k E (Sub.refl G) (.bl _)⟩
theorem rc_any {bs : List Bool} (k : Φ (.bl (bs.any id)) n) : RC K Z (rAny K) [.lst (bs.map D.bl)] δ n Φ := fun B M G0 H0 xw G H σ E vs a Q q => by
  cases a with
  | cons a r =>
    cases r
    cases a with
    | lst h1 a1 => exact ⟨_, bs, rfl, a1.bls ▸ SqL.of (E.sub _ _ h1), q _ _ G H n k E (Sub.refl G) (.bl _)⟩
theorem rc_sum {ns : List Int} (k : Φ (.int ns.sum) n) : RC K Z (rSum K) [.lst (ns.map D.int)] δ n Φ := fun B M G0 H0 xw G H σ E vs a Q q => by
  cases a with
  | cons a r =>
    cases r
    cases a with
    | lst h1 a1 => exact ⟨_, ns, rfl, a1.toInts ▸ SqL.of (E.sub _ _ h1), q _ _ G H n k E (Sub.refl G) (.int _)⟩
inductive Wk : List Slot → List Slot → Prop where
  | nil : Wk [] []
  | kp {s : Slot} {a b : List Slot} (h : Wk a b) : Wk (s :: a) (s :: b)
  | un {s : Slot} {a b : List Slot} (h : Wk a b) : Wk (s :: a) (.un :: b)
omit [Tabl] in
theorem Wk.refl : ∀ a : List Slot, Wk a a
  | [] => .nil
  | _ :: a => .kp (Wk.refl a)
omit [Tabl] in
theorem Wk.at {a b : List Slot} (h : Wk a b) : ∀ {i : Nat} {s : Slot}, b[i]? = some s → s = .un ∨ a[i]? = some s := by
  induction h with
  | nil => intro i s e; simp at e
  | kp h ih =>
    intro i s e
    cases i with
    | zero => exact .inr e
    | succ i => exact ih (i := i) (by simpa using e)
  | un h ih =>
    intro i s e
    cases i with
    | zero =>
      have e : some Slot.un = some s := e
      cases e
      exact .inl rfl
    | succ i => exact ih (i := i) (by simpa using e)
omit [Tabl] in
theorem Wk.len {a b : List Slot} (h : Wk a b) : a.length = b.length := by
  induction h with
  | nil => rfl
  | kp h ih => rw [List.length_cons, List.length_cons, ih]
  | un h ih => rw [List.length_cons, List.length_cons, ih]
theorem En.wk {M : Addr → Prop} {G0 H0 G H : Hp} {σ : L2.St} {δ' : List Slot} (E : En K B M n G0 H0 G H σ δ) (h : Wk δ δ') : En K B M n G0 H0 G H σ δ' := by
  have own : ∀ {i : Nat} {x : MO}, δ'[i]? = some (.ow x) → δ[i]? = some (.ow x) := fun {i x} e => by
    rcases h.at e with z | z
    · cases z
    · exact z
  refine ⟨E.sub0, E.sub, E.same, E.free, E.fresh, E.bagged, E.tabs, E.tin, E.gnt, E.len.trans h.len, fun i s hs => ?_, fun i j p x y hi hj si sj => E.dis i j p x y (own hi) (own hj) si sj, E.mob, fun i x a hi hs => E.mow i x a (own hi) hs⟩
  rcases h.at hs with z | z
  · rw [z]
    trivial
  · exact E.slot i s z
theorem gs_forW {tb : TS} (h : GI K Z wi δ n fun xs n1 => ∃ Iv : Nat → List Slot → Sto → Prop, (∃ δ', Wk δ δ' ∧ Iv 0 δ' n1) ∧ (∀ i x δ' n', xs[i]? = some x → Iv i δ' n' → ∃ δ2 vs, GG K g x δ' δ2 vs ∧ GS K Z B tb δ2 n' (fun δ3 n3 => ∃ δ4, Wk δ3 δ4 ∧ Iv (i + 1) δ4 n3) R N (fun δ3 n3 => ∃ δ4, Wk δ3 δ4 ∧ Iv (i + 1) δ4 n3)) ∧ ∀ δ' n', Iv xs.length δ' n' → N δ' n') :
    GS K Z B (tFor wi g tb) δ n N R Bk Ct := fun m0 G0 H0 xw G H σ E e hn hr hb hc =>
  h B (MOf B m0 H0) G0 H0 xw G H σ e _ fun J xs G1 H1 n1 f1 E1 s1 a1 => by
    obtain ⟨Iv, ⟨δ0, w0, h0⟩, hs, hd⟩ := f1
    refine ⟨fun i m σ' H' => m = xs.length - i ∧ i ≤ xs.length ∧ ∃ δ' n' G', Iv i δ' n' ∧ En K B (MOf B m0 H0) n' G0 H0 G' H' σ' δ' ∧ Sub G1 G', ⟨xs.length, by simp, Nat.zero_le _, δ0, n1, G1, h0, E1.wk w0, Sub.refl G1⟩, ?_⟩
    rintro i m σ' H' ⟨rfl, hi, δ', n', G', iv, e', s'⟩
    obtain ⟨j1, j2⟩ := a1 G' H' s' e'.sub i
    by_cases hlt : i < xs.length
    · obtain ⟨x, hx⟩ : ∃ x, xs[i]? = some x := ⟨xs[i], by simp [hlt]⟩
      obtain ⟨jg, jy⟩ := j2 x hx
      refine .inr ⟨jg, fun σ' H' => ∃ δ' n' G', Iv (i + 1) δ' n' ∧ En K B (MOf B m0 H0) n' G0 H0 G' H' σ' δ' ∧ Sub G1 G', fun σ2 H2 q => ⟨xs.length - (i + 1), by omega, rfl, hlt, q⟩, fun v H'' y => ?_⟩
      obtain ⟨G2, s2, e2, a2, _⟩ := e'.yld (jy v H'' y)
      obtain ⟨δ2, vs, gg, hb⟩ := hs i x δ' n' hx iv
      refine gg B _ n' G0 H0 G2 H'' σ' e2 v a2 _ fun σ3 e3 _ => ?_
      exact hb m0 G0 H0 xw G2 H'' σ3 _ e3 (fun σ4 δ4 G4 H4 n4 ⟨δ5, w5, q⟩ e4 s4 => ⟨δ5, n4, G4, q, e4.wk w5, (s'.trans s2).trans s4⟩) hr (fun σ4 δ4 G4 H4 n4 q e4 s4 => hn σ4 δ4 G4 H4 n4 q e4 ((s1.trans (s'.trans s2)).trans s4)) (fun σ4 δ4 G4 H4 n4 ⟨δ5, w5, q⟩ e4 s4 => ⟨δ5, n4, G4, q, e4.wk w5, (s'.trans s2).trans s4⟩)
    · have ei : i = xs.length := by omega
      subst ei
      exact .inl ⟨j1 rfl, hn σ' δ' G' H' n' (hd δ' n' iv) e' (s1.trans s')⟩
theorem gs_whileW {tc : TT} {tb : TS} (Iv : Nat → List Slot → Sto → Prop) (mm : Nat) (h0 : ∃ δ', Wk δ δ' ∧ Iv mm δ' n)
    (hs : ∀ m δ' n', Iv m δ' n' → GT K Z tc δ' n' fun b n1 => (b = true → GS K Z B tb δ' n1 (fun δ2 n2 => ∃ m' δ3, m' < m ∧ Wk δ2 δ3 ∧ Iv m' δ3 n2) R N (fun δ2 n2 => ∃ m' δ3, m' < m ∧ Wk δ2 δ3 ∧ Iv m' δ3 n2)) ∧ (b = false → N δ' n1)) : GS K Z B (tWhile tc tb) δ n N R Bk Ct := fun m0 G0 H0 xw G H σ E e hn hr hb hc => by
  obtain ⟨δ0, w0, h0⟩ := h0
  refine ⟨fun m σ' H' => ∃ δ' n' G', Iv m δ' n' ∧ En K B (MOf B m0 H0) n' G0 H0 G' H' σ' δ' ∧ Sub G G', ⟨mm, δ0, n, G, h0, e.wk w0, Sub.refl G⟩, ?_⟩
  rintro m σ' H' ⟨δ', n', G', iv, e', s'⟩
  refine hs m δ' n' iv B (MOf B m0 H0) G0 H0 xw G' H' σ' e' _ fun b G2 H2 n2 f2 E2 s2 => ?_
  cases b with
  | true =>
    refine ⟨fun σ3 H3 => ∃ m', m' < m ∧ ∃ δ' n' G', Iv m' δ' n' ∧ En K B (MOf B m0 H0) n' G0 H0 G' H3 σ3 δ' ∧ Sub G G', fun σ3 H3 h => h, ?_⟩
    exact f2.1 rfl m0 G0 H0 xw G2 H2 σ' _ E2 (fun σ3 δ3 G3 H3 n3 ⟨m', δ4, hm, w4, q⟩ e3 s3 => ⟨m', hm, δ4, n3, G3, q, e3.wk w4, (s'.trans s2).trans s3⟩) hr (fun σ3 δ3 G3 H3 n3 q e3 s3 => hn σ3 δ3 G3 H3 n3 q e3 ((s'.trans s2).trans s3))
      (fun σ3 δ3 G3 H3 n3 ⟨m', δ4, hm, w4, q⟩ e3 s3 => ⟨m', hm, δ4, n3, G3, q, e3.wk w4, (s'.trans s2).trans s3⟩)
  | false => exact hn σ' δ' G2 H2 n2 (f2.2 rfl) E2 (s'.trans s2)
end
theorem not_tt : ¬ ((!true) = true) := by decide
theorem not_ff : ¬ ((!false) = false) := by decide
theorem tabs_empty {cs : List (Addr × Addr)} {T : List (Addr × Str)} {H : Hp} (hH : ∀ p ∈ cs, H p.2 = some (.tbl #[])) (hT : ∀ p ∈ T, ∃ c, (c, p.1) ∈ cs) : Tabs T H := fun p hp => by
  obtain ⟨c, hc⟩ := hT p hp
  exact ⟨#[], hH _ hc, trivial, fun pos cv z => nomatch z⟩
end Tl
namespace Tl
open PySem PySem.Spec L2 TL LamX
def vOf : D → V
  | .bl b => .bl b | .int i => .int i | .str x => .str x | _ => .non
def flatD : D → Bool
  | .non => true | .bl _ => true | .int _ => true | .str _ => true | _ => false
def eqF (y x : D) : Bool := eqV (vOf y) (vOf x)
def inD (x : D) (xs : List D) : Bool := xs.any fun y => eqF y x
section
variable {K : PySem.W.Frag}
theorem Is.flat {G : Hp} {v : V} {d : D} (a : Is K G v d) (h : flatD d = true) : v = vOf d ∧ flatV v = true := by
  cases a <;> first | exact ⟨rfl, rfl⟩ | cases h
theorem IsAll.flat {G : Hp} : ∀ {vs : List V} {ds : List D}, IsAll K G vs ds → ds.all flatD = true → vs = ds.map vOf ∧ vs.all flatV = true
  | _, _, .nil, _ => ⟨rfl, rfl⟩
  | _, _, .cons a r, h => by
    rw [List.all_cons, Bool.and_eq_true] at h
    obtain ⟨e1, f1⟩ := a.flat h.1
    obtain ⟨e2, f2⟩ := IsAll.flat r h.2
    exact ⟨by rw [List.map_cons, ← e1, ← e2], by rw [List.all_cons, f1, f2]; rfl⟩
theorem inV_D {x : D} {xs : List D} : inV (vOf x) (xs.map vOf) = inD x xs := by
  unfold inV inD
  rw [List.any_map]
  rfl
theorem flat_strs {zs : List Str} : (zs.map D.str).all flatD = true := by
  rw [List.all_map]
  exact List.all_eq_true.mpr fun _ _ => rfl
end
section
variable [Tabl] {K : PySem.W.Frag} {Z : XZ} {B : Option Addr} {δ : List Slot} {n : Sto} {Φ : D → Sto → Prop} {te ta tb : TE} {aa : TA} {N Bk Ct : List Slot → Sto → Prop} {R : D → Sto → Prop} {ts : TS}
theorem gk_inOwn {neg : Bool} {i : Nat} {xs : List D} (hi : δ[i]? = some (.own xs)) (hxs : xs.all flatD = true) (h : GK K Z ta δ n fun x n1 => flatD x = true ∧ Φ (.bl (if neg then !inD x xs else inD x xs)) n1) : GK K Z (tOp (rIn K neg) ta (tVar i)) δ n Φ := fun B M G0 H0 xw G H σ E Q q =>
  h B M G0 H0 xw G H σ E _ fun v x G1 H1 n1 f1 E1 s1 a1 => by
    obtain ⟨p, vs, e1, e2, b, _⟩ := E1.ownd hi
    obtain ⟨r1, r2⟩ := a1.flat f1.1
    obtain ⟨r3, r4⟩ := b.flat hxs
    refine ⟨_, e1, p, vs, rfl, .inl (SqL.of e2), r2, r4, ?_⟩
    rw [r1, r3, inV_D]
    exact q _ _ G1 H1 n1 f1.2 E1 s1 (.bl _)
theorem gk_index (h : GK K Z ta δ n fun d n1 => ∃ xs, d = .lst xs ∧ xs.all flatD = true ∧ GK K Z tb δ n1 fun y n2 => flatD y = true ∧ ∃ j z, xs[j]? = some z ∧ eqF z y = true ∧ (∀ (m : Nat) (z' : D), m < j → xs[m]? = some z' → eqF z' y = false) ∧ Φ (.int (j : Nat)) n2) : GK K Z (tBM K "list" (rIndex K) ta (tCons tb tNil)) δ n Φ := fun B M G0 H0 xw G H σ E Q q =>
  h B M G0 H0 xw G H σ E _ fun v d G1 H1 n1 f1 E1 s1 a1 => by
    obtain ⟨xs, rfl, hx, f1⟩ := f1
    cases a1 with
    | @lst p vs _ h1 a1 =>
      refine ⟨.inl ⟨rfl, _, SqL.of (E1.sub _ _ h1)⟩, ?_⟩
      refine f1 B M G0 H0 xw G1 H1 σ E1 _ fun w y G2 H2 n2 f2 E2 s2 a2 => ?_
      obtain ⟨fy, j, z, hj, hz, hm, f2⟩ := f2
      obtain ⟨r1, r2⟩ := a2.flat fy
      obtain ⟨r3, r4⟩ := a1.flat hx
      subst r3
      subst r1
      refine ⟨p, _, _, j, vOf z, rfl, rfl, SqL.of (E2.sub _ _ (s2 _ _ h1)), r2, r4, by rw [List.getElem?_map, hj]; rfl, hz, fun m z' hm' hz' => ?_, q _ _ G2 H2 n2 f2 E2 (s1.trans s2) (.int _)⟩
      rw [List.getElem?_map] at hz'
      obtain ⟨z2, h3, rfl⟩ := Option.map_eq_some_iff.mp hz'
      exact hm m z2 hm' h3
end
end Tl
namespace Tl
open PySem
end Tl
namespace Tl
open PySem PySem.Spec PyProof.Rows L2 TL LamX
section
variable {X : Cx} {pins : List (Addr × Obj)} {σ : L2.St} {H : Hp} {s : Shared}
structure MkJ (X : Cx) (pins : List (Addr × Obj)) (σ : L2.St) (f S I : Addr) (fo : Obj) (W : Hp → Prop) (H' : Hp) (s' : Shared) : Prop where
  inv : Inv X pins σ H' s'
  fn : s'.heap.get? f = some fo
  fnH : H' f = none
  sH : H' S = none
  iH : H' I = none
  w : W H'
end
end Tl
namespace Tl
open PySem PySem.Spec L2 TL LamX
def kLt (x y : Int × Str) : Bool := decide (x.1 < y.1) || (decide (x.1 = y.1) && decide (tl x.2 < tl y.2))
theorem lt_tri' (a b : List Nat) : a < b ∨ a = b ∨ b < a := by
  by_cases h : a < b
  · exact .inl h
  · by_cases h2 : b < a
    · exact .inr (.inr h2)
    · exact .inr (.inl (List.le_antisymm (List.not_lt.mp h2) (List.not_lt.mp h)))
section
variable [Tabl] {K : PySem.W.Frag} {Z : XZ} {δ : List Slot} {n : Sto} {Φ : D → Sto → Prop} {te tb : TE}
end
end Tl
namespace Tl
open PySem PySem.Spec L2 TL LamX
def truD : D → Option Bool
  | .non => some false | .bl b => some b | .int i => some (i != 0) | .str x => if x.length ≤ 100000 then some ((x.length : Int) != 0) else none | .lst xs => some (!xs.isEmpty) | .tup xs => some (!xs.isEmpty) | _ => none
def spR [Tabl] (K : PySem.W.Frag) (Pc : List D → (MO → Prop) → Prop) : Sp := fun vs H Q _ => ∃ (G : Hp) (ds : List D) (Φ : MO → Prop), Tabs Tabl.T H ∧ (∀ b ps, G b ≠ some (.tbl ps)) ∧ Sub G H ∧ IsAll K G vs ds ∧ Pc ds Φ ∧
  ∀ (p : Addr) (o : MO) (G' H' : Hp) (n' : Sto), Φ o → n'.μ p = some o → Eo K none m00 n' G H G' H' → Q (.ref p) H'
def dR (Φ : MO → Prop) : D → Sto → Prop := fun d n => ∃ p o, d = .ptr p ∧ n.μ p = some o ∧ Φ o
section
variable [Tabl] {K : PySem.W.Frag} {Z : XZ} {B : Option Addr} {δ : List Slot} {n : Sto} {Φ : D → Sto → Prop} {te ta tb : TE} {aa : TA} {N Bk Ct : List Slot → Sto → Prop} {R : D → Sto → Prop} {ts : TS}
theorem gt_tru {Φ : Bool → Sto → Prop} (h : GK K Z ta δ n fun d n1 => ∃ b, truD d = some b ∧ Φ b n1) : GT K Z (fun σ H Q => ta σ H fun x H' => ∃ k, TruV K x H' k ∧ Q k H') δ n Φ := fun B M G0 H0 xw G H σ E Q q =>
  h B M G0 H0 xw G H σ E _ fun v d G1 H1 n1 f1 E1 s1 a1 => by
    obtain ⟨b, hb, f1⟩ := f1
    refine ⟨b, ?_, q b G1 H1 n1 f1 E1 s1⟩
    cases a1 with
    | non => cases hb; rfl
    | bl b => cases hb; rfl
    | int i => cases hb; rfl
    | str x =>
      change (if x.length ≤ 100000 then some ((x.length : Int) != 0) else none) = some b at hb
      by_cases hx : x.length ≤ 100000
      · rw [if_pos hx] at hb
        cases hb
        exact ⟨sz_ hx, rfl⟩
      · rw [if_neg hx] at hb
        cases hb
    | @lst p vs ds h1 a1 =>
      cases hb
      refine .inl ⟨vs, SqL.of (E1.sub _ _ h1), ?_⟩
      have := a1.len
      cases vs <;> cases ds <;> first | rfl | simp at this
    | @tup p vs ds h1 a1 =>
      cases hb
      refine .inr (.inl ⟨vs, E1.sub.seq h1, ?_⟩)
      have := a1.len
      cases vs <;> cases ds <;> first | rfl | simp at this
    | dic _ _ => cases hb
    | ptr _ => cases hb
    | dct _ _ => cases hb
theorem gt_truOwn {Φ : Bool → Sto → Prop} {i : Nat} {xs : List D} (hi : δ[i]? = some (.own xs)) (k : Φ (!xs.isEmpty) n) : GT K Z (fun σ H Q => tVar i σ H fun x H' => ∃ k, TruV K x H' k ∧ Q k H') δ n Φ := fun B M G0 H0 xw G H σ E Q q => by
  obtain ⟨p, vs, e1, e2, a, _⟩ := E.ownd hi
  refine ⟨_, e1, _, .inl ⟨vs, SqL.of e2, rfl⟩, ?_⟩
  have e : (!vs.isEmpty) = !xs.isEmpty := by
    have := a.len
    cases vs <;> cases xs <;> first | rfl | simp at this
  rw [e]
  exact q _ G H n k E (Sub.refl G)
theorem En.afterR {M : Addr → Prop} {G0 H0 G H G' H' : Hp} {σ : L2.St} {n' : Sto} {p : Addr} {o : MO} (E : En K B M n G0 H0 G H σ δ) (eo : Eo K none m00 n' G H G' H') (hp : n'.μ p = some o) : n.μ p = none ∧ En K B M (n.put p o) G0 H0 G' H' σ δ := by
  obtain ⟨mo, gp, _, hn⟩ := eo.mob p o hp
  have fresh : ∀ u, H p = some u → (∀ ps, u ≠ .tbl ps) → False := fun u hu nt => by
    rcases hn with z | z | ⟨ps, z⟩
    · rw [hu] at z; cases z
    · exact z rfl
    · rw [hu] at z
      exact nt ps (Option.some.inj z)
  have np : n.μ p = none := by
    cases e : n.μ p with
    | none => rfl
    | some o' =>
      obtain ⟨u, hu, pu⟩ := (E.mob p o' e).1.get
      exact (fresh u hu pu.notab).elim
  refine ⟨np, E.growM eo.sub0 eo.sub (fun b o e _ _ nt => eo.same b o e (fun z => nomatch z) rfl nt) (fun b hb nt _ gb => eo.fresh b hb (fun z => nomatch z) rfl nt gb)
    (fun r hr => bag_kept (E.bagged r hr).1 fun xs e => eo.same r _ e (fun z => nomatch z) rfl (fun _ z => nomatch z)) eo.tabs eo.gnt fun a u h => ?_⟩
  by_cases e : a = p
  · subst e
    rw [Sto.put_same] at h
    cases h
    refine ⟨mo, gp, fun z => ?_, ?_⟩
    · obtain ⟨x, y, z, e, _⟩ := (E.bagged a z).1
      exact fresh _ e fun _ z => nomatch z
    · rcases hn with z | z | z
      · exact .inl z
      · exact absurd rfl z
      · exact .inr (.inr z)
  · rw [Sto.put_ne e] at h
    obtain ⟨h1, h2, h3, h4⟩ := E.mob a u h
    obtain ⟨w, hw, pw⟩ := h1.get
    exact ⟨h1.mono eo.sub0 ((eo.same a w hw (fun z => nomatch z) rfl pw.notab).trans hw.symm), eo.fresh a h1.some (fun z => nomatch z) rfl h1.notab h2, h4, .inr (.inl (not_none h))⟩
theorem put_off {p : Addr} {o : MO} (h : n.μ p = none) : (n.put p o).off p = n := by
  obtain ⟨m, μ⟩ := n
  show Sto.mk m _ = _
  congr 1
  funext b
  show (if b = p then none else if b = p then some o else μ b) = μ b
  by_cases e : b = p
  · rw [if_pos e, e]
    exact h.symm
  · rw [if_neg e, if_neg e]
theorem sc_Rf {Pc : List D → (MO → Prop) → Prop} {xs : List D} (k : Pc xs fun o => ∃ d, o.frz = some d ∧ Φ d n) : SC K Z (spR K Pc) xs δ n Φ := fun B M G0 H0 xw G H σ E vs h Q X q =>
  ⟨G, xs, _, E.tabs, E.gnt, E.sub, h, k, fun p o G' H' n' ho hp eo => by
    obtain ⟨d, hd, hΦ⟩ := ho
    obtain ⟨np, E2⟩ := E.afterR eo hp
    obtain ⟨G2, s2, E3, is⟩ := E2.mfrz Sto.put_same hd
    rw [put_off np] at E3
    exact q _ d G2 H' n hΦ E3 (eo.sub0.trans s2) is⟩
theorem gs_retOwn {i : Nat} {o : MO} (hi : δ[i]? = some (.ow o)) (k : ∀ p, n.μ p = none → R (.ptr p) (n.put p o)) : GS K Z B (tRet (tVar i)) δ n N R Bk Ct := fun m0 G0 H0 xw G H σ E e hn hr hb hc => by
  obtain ⟨p, e1, mo, gp, mp, nb, np⟩ := e.owo hi
  refine ⟨_, e1, hr _ _ G H _ (k p np) ?_ (.ptr p)⟩
  have eo := e.out
  refine ⟨eo.sub0, eo.sub, eo.same, eo.fresh, eo.bagged, eo.tabs, eo.gnt, fun a u h => ?_⟩
  by_cases z : a = p
  · subst z
    rw [Sto.put_same] at h
    cases h
    refine ⟨mo, gp, nb, ?_⟩
    rcases mp with y | y | y | y
    · exact .inl y
    · exact absurd y nb
    · exact .inr (.inr y)
    · exact .inr (.inl y)
  · rw [Sto.put_ne z] at h
    exact eo.mob a u h
end
section
variable [Tabl] {P : Program} {w : World} {K : PySem.W.Frag} {mg : Str → Option Value} {base : Heap}
theorem fn_R {x qual : Str} {st : Stmt} {f : Addr} {fd : FuncData} {N ps : List Str} {k : Nat} {Pc : List D → (MO → Prop) → Prop} (F : Fun K x qual st f fd) (S : FnScope N ps (defScope st)) (hl : ∀ ds Φ, Pc ds Φ → ds.length = ps.length)
    (hb : ∀ (cdv : Value) (A : Around) (outer : List Env) (s : Shared) (H : Hp) (E : XK), Room k (A.deeper (PyProof.Rows.envOfC qual (defScope st) s.heap.objs.size f cdv)) →
      ∃ t, PSs (cxOf CX0 P w K mg base N qual (defScope st) f cdv A outer s H E).nox (defBody st) t ∧ ∀ ds Φ, Pc ds Φ → GS K .calm none t (startD N ds) ⟨0, m00⟩ (fun _ _ => False) (dR Φ) (fun _ _ => False) (fun _ _ => False)) :
    FnOk P w K mg base CX0 (k + 1) f fd ps (spR K Pc) := by
  refine F.ok S (fun vs H Q E h => ?_) (fun cdv A outer s H vs Q E hr h => ?_)
  · obtain ⟨G, ds, Φ, _, _, _, hv, hp, _⟩ := h
    rw [hv.len, hl ds Φ hp]
  · obtain ⟨G, ds, Φ, tb, gn, hs, hv, hp, q⟩ := h
    obtain ⟨t, h1, h2⟩ := hb cdv A outer s H E hr
    refine ⟨t, h1, h2 ds Φ hp m00 G H .calm G H _ _ (En.start m00_ok tb gn hs hv) (fun _ _ _ _ _ z => z.elim) (fun v d G' H' n' hd eo hv => ?_) (fun _ _ _ _ _ z => z.elim) (fun _ _ _ _ _ z => z.elim)⟩
    obtain ⟨p, o, rfl, ho, hΦ⟩ := hd
    cases hv
    exact q p o G' H' n' hΦ ho eo
end
end Tl
namespace Tl
open PySem PySem.Spec PyProof.Rows L2 TL LamX
theorem fillsI_list : fillsInplaceSlot (.type "list") "add" true = pure false := by
  show (typeLookup (.type "list") (dunderI "add") >>= fun fi => pure (fi.isSome && !isSeqSlot fi)) = pure false
  rw [show typeLookup (.type "list") (dunderI "add") = pure (some (.builtin "list.__iadd__")) from F.slot_list_iadd.lookup]
  have e : isSeqSlot (some (.builtin "list.__iadd__")) = true := by decide +kernel
  rw [pure_bind, e]
  rfl
theorem seqI_list : seqSlot? (.type "list") (dunderI "add") = pure (some (.builtin "list.__iadd__")) := PySem.seqSlot_of F.slot_list_iadd.lookup (by decide +kernel)
theorem iadd_lists {M : Model} {A : Around} {E : Value → Shared → Prop} {s : Shared} {a b : Value} {Q : Value → Shared → Prop} (ha : s.TypeIs a "list") (hb : s.TypeIs b "list") (hc : wpAny M A (call (.builtin "list.__iadd__") [a, b]) Q E s) : wpAny M A (inplaceOp .Add a b) Q E s := by
  unfold inplaceOp
  apply wpAny_holding
  apply wpAny_bind
  refine wpAny_typeOf ha (wpAny_bind (wpAny_of_eq fillsI_list ?_))
  show wpAny M A (if false = true then _ else _) Q E s
  rw [if_neg (by decide)]
  apply wpAny_bind
  refine wpAny_binaryOp1_none (T := "list") ha hb noFill_list_add ?_
  exact wpAny_bind (wpAny_of_eq seqI_list (wpAny_bind (wpAny_rule hc)))
def ipL : TIp := fun x y H Q => ∃ l b xs zs, x = .ref l ∧ y = .ref b ∧ H l = some (.lst xs) ∧ H b = some (.lst zs) ∧ xs.length + zs.length ≤ sizeLine ∧ Q (.ref l) (upd H l (.lst (xs ++ zs)))
theorem ip_list {X : Cx} : PIp X .Add ipL := by
  intro pins s σ H x y v u Q I rx ry h
  obtain ⟨l, b, xs, zs, rfl, rfl, hH, hB, hz, q⟩ := h
  cases rx
  cases ry
  obtain ⟨z1, is1, n1, r1, len1, e1⟩ := I.lstM hH
  obtain ⟨z2, is2, n2, r2, len2, e2⟩ := I.lstM hB
  have room : is1.toArray.size + is2.toArray.size ≤ sizeLine := by
    rw [List.size_toArray, List.size_toArray]
    omega
  have short : ¬ (!is1.toArray.isEmpty && Builtin.List.listTooLong (is1.toArray.size + is2.toArray.size)) = true := by
    rw [notLongL room, Bool.and_false]
    decide
  refine iadd_lists ⟨_, e1, rfl⟩ ⟨_, e2, rfl⟩ (call_meets F.slot_list_iadd ⟨_, e1, rfl⟩ F.entry_list_iadd (F.args_list_iadd_2 _ _) (AutoSeq1.list___iadd___list_list_0 l is1.toArray n1 b is2.toArray n2 short (by rw [List.size_toArray]; omega) (by omega)) ⟨e1, e2, ?_⟩)
  exact ⟨.ref l, _, I.lset (its' := is1 ++ is2) hH e1 (by simp) (r1.append r2) (by rw [List.length_append]; omega), rfl, q⟩
section
variable [Tabl] {K : PySem.W.Frag} {Z : XZ} {B : Option Addr} {δ : List Slot} {n : Sto} {Φ : D → Sto → Prop} {te ta tb : TE} {aa : TA} {N Bk Ct : List Slot → Sto → Prop} {R : D → Sto → Prop} {ts : TS}
theorem gs_augL {i : Nat} {xs : List D} (hi : δ[i]? = some (.own xs)) (h : GK K Z te δ n fun d n1 => ∃ ys, d = .lst ys ∧ xs.length + ys.length ≤ 100000 ∧ N (δ.set i (.own (xs ++ ys))) n1) : GS K Z B (tAug i te ipL) δ n N R Bk Ct := fun m0 G0 H0 xw G H σ E e hn hr hb hc => by
  obtain ⟨p, vs, e1, e2, a, gp, h0⟩ := e.ownd hi
  refine ⟨_, e1, ?_⟩
  refine h B (MOf B m0 H0) G0 H0 xw G H σ e _ fun v d G1 H1 n1 f1 E1 s1 a1 => ?_
  obtain ⟨ys, rfl, hl, f1⟩ := f1
  obtain ⟨q, ws, g1, g2, b, _⟩ := E1.ownd hi
  rw [e1] at g1
  have g1 : p = q := by injection (Option.some.inj (Option.some.inj g1))
  subst g1
  cases a1 with
  | @lst b' zs _ h1 a1 =>
    refine ⟨p, b', ws, zs, rfl, rfl, g2, E1.sub _ _ h1, by rw [b.len, a1.len]; exact sz_ hl, ?_⟩
    have E2 := E1.chg hi e1 g2 (b.app a1)
    have hil : i < σ.length := by
      rw [E1.len]
      exact (List.getElem?_eq_some_iff.mp hi).1
    have es : σ.set i (some (.ref p)) = σ := by
      apply List.ext_getElem?
      intro k
      by_cases hk : i = k
      · rw [← hk, List.getElem?_set_self hil, e1]
      · rw [List.getElem?_set_ne hk]
    show E.nx (σ.set i (some (.ref p))) _
    rw [es]
    exact hn σ _ G1 _ n1 f1 E2 s1
def putD (es : List (Key × D)) (k : Key) (d : D) : List (Key × D) :=
  if (es.any fun kv => decide (kv.1 = k)) = true then es.map (fun kv => if kv.1 = k then (kv.1, d) else kv) else es ++ [(k, d)]
def getD' (es : List (Key × D)) (k : Key) : Option D := (es.find? fun kv => decide (kv.1 = k)).map (·.2)
omit [Tabl] in
theorem IsKv.len {G : Hp} : ∀ {kvs : List (Key × V)} {es : List (Key × D)}, IsKv K G kvs es → kvs.length = es.length
  | _, _, .nil => rfl
  | _, _, .cons _ r => by rw [List.length_cons, List.length_cons, IsKv.len r]
omit [Tabl] in
theorem IsKv.any {G : Hp} {k : Key} : ∀ {kvs : List (Key × V)} {es : List (Key × D)}, IsKv K G kvs es → (kvs.any fun kv => decide (kv.1 = k)) = es.any fun kv => decide (kv.1 = k)
  | _, _, .nil => rfl
  | _, _, .cons _ r => by rw [List.any_cons, List.any_cons, IsKv.any r]
omit [Tabl] in
theorem IsKv.app {G : Hp} : ∀ {kvs ls : List (Key × V)} {es fs : List (Key × D)}, IsKv K G kvs es → IsKv K G ls fs → IsKv K G (kvs ++ ls) (es ++ fs)
  | _, _, _, _, .nil, b => b
  | _, _, _, _, .cons h r, b => .cons h (IsKv.app r b)
omit [Tabl] in
theorem IsKv.upd {G : Hp} {k : Key} {v : V} {d : D} (hv : Is K G v d) : ∀ {kvs : List (Key × V)} {es : List (Key × D)}, IsKv K G kvs es → IsKv K G (kvs.map fun kv => if kv.1 = k then (kv.1, v) else kv) (es.map fun kv => if kv.1 = k then (kv.1, d) else kv)
  | _, _, .nil => .nil
  | _, _, @IsKv.cons _ _ k' x xs d' ds h r => by
    rw [List.map_cons, List.map_cons]
    by_cases e : k' = k
    · rw [if_pos e, if_pos e]
      exact .cons hv (IsKv.upd hv r)
    · rw [if_neg e, if_neg e]
      exact .cons h (IsKv.upd hv r)
omit [Tabl] in
theorem IsKv.put {G : Hp} {k : Key} {v : V} {d : D} {kvs : List (Key × V)} {es : List (Key × D)} (h : IsKv K G kvs es) (hv : Is K G v d) : IsKv K G (putK kvs k v) (putD es k d) := by
  unfold putK putD
  rw [h.any]
  split
  · exact h.upd hv
  · exact h.app (.cons hv .nil)
omit [Tabl] in
theorem IsKv.get {G : Hp} {k : Key} {d : D} : ∀ {kvs : List (Key × V)} {es : List (Key × D)}, IsKv K G kvs es → getD' es k = some d → ∃ v, valV kvs k = some v ∧ Is K G v d
  | _, _, .nil, h => by cases h
  | _, _, @IsKv.cons _ _ k' x xs d' ds h r, e => by
    unfold getD' at e
    rw [List.find?_cons] at e
    by_cases z : k' = k
    · rw [decide_eq_true z] at e
      cases e
      exact ⟨x, valV_pos z, h⟩
    · rw [decide_eq_false z] at e
      obtain ⟨v, h1, h2⟩ := IsKv.get r (show getD' ds k = some d from e)
      exact ⟨v, (valV_neg z).trans h1, h2⟩
def keyD : Key → D
  | .inl i => .int i
  | .inr x => .str x
omit [Tabl] in
theorem Is.key {G : Hp} {v : V} {k : Key} (a : Is K G v (keyD k)) : v = kV k := by
  cases k with
  | inl i => cases a; rfl
  | inr x => cases a; rfl
end
end Tl
namespace Tl
open PySem PySem.Spec PyProof.Rows L2 TL LamX
theorem hu_by {A : Around} {k : Nat} (hr : Room k A) : A.units + 1 < cLine := Nat.lt_of_le_of_lt (Nat.add_le_add_left (by decide : 1 ≤ 64) _) hr.units
section
variable [Tabl] {K : PySem.W.Frag} {Z : XZ} {δ : List Slot} {n : Sto} {Φ : D → Sto → Prop}
theorem rk_gtS {x y : Str} (k : Φ (.bl (decide (tl y < tl x))) n) : RK K Z (fun x y H Q => ∃ i j, x = .str i ∧ y = .str j ∧ Q (.bl (decide (j.cps.toList < i.cps.toList))) H) (.str x) (.str y) δ n Φ := fun B M G0 H0 xw G H σ E v w a b Q q => by
  cases a
  cases b
  exact ⟨x, y, rfl, rfl, q _ _ G H n k E (Sub.refl G) (.bl _)⟩
end
end Tl
namespace Tl
open PySem PySem.Spec PyProof.Rows L2 TL LamX
section
variable [Tabl] {K : PySem.W.Frag} {Z : XZ} {B : Option Addr} {δ : List Slot} {n : Sto} {te : TE} {N Bk Ct : List Slot → Sto → Prop} {R : D → Sto → Prop}
theorem gs_unp2 {i j m : Nat} (hm : m = 2) (h : GK K Z te δ n fun d n' => ∃ x y, d = .tup [x, y] ∧ N ((δ.set i (.d x)).set j (.d y)) n') : GS K Z B (tAsg te (gTup K m (gCons (gName i) (gCons (gName j) gNil)))) δ n N R Bk Ct :=
  gs_unp (vs := [i, j]) fun B M G0 H0 xw G H σ E Q q => h B M G0 H0 xw G H σ E Q fun v d G1 H1 n1 f1 => by
    obtain ⟨x, y, rfl, f1⟩ := f1
    exact q v _ G1 H1 n1 ⟨_, gg_tup hm.symm (ggs_cons (gg_name (.head _)) (ggs_cons (gg_name (.tail _ (.head _))) ggs_nil)), f1⟩
theorem gs_unp3 {i j l m : Nat} (hm : m = 3) (h : GK K Z te δ n fun d n' => ∃ x y z, d = .tup [x, y, z] ∧ N (((δ.set i (.d x)).set j (.d y)).set l (.d z)) n') : GS K Z B (tAsg te (gTup K m (gCons (gName i) (gCons (gName j) (gCons (gName l) gNil))))) δ n N R Bk Ct :=
  gs_unp (vs := [i, j, l]) fun B M G0 H0 xw G H σ E Q q => h B M G0 H0 xw G H σ E Q fun v d G1 H1 n1 f1 => by
    obtain ⟨x, y, z, rfl, f1⟩ := f1
    exact q v _ G1 H1 n1 ⟨_, gg_tup hm.symm (ggs_cons (gg_name (.head _)) (ggs_cons (gg_name (.tail _ (.head _))) (ggs_cons (gg_name (.tail _ (.tail _ (.head _)))) ggs_nil))), f1⟩
end
end Tl
namespace Tl
open PySem PySem.Spec PyProof.Rows L2 TL LamX
section
variable {prog : Program} {w : World} {A : Around} {E : Value → Shared → Prop} {s : Shared}
end
end Tl
namespace Tl
open PySem PySem.Spec PyProof.Rows L2 TL LamX
section
variable {X : Cx}
def rMax2S : List V → Hp → VK → Prop := fun xs H Q => ∃ i j : Str, xs = [.str i, .str j] ∧ Q (.str (if tl i < tl j then j else i)) H
def rMin2S : List V → Hp → VK → Prop := fun xs H Q => ∃ i j : Str, xs = [.str i, .str j] ∧ Q (.str (if tl j < tl i then j else i)) H
def rLeIS (K : PySem.W.Frag) : R2 := fun x y H Q => ∃ (a b : Addr) (i j : Int) (p q : Str), x = .ref a ∧ y = .ref b ∧ SqT K H a [.int i, .str p] ∧ SqT K H b [.int j, .str q] ∧ Q (.bl (!kLt (j, q) (i, p))) H
def rGtIS (K : PySem.W.Frag) : R2 := fun x y H Q => ∃ (a b : Addr) (i j : Int) (p q : Str), x = .ref a ∧ y = .ref b ∧ SqT K H a [.int i, .str p] ∧ SqT K H b [.int j, .str q] ∧ Q (.bl (kLt (j, q) (i, p))) H
end
section
variable [Tabl] {K : PySem.W.Frag} {Z : XZ} {δ : List Slot} {n : Sto} {Φ : D → Sto → Prop}
theorem rc_max2S {x y : Str} (k : Φ (.str (if tl x < tl y then y else x)) n) : RC K Z rMax2S [.str x, .str y] δ n Φ := fun B M G0 H0 xw G H σ E vs a Q q => by
  cases a with
  | cons a r =>
    cases r with
    | cons b r =>
      cases r
      cases a
      cases b
      exact ⟨x, y, rfl, q _ _ G H n k E (Sub.refl G) (.str _)⟩
theorem rc_min2S {x y : Str} (k : Φ (.str (if tl y < tl x then y else x)) n) : RC K Z rMin2S [.str x, .str y] δ n Φ := fun B M G0 H0 xw G H σ E vs a Q q => by
  cases a with
  | cons a r =>
    cases r with
    | cons b r =>
      cases r
      cases a
      cases b
      exact ⟨x, y, rfl, q _ _ G H n k E (Sub.refl G) (.str _)⟩
theorem rk_leS {x y : Str} (k : Φ (.bl (!decide (tl y < tl x))) n) : RK K Z (fun x y H Q => ∃ i j, x = .str i ∧ y = .str j ∧ Q (.bl (!decide (j.cps.toList < i.cps.toList))) H) (.str x) (.str y) δ n Φ := fun B M G0 H0 xw G H σ E v w a b Q q => by
  cases a
  cases b
  exact ⟨x, y, rfl, rfl, q _ _ G H n k E (Sub.refl G) (.bl _)⟩
theorem rk_leIS {i j : Int} {x y : Str} (k : Φ (.bl (!kLt (j, y) (i, x))) n) : RK K Z (rLeIS K) (.tup [.int i, .str x]) (.tup [.int j, .str y]) δ n Φ := fun B M G0 H0 xw G H σ E v w a b Q q => by
  cases a with
  | @tup p vs _ h1 a1 =>
    cases b with
    | @tup p' ws _ h2 a2 =>
      cases a1 with
      | cons c1 r1 =>
        cases r1 with
        | cons c2 r1 =>
          cases r1
          cases c1
          cases c2
          cases a2 with
          | cons c1 r1 =>
            cases r1 with
            | cons c2 r1 =>
              cases r1
              cases c1
              cases c2
              exact ⟨p, p', i, j, x, y, rfl, rfl, E.sub.seq h1, E.sub.seq h2, q _ _ G H n k E (Sub.refl G) (.bl _)⟩
theorem rk_gtIS {i j : Int} {x y : Str} (k : Φ (.bl (kLt (j, y) (i, x))) n) : RK K Z (rGtIS K) (.tup [.int i, .str x]) (.tup [.int j, .str y]) δ n Φ := fun B M G0 H0 xw G H σ E v w a b Q q => by
  cases a with
  | @tup p vs _ h1 a1 =>
    cases b with
    | @tup p' ws _ h2 a2 =>
      cases a1 with
      | cons c1 r1 =>
        cases r1 with
        | cons c2 r1 =>
          cases r1
          cases c1
          cases c2
          cases a2 with
          | cons c1 r1 =>
            cases r1 with
            | cons c2 r1 =>
              cases r1
              cases c1
              cases c2
              exact ⟨p, p', i, j, x, y, rfl, rfl, E.sub.seq h1, E.sub.seq h2, q _ _ G H n k E (Sub.refl G) (.bl _)⟩
end
end Tl
namespace Tl
open PySem PySem.Spec PyProof.Rows L2 TL LamX
section
variable [Tabl] {K : PySem.W.Frag} {Z : XZ} {δ : List Slot} {n : Sto} {Φ : D → Sto → Prop} {te : TE}
end
end Tl
namespace Tl
open PySem PySem.Spec PyProof.Rows L2 TL LamX
theorem tabs_same {T : List (Addr × Str)} {H H' : Hp} (t : Tabs T H) (s : Same H H') : Tabs T H' := fun p hp => by
  obtain ⟨ps, h1, h2⟩ := t p hp
  refine ⟨ps, s _ _ h1, h2.1, fun pos cv hq => ?_⟩
  obtain ⟨c, e, hc⟩ := h2.2 pos cv hq
  exact ⟨c, e, s _ _ hc⟩
section
variable [Tabl] {K : PySem.W.Frag} {Z : XZ} {B : Option Addr} {δ : List Slot} {n : Sto} {Φ : D → Sto → Prop} {aa : TA} {N Bk Ct : List Slot → Sto → Prop} {R : D → Sto → Prop}
theorem En.exn {M : Addr → Prop} {G0 H0 G H H' : Hp} {σ : L2.St} {d : Addr} {vs : List (Str × V)} {fs : List (Str × D)} (E : En K B M n G0 H0 G H σ δ) (s : Same H H') (hd : H d = none) (hx : H' d = some (.xd vs)) (hf : IsFs K G vs fs) : ∃ G', Sub G G' ∧ En K B M n G0 H0 G' H' σ δ ∧ XIs K G' (some d) fs := by
  have sg : Sub G (upd G d (.xd vs)) := Sub.new (E.sub.none hd)
  refine ⟨upd G d (.xd vs), sg, E.grow sg (fun b o e => ?_) (fun b o e _ _ => s b o e) (fun b hb _ gb => ?_) (fun r hr => bag_kept (E.bagged r hr).1 fun xs e => s _ _ e) (tabs_same E.tabs s) (gnt_upd E.gnt fun _ z => nomatch z), .inr ⟨d, vs, rfl, upd_same, hf.mono sg⟩⟩
  · by_cases hb : b = d
    · subst hb
      rw [upd_same] at e
      cases e
      exact hx
    · rw [upd_ne hb] at e
      exact s _ _ (E.sub b o e)
  · have nb : b ≠ d := fun z => hb (by rw [z]; exact hd)
    rw [upd_ne nb]
    exact gb
end
end Tl
namespace Tl
open PySem PySem.Spec PyProof.Rows L2 TL LamX
section
variable [Tabl] {K : PySem.W.Frag} {Z : XZ} {B : Option Addr} {δ : List Slot} {n : Sto} {Φ : D → Sto → Prop} {N Bk Ct : List Slot → Sto → Prop} {R : D → Sto → Prop}
theorem En.anew {M : Addr → Prop} {G0 H0 G H : Hp} {σ : L2.St} (E : En K B M n G0 H0 G H σ δ) : En K B M n G H G H σ δ where
  sub0 := Sub.refl G
  sub := E.sub
  same := fun b o e _ => e
  free := E.free
  fresh := fun b _ g => g
  bagged := E.bagged
  tabs := E.tabs
  tin := E.tin
  gnt := E.gnt
  len := E.len
  slot := E.slot
  dis := E.dis
  mob := E.mob
  mow := E.mow
theorem En.old {M : Addr → Prop} {n' : Sto} {G0 H0 G H G' H' : Hp} {σ σ' : L2.St} {δ' : List Slot} (E : En K B M n G0 H0 G H σ δ) (e : En K B M n' G H G' H' σ' δ') : En K B M n' G0 H0 G' H' σ' δ' where
  sub0 := E.sub0.trans e.sub0
  sub := e.sub
  same := fun b o h nm => e.same b o (E.same b o h nm) nm
  free := e.free
  fresh := fun b nm g => e.fresh b nm (E.fresh b nm g)
  bagged := e.bagged
  tabs := e.tabs
  tin := e.tin
  gnt := e.gnt
  len := e.len
  slot := e.slot
  dis := e.dis
  mob := e.mob
  mow := e.mow
open Classical in
noncomputable def mOfM (M : Addr → Prop) : Addr → Option MO := fun b => if M b then some (.lst []) else none
theorem mOfM_iff {M : Addr → Prop} {b : Addr} : mOfM M b ≠ none ↔ M b := by
  unfold mOfM
  by_cases h : M b
  · rw [if_pos h]
    exact ⟨fun _ => h, fun _ => by simp⟩
  · rw [if_neg h]
    exact ⟨fun z => absurd rfl z, fun z => absurd z h⟩
theorem mOfM_none {M : Addr → Prop} {b : Addr} (h : ¬ M b) : mOfM M b = none := by
  unfold mOfM
  exact if_neg h
theorem Eo.old {m0 : Addr → Option MO} {n' : Sto} {G0 H0 G H G' H' : Hp} {σ : L2.St} (E : En K B (MOf B m0 H0) n G0 H0 G H σ δ) (e : Eo K B (mOfM (MOf B m0 H0)) n' G H G' H') : Eo K B m0 n' G0 H0 G' H' where
  sub0 := E.sub0.trans e.sub0
  sub := e.sub
  same := fun b o h nb nm nt => by
    have z := MOf.not h nb nm nt
    exact e.same b o (E.same b o h z) nb (mOfM_none z) nt
  fresh := fun b hb nb nm nt g => by
    obtain ⟨o, ho⟩ := Option.ne_none_iff_exists'.mp hb
    have z : ¬ MOf B m0 H0 b := MOf.not ho nb nm fun ps q => nt ps (by rw [ho, q])
    have hH := E.same b o ho z
    exact e.fresh b (by rw [hH]; exact fun q => nomatch q) nb (mOfM_none z) (fun ps q => nt ps (by rw [ho, ← hH, q])) (E.fresh b z g)
  bagged := e.bagged
  tabs := e.tabs
  gnt := e.gnt
  mob := fun a o h => by
    obtain ⟨h1, h2, h3, h4⟩ := e.mob a o h
    have z : MOf B m0 H0 a := by
      rcases h4 with h4 | h4 | ⟨ps, h4⟩
      · exact E.free a h4
      · exact mOfM_iff.mp h4
      · exact E.tin a ps h4
    refine ⟨h1, h2, h3, ?_⟩
    rcases z with z | z | z | z
    · exact .inl z
    · exact absurd z h3
    · exact .inr (.inr z)
    · exact .inr (.inl z)
end
end Tl
namespace Tl
open PySem PySem.Spec PyProof.Rows L2 TL LamX
section
variable [Tabl] {K : PySem.W.Frag} {Z : XZ} {δ : List Slot} {n : Sto} {Φ : D → Sto → Prop} {te : TE}
end
end Tl
namespace Tl
open PySem PySem.Spec PyProof.Rows L2 TL LamX
def rSortedD (K : PySem.W.Frag) : List V → Hp → VK → Prop := fun vs H Q => ∃ (a : Addr) (xs : List V) (ks : List PyData), vs = [V.ref a] ∧ SqL K H a xs ∧ DpAll K H xs ks ∧ ks.length = xs.length ∧ PySem.W.AllAlike ks ∧ PySem.W.Sortable ks ∧ (∀ d, d ∈ ks → d.depth ≤ 50) ∧
  ∀ p : Addr, H p = none → Q (.ref p) (upd H p (.lst (keyed xs ks)))
theorem eachR_keeps {h h' : Heap} (k : ∀ b o, h.get? b = some o → h'.get? b = some o) : ∀ {vs : List Value} {ks : List PyData}, PySem.W.EachIs (fun v k => ∃ as, Reads h v k as) vs ks → PySem.W.EachIs (fun v k => ∃ as, Reads h' v k as) vs ks
  | _, _, .nil => .nil
  | _, _, .cons ⟨as, r⟩ t => .cons ⟨as, PyProof.Rows.Reads.keeps k r⟩ (eachR_keeps k t)
theorem cr_sortedD {X : Cx} {K : PySem.W.Frag} (hK : X.K = K) (hu : X.A.units + 64 < cLine) : CallR X (.builtin "sorted") (rSortedD K) := by
  subst hK
  intro pins s σ H vs us Q I r h
  obtain ⟨a, xs, ks, rfl, hs, dp, hlen, hal, hso, hdp, q⟩ := h
  obtain ⟨its, rv, hl, hz⟩ := I.list hs
  rw [Vals.ref1 r]
  have hk := dpAll_each I dp rv
  have hxl : xs.length = its.length := L2.Vals.length rv
  have hk2 := eachR_keeps (h' := PySem.W.sortingHeap (PySem.W.copyHeap s.heap its) (s.heap.objs.size + 1) its) (fun b o e => PySem.W.sorting_copy_old e) hk
  refine PySem.W.sorted_vals hl.isList (PySem.W.SortsAt.data (s := { s with heap := PySem.W.sortingHeap (PySem.W.copyHeap s.heap its) (s.heap.objs.size + 1) its }) hk2 hal hso fun d hd => ?_) (by rw [← hxl]; exact hz) ?_
  · have := hdp d hd
    show X.A.units + 1 + 1 + d.depth < cLine
    omega
  have hb : (xs.zip ks).map Prod.snd = ks := List.map_snd_zip (by omega)
  have ko : PySem.W.KeyedOut false ((xs.zip ks).map Prod.snd) its (PySem.W.sortVals (PySem.W.dataKind (PySem.W.sortingHeap (PySem.W.copyHeap s.heap its) (s.heap.objs.size + 1) its) ks) false its its) := by
    rw [hb]
    exact ⟨_, its, hal, rfl, hk2⟩
  have hv : Vals (keyed xs ks) (PySem.W.sortVals (PySem.W.dataKind (PySem.W.sortingHeap (PySem.W.copyHeap s.heap its) (s.heap.objs.size + 1) its) ks) false its its) := vals_each (PySem.W.keyedOut_each Prod.snd ko (each_zip rv hlen))
  obtain ⟨ep, he'⟩ := PyProof.Rows.sortedAll_at s.heap its (PySem.W.sortVals (PySem.W.dataKind (PySem.W.sortingHeap (PySem.W.copyHeap s.heap its) (s.heap.objs.size + 1) its) ks) false its its).toArray
  exact ⟨.ref _, upd H (s.heap.objs.size + 1) (.lst (keyed xs ks)), I.laid (t' := s.toks) (fun _ _ => PyProof.Rows.sortedAll_old) (Nat.le_succ _) ⟨by rw [keyed_len hlen]; exact hz, _, ep, hv, he'⟩, rfl, q _ (I.hok.fresh (Nat.le_succ _))⟩
section
variable [Tabl] {K : PySem.W.Frag} {Z : XZ} {δ : List Slot} {n : Sto} {Φ : D → Sto → Prop}
theorem rc_sortD {m : Nat} {ds : List D} (hm : m ≤ 50) (hs : ∀ x ∈ ds, Shp m x) (hal : PySem.W.AllAlike (ds.map toP)) (hso : PySem.W.Sortable (ds.map toP)) (k : Φ (.lst (keyedD ds (ds.map toP))) n) : RC K Z (rSortedD K) [.lst ds] δ n Φ := fun B M G0 H0 xw G H σ E vs a Q q => by
  cases a with
  | cons a r =>
    cases r
    cases a with
    | @lst p xs _ h1 a1 =>
      refine ⟨p, xs, ds.map toP, rfl, SqL.of (E.sub _ _ h1), a1.dpD E.sub hs, by rw [List.length_map, a1.len], hal, hso, fun d hd => ?_, fun p' hp' => ?_⟩
      · obtain ⟨x, hx, rfl⟩ := List.mem_map.mp hd
        exact Nat.le_trans (hs x hx).ok.2 hm
      · have s2 : ∀ o, Sub G (upd G p' o) := fun o => Sub.new (E.sub.none hp')
        exact q _ _ _ _ n k (E.laid hp') (s2 _) (.lst upd_same ((isAll_keyed a1).mono (s2 _)))
end
def leS (x y : Str) : Bool := !decide (tl y < tl x)
theorem leS_trans (x y z : Str) (h1 : leS x y = true) (h2 : leS y z = true) : leS x z = true := by
  unfold leS at *
  rw [Bool.not_eq_true', decide_eq_false_iff_not] at *
  intro h
  rcases lt_tri' (tl y) (tl x) with g | g | g
  · exact h1 g
  · rw [g] at h2
    exact h2 h
  · exact h2 (List.lt_trans h g)
theorem leS_total (x y : Str) : (leS x y || leS y x) = true := by
  unfold leS
  by_cases h : tl y < tl x
  · have := List.lt_asymm h
    simp [h, this]
  · simp [h]
theorem leS_data (x y : Str) : PySem.W.dataLe false (Prod.snd : D × PyData → PyData) (.str x, toP (.str x)) (.str y, toP (.str y)) = leS x y := by
  show (!PyProof.Rows.lexLt PyProof.Rows.itemOrd (PySem.W.keyToks (toP (.str y))) (PySem.W.keyToks (toP (.str x)))) = _
  have e : ∀ z : Str, PySem.W.keyToks (toP (.str z)) = [.inr (tl z)] := fun z => by simp [toP, PySem.W.keyToks, tl]
  rw [e, e]
  unfold leS
  have str_blt : ∀ u v : List Nat, PyProof.Rows.itemLt (.inr u) (.inr v) = decide (u < v) := fun u v => rfl
  simp only [PyProof.Rows.lexLt, str_blt]
  generalize tl x = u
  generalize tl y = v
  rcases lt_tri' v u with g | g | g
  · simp [g]
  · subst g
    simp
  · have := List.lt_asymm g
    simp [g, this]
def srtS (zs : List Str) : List Str := zs.mergeSort leS
theorem srtS_perm {zs : List Str} : (srtS zs).Perm zs := List.mergeSort_perm _ _
theorem srtS_one {xs ys : List Str} (h : xs.Perm ys) : srtS xs = srtS ys := by
  refine ((srtS_perm.trans h).trans srtS_perm.symm).eq_of_pairwise (fun a b _ _ h1 h2 => ?_) (List.pairwise_mergeSort leS_trans leS_total _) (List.pairwise_mergeSort leS_trans leS_total _)
  unfold leS at h1 h2
  rw [Bool.not_eq_true', decide_eq_false_iff_not] at h1 h2
  rcases lt_tri' (tl a) (tl b) with g | g | g
  · exact absurd g h2
  · exact ext_tl g
  · exact absurd g h1
section
variable [Tabl] {K : PySem.W.Frag} {Z : XZ} {δ : List Slot} {n : Sto} {Φ : D → Sto → Prop}
end
end Tl
namespace Tl
open PySem PySem.Spec PyProof.Rows L2 TL LamX
section
variable [Tabl] {K : PySem.W.Frag} {Z : XZ} {δ : List Slot} {n : Sto} {Φ : D → Sto → Prop} {aa : TA}
end
end Tl
namespace Tl
open PySem PySem.Spec PyProof.Rows L2 TL LamX
section
variable [Tabl] {K : PySem.W.Frag} {Z : XZ} {B : Option Addr} {δ : List Slot} {n : Sto} {te ta tb : TE} {N Bk Ct : List Slot → Sto → Prop} {R : D → Sto → Prop}
end
end Tl
namespace Tl
open PySem PySem.Spec PyProof.Rows L2 TL LamX
section
variable {X : Cx}
def rLtIS (K : PySem.W.Frag) : R2 := fun x y H Q => ∃ (a b : Addr) (i j : Int) (p q : Str), x = .ref a ∧ y = .ref b ∧ SqT K H a [.int i, .str p] ∧ SqT K H b [.int j, .str q] ∧ Q (.bl (kLt (i, p) (j, q))) H
end
section
variable [Tabl] {K : PySem.W.Frag} {Z : XZ} {δ : List Slot} {n : Sto} {Φ : D → Sto → Prop}
theorem rk_ltIS {i j : Int} {x y : Str} (k : Φ (.bl (kLt (i, x) (j, y))) n) : RK K Z (rLtIS K) (.tup [.int i, .str x]) (.tup [.int j, .str y]) δ n Φ := fun B M G0 H0 xw G H σ E v w a b Q q => by
  cases a with
  | @tup p vs _ h1 a1 =>
    cases b with
    | @tup p' ws _ h2 a2 =>
      cases a1 with
      | cons c1 r1 =>
        cases r1 with
        | cons c2 r1 =>
          cases r1
          cases c1
          cases c2
          cases a2 with
          | cons c1 r1 =>
            cases r1 with
            | cons c2 r1 =>
              cases r1
              cases c1
              cases c2
              exact ⟨p, p', i, j, x, y, rfl, rfl, E.sub.seq h1, E.sub.seq h2, q _ _ G H n k E (Sub.refl G) (.bl _)⟩
end
end Tl
namespace Tl
open PySem PySem.Spec PyProof.Rows L2 TL LamX
section
variable {X : Cx}
end
section
variable [Tabl] {K : PySem.W.Frag} {Z : XZ} {B : Option Addr} {δ : List Slot} {n : Sto} {Φ : D → Sto → Prop} {te : TE} {aa : TA} {ts : TS} {N Bk Ct : List Slot → Sto → Prop} {R : D → Sto → Prop}
theorem gs_monoN {N' : List Slot → Sto → Prop} (h : GS K Z B ts δ n N' R Bk Ct) (m : ∀ δ n, N' δ n → N δ n) : GS K Z B ts δ n N R Bk Ct := fun m0 G0 H0 xw G H σ E e hn hr hb hc =>
  h m0 G0 H0 xw G H σ E e (fun σ' δ' G' H' n' x => hn σ' δ' G' H' n' (m _ _ x)) hr hb hc
theorem gk_newL (h : GA K Z aa δ n fun ds n1 => ds.length ≤ 100000 ∧ ∀ p, n1.μ p = none → Φ (.ptr p) (n1.put p (.lst ds))) : GK K Z (tLst aa) δ n Φ := fun B M G0 H0 xw G H σ E Q q =>
  h B M G0 H0 xw G H σ E _ fun vs ds G1 H1 n1 f1 E1 s1 a1 => ⟨by rw [a1.len]; exact sz_ f1.1, fun p hp => q _ _ G1 _ _ (f1.2 p (E1.nomob hp)) (E1.mnew hp ⟨vs, upd_same, a1⟩) s1 (.ptr p)⟩
end
end Tl
namespace Tl
open PySem PySem.Spec PyProof.Rows L2 TL LamX
abbrev Cl := Value × (Addr → Value → Option Addr → TS)
inductive ClsOk (X : Cx) (n : Str) : List ExceptHandler → List Cl → Prop
  | nil : ClsOk X n [] []
  | cons {x : Str} {c : Value} {ts : Addr → Value → Option Addr → TS} {s0 : Stmt} {su : List Stmt} {px pc : Pos} {hl : List ExceptHandler} {l : List Cl} (nm : Names X x c)
      (ok : ∀ (a : Addr) (ob : Obj) (k : Value) (d : Option Addr) (ps : List (Addr × Obj)), Zc k d ob → (∃ fs, ob.data = .fields fs) → PSs (X.suite a ((a, ob) :: ps)) (s0 :: su) (ts a k d))
      (r : ClsOk X n hl l) : ClsOk X n (.ExceptHandler (some (.Name x px)) (some n) (s0 :: su) pc :: hl) ((c, ts) :: l)
section
variable {X : Cx} {body : List Stmt} {h1 : ExceptHandler} {hl : List ExceptHandler} {l : List Cl} {n : Str} {i : Nat} {pos : Pos} {tb : WX → TS} {Wo : WX}
end
end Tl
namespace Tl
open PySem PySem.Spec PyProof.Rows L2 TL LamX
section
variable [Tabl] {K : PySem.W.Frag} {Z : XZ} {B : Option Addr} {δ : List Slot} {n : Sto} {N Bk Ct : List Slot → Sto → Prop} {R : D → Sto → Prop}
end
end Tl
namespace Tl
open PySem PySem.Spec PyProof.Rows L2 TL LamX
def putFD (f : Str) (d : D) : List (Str × D) → List (Str × D)
  | [] => [(f, d)]
  | (g, x) :: r => if g = f then (g, d) :: r else (g, x) :: putFD f d r
section
variable {K : PySem.W.Frag}
theorem IsFs.len {G : Hp} : ∀ {vs : List (Str × V)} {fs : List (Str × D)}, IsFs K G vs fs → vs.length = fs.length
  | _, _, .nil => rfl
  | _, _, .cons _ r => congrArg (· + 1) r.len
theorem IsFs.putF {G : Hp} {f : Str} {v : V} {d : D} (a : Is K G v d) : ∀ {vs : List (Str × V)} {fs : List (Str × D)}, IsFs K G vs fs → IsFs K G (L2.putF f v vs) (putFD f d fs)
  | _, _, .nil => .cons a .nil
  | _, _, .cons (f := g) b r => by
    unfold L2.putF putFD
    by_cases e : g = f
    · rw [if_pos e, if_pos e]
      exact .cons a r
    · rw [if_neg e, if_neg e]
      exact .cons b (r.putF a)
end
section
variable [Tabl] {K : PySem.W.Frag} {Z : XZ} {B : Option Addr} {δ : List Slot} {n : Sto} {Φ : D → Sto → Prop} {ta tv : TE} {aa : TA} {N Bk Ct : List Slot → Sto → Prop} {R : D → Sto → Prop}
end
end Tl
namespace Tl
open PySem PySem.Spec PyProof.Rows L2 TL LamX
structure FnG (P : Program) (w : World) (K : PySem.W.Frag) (mg : Str → Option Value) (base : Heap) (k : Nat) (f : Addr) (fd : FuncData) (ps : List Str) (sp : Sp) : Prop where
  len : ∀ vs H Q E, sp vs H Q E → vs.length = ps.length
  run : ∀ (A : Around) (outer : List Env) (s : Shared) (H : Hp) (args : Args) (us : List Value) (vs : List V) (Q : VK) (E : XK), A.guards = some [] → Room k A → Env0 P w K mg base A outer s H → BindsTo s fd args (ps.zip us) → Vals vs us → sp vs H Q E → codeAny (model P w) A (.call (.ref f) args) (CR CX0 outer P w H s Q E) s
section
variable {P : Program} {w : World} {K : PySem.W.Frag} {mg : Str → Option Value} {base : Heap}
theorem fn_G {x qual : Str} {st : Stmt} {f : Addr} {fd : FuncData} {N ps : List Str} {k : Nat} {sp : Sp} (F : Fun K x qual st f fd) (S : FnScope N ps (defScope st)) (len : ∀ vs H Q E, sp vs H Q E → vs.length = ps.length)
    (hb : ∀ (cdv : Value) (A : Around) (outer : List Env) (s : Shared) (H : Hp) (vs : List V) (Q : VK) (E : XK), A.guards = some [] → Room k (A.deeper (envOfC qual (defScope st) s.heap.objs.size f cdv)) → sp vs H Q E →
      ∃ t, PSs (cxOf CX0 P w K mg base N qual (defScope st) f cdv A outer s H E).nox (defBody st) t ∧ t { nx := fun _ H' => Q .non H', rt := Q } (start N vs) H) : FnG P w K mg base (k + 1) f fd ps sp := by
  obtain ⟨oc, od, kV, doc, pm, an, cdv, ct, osl, rfl, lk, code⟩ := F.ex
  refine ⟨len, fun A outer s H args us vs Q E hgd hr env bd rv hsp => ?_⟩
  have old : ∀ b o, base.get? b = some o → s.heap.get? b = some o := fun b o e => (env.bs b o e).1
  have kin : K.In s.heap := env.mod.kin.keeps old
  refine codeAny_call_function hr.depth (kin _ _ lk) rfl S.co S.gen rfl (PySem.W.codeRec_of kin code) (bd _ _ _ _ (wpAny_newFunctionEnv_cells S.kind (fun y hy => ?_) fun e0 he s1 nw => ?_))
  · rcases S.par y.1 (List.of_mem_zip (a := y.1) (b := y.2) hy).1 with g | g
    · exact .inl g
    · exact .inr ⟨g, PySem.W.cellsFrom_some _ _ _ (.inl g)⟩
  subst he
  refine ⟨(env.mod.nolimit.keeps old).keeps nw.toInCall.keep, codeAny_func ?_⟩
  obtain ⟨t, ht, hq⟩ := hb cdv A outer s H vs Q E hgd (hr.deeper _) hsp
  refine wpAny_mono (ht.nox.run [] s1 (start N vs) H _ (inv_start S hr.hd env (len _ _ _ _ hsp) rv nw) hq) (fun fl s2 z => ?_) fun _ _ z => z
  cases fl with
  | ret u => obtain ⟨v, _, H2, J, r2, q2⟩ := z; exact ⟨v, H2, J.os, J.bare, J.base, J.hok, r2, q2⟩
  | next => obtain ⟨_, H2, J, q2⟩ := z; exact ⟨V.non, H2, J.os, J.bare, J.base, J.hok, rfl, q2⟩
  | brk => exact z.choose_spec.choose_spec.2.elim
  | cont => exact z.choose_spec.choose_spec.2.elim
end
end Tl
namespace Tl
open PySem PySem.Spec PyProof.Rows L2 TL LamX
section
variable {P : Program} {w : World} {K : PySem.W.Frag} {mg mb : Str → Option Value} {k : Nat} {fa a : Addr} {cs : List (Addr × Addr)} {fd : FuncData} {x : Str} {sp : Sp} {s1 : Shared} {vs : List Value} {ns : List Int}
theorem law_callG (kin : K.In s1.heap) (hns : s1.heap.Ns mainGlobals mg) (hb : s1.heap.Ns builtinsNs mb) (hbb : ∀ x : Str, x ≠ "__name__" → mb x = bootBuiltins x) (hlim : s1.heap.NoLimit) (hg : s1.gens = #[])
    (hT : ∀ p ∈ cs, s1.heap.get? p.2 = some { cls := .none, data := .fields #[] }) (nT : ∀ p ∈ cs, K.lookup p.2 = none) (C : ∀ p ∈ cs, PySem.W.CodeHd s1.heap p.1 p.2)
    (hbm : ∃ (bm : Addr) (ob : Obj), mg "__builtins__" = some (.ref bm) ∧ bm ≠ builtinsNs ∧ s1.heap.get? bm = some ob ∧ ob.cls = .type "module" ∧ ob.dict = some builtinsNs ∧ ob.data = .plain)
    (ha : s1.heap.get? a = some { cls := .type "list", data := .seq vs.toArray }) (hi : IntsAre vs ns) (hl : ns.length ≤ sizeLine) (hr : Room k callerA)
    (F : ∀ base : Heap, K.In base → base.Ns mainGlobals mg → (∀ p ∈ cs, TabB base mg p.1 p.2) → FnG P w K mg base k fa fd [x] sp) (bind : ∀ (s : Shared) (u : Value), BindsTo s fd ⟨[u], []⟩ [(x, u)])
    (hsp : ∀ H : Hp, (∀ p ∈ cs, H p.2 = some (.tbl #[])) → SqL K H a (ns.map V.int) → sp [.ref a] H (fun v _ => v = .bl true) fun _ _ _ => False) :
    codeAny (model P w) callerA (.call (.ref fa) ⟨[.ref a], []⟩) (fun r s' => r = .ok (.ret (.bool true)) ∧ OldK s1.heap s'.heap ∧ s'.os = s1.os ∧ AllBare s'.gens) s1 := by
  have tab : ∀ b, b ∈ cs.map (·.2) → s1.heap.get? b = some { cls := .none, data := .fields #[] } ∧ K.lookup b = none := fun b m => by
    obtain ⟨p, hp, rfl⟩ := List.mem_map.mp m
    exact ⟨hT p hp, nT p hp⟩
  have core : ∀ H : Hp, (∀ p ∈ cs, H p.2 = some (.tbl #[])) → (∀ b u, H b = some u → b ∈ cs.map (·.2) ∨ (b = a ∧ K.lookup a = none ∧ ∃ o xs, u = .frz o (.lst xs))) → SqL K H a (ns.map V.int) → HOk P w H s1.heap →
      codeAny (model P w) callerA (.call (.ref fa) ⟨[.ref a], []⟩) (fun r s' => r = .ok (.ret (.bool true)) ∧ OldK s1.heap s'.heap ∧ s'.os = s1.os ∧ AllBare s'.gens) s1 := by
    intro H hH only hS hok
    have off : ∀ {b : Addr} {o : Obj}, s1.heap.get? b = some o → (∀ l m, o.data ≠ .seq l m) → o.data ≠ .fields #[] → H b = none := fun {b o} e n1 n2 => by
      refine Classical.byContradiction fun z => ?_
      obtain ⟨u, hu⟩ := Option.ne_none_iff_exists'.mp z
      rcases only b u hu with m | ⟨rfl, _⟩
      · cases e.symm.trans (tab b m).1
        exact n2 rfl
      · cases e.symm.trans ha
        exact n1 _ _ rfl
    have seen : ∀ {b : Addr} {o : Obj}, s1.heap.get? b = some o → H b = none → (hidT s1.heap H).get? b = some o := fun e z => hidT_get e z
    have names : ∀ {b : Addr} {m : Str → Option Value}, s1.heap.Ns b m → (hidT s1.heap H).Ns b m := fun ⟨o, es, ep, e, d, r⟩ => ⟨o, es, ep, seen e (off e (fun l m z => by rw [d] at z; cases z) (fun z => by rw [d] at z; cases z)), d, r⟩
    have kb : K.In (hidT s1.heap H) := fun b o e => seen (kin b o e) (Classical.byContradiction fun z => by
      obtain ⟨u, hu⟩ := Option.ne_none_iff_exists'.mp z
      rcases only b u hu with m | ⟨rfl, q, _⟩
      · rw [(tab b m).2] at e; cases e
      · rw [q] at e; cases e)
    have tbs : ∀ p ∈ cs, TabB (hidT s1.heap H) mg p.1 p.2 := fun p hp => by
      have tp := hT p hp
      refine ⟨?_, ?_, fun z => ?_⟩
      · obtain ⟨o, us, file, tf, flags, tg, inF, text, tt, e1, c1, c2, c3, more⟩ := C p hp
        exact ⟨o, us, file, tf, flags, tg, inF, text, tt, seen e1 (off e1 (fun l m z => by rw [c2] at z; cases z) (fun z => by rw [c2] at z; cases z; simp at c3)), c1, c2, c3, more⟩
      · obtain ⟨bm, ob, b1, b2, b3, b4, b5, b6⟩ := hbm
        refine ⟨bm, ob, b1, b2, fun q => ?_, fun q => ?_, seen b3 (off b3 (fun l m z => by rw [b6] at z; cases z) (fun z => by rw [b6] at z; cases z)), b4, b5, b6⟩
        · obtain ⟨o, es, ep, e, dd, _⟩ := hns
          rw [q] at b3
          cases b3.symm.trans e
          rw [dd] at b6; cases b6
        · rw [q] at b3
          cases b3.symm.trans tp
          cases b6
      · obtain ⟨o, es, ep, e, dd, _⟩ := hns
        rw [← z] at tp
        cases e.symm.trans tp
        cases dd
    have mod : L2.Mod K mg (hidT s1.heap H) := ⟨kb, names hns, ⟨mb, names hb, hbb⟩, let ⟨mc, q1, q2⟩ := hlim; ⟨mc, names q1, q2⟩⟩
    have env : Env0 P w K mg (hidT s1.heap H) callerA [] s1 H := ⟨rfl, mod, fun _ _ e => of_hidT e, Nat.le_of_eq (hidT_size _ _), trivial, (fun _ m => nomatch (show _ ∈ ([] : List Addr) from m)), hok, .of_eq hg⟩
    refine codeAny_mono ((F _ kb (names hns) tbs).run callerA [] s1 H ⟨[.ref a], []⟩ [.ref a] [.ref a] _ _ rfl hr env (bind s1 (.ref a)) (.cons rfl .nil) (hsp H hH hS)) fun r s2 z => ?_
    cases r with
    | error e => exact z.elim
    | ok fl =>
      cases fl with
      | next => exact z.elim
      | brk => exact z.elim
      | cont => exact z.elim
      | ret u =>
        obtain ⟨v, H2, os, bare, un, hok2, rel, q⟩ := z
        have q : v = .bl true := q
        subst q
        cases (show u = Value.bool true from rel)
        have stays : ∀ b o, b ∉ cs.map (·.2) → s1.heap.get? b = some o → s2.heap.get? b = some o := fun b o nb e => by
          cases hb2 : H b with
          | none => exact un.keep b o e hb2 (fun z => nomatch (show b ∈ ([] : List Addr) from z)) (by simp)
          | some t =>
            rcases only b t hb2 with m | ⟨_, _, ob, xs, rfl⟩
            · exact absurd m nb
            · cases e.symm.trans (hok b _ hb2).1
              exact (hok2 b _ (un.frzs b _ _ hb2)).1
        have grows : ∀ p ∈ cs, ∃ more : Array Value, s2.heap.get? p.2 = some { cls := .none, data := .fields more } := fun p hp => by
          obtain ⟨more, g⟩ := un.tbls p.2 #[] (hH p hp)
          exact ⟨_, hok2 p.2 _ g⟩
        refine ⟨rfl, ⟨fun b o e => ?_, fun b o e => ?_⟩, os, bare⟩
        · by_cases m : b ∈ cs.map (·.2)
          · obtain ⟨p, hp, rfl⟩ := List.mem_map.mp m
            obtain ⟨more, g⟩ := grows p hp
            cases e.symm.trans (hT p hp)
            exact .inr (.inl ⟨((C p hp).tab (hT p hp)).isCodeTable, rfl, #[], more, rfl, by rw [Array.empty_append]; exact g⟩)
          · exact .inl (stays b o m e)
        · by_cases m : b ∈ cs.map (·.2)
          · obtain ⟨p, hp, rfl⟩ := List.mem_map.mp m
            exact ⟨_, (grows p hp).choose_spec⟩
          · exact ⟨o, stays b o m e⟩
  cases hk : K.lookup a with
  | some o =>
    have ea := kin a o hk
    cases ea.symm.trans ha
    refine core (fun b => if b ∈ cs.map (·.2) then some (.tbl #[]) else none) (fun p hp => if_pos (List.mem_map.mpr ⟨p, hp, rfl⟩)) (fun b u z => ?_) ?_ fun b u z => ?_
    · by_cases m : b ∈ cs.map (·.2)
      · exact .inl m
      · cases (if_neg m).symm.trans z
    · refine .inr ⟨_, vs.toArray, _, hk, rfl, rfl, rfl, ?_, by simpa using vals_ints hi⟩
      rw [List.size_toArray, hi.length]
      exact hl
    · by_cases m : b ∈ cs.map (·.2)
      · cases (if_pos m).symm.trans z
        exact (tab b m).1
      · cases (if_neg m).symm.trans z
  | none =>
    have na : a ∉ cs.map (·.2) := fun m => by cases ha.symm.trans (tab a m).1
    refine core (fun b => if b ∈ cs.map (·.2) then some (.tbl #[]) else if b = a then some (.frz { cls := .type "list", data := .seq vs.toArray } (.lst (ns.map V.int))) else none) (fun p hp => if_pos (List.mem_map.mpr ⟨p, hp, rfl⟩)) (fun b u z => ?_) ?_ fun b u z => ?_
    · by_cases m : b ∈ cs.map (·.2)
      · exact .inl m
      · by_cases e : b = a
        · cases ((if_neg m).trans (if_pos e)).symm.trans z
          exact .inr ⟨e, hk, _, _, rfl⟩
        · cases ((if_neg m).trans (if_neg e)).symm.trans z
    · exact .inl (.inr ⟨_, (if_neg na).trans (if_pos rfl)⟩)
    · by_cases m : b ∈ cs.map (·.2)
      · cases (if_pos m).symm.trans z
        exact (tab b m).1
      · by_cases e : b = a
        · cases ((if_neg m).trans (if_pos e)).symm.trans z
          subst e
          exact ⟨ha, by rw [List.length_map]; exact hl, vs, _, vals_ints hi, ha⟩
        · cases ((if_neg m).trans (if_neg e)).symm.trans z
end
end Tl
namespace Tl
open PySem PySem.Spec PyProof.Rows L2 TL LamX
section
variable [Tabl] {K : PySem.W.Frag} {Z : XZ} {δ : List Slot} {n : Sto} {Φ : D → Sto → Prop}
end
section
variable [Tabl] {P : Program} {w : World} {K : PySem.W.Frag} {mg : Str → Option Value} {base : Heap}
theorem fn_LG {x qual : Str} {st : Stmt} {f : Addr} {fd : FuncData} {N ps : List Str} {k : Nat} (F : Fun K x qual st f fd) (S : FnScope N ps (defScope st)) (hl : ps.length = 1)
    (hb : ∀ (cdv : Value) (A : Around) (outer : List Env) (s : Shared) (H : Hp) (E : XK), A.guards = some [] → Room k (A.deeper (PyProof.Rows.envOfC qual (defScope st) s.heap.objs.size f cdv)) →
      ∃ t, PSs (cxOf CX0 P w K mg base N qual (defScope st) f cdv A outer s H E).nox (defBody st) t ∧ ∀ ns : List Int, ns.length ≤ 63 → GS K .calm none t (.scr ns :: List.replicate (N.length - 1) .un) ⟨0, m00⟩ (fun _ _ => False) (fun d _ => d = .bl true) (fun _ _ => False) (fun _ _ => False)) :
    FnG P w K mg base (k + 1) f fd ps (spL K) := by
  refine fn_G F S (fun vs H Q E h => ?_) (fun cdv A outer s H vs Q E hg hr h => ?_)
  · obtain ⟨a, ns, rfl, _⟩ := h
    rw [hl]
    rfl
  · obtain ⟨a, ns, rfl, tb, hS, hn, q⟩ := h
    obtain ⟨t, h1, h2⟩ := hb cdv A outer s H E hg hr
    obtain ⟨G, e0⟩ := En.startS (N := N) tb hS
    refine ⟨t, h1, h2 ns hn m00 G H .calm G H _ _ e0 (fun _ _ _ _ _ z => z.elim) (fun v d G' H' n' hd eo hv => ?_) (fun _ _ _ _ _ z => z.elim) (fun _ _ _ _ _ z => z.elim)⟩
    subst hd
    cases hv
    exact q H'
def LawAtG (l : PySem.W.OpenLaw) (w : World) (K : PySem.W.Frag) (k n : Nat) (x : Str) (mg : Str → Option Value) (fa : Addr) (h : Heap) : Prop :=
  ∃ (fd : FuncData) (cs : List (Addr × Addr)) (sp : Sp), (∀ p ∈ cs, h.get? p.2 = some (PySem.W.tabObj #[])) ∧ (∀ p ∈ cs, K.lookup p.2 = none) ∧ (∀ p ∈ cs, PySem.W.CodeHd h p.1 p.2) ∧ (∀ (s : Shared) (u : Value), BindsTo s fd ⟨[u], []⟩ [(x, u)]) ∧
    (∀ (H : Hp) (a : Addr) (ns : List Int), ns.length ≤ n → (∀ z ∈ ns, Builtin.Int.intBits z ≤ 1048576) → (∀ p ∈ cs, H p.2 = some (.tbl #[])) → SqL K H a (ns.map V.int) → sp [.ref a] H (fun v _ => v = .bl true) fun _ _ _ => False) ∧
    ∀ base : Heap, K.In base → base.Ns mainGlobals mg → (∀ p ∈ cs, TabB base mg p.1 p.2) → FnG l.prog w K mg base k fa fd [x] sp
end
end Tl
namespace Tl
open PySem L2 TL PySem.Spec PyProof.Rows LamX
section
variable {X : Cx} {p pos : Pos} {B newId initId : String} {bmB : List Value}
end
section
variable [Tabl] {K : PySem.W.Frag} {Z : XZ} {B : Option Addr} {δ : List Slot} {n : Sto} {N Bk Ct : List Slot → Sto → Prop} {R : D → Sto → Prop}
end
end Tl
namespace Tl
open PySem PySem.Spec PyProof.Rows L2 TL LamX
section
variable [Tabl] {K : PySem.W.Frag} {Z : XZ} {δ : List Slot} {n : Sto} {Φ : D → Sto → Prop}
end
end Tl
namespace Tl
open PySem PySem.Spec PyProof.Rows L2 TL LamX
section
variable [Tabl] {K : PySem.W.Frag} {Z : XZ} {B : Option Addr} {δ : List Slot} {n : Sto} {Φ : D → Sto → Prop} {te ta tb : TE} {aa : TA} {N Bk Ct : List Slot → Sto → Prop} {R : D → Sto → Prop}
theorem En.mlst {M : Addr → Prop} {G0 H0 G H : Hp} {σ : L2.St} {p : Addr} {xs : List D} (E : En K B M n G0 H0 G H σ δ) (h : n.μ p = some (.lst xs)) : ∃ vs, H p = some (.lst vs) ∧ IsAll K G vs xs := (E.mob p _ h).1
theorem gs_appP (h : GK K Z ta δ n fun d n1 => ∃ p xs0, d = .ptr p ∧ n1.μ p = some (.lst xs0) ∧ GK K Z te δ n1 fun x n2 => ∃ xs, n2.μ p = some (.lst xs) ∧ xs.length < 100000 ∧ N δ (n2.put p (.lst (xs ++ [x])))) : GS K Z B (tDrop (tBM K "list" rAppend ta (tCons te tNil))) δ n N R Bk Ct := fun m0 G0 H0 xw G H σ E e hn hr hb hc =>
  h B (MOf B m0 H0) G0 H0 xw G H σ e _ fun v d G1 H1 n1 f1 E1 s1 a1 => by
    obtain ⟨p, xs0, rfl, hp0, f1⟩ := f1
    cases a1
    obtain ⟨vs0, g1, g2⟩ := E1.mlst hp0
    refine ⟨.inl ⟨rfl, _, SqL.of g1⟩, ?_⟩
    refine f1 B (MOf B m0 H0) G0 H0 xw G1 H1 σ E1 _ fun w x G2 H2 n2 f2 E2 s2 a2 => ?_
    obtain ⟨xs, hp, hl, f2⟩ := f2
    obtain ⟨vs, e1, e2⟩ := E2.mlst hp
    exact ⟨p, vs, w, rfl, rfl, e1, by rw [e2.len]; exact sz_lt hl, hn _ _ G2 _ _ f2 (E2.mchg hp ⟨_, upd_same, e2.app (.cons a2 .nil)⟩) (s1.trans s2)⟩
end
end Tl
namespace Tl
open PySem PySem.Spec PyProof.Rows L2 TL LamX
set_option maxHeartbeats 1000000 in
section
variable [Tabl] {K : PySem.W.Frag} {Z : XZ} {B : Option Addr} {δ : List Slot} {n : Sto} {aa : TA}
end
end Tl
namespace Tl
open PySem PySem.Spec PyProof.Rows L2 TL LamX
section
variable [Tabl] {K : PySem.W.Frag} {Z : XZ} {B : Option Addr} {δ : List Slot} {n : Sto} {Φ : D → Sto → Prop} {te ta tb : TE} {aa : TA} {tt : TT} {wi : TI} {g : TG} {vs : List Nat}
theorem En.mtake {M : Addr → Prop} {G0 H0 G H : Hp} {σ : L2.St} {c : Addr} {o : MO} (E : En K B M n G0 H0 G H σ δ) (gc : G c = none) (mc : M c) (nb : B ≠ some c) (oc : ∀ (i : Nat) (x : MO), δ[i]? = some (.ow x) → σ[i]? ≠ some (some (.ref c))) (a : MOk K G H c o) : En K B M (n.put c o) G0 H0 G H σ δ where
  sub0 := E.sub0
  sub := E.sub
  same := E.same
  free := E.free
  fresh := E.fresh
  bagged := E.bagged
  tabs := E.tabs
  tin := E.tin
  gnt := E.gnt
  len := E.len
  slot := E.slot
  dis := E.dis
  mob := fun b u h => by
    by_cases e : b = c
    · subst e
      rw [Sto.put_same] at h
      cases h
      exact ⟨a, gc, mc, nb⟩
    · rw [Sto.put_ne e] at h
      exact E.mob b u h
  mow := fun i x b h1 h2 => by
    by_cases e : b = c
    · subst e
      exact absurd h2 (oc i x h1)
    · rw [Sto.put_ne e]
      exact E.mow i x b h1 h2
inductive PgD (n : Sto) : List Addr → List (List D) → Prop
  | nil : PgD n [] []
  | cons {q : Addr} {pg : List D} {qs : List Addr} {pgs : List (List D)} (h : n.μ q = some (.lst pg)) (r : PgD n qs pgs) : PgD n (q :: qs) (pg :: pgs)
inductive PgV (K : PySem.W.Frag) (G H : Hp) : List Addr → List (List V) → List (List D) → Prop
  | nil : PgV K G H [] [] []
  | cons {q : Addr} {vs : List V} {pg : List D} {qs : List Addr} {vss : List (List V)} {pgs : List (List D)} (h : H q = some (.lst vs)) (a : IsAll K G vs pg) (r : PgV K G H qs vss pgs) : PgV K G H (q :: qs) (vs :: vss) (pg :: pgs)
theorem PgV.flat {G H : Hp} {qs : List Addr} {vss : List (List V)} {pgs : List (List D)} (h : PgV K G H qs vss pgs) : IsAll K G vss.flatten pgs.flatten := by
  induction h with
  | nil => exact .nil
  | cons h a r ih =>
    rw [List.flatten_cons, List.flatten_cons]
    exact a.app ih
theorem PgV.len {G H : Hp} {qs : List Addr} {vss : List (List V)} {pgs : List (List D)} (h : PgV K G H qs vss pgs) : vss.length = qs.length := by
  induction h with
  | nil => rfl
  | cons h a r ih => rw [List.length_cons, List.length_cons, ih]
theorem PgV.at {G H : Hp} {qs : List Addr} {vss : List (List V)} {pgs : List (List D)} (h : PgV K G H qs vss pgs) : ∀ {i : Nat} {q : Addr}, qs[i]? = some q → ∃ vs, vss[i]? = some vs ∧ H q = some (.lst vs) := by
  induction h with
  | nil => intro i q e; simp at e
  | @cons q0 vs pg qs vss pgs h a r ih =>
    intro i q e
    cases i with
    | zero =>
      have e : q0 = q := by simpa using e
      subst e
      exact ⟨vs, rfl, h⟩
    | succ i => exact ih (by simpa using e)
end
end Tl
namespace Tl
open PySem PySem.Spec PyProof.Rows L2 TL LamX
section
variable [Tabl] {P : Program} {w : World} {K : PySem.W.Frag} {mg : Str → Option Value} {base : Heap}
end
section
variable [Tabl] {K : PySem.W.Frag} {Z : XZ}
end
end Tl
namespace Tl
open PySem PySem.Spec PyProof.Rows L2 TL LamX
section
variable [Tabl] {K : PySem.W.Frag} {Z : XZ} {δ : List Slot} {n : Sto} {Φ : D → Sto → Prop}
end
end Tl
namespace Tl
open PySem PySem.Spec PyProof.Rows L2 TL LamX
mutual
def nb : D → Bool
  | .non => true | .int _ => true | .str _ => true | .lst xs => nbs xs | .tup xs => nbs xs | _ => false
def nbs : List D → Bool
  | [] => true
  | x :: xs => nb x && nbs xs
end
mutual
theorem eqD_iff : ∀ {x y : D}, nb x = true → nb y = true → (PyData.eqv (toP x) (toP y) = true ↔ x = y)
  | .non, y, _, hy => by cases y <;> simp_all [toP, PyData.eqv, nb]
  | .int i, y, _, hy => by cases y <;> simp_all [toP, PyData.eqv, nb]
  | .str z, y, _, hy => by cases y <;> simp_all [toP, PyData.eqv, nb]
  | .lst xs, y, hx, hy => by
    cases y with
    | lst ys =>
      have := eqDs_iff (xs := xs) (ys := ys) (by simpa [nb] using hx) (by simpa [nb] using hy)
      simp only [toP, PyData.eqv, D.lst.injEq]
      exact this
    | _ => simp_all [toP, PyData.eqv, nb]
  | .tup xs, y, hx, hy => by
    cases y with
    | tup ys =>
      have := eqDs_iff (xs := xs) (ys := ys) (by simpa [nb] using hx) (by simpa [nb] using hy)
      simp only [toP, PyData.eqv, D.tup.injEq]
      exact this
    | _ => simp_all [toP, PyData.eqv, nb]
  | .bl b, y, hx, _ => by simp [nb] at hx
  | .dic b, y, hx, _ => by simp [nb] at hx
  | .dct b, y, hx, _ => by simp [nb] at hx
  | .ptr b, y, hx, _ => by simp [nb] at hx
theorem eqDs_iff : ∀ {xs ys : List D}, nbs xs = true → nbs ys = true → (PyData.eqvAll (toPs xs) (toPs ys) = true ↔ xs = ys)
  | [], ys, _, hy => by cases ys <;> simp_all [toPs, PyData.eqvAll, nbs]
  | x :: xs, ys, hx, hy => by
    cases ys with
    | nil => simp [toPs, PyData.eqvAll]
    | cons y ys =>
      have hx : nb x = true ∧ nbs xs = true := by simpa [nbs] using hx
      have hy : nb y = true ∧ nbs ys = true := by simpa [nbs] using hy
      have h1 := eqD_iff hx.1 hy.1
      have h2 := eqDs_iff hx.2 hy.2
      simp only [toPs, PyData.eqvAll, Bool.and_eq_true, List.cons.injEq]
      rw [h1, h2]
end
section
variable [Tabl] {K : PySem.W.Frag} {Z : XZ} {δ : List Slot} {n : Sto} {Φ : D → Sto → Prop}
end
end Tl
namespace Tl
open PySem PySem.Spec PyProof.Rows L2 TL LamX
section
variable [Tabl] {K : PySem.W.Frag} {Z : XZ} {δ : List Slot} {n : Sto} {Φ : D → Sto → Prop} {ta : TE} {aa ab : TA}
end
end Tl
namespace Tl
open PySem PySem.Spec PyProof.Rows L2 TL LamX
theorem tabs_to {T : List (Addr × Str)} {H : Hp} {c : Addr} {o u : HO} (t : Tabs T H) (e : H c = some u) (hu : (∀ ps, u ≠ .tbl ps) ∧ ∀ a q, u ≠ CodeO a q) : Tabs T (upd H c o) := fun p hp => by
  obtain ⟨ps, h1, h2, h3⟩ := t p hp
  refine ⟨ps, by rw [upd_ne fun z => by rw [z, e] at h1; exact hu.1 ps (Option.some.inj h1)]; exact h1, h2, fun pos cv hc => ?_⟩
  obtain ⟨c0, e1, e2⟩ := h3 pos cv hc
  exact ⟨c0, e1, by rw [upd_ne fun z => by rw [z, e] at e2; exact hu.2 _ _ (Option.some.inj e2)]; exact e2⟩
theorem frz_no {od : Obj} {kvs : List (Key × V)} : (∀ ps, HO.frz od (.dK kvs) ≠ .tbl ps) ∧ ∀ a q, HO.frz od (.dK kvs) ≠ CodeO a q := ⟨(fun _ z => nomatch z), fun a q z => by unfold CodeO at z; cases z⟩
theorem dK_no {kvs : List (Key × V)} : (∀ ps, HO.dK kvs ≠ .tbl ps) ∧ ∀ a q, HO.dK kvs ≠ CodeO a q := ⟨(fun _ z => nomatch z), fun a q z => by unfold CodeO at z; cases z⟩
def ndct : D → Bool
  | .lst xs => ndcts xs | .tup xs => ndcts xs | .dct _ => false | .dic _ => false | _ => true
where ndcts : List D → Bool
  | [] => true
  | x :: xs => ndct x && ndcts xs
abbrev ndcts := ndct.ndcts
theorem ndcts_and {x : D} {xs : List D} (h : ndcts (x :: xs) = true) : ndct x = true ∧ ndcts xs = true := by
  have h : (ndct x && ndcts xs) = true := h
  rwa [Bool.and_eq_true] at h
def MO.nd : MO → Bool
  | .lst xs => ndcts xs
  | .dic kvs => ndcts (kvs.map (·.2))
  | .ins _ _ fs => ndcts (fs.map (·.2))
  | .dt kvs => ndcts (kvs.map (·.2))
  | .ex _ => false
def offp (G : Hp) (p : Addr) : Hp := fun b => if b = p then none else G b
theorem offp_ne {G : Hp} {p b : Addr} (h : b ≠ p) : offp G p b = G b := if_neg h
theorem offp_same {G : Hp} {p : Addr} : offp G p p = none := if_pos rfl
section
variable {K : PySem.W.Frag} {G : Hp} {p : Addr} {od : Obj} {kvs : List (Key × V)}
theorem seqT_offp {a : Addr} {xs : List V} (hp : G p = some (.frz od (.dK kvs))) (h : SqT K G a xs) : SqT K (offp G p) a xs := by
  have ne : ∀ u, G a = some u → (u = .tup xs ∨ ∃ o, u = .frz o (.tup xs)) → a ≠ p := fun u e hu z => by
    rw [z, hp] at e
    cases e
    rcases hu with hu | ⟨o, hu⟩ <;> cases hu
  rcases h with (h | ⟨o, h⟩) | h
  · exact .inl (.inl ((offp_ne (ne _ h (.inl rfl))).trans h))
  · exact .inl (.inr ⟨o, (offp_ne (ne _ h (.inr ⟨o, rfl⟩))).trans h⟩)
  · exact .inr h
mutual
theorem Is.offp (hp : G p = some (.frz od (.dK kvs))) : ∀ {v : V} {d : D}, Is K G v d → ndct d = true → Is K (Tl.offp G p) v d
  | _, _, .non, _ => .non
  | _, _, .bl b, _ => .bl b
  | _, _, .int i, _ => .int i
  | _, _, .str x, _ => .str x
  | _, _, .lst (p := q) h a, f => .lst ((offp_ne (b := q) fun z => by rw [z, hp] at h; cases h).trans h) (IsAll.offp hp a (by simpa [ndct] using f))
  | _, _, .tup h a, f => .tup (seqT_offp hp h) (IsAll.offp hp a (by simpa [ndct] using f))
  | _, _, .dic _ _, f => by simp [ndct] at f
  | _, _, .ptr a, _ => .ptr a
  | _, _, .dct _ _, f => by simp [ndct] at f
theorem IsAll.offp (hp : G p = some (.frz od (.dK kvs))) : ∀ {vs : List V} {ds : List D}, IsAll K G vs ds → ndcts ds = true → IsAll K (Tl.offp G p) vs ds
  | _, _, .nil, _ => .nil
  | _, _, .cons h r, f => by
    have f := ndcts_and f
    exact .cons (Is.offp hp h f.1) (IsAll.offp hp r f.2)
end
theorem IsKv.offp (hp : G p = some (.frz od (.dK kvs))) : ∀ {vs : List (Key × V)} {ds : List (Key × D)}, IsKv K G vs ds → ndcts (ds.map (·.2)) = true → IsKv K (Tl.offp G p) vs ds
  | _, _, .nil, _ => .nil
  | _, _, .cons h r, f => by
    have f := ndcts_and f
    exact .cons (Is.offp hp h f.1) (IsKv.offp hp r f.2)
theorem IsFs.offp (hp : G p = some (.frz od (.dK kvs))) : ∀ {vs : List (Str × V)} {ds : List (Str × D)}, IsFs K G vs ds → ndcts (ds.map (·.2)) = true → IsFs K (Tl.offp G p) vs ds
  | _, _, .nil, _ => .nil
  | _, _, .cons h r, f => by
    have f := ndcts_and f
    exact .cons (h.offp hp f.1) (IsFs.offp hp r f.2)
theorem IsKt.offp (hp : G p = some (.frz od (.dK kvs))) : ∀ {vs : List (List Key × V)} {ds : List (List Key × D)}, IsKt K G vs ds → ndcts (ds.map (·.2)) = true → IsKt K (Tl.offp G p) vs ds
  | _, _, .nil, _ => .nil
  | _, _, .cons h r, f => by
    have f := ndcts_and f
    exact .cons (h.offp hp f.1) (IsKt.offp hp r f.2)
theorem MOk.offp {H H' : Hp} {a : Addr} {o : MO} (hp : G p = Option.some (.frz od (.dK kvs))) (h : MOk K G H a o) (e : H' a = H a) (f : o.nd = true) : MOk K (Tl.offp G p) H' a o := by
  cases o with
  | lst xs =>
    obtain ⟨vs, h1, h2⟩ := h
    exact ⟨vs, e.trans h1, h2.offp hp f⟩
  | dic xs =>
    obtain ⟨vs, h1, h2⟩ := h
    exact ⟨vs, e.trans h1, h2.offp hp f⟩
  | ins C dx fs =>
    obtain ⟨vs, h1, h2⟩ := h
    exact ⟨vs, e.trans h1, h2.offp hp f⟩
  | dt xs =>
    obtain ⟨vs, h1, h2⟩ := h
    exact ⟨vs, e.trans h1, h2.offp hp f⟩
  | ex Q => cases f
end
section
variable [Tabl] {K : PySem.W.Frag} {Z : XZ} {B : Option Addr} {M : Addr → Prop} {δ : List Slot} {n : Sto} {Φ : D → Sto → Prop} {te ta tb tv : TE} {aa : TA} {N Bk Ct : List Slot → Sto → Prop} {R : D → Sto → Prop} {G0 H0 G H : Hp} {σ : L2.St} {ts : TS}
theorem En.mdic {p : Addr} {es : List (Key × D)} (E : En K B M n G0 H0 G H σ δ) (h : n.μ p = some (.dic es)) : ∃ vs, H p = some (.dK vs) ∧ IsKv K G vs es := (E.mob p _ h).1
theorem En.mlock {p : Addr} {es : List (Key × D)} {vs : List (Key × V)} (od : Obj) (E : En K B M n G0 H0 G H σ δ) (hp : n.μ p = some (.dic es)) (hu : H p = some (.dK vs)) : En K B M (n.off p) G0 H0 (upd G p (.frz od (.dK vs))) (upd H p (.frz od (.dK vs))) σ δ := by
  obtain ⟨mo, gp, mp, nb⟩ := E.mob p _ hp
  have sg : Sub G (upd G p (.frz od (.dK vs))) := Sub.new gp
  have np : ∀ (i : Nat) (x : MO) (b : Addr), δ[i]? = some (.ow x) → σ[i]? = some (some (.ref b)) → b ≠ p := fun i x b hi hs z => by
    have := E.mow i x b hi hs
    rw [z, hp] at this
    cases this
  refine ⟨E.sub0.trans sg, E.sub.up, fun b o e hb => ?_, fun b hb => ?_, fun b hb gb => ?_, fun r hr => ?_, tabs_to E.tabs hu dK_no, fun b ps hb => ?_, gnt_upd E.gnt frz_no.1, E.len, fun j t ht => ?_, E.dis, fun b z hb => ?_, fun j x b hj sj => ?_⟩
  · rw [upd_ne (ne_M mp hb)]
    exact E.same b o e hb
  · by_cases z : b = p
    · rw [z, upd_same] at hb
      cases hb
    · rw [upd_ne z] at hb
      exact E.free b hb
  · rw [upd_ne (ne_M mp hb)]
    exact E.fresh b hb gb
  · obtain ⟨b1, b2, b3⟩ := E.bagged r hr
    have ne : r ≠ p := fun z => nb (by rw [← z]; exact hr)
    exact ⟨bag_kept b1 fun xs e => by rw [upd_ne ne]; exact e, by rw [upd_ne ne]; exact b2, b3⟩
  · by_cases z : b = p
    · rw [z, upd_same] at hb
      cases hb
    · rw [upd_ne z] at hb
      exact E.tin b ps hb
  · have h := E.slot j t ht
    cases t with
    | un => trivial
    | d x =>
      obtain ⟨v, f1, f2⟩ := h
      exact ⟨v, f1, f2.mono sg⟩
    | ow x =>
      obtain ⟨r, f1, f2, f4, f5⟩ := h
      have ne := np j x r ht (look_some f1)
      exact ⟨r, f1, f2.mono sg (upd_ne ne), by rw [upd_ne ne]; exact f4, f5⟩
    | raw v => exact h
    | bag => exact h
    | scr ns => exact ⟨_, h.choose_spec.1, sg.seqL h.choose_spec.2⟩
    | exn a d fs => exact ⟨h.1, h.2.mono sg⟩
  · have e : b ≠ p := fun z => by
      rw [z, Sto.off_same] at hb
      cases hb
    rw [Sto.off_ne e] at hb
    obtain ⟨h1, h2, h3, h4⟩ := E.mob b z hb
    exact ⟨h1.mono sg (upd_ne e), by rw [upd_ne e]; exact h2, h3, h4⟩
  · rw [Sto.off_ne (np j x b hj sj)]
    exact E.mow j x b hj sj
theorem En.munlock {p : Addr} {es : List (Key × D)} {vs : List (Key × V)} {od : Obj} {n' : Sto} {G' H' : Hp} {δ' : List Slot} (E : En K B M n G0 H0 G H σ δ) (hp : n.μ p = some (.dic es)) (hu : H p = some (.dK vs)) (hv : IsKv K G vs es)
    (hs : ∀ a o, n.μ a = some o → a ≠ p → o.nd = true) (ho : ∀ (i : Nat) (o : MO), δ[i]? = some (.ow o) → o.nd = true) (hδ : ∀ (i : Nat) (o : MO), δ[i]? = some (.ow o) → δ'[i]? = some (.ow o))
    (e : En K B (fun b => M b ∧ b ≠ p) n' (upd G p (.frz od (.dK vs))) (upd H p (.frz od (.dK vs))) G' H' σ δ') (sb : Sub (upd G p (.frz od (.dK vs))) G') (em : n'.μ = (n.off p).μ) :
    Sub G (offp G' p) ∧ H' p = some (.frz od (.dK vs)) ∧ G' p = some (.frz od (.dK vs)) ∧ En K B M ⟨n'.n, n.μ⟩ G0 H0 (offp G' p) (upd H' p (.dK vs)) σ δ := by
  obtain ⟨mo, gp, mp, nb⟩ := E.mob p _ hp
  have g1 : G' p = some (.frz od (.dK vs)) := sb _ _ upd_same
  have h1 : H' p = some (.frz od (.dK vs)) := e.same p _ upd_same fun z => z.2 rfl
  have sg : Sub G (offp G' p) := fun b o h => by
    have ne : b ≠ p := fun z => by rw [z, gp] at h; cases h
    rw [offp_ne ne]
    exact sb b o (by rw [upd_ne ne]; exact h)
  have np : ∀ (i : Nat) (x : MO) (b : Addr), δ[i]? = some (.ow x) → σ[i]? = some (some (.ref b)) → b ≠ p := fun i x b hi hs z => by
    have := E.mow i x b hi hs
    rw [z, hp] at this
    cases this
  refine ⟨sg, h1, g1, E.sub0.trans sg, fun b o h => ?_, fun b o h nm => ?_, fun b h => ?_, fun b nm g0 => ?_, fun r hr => ?_, tabs_to e.tabs h1 frz_no, fun b ps h => ?_, fun b ps h => ?_, E.len, fun j t ht => ?_, E.dis, fun b z hb => ?_, fun j x b hj sj => E.mow j x b hj sj⟩
  · by_cases z : b = p
    · rw [z, offp_same] at h
      cases h
    · rw [offp_ne z] at h
      rw [upd_ne z]
      exact e.sub b o h
  · have ne := ne_M mp nm
    rw [upd_ne ne]
    exact e.same b o (by rw [upd_ne ne]; exact E.same b o h nm) fun z => nm z.1
  · by_cases z : b = p
    · rw [z]
      exact mp
    · rw [upd_ne z] at h
      exact (e.free b h).1
  · have ne := ne_M mp nm
    rw [offp_ne ne]
    exact e.fresh b (fun z => nm z.1) (by rw [upd_ne ne]; exact E.fresh b nm g0)
  · obtain ⟨b1, b2, b3⟩ := e.bagged r hr
    have ne : r ≠ p := b3.2
    exact ⟨bag_kept b1 fun xs h => by rw [upd_ne ne]; exact h, by rw [offp_ne ne]; exact b2, b3.1⟩
  · by_cases z : b = p
    · rw [z]
      exact mp
    · rw [upd_ne z] at h
      exact (e.tin b ps h).1
  · by_cases z : b = p
    · rw [z, offp_same] at h
      cases h
    · rw [offp_ne z] at h
      exact e.gnt b ps h
  · cases t with
    | un => trivial
    | d x =>
      obtain ⟨v, f1, f2⟩ := E.slot j _ ht
      exact ⟨v, f1, f2.mono sg⟩
    | ow x =>
      obtain ⟨r, f1, f2, f4, f5, f6⟩ := e.slot j _ (hδ j x ht)
      exact ⟨r, f1, f2.offp g1 (upd_ne f5.2) (ho j x ht), by rw [offp_ne f5.2]; exact f4, f5.1, f6⟩
    | raw v => exact E.slot j _ ht
    | bag => exact E.slot j _ ht
    | scr ns => exact let h := E.slot j _ ht; ⟨_, h.choose_spec.1, sg.seqL h.choose_spec.2⟩
    | exn a d fs => exact let h := E.slot j _ ht; ⟨h.1, h.2.mono sg⟩
  · by_cases z2 : b = p
    · subst z2
      have : z = .dic es := Option.some.inj (hb.symm.trans hp)
      subst this
      exact ⟨⟨vs, upd_same, hv.mono sg⟩, offp_same, mp, nb⟩
    · have hb' : n'.μ b = some z := by
        rw [em]
        exact (Sto.off_ne z2).trans hb
      obtain ⟨m1, m2, m3, m4⟩ := e.mob b z hb'
      exact ⟨m1.offp g1 (upd_ne z2) (hs b z hb z2), by rw [offp_ne z2]; exact m2, m3.1, m4⟩
theorem gk_lockB {i : Nat} {p : Addr} {es : List (Key × D)} (hi : δ[i]? = some (.d (.ptr p))) (hp : n.μ p = some (.dic es)) (hs : ∀ a o, n.μ a = some o → a ≠ p → o.nd = true) (ho : ∀ (j : Nat) (o : MO), δ[j]? = some (.ow o) → o.nd = true)
    (h : GK K .calm te (δ.set i (.d (.dct es))) (n.off p) fun d n1 => ndct d = true ∧ n1.μ = (n.off p).μ ∧ Φ d ⟨n1.n, n.μ⟩) : GK K Z (tLockE te) δ n Φ := fun B M G0 H0 xw G H σ E Q q => by
  obtain ⟨vs, hu, hv⟩ := E.mdic hp
  obtain ⟨mo, gp, mp, nb⟩ := E.mob p _ hp
  obtain ⟨v, hσ, hvp⟩ := E.var hi
  cases hvp
  refine ⟨p, .dK vs, hu, trivial, fun od => ?_⟩
  have E1 := E.mlock od hp hu
  have E2 := E1.rebase (c := p) nb Sto.off_same (fun j x hj hs2 => by
    have := E.mow j x p hj hs2
    rw [hp] at this
    cases this) ⟨_, upd_same, frz_no.1⟩
  have hil : i < δ.length := (List.getElem?_eq_some_iff.mp hi).1
  have E3 := E2.set (i := i) (o := some (.ref p)) (s := .d (.dct es)) ⟨_, rfl, .dct upd_same (hv.mono (Sub.new gp))⟩ fun _ z => nomatch z
  have es' : σ.set i (some (.ref p)) = σ := by
    apply List.ext_getElem?
    intro j
    by_cases z : i = j
    · subst z
      rw [List.getElem?_set_self (by rw [E.len]; exact hil)]
      exact hσ.symm
    · rw [List.getElem?_set_ne z]
  rw [es'] at E3
  refine h B _ _ _ WOk.calm _ _ σ E3 _ fun u d G' H' n' f e sb a => ?_
  obtain ⟨f1, f2, f3⟩ := f
  obtain ⟨sg, h1, g1, E4⟩ := E.munlock hp hu hv hs ho (fun j o hj => by
    rw [List.getElem?_set_ne (fun z => by subst z; rw [hi] at hj; cases hj)]
    exact hj) e sb f2
  exact ⟨h1, q u d _ _ _ f3 E4 sg (a.offp g1 f1)⟩
theorem gk_newD (k : ∀ p, n.μ p = none → Φ (.ptr p) (n.put p (.dic []))) : GK K Z tDNewK δ n Φ := fun B M G0 H0 xw G H σ E Q q p hp =>
  q _ _ G _ _ (k p (E.nomob hp)) (E.mnew (o := .dic []) hp ⟨[], upd_same, .nil⟩) (Sub.refl G) (.ptr p)
theorem gk_dgetP (h : GK K Z ta δ n fun x n1 => ∃ p, x = .ptr p ∧ GK K Z tb δ n1 fun y n2 => ∃ es k d, n2.μ p = some (.dic es) ∧ y = keyD k ∧ getD' es k = some d ∧ Φ d n2) : GK K Z (tDGet ta tb) δ n Φ := fun B M G0 H0 xw G H σ E Q q =>
  h B M G0 H0 xw G H σ E _ fun v x G1 H1 n1 f1 E1 s1 a1 => by
    obtain ⟨p, rfl, f1⟩ := f1
    cases a1
    refine f1 B M G0 H0 xw G1 H1 σ E1 _ fun w y G2 H2 n2 f2 E2 s2 a2 => ?_
    obtain ⟨es, k, d, hp, rfl, hd, f2⟩ := f2
    obtain ⟨vs, e1, e2⟩ := E2.mdic hp
    obtain ⟨u, hu, iu⟩ := e2.get hd
    rw [a2.key]
    refine ⟨p, u, rfl, ?_, q u d G2 H2 n2 f2 E2 (s1.trans s2) iu⟩
    rw [← hu]
    exact .k e1
theorem gk_dgetL (h : GK K Z ta δ n fun x n1 => ∃ es, x = .dct es ∧ GK K Z tb δ n1 fun y n2 => ∃ k d, y = keyD k ∧ getD' es k = some d ∧ Φ d n2) : GK K Z (tDGet ta tb) δ n Φ := fun B M G0 H0 xw G H σ E Q q =>
  h B M G0 H0 xw G H σ E _ fun v x G1 H1 n1 f1 E1 s1 a1 => by
    obtain ⟨es, rfl, f1⟩ := f1
    cases a1 with
    | @dct p o vs _ h1 a1 =>
      refine f1 B M G0 H0 xw G1 H1 σ E1 _ fun w y G2 H2 n2 f2 E2 s2 a2 => ?_
      obtain ⟨k, d, rfl, hd, f2⟩ := f2
      obtain ⟨u, hu, iu⟩ := a1.get hd
      rw [a2.key]
      exact ⟨p, u, rfl, .inl ⟨vs, k, .inr ⟨o, E2.sub _ _ (s2 _ _ h1)⟩, rfl, hu.symm⟩, q u d G2 H2 n2 f2 E2 (s1.trans s2) (iu.mono s2)⟩
theorem gs_putP (h : GK K Z tv δ n fun d n1 => GK K Z ta δ n1 fun x n2 => ∃ p, x = .ptr p ∧ GK K Z tb δ n2 fun y n3 => ∃ es k, n3.μ p = some (.dic es) ∧ y = keyD k ∧ es.length < 100000 ∧ N δ (n3.put p (.dic (putD es k d)))) : GS K Z B (sDPut ta tb tv) δ n N R Bk Ct := fun m0 G0 H0 xw G H σ E e hn hr hb hc =>
  h B (MOf B m0 H0) G0 H0 xw G H σ e _ fun v d G1 H1 n1 f1 E1 s1 a1 =>
    f1 B (MOf B m0 H0) G0 H0 xw G1 H1 σ E1 _ fun u x G2 H2 n2 f2 E2 s2 a2 => by
      obtain ⟨p, rfl, f2⟩ := f2
      cases a2
      refine f2 B (MOf B m0 H0) G0 H0 xw G2 H2 σ E2 _ fun w y G3 H3 n3 f3 E3 s3 a3 => ?_
      obtain ⟨es, k, hp, rfl, hl, f3⟩ := f3
      obtain ⟨vs, e1, e2⟩ := E3.mdic hp
      rw [a3.key]
      exact ⟨p, _, rfl, .k e1 (by rw [e2.len]; exact sz_lt hl), hn _ _ G3 _ _ f3 (E3.mchg hp ⟨_, upd_same, e2.put ((a1.mono s2).mono s3)⟩) ((s1.trans s2).trans s3)⟩
def dropD (es : List (Key × D)) (k : Key) : List (Key × D) := es.filter fun kv => decide (kv.1 ≠ k)
omit [Tabl] in
theorem IsKv.drop {k : Key} : ∀ {vs : List (Key × V)} {es : List (Key × D)}, IsKv K G vs es → IsKv K G (dropK vs k) (dropD es k)
  | _, _, .nil => .nil
  | _, _, .cons (k := k2) h r => by
    unfold dropK dropD
    rw [List.filter_cons, List.filter_cons]
    by_cases z : k2 = k
    · rw [if_neg (by simp [z]), if_neg (by simp [z])]
      exact IsKv.drop r
    · rw [if_pos (by simp [z]), if_pos (by simp [z])]
      exact .cons h (IsKv.drop r)
theorem gk_dpopP (h : GK K Z ta δ n fun x n1 => ∃ p es0, x = .ptr p ∧ n1.μ p = some (.dic es0) ∧ GK K Z tb δ n1 fun y n2 => ∃ es k d, n2.μ p = some (.dic es) ∧ y = keyD k ∧ getD' es k = some d ∧ Φ d (n2.put p (.dic (dropD es k)))) : GK K Z (tDPop1 ta tb) δ n Φ := fun B M G0 H0 xw G H σ E Q q =>
  h B M G0 H0 xw G H σ E _ fun v x G1 H1 n1 f1 E1 s1 a1 => by
    obtain ⟨p, es0, rfl, hp0, f1⟩ := f1
    cases a1
    obtain ⟨vs0, e0, _⟩ := E1.mdic hp0
    refine ⟨p, rfl, .inl ⟨vs0, .inl e0⟩, ?_⟩
    refine f1 B M G0 H0 xw G1 H1 σ E1 _ fun w y G2 H2 n2 f2 E2 s2 a2 => ?_
    obtain ⟨es, k, d, hp, rfl, hd, f2⟩ := f2
    obtain ⟨vs, e1, e2⟩ := E2.mdic hp
    obtain ⟨u, hu, iu⟩ := e2.get hd
    exact ⟨vs, k, u, e1, a2.key, hu, q u d G2 _ _ f2 (E2.mchg hp ⟨_, upd_same, e2.drop⟩) (s1.trans s2) iu⟩
omit [Tabl] in
theorem IsKv.keyAt {k k' : Key} {v : V} {d : D} : ∀ {vs : List (Key × V)} {es : List (Key × D)} {i : Nat}, IsKv K G vs es → vs[i]? = some (k', v) → es[i]? = some (k, d) → k' = k ∧ Is K G v d
  | _, _, _, .nil, e, _ => by simp at e
  | _, _, 0, .cons h _, e, e2 => by
    simp only [List.getElem?_cons_zero, Option.some.injEq, Prod.mk.injEq] at e e2
    obtain ⟨rfl, rfl⟩ := e
    obtain ⟨rfl, rfl⟩ := e2
    exact ⟨rfl, h⟩
  | _, _, i + 1, .cons _ r, e, e2 => IsKv.keyAt (i := i) r (by simpa using e) (by simpa using e2)
theorem gi_keysL {Ψ : List D → Sto → Prop} (h : GK K Z te δ n fun d n1 => ∃ es, d = .dct es ∧ Ψ (es.map fun kv => keyD kv.1) n1) : GI K Z (iKeys te) δ n Ψ := fun B M G0 H0 xw G H σ E R r =>
  h B M G0 H0 xw G H σ E _ fun v d G1 H1 n1 f1 E1 s1 a1 => by
    obtain ⟨es, rfl, f1⟩ := f1
    cases a1 with
    | @dct p o vs _ h1 a1 =>
      refine ⟨p, o, rfl, .inl ⟨vs, E1.sub _ _ h1, r _ _ G1 H1 n1 f1 E1 s1 fun G' H' s2 s3 i => ⟨fun hi => ⟨s3 _ _ (s2 _ _ h1), by rw [a1.len, hi, List.length_map]; exact Nat.le_refl _⟩, fun x hx => ?_⟩⟩⟩
      rw [List.getElem?_map] at hx
      obtain ⟨⟨k, d⟩, hd, rfl⟩ := Option.map_eq_some_iff.mp hx
      obtain ⟨hlt, _⟩ := List.getElem?_eq_some_iff.mp hd
      refine ⟨⟨s3 _ _ (s2 _ _ h1), by rw [a1.len]; exact hlt⟩, fun v H'' y => .inl ⟨y.1, ?_⟩⟩
      obtain ⟨k', v', hk, rfl⟩ := y.2
      obtain ⟨rfl, _⟩ := a1.keyAt hk hd
      cases k' with
      | inl i => exact .int i
      | inr z => exact .str z
end
end Tl
namespace Tl
open PySem PySem.Spec PyProof.Rows L2 TL LamX
inductive HitsV (K : PySem.W.Frag) (H : Hp) (ls : List (Key × V)) : List (Key × V) → Bool → Prop
  | nil : HitsV K H ls [] true
  | miss {k : Key} {v : V} {r : List (Key × V)} (e : valV ls k = none) : HitsV K H ls ((k, v) :: r) false
  | hit {k : Key} {v u : V} {d e : PyData} {r : List (Key × V)} {b : Bool} (f : valV ls k = some u) (h1 : Dp K H v d) (h2 : Dp K H u e) (c1 : d.canLay0 = true) (c2 : e.canLay0 = true) (dd : d.depth ≤ 50) (t : HitsV K H ls r b) : HitsV K H ls ((k, v) :: r) (PyData.eqv d e && b)
theorem hitsV_run {X : Cx} {pins : List (Addr × Obj)} {σ : L2.St} {H : Hp} {s : Shared} {A : Around} (I : L2.Inv X pins σ H s) (hu : A.units + 50 < cLine) {ls : List (Key × V)} {vb : List (Key × Value)} (rb : KV ls vb) {ks : List (Key × V)} {va : List (Key × Value)} {r : Bool}
    (ra : KV ks va) (h : HitsV X.K H ls ks r) : PySem.W.KeqHits A s vb va r := by
  unfold KV at ra
  induction ra generalizing r with
  | nil =>
    cases h
    exact .nil
  | @cons p q ps qs a t ih =>
    obtain ⟨a1, a2⟩ := a
    obtain ⟨k, v⟩ := p
    obtain ⟨k2, u2⟩ := q
    have a1 : k = k2 := a1
    subst a1
    cases h with
    | miss e =>
      refine .miss (RelO.none_of ?_)
      rw [← e]
      exact rb.val k
    | @hit _ _ u d e _ b f h1 h2 c1 c2 dd t2 =>
      have rr : RelO (some u) (valueAt vb k) := by
        rw [← f]
        exact rb.val k
      obtain ⟨y, hy, ry⟩ := rr.some_of
      obtain ⟨as, r1⟩ := Dp.reads I d v u2 h1 a2
      obtain ⟨bs, r2⟩ := Dp.reads I e u y h2 ry
      exact .hit hy (PySem.SeqAt.eqAt_reads d e A s u2 y as bs r1 r2 c1 c2 (by omega)) (ih t2)
section
variable [Tabl] {K : PySem.W.Frag} {Z : XZ} {B : Option Addr} {M : Addr → Prop} {δ : List Slot} {n : Sto} {Φ : D → Sto → Prop} {te ta tb tk tv : TE} {aa : TA} {N Bk Ct : List Slot → Sto → Prop} {R : D → Sto → Prop} {G0 H0 G H : Hp} {σ : L2.St}
def DicAt (n : Sto) (x : D) (es : List (Key × D)) : Prop := (∃ p, x = .ptr p ∧ n.μ p = some (.dic es)) ∨ x = .dct es ∨ x = .dic es
theorem DicAt.get {x : D} {es : List (Key × D)} {v : V} (h : DicAt n x es) (E : En K B M n G0 H0 G H σ δ) (a : Is K G v x) : ∃ p vs, v = .ref p ∧ Rd H p (.dK vs) ∧ IsKv K G vs es := by
  rcases h with ⟨p, rfl, hp⟩ | rfl | rfl
  · cases a
    obtain ⟨vs, e1, e2⟩ := E.mdic hp
    exact ⟨p, vs, rfl, .inl e1, e2⟩
  · cases a with
    | @dct p o vs _ h a => exact ⟨p, vs, rfl, .inr ⟨o, E.sub _ _ h⟩, a⟩
  · cases a with
    | @dic p vs _ h a => exact ⟨p, vs, rfl, E.sub.rd h, a⟩
def eqKv (fs es : List (Key × D)) : Bool := es.all fun kv => match getD' fs kv.1 with | none => false | some d => eqD kv.2 d
omit [Tabl] in
theorem IsKv.get0 {k : Key} : ∀ {vs : List (Key × V)} {es : List (Key × D)}, IsKv K G vs es → getD' es k = none → valV vs k = none
  | _, _, .nil, _ => rfl
  | _, _, .cons (k := k2) (x := x) (xs := xs) (d := d) (ds := ds) h r, e => by
    unfold getD' at e
    unfold valV
    by_cases z : k2 = k
    · rw [List.find?_cons_of_pos (by simp [z])] at e
      cases e
    · rw [List.find?_cons_of_neg (by simp [z])] at e ⊢
      exact IsKv.get0 r e
theorem hits_of {j l : Nat} (hj : j ≤ 50) (s : Sub G H) {ls : List (Key × V)} {fs : List (Key × D)} (b : IsKv K G ls fs) (sf : ∀ kv ∈ fs, Shp l kv.2) : ∀ {ks : List (Key × V)} {es : List (Key × D)}, IsKv K G ks es → (∀ kv ∈ es, Shp j kv.2) → ∃ r, HitsV K H ls ks r ∧ (r = true ↔ eqKv fs es = true)
  | _, _, .nil, _ => ⟨true, .nil, by simp [eqKv]⟩
  | _, _, .cons (k := k) (x := x) (xs := xs) (d := d) (ds := ds) h r, se => by
    obtain ⟨r0, h0, e0⟩ := hits_of hj s b sf r fun kv hkv => se kv (List.mem_cons_of_mem _ hkv)
    cases g : getD' fs k with
    | none => exact ⟨false, .miss (b.get0 g), by simp [eqKv, g]⟩
    | some d2 =>
      obtain ⟨u, hu, iu⟩ := b.get g
      have sd := se (k, d) List.mem_cons_self
      have sd2 : Shp l d2 := by
        unfold getD' at g
        obtain ⟨kv, hkv, rfl⟩ := Option.map_eq_some_iff.mp g
        exact sf kv (List.mem_of_find?_eq_some hkv)
      refine ⟨_, .hit hu (h.dp s sd) (iu.dp s sd2) sd.ok.1 sd2.ok.1 (Nat.le_trans sd.ok.2 hj) h0, ?_⟩
      unfold eqKv at e0 ⊢
      rw [List.all_cons, Bool.and_eq_true, Bool.and_eq_true, e0]
      simp only [g]
      rfl
def MO.tyn : MO → Option String
  | .lst _ => some "list" | .dic _ => some "dict" | .ins _ _ _ => none | .dt _ => none | .ex _ => none
theorem gk_disp1 (h : GK K .calm tk δ n fun x n1 => ∃ k, x = keyD k ∧ GK K .calm tv δ n1 fun d n2 => ∀ p, n2.μ p = none → Φ (.ptr p) (n2.put p (.dic [(k, d)]))) : GK K Z (tDisp [(tk, tv)]) δ n Φ := fun B M G0 H0 xw G H σ E Q q c hc => by
  have nbc : B ≠ some c := fun z => (E.bagged c z).1.some hc
  have gc := E.sub.none hc
  have mc := E.free c hc
  have oc : ∀ (i : Nat) (x : MO), δ[i]? = some (.ow x) → σ[i]? ≠ some (some (.ref c)) := fun i xs hi z => by
    obtain ⟨p, e1, e2, _⟩ := E.owo hi
    rw [z] at e1
    cases e1
    exact e2.some hc
  have E1 := E.newc (o := .dK []) hc
  have ncm : ¬ (M c ∧ c ≠ c) := fun z => z.2 rfl
  have E2 := E1.rebase (c := c) nbc (E.nomob hc) oc ⟨_, upd_same, fun _ z => nomatch z⟩
  refine h B _ _ _ WOk.calm _ _ σ E2 _ fun v x G1 H1 n1 f1 e1 s1 a1 => ?_
  obtain ⟨k, rfl, f1⟩ := f1
  refine f1 B _ _ _ WOk.calm G1 H1 σ e1 _ fun w d G2 H2 n2 f2 e2 s2 a2 => ?_
  have h2 := e2.same c _ upd_same ncm
  have g2 := e2.fresh c ncm gc
  have m2 := e2.apart
  refine ⟨h2, [(k, w)], by rw [a1.key]; rfl, by simp, ?_⟩
  have E3 := E1.back e2
  have E4 := E3.beside (c := c) (u := .dK [(k, w)]) (.inr ⟨_, h2, trivial⟩) (fun _ z => nomatch z) nbc m2 g2 mc oc
  have E5 := E4.mtake (o := .dic [(k, d)]) g2 mc nbc oc ⟨[(k, w)], upd_same, .cons a2 .nil⟩
  exact q _ _ G2 _ _ (f2 c m2) E5 (s1.trans s2) (.ptr c)
theorem En.less {n' : Sto} (E : En K B M n G0 H0 G H σ δ) (hn : n'.n = n.n) (h : ∀ a o, n'.μ a = some o → n.μ a = some o) : En K B M n' G0 H0 G H σ δ :=
  ⟨E.sub0, E.sub, E.same, E.free, E.fresh, fun p hp => by rw [hn]; exact E.bagged p hp, E.tabs, E.tin, E.gnt, E.len, E.slot, E.dis, fun a o e => E.mob a o (h a o e), fun i x a hi hs => by
    have := E.mow i x a hi hs
    cases q : n'.μ a with
    | none => rfl
    | some o => rw [h a o q] at this; cases this⟩
theorem gs_sub {n' : Sto} {ts : TS} (hn : n'.n = n.n) (h : ∀ a o, n'.μ a = some o → n.μ a = some o) (g : GS K Z B ts δ n' N R Bk Ct) : GS K Z B ts δ n N R Bk Ct := fun m0 G0 H0 xw G H σ E e hn2 hr hb hc => g m0 G0 H0 xw G H σ E (e.less hn h) hn2 hr hb hc
def noOw (δ : List Slot) : Bool := δ.all fun s => match s with | .ow _ => false | _ => true
omit [Tabl] in
theorem noOw_of (h : noOw δ = true) {P : MO → Prop} : ∀ (j : Nat) (o : MO), δ[j]? = some (.ow o) → P o := fun j o e => by
  have := List.all_eq_true.mp h _ (List.mem_of_getElem? e)
  cases this
def mergeD (es more : List (Key × D)) : List (Key × D) := more.foldl (fun acc kv => putD acc kv.1 kv.2) es
omit [Tabl] in
theorem IsKv.merge {vs : List (Key × V)} {es : List (Key × D)} (h : IsKv K G vs es) {ws : List (Key × V)} {fs : List (Key × D)} (g : IsKv K G ws fs) : IsKv K G (mergeK vs ws) (mergeD es fs) := by
  induction fs generalizing vs es ws with
  | nil =>
    cases g
    exact h
  | cons f fs ih =>
    cases g with
    | cons a r => exact ih (h.put a) r
omit [Tabl] in
theorem pairs_of : ∀ {kvs : List (Key × D)} {vs : List V}, IsAll K G vs (kvs.map fun kv => .tup [keyD kv.1, kv.2]) → ∃ (ps : List Addr) (ws : List (Key × V)), vs = ps.map V.ref ∧ Paired (fun p kv => SqT K G p [kV kv.1, kv.2]) ps ws ∧ IsKv K G ws kvs
  | [], _, h => by
    cases h
    exact ⟨[], [], rfl, .nil, .nil⟩
  | (k, d) :: kvs, _, h => by
    cases h with
    | cons a r =>
      obtain ⟨ps, ws, e, pr, iw⟩ := pairs_of r
      cases a with
      | @tup p xs _ h1 a1 =>
        cases a1 with
        | cons b1 b2 =>
          cases b2 with
          | cons b3 b4 =>
            cases b4
            rw [b1.key] at h1
            rename_i w _ _
            exact ⟨p :: ps, (k, _) :: ws, by rw [e]; rfl, .cons h1 pr, .cons b3 iw⟩
theorem rc_dictP {kvs : List (Key × D)} {ps : List D} (e : ps = kvs.map fun kv => .tup [keyD kv.1, kv.2]) (k : ∀ p, n.μ p = none → Φ (.ptr p) (n.put p (.dic (mergeD [] kvs)))) : RC K Z (fun xs H Q => ∃ (a : Addr) (ps : List Addr) (kvs : List (Key × V)), xs = [.ref a] ∧ SqL K H a (ps.map V.ref) ∧ Paired (fun p kv => SqT K H p [kV kv.1, kv.2]) ps kvs ∧
    ∀ p, H p = none → Q (.ref p) (upd H p (.dK (mergeK [] kvs)))) [.lst ps] δ n Φ := fun B M G0 H0 xw G H σ E vs a Q q => by
  subst e
  cases a with
  | cons a1 r =>
    cases r
    cases a1 with
    | @lst p ws _ h1 a1 =>
      obtain ⟨qs, us, rfl, pr, iu⟩ := pairs_of a1
      refine ⟨p, qs, us, rfl, SqL.of (E.sub _ _ h1), Paired.mapP pr fun _ _ z => E.sub.seq z, fun c hc => ?_⟩
      exact q _ _ G _ _ (k c (E.nomob hc)) (E.mnew (o := .dic (mergeD [] kvs)) hc ⟨_, upd_same, IsKv.nil.merge iu⟩) (Sub.refl G) (.ptr c)
end
end Tl
namespace Tl
open PySem PySem.Spec PyProof.Rows L2 TL LamX
open PySem.SeqAt
open AutoSeq1 (wpAny_loadPart')
open MeetsSeq
section
variable {prog : Program} {w : World} {A : Around} {E : Value → Shared → Prop} {s : Shared} {K : PySem.W.Frag} {x C dx : Addr}
inductive Knd (s : Shared) : Value → String → Prop
  | non : Knd s .none "NoneType"
  | bl (b : Bool) : Knd s (.bool b) "bool"
  | int (i : Int) (t : Tok) : Knd s (.int i t) "int"
  | str (z : Str) (t : Tok) : Knd s (.str z t) "str"
  | tup (a : Addr) (items : Array Value) (h : s.heap.IsTuple a items) : Knd s (.ref a) "tuple"
theorem Knd.type {u : Value} {T : String} (k : Knd s u T) : s.TypeIs u T := by
  cases k with
  | non => rfl
  | bl b => rfl
  | int i t => rfl
  | str z t => rfl
  | tup a items h =>
    obtain ⟨o, ho, hc, _⟩ := h
    exact ⟨o, ho, hc⟩
variable {L f : Addr} {h₀ : Heap} {m : Str → Option Value} {ox : Obj} {od : Option Obj}
open PySem.W in
open PySem.W in
open PySem.W in
end
end Tl
namespace Tl
open PySem PySem.Spec PyProof.Rows L2 TL LamX
inductive KdV (K : PySem.W.Frag) (H : Hp) : V → Value → Prop
  | non : KdV K H .non (.type "NoneType")
  | bl (b : Bool) : KdV K H (.bl b) (.type "bool")
  | int (i : Int) : KdV K H (.int i) (.type "int")
  | str (z : Str) : KdV K H (.str z) (.type "str")
  | tup (a : Addr) (xs : List V) (h : SqT K H a xs) : KdV K H (.ref a) (.type "tuple")
  | ins (a C dx : Addr) (fs : List (Str × V)) (h : H a = some (.ins C dx fs)) : KdV K H (.ref a) (.ref C)
section
variable {X : Cx} {pins : List (Addr × Obj)} {σ : L2.St} {H : Hp} {s : Shared}
theorem KdV.knd {y : V} {T : String} {u : Value} (I : Inv X pins σ H s) (k : KdV X.K H y (.type T)) (r : RelV y u) : Knd s u T := by
  cases k with
  | non => cases (show u = Value.none from r); exact .non
  | bl b => cases (show u = Value.bool b from r); exact .bl b
  | int i => obtain ⟨t, rfl⟩ := r; exact .int i t
  | str z => obtain ⟨t, rfl⟩ := r; exact .str z t
  | tup a xs h =>
    cases (show u = Value.ref a from r)
    obtain ⟨its, _, e, _⟩ := I.tuple h
    exact .tup a _ e
end
section
variable {X : Cx} {CX : CXT} {k : Nat} {f C : Addr} {fd : FuncData} {ps : List Str} {sp : Sp} {E : XK}
end
section
variable [Tabl] {K : PySem.W.Frag} {Z : XZ} {δ : List Slot} {n : Sto} {Φ : D → Sto → Prop}
inductive KdD (K : PySem.W.Frag) (n : Sto) : D → Value → Prop
  | non : KdD K n .non (.type "NoneType")
  | bl (b : Bool) : KdD K n (.bl b) (.type "bool")
  | int (i : Int) : KdD K n (.int i) (.type "int")
  | str (z : Str) : KdD K n (.str z) (.type "str")
  | tup (xs : List D) : KdD K n (.tup xs) (.type "tuple")
  | ins (p C dx : Addr) (fs : List (Str × D)) (h : n.μ p = some (.ins C dx fs)) : KdD K n (.ptr p) (.ref C)
theorem KdD.toV {y : D} {tb : Value} {w : V} {B : Option Addr} {M : Addr → Prop} {G0 H0 G H : Hp} {σ : L2.St} (E : En K B M n G0 H0 G H σ δ) (kd : KdD K n y tb) (a : Is K G w y) : KdV K H w tb := by
  cases kd with
  | non => cases a; exact .non
  | bl b => cases a; exact .bl b
  | int i => cases a; exact .int i
  | str z => cases a; exact .str z
  | tup xs =>
    cases a with
    | tup h a => exact .tup _ _ (E.sub.seq h)
  | ins p C dx fs h =>
    cases a
    obtain ⟨⟨vs, hv, _⟩, _⟩ := E.mob p _ h
    exact .ins p C dx vs hv
end
end Tl
namespace Tl
open PySem PySem.Spec PyProof.Rows L2 TL LamX
mutual
/-- what a datum reads as, lists of the store looked into -/
inductive Rdx (n : Sto) : D → D → Prop
  | self (x : D) : Rdx n x x
  | lst {p : Addr} {xs ys : List D} (h : n.μ p = some (.lst xs)) (a : Rdxs n xs ys) : Rdx n (.ptr p) (.lst ys)
inductive Rdxs (n : Sto) : List D → List D → Prop
  | nil : Rdxs n [] []
  | cons {x y : D} {xs ys : List D} (h : Rdx n x y) (r : Rdxs n xs ys) : Rdxs n (x :: xs) (y :: ys)
end
section
variable [Tabl] {K : PySem.W.Frag} {Z : XZ} {δ : List Slot} {n : Sto} {Φ : D → Sto → Prop} {B : Option Addr}
mutual
theorem Rdx.dp {M : Addr → Prop} {G0 H0 G H : Hp} {σ : L2.St} (E : En K B M n G0 H0 G H σ δ) : ∀ {x y : D} {v : V} {k : Nat}, Rdx n x y → Is K G v x → Shp k y → Dp K H v (toP y)
  | _, _, _, _, .self x, a, hs => a.dp E.sub hs
  | _, _, _, _, .lst h r, a, hs => by
    cases a
    obtain ⟨vs, hv, is⟩ := E.mlst h
    unfold toP
    cases hs with
    | lst hs => exact .lst (SqL.of hv) (Rdxs.dp E r is hs)
theorem Rdxs.dp {M : Addr → Prop} {G0 H0 G H : Hp} {σ : L2.St} (E : En K B M n G0 H0 G H σ δ) : ∀ {xs ys : List D} {vs : List V} {k : Nat}, Rdxs n xs ys → IsAll K G vs xs → (∀ y ∈ ys, Shp k y) → DpAll K H vs (toPs ys)
  | _, _, _, _, .nil, a, _ => by
    cases a
    unfold toPs
    exact .nil
  | _, _, _, _, .cons h r, a, hs => by
    cases a with
    | cons a1 a2 =>
      unfold toPs
      exact .cons (Rdx.dp E h a1 (hs _ List.mem_cons_self)) (Rdxs.dp E r a2 fun y hy => hs y (List.mem_cons_of_mem _ hy))
end
theorem Rdxs.refl : ∀ xs : List D, Rdxs n xs xs
  | [] => .nil
  | x :: xs => .cons (.self x) (Rdxs.refl xs)
end
end Tl
namespace Tl
open PySem PySem.Spec PyProof.Rows L2 TL LamX
section
variable {X : Cx} {CX : CXT} {k : Nat} {f C : Addr} {fd : FuncData} {ps ks : List Str} {sp : Sp} {E : XK} {m : Str} {pos apos : Pos} {o : Expr} {kws : List Keyword} {ta : TE} {tk : TA} {g : List Value → List Value → List Value} {gV : List V → List V → List V}
end
section
variable [Tabl] {K : PySem.W.Frag} {Z : XZ} {δ : List Slot} {n : Sto} {Φ : D → Sto → Prop} {ta : TE} {ab : TA}
end
end Tl
namespace Tl
open PySem PySem.Spec PyProof.Rows L2 TL LamX
section
variable [Tabl] {K : PySem.W.Frag} {Z : XZ} {δ : List Slot} {n : Sto} {Φ : D → Sto → Prop} {ta : TE} {ts : List TE} {acc : Str}
theorem rc_strI {i : Int} (hi : i.natAbs.log2 < 1920) (k : Φ (.str (toString i)) n) : RC K Z (fun xs H Q => ∃ i : Int, xs = [.int i] ∧ i.natAbs.log2 < 1920 ∧ Q (.str (toString i)) H) [.int i] δ n Φ := fun B M G0 H0 xw G H σ E vs a Q q => by
  cases a with
  | cons a1 r =>
    cases r
    cases a1
    exact ⟨i, rfl, hi, q _ _ G H n k E (Sub.refl G) (.str _)⟩
end
end Tl
namespace Tl
open PySem PySem.Spec PyProof.Rows L2 TL LamX
def txOf (z : Int × Value) : Str := match z.2 with
  | .str y _ => y
  | _ => Str.empty
def TxE (w : World) (z : Int × Value) : Prop := ∃ y tk, z.2 = Value.str y tk ∧ z.1 = hashStr w y
def TxSet (w : World) (h : Heap) (a : Addr) (ys : List Str) : Prop :=
  ∃ ob tb ep tt, h.get? a = some ob ∧ ob.ExactSet ∧ ob.data = .set tb ep tt ∧ ((∀ z ∈ tb.toList, TxE w z) ∧ (tb.toList.map txOf).Nodup ∧ ∀ y, y ∈ ys ↔ y ∈ tb.toList.map txOf) ∧ tb.size < scanBound ∧ tt.fits tb.size = true ∧ tb.size ≤ ys.length ∧ Ris tt.place.toList ∧
    (w.params.followText "set-order" = true ∨ tt.led = true)
section
variable {P : Program} {w : World} {h h' : Heap} {a : Addr} {ys : List Str}
theorem TxSet.at (R : TxSet w h a ys) (k : ∀ ob, h.get? a = some ob → h'.get? a = some ob) : TxSet w h' a ys := by
  obtain ⟨ob, tb, ep, tt, q, r⟩ := R
  exact ⟨ob, tb, ep, tt, k ob q, r⟩
theorem tx_elems {l : List (Int × Value)} (g : ∀ z ∈ l, TxE w z) : ElemsOf (PySem.strKind P w) l := fun z hz => by
  obtain ⟨y, tk, e1, e2⟩ := g z hz
  refine ⟨⟨y, by rw [e1]; exact strKind_is P w y tk, e2⟩, ?_⟩
  rw [e1]
  rfl
theorem tx_is {z : Int × Value} (g : TxE w z) (y : Str) : (PySem.strKind P w).is y z.2 = true ↔ txOf z = y := by
  obtain ⟨y0, tk, e1, _⟩ := g
  unfold txOf
  rw [e1]
  show (Value.isStrOf y (Value.str y0 tk)) = true ↔ y0 = y
  simp only [Value.isStrOf, beq_iff_eq]
theorem tx_mem {l : List (Int × Value)} (g : ∀ z ∈ l, TxE w z) (y : Str) : y ∈ l.map txOf ↔ ∃ z ∈ l, (PySem.strKind P w).is y z.2 = true :=
  List.mem_map.trans ⟨fun ⟨z, hz, q⟩ => ⟨z, hz, (tx_is (g z hz) y).2 q⟩, fun ⟨z, hz, q⟩ => ⟨z, hz, (tx_is (g z hz) y).1 q⟩⟩
theorem TxSet.nil (ho : h.get? a = some { cls := .type "set", dict := none, data := .set #[] 0 (.fresh 0 0 (!w.params.followText "set-order")) }) : TxSet w h a [] := by
  refine ⟨_, #[], 0, _, ho, ⟨rfl, rfl, rfl⟩, rfl, ⟨fun z hz => absurd hz (by simp), List.nodup_nil, fun y => by simp⟩, by decide, rfl, Nat.le_refl 0, List.Pairwise.nil, ?_⟩
  rcases Bool.eq_false_or_eq_true (w.params.followText "set-order") with q | q
  · exact .inl q
  · exact .inr (by show (!w.params.followText "set-order") = true; rw [q]; rfl)
end
section
variable {P : Program} {w : World} {A : Around} {E : Value → Shared → Prop} {s : Shared} {a : Addr} {ys : List Str}
theorem tx_tail {g : Bool → Sem Unit} (hg : ∀ (b : Bool) (s₁ : Shared) (Q' : Unit → Shared → Prop), Q' () s₁ → wpAny (model P w) A (g b) Q' E s₁)
    {ob : Obj} {tb : Array (Int × Value)} {ep : Nat} {tt : SetTable} (ho : s.heap.get? a = some ob) (hex : ob.ExactSet) (hd : ob.data = .set tb ep tt)
    {tb1 : Array (Int × Value)} {tt2 : SetTable} {ys' : List Str} (gm : (∀ z ∈ tb1.toList, TxE w z) ∧ (tb1.toList.map txOf).Nodup ∧ ∀ y, y ∈ ys' ↔ y ∈ tb1.toList.map txOf) (hn : tb1.size ≤ ys'.length)
    (hb : tb1.size < scanBound) (hf : tt2.fits tb1.size = true) (hr : Ris tt2.place.toList) (hl : w.params.followText "set-order" = true ∨ tt2.led = true) {wasDummy : Bool} {R : Option Bool → Shared → Prop}
    (hR : ∀ h', Heap.SameBut a s.heap h' → TxSet w h' a ys' → R (some true) { s with heap := h' }) :
    wpAny (model P w) A (do
        storeSet a tb1 tt2
        if (!wasDummy && tt2.tooFull) = true then do
            g (relayAll tt2 tb1 (SetTable.grown tb1.size)).2.2
            storeSet a (relayAll tt2 tb1 (SetTable.grown tb1.size)).1 (relayAll tt2 tb1 (SetTable.grown tb1.size)).2.1
            pure (some true)
          else pure (some true)) R E s := by
  have o1 := store_at (es' := tb1) (t' := tt2) ho hd
  have b1 := Heap.SameBut.update s.heap a (Obj.putSet tb1 tt2)
  refine wpAny_bind (wpAny_storeSet_of ho hd ?_ (fits_of_scanBound hb))
  split
  · have pm := relayAll_perm tt2 tb1 (SetTable.grown tb1.size)
    have f3 := relayAll_fits tt2 tb1 (SetTable.grown tb1.size)
    have r3 := relayAll_ris tt2 tb1 (SetTable.grown tb1.size)
    have l3 := relayAll_led tt2 tb1 (SetTable.grown tb1.size)
    generalize relayAll tt2 tb1 (SetTable.grown tb1.size) = Y at pm f3 r3 l3 ⊢
    obtain ⟨tb2, tt3, gv⟩ := Y
    dsimp only at pm f3 r3 l3 ⊢
    have sz : tb2.size = tb1.size := by
      have := pm.length_eq
      simpa using this
    refine wpAny_bind (hg _ _ _ (wpAny_bind (wpAny_storeSet_of o1 rfl ?_ (fits_of_scanBound (sz ▸ hb)))))
    have o2 := store_at (es' := tb2) (t' := tt3) o1 rfl
    have pk := pm.map txOf
    exact wpAny_pure (hR _ (b1.trans (Heap.SameBut.update _ a _)) ⟨_, tb2, _, tt3, o2, hex, rfl, ⟨fun z hz => gm.1 z (pm.mem_iff.mp hz), pk.nodup_iff.mpr gm.2.1, fun y => (gm.2.2 y).trans pk.mem_iff.symm⟩, sz ▸ hb, f3, sz ▸ hn, r3, hl.imp id fun q => l3.trans q⟩)
  · exact wpAny_pure (hR _ b1 ⟨_, tb1, _, tt2, o1, hex, rfl, gm, hb, hf, hn, hr, hl⟩)
theorem tx_add {y : Str} {tk : Tok} {Q : Bool → Shared → Prop} (R : TxSet w s.heap a ys) (room : ys.length + 1 < scanBound)
    (hQ : ∀ b h', Heap.SameBut a s.heap h' → TxSet w h' a (ys ++ [y]) → Q b { s with heap := h' }) :
    wpAny (model P w) A (setAddHashed a (.str y tk) ((PySem.strKind P w).hash y)) Q E s := by
  obtain ⟨ob, tb, ep, tt, ho, hex, hd, ⟨g, nd, hm⟩, hb, hf, hn, hr, hl⟩ := R
  have key : (PySem.strKind P w).is y (.str y tk) = true := strKind_is P w y tk
  have sc : (Value.str y tk).scannable = true := rfl
  have el : ElemsOf (PySem.strKind P w) tb.toList := tx_elems g
  unfold setAddHashed setAddHashedIn
  refine wpAny_holding (wpAny_bind (wpAny_setState_of ho hd hf ?_))
  dsimp only
  rw [byScan_of sc hb el]
  simp only [↓reduceIte]
  unfold setAddByScan
  refine wpAny_bind (wpAny_bind (wpAny_rule (wpAny_bind (wpAny_setScan_of key ho hd hf el ?_))))
  cases hfi : List.findIdx? (fun z => (PySem.strKind P w).is y z.2) tb.toList with
  | some j =>
    obtain ⟨hj, pj, _⟩ := List.findIdx?_eq_some_iff_getElem.mp hfi
    have inn : y ∈ tb.toList.map txOf := (tx_mem (P := P) g y).2 ⟨tb.toList[j], List.getElem_mem hj, pj⟩
    refine wpAny_pure (wpAny_pure (hQ _ s.heap (Heap.SameBut.refl a s.heap) ⟨ob, tb, ep, tt, ho, hex, hd, ⟨g, nd, fun u => ?_⟩, hb, hf, ?_, hr, hl⟩))
    · rw [List.mem_append, List.mem_singleton, hm u]
      exact ⟨fun q => q.elim id fun e => e ▸ inn, .inl⟩
    · rw [List.length_append]
      exact Nat.le_add_right_of_le hn
  | none =>
    have out : y ∉ tb.toList.map txOf := fun q => by
      obtain ⟨z, hz, e⟩ := (tx_mem (P := P) g y).1 q
      exact absurd (List.findIdx?_eq_none_iff.mp hfi z hz) (by rw [e]; decide)
    have gw : ∀ (b : Bool) {s₁ : Shared} {Q' : Unit → Shared → Prop}, Q' () s₁ → wpAny (model P w) A (match b with | true => rule "set.scan.the-table-gave-way" | false => pure ()) Q' E s₁ := fun b s₁ Q' q => by
      cases b
      · exact wpAny_pure q
      · exact wpAny_rule q
    dsimp only
    have pm := layNew_perm tt tb ((PySem.strKind P w).hash y) (.str y tk)
    have f1 := layNew_fits tt tb ((PySem.strKind P w).hash y) (.str y tk)
    have r1 := layNew_ris tt tb ((PySem.strKind P w).hash y) (.str y tk) hr
    have l1 := layNew_led tt tb ((PySem.strKind P w).hash y) (.str y tk)
    generalize layNew tt tb ((PySem.strKind P w).hash y) (.str y tk) = Y at pm f1 r1 l1 ⊢
    obtain ⟨tb1, tt1, wd, gv⟩ := Y
    dsimp only at pm f1 r1 l1 ⊢
    have pc : tb1.toList.Perm ((hashStr w y, Value.str y tk) :: tb.toList) := by
      rw [Array.toList_push] at pm
      exact pm.trans (List.perm_append_singleton _ _)
    have pk : (tb1.toList.map txOf).Perm (y :: tb.toList.map txOf) := pc.map txOf
    have gm : (∀ z ∈ tb1.toList, TxE w z) ∧ (tb1.toList.map txOf).Nodup ∧ ∀ u, u ∈ ys ++ [y] ↔ u ∈ tb1.toList.map txOf := by
      refine ⟨fun z hz => ?_, pk.nodup_iff.mpr (List.nodup_cons.mpr ⟨out, nd⟩), fun u => ?_⟩
      · rcases List.mem_cons.mp (pc.mem_iff.mp hz) with q | q
        · exact ⟨y, tk, by rw [q], by rw [q]⟩
        · exact g z q
      · rw [pk.mem_iff, List.mem_append, List.mem_singleton, List.mem_cons, hm u]
        exact Or.comm
    have sz : tb1.size = tb.size + 1 := by
      have := pc.length_eq
      simpa using this
    have n1 : tb1.size ≤ (ys ++ [y]).length := by
      rw [sz, List.length_append]
      exact Nat.succ_le_succ hn
    have b1 : tb1.size < scanBound := by omega
    have ld : w.params.followText "set-order" = true ∨ tt1.led = true := hl.imp id fun q => l1.trans q
    refine wpAny_bind (gw _ ?_)
    split
    · refine wpAny_bind ?_
      rw [hashByValue_scannable 8 sc]
      refine wpAny_pure (tx_tail ?_ ho hex hd gm n1 b1 ?_ ?_ ?_ fun h' sb r => ?_)
      · intro b s₁ Q' q
        cases b
        · exact wpAny_pure q
        · exact wpAny_rule q
      · first | exact f1 | (split; exact SetTable.fits_plain_off f1; exact f1) | (split; exact f1; exact SetTable.fits_plain_off f1)
      · first | exact r1 | (split <;> exact r1)
      · first | exact ld | (split <;> exact ld)
      · exact wpAny_pure (hQ true h' sb r)
    · refine wpAny_bind (wpAny_pure ?_)
      simp only [↓reduceIte]
      refine tx_tail ?_ ho hex hd gm n1 b1 f1 r1 ld fun h' sb r => ?_
      · intro b s₁ Q' q
        cases b
        · exact wpAny_pure q
        · exact wpAny_rule q
      · exact wpAny_pure (hQ true h' sb r)
end
section
variable {P : Program} {w : World} {A : Around} {E : Value → Shared → Prop} {s : Shared}
theorem tx_loop {I : Addr} {fp wr : List Addr} {G : Array GenState → Array GenState → Prop} {n : Nat} {Pv : Nat → Value → Prop} {St : Nat → Shared → Prop} {R : Result → Shared → Prop}
    (W : WalksS P w A.in1 I fp wr G n Pv St) (D : Addr) (nD : D ∉ fp) (ys : List Str) (hn : n = ys.length) (hb : ys.length + 1 < scanBound) (hv : ∀ i v, Pv i v → ∃ y t, ys[i]? = some y ∧ v = .str y t) :
    ∀ (m i : Nat) (s : Shared), n - i = m → i ≤ n → St i s → TxSet w s.heap D (ys.take i) → (∀ s', Moved (D :: wr) G s s' → TxSet w s'.heap D ys → R (.ok (.ret .none)) s') →
      codeAny (model P w) A (.builtin "set.update.loop" ⟨[.ref D, .ref I], []⟩) R s := by
  have nW : D ∉ wr := fun q => nD (W.sub _ q)
  have up : ∀ b ∈ wr, b ∈ D :: wr := fun b hb => List.mem_cons_of_mem _ hb
  intro m
  induction m with
  | zero =>
    intro i s hm hi st hS hR
    obtain rfl : i = n := by omega
    refine codeAny_builtin F.entry_set_update_loop ?_
    rw [Around.under_plainId F.plain_set_update_loop _]
    show wpAny _ A.in1 (pyNext (.ref I) >>= _) _ _ s
    refine wpAny_bind (W.done s _ _ st fun s' mv => ?_)
    rw [List.take_of_length_le (by omega)] at hS
    show wpAny _ A.in1 (ret Value.none) _ _ s'
    exact wpAny_pure (hR s' (mv.mono up) (hS.at fun o e => mv.heap D o nW e))
  | succ m ih =>
    intro i s hm hi st hS hR
    have lt : i < n := by omega
    refine codeAny_builtin F.entry_set_update_loop ?_
    rw [Around.under_plainId F.plain_set_update_loop _]
    show wpAny _ A.in1 (pyNext (.ref I) >>= _) _ _ s
    refine wpAny_bind (W.item i s _ _ lt st fun v s' hP st' mv => ?_)
    obtain ⟨y, t, hy, rfl⟩ := hv i v hP
    have hS2 : TxSet w s'.heap D (ys.take i) := hS.at fun o e => mv.heap D o nW e
    show wpAny _ A.in1 (holding [Value.str y t] (setAdd D (.str y t)) >>= _) _ _ s'
    refine wpAny_bind (wpAny_holding ?_)
    unfold setAdd
    refine wpAny_holding (wpAny_bind ((PySem.strKind P w).pyHash (k := y) (strKind_is _ _ _ _) ?_))
    refine tx_add (s := { s' with toks := s'.toks + 1 }) hS2 (by rw [List.length_take]; omega) fun b h' sb hS3 => ?_
    have e3 : ys.take i ++ [y] = ys.take (i + 1) := by rw [List.take_add_one, hy]; rfl
    rw [e3] at hS3
    refine wpAny_pure ⟨plainId_quiet F.plain_set_update_loop _, ih (i + 1) _ (by omega) lt (W.frame _ s' _ _ st' (Nat.le_succ _) fun b hb o e => ?_) hS3 fun s2 mv2 hS4 => ?_⟩
    · rw [sb.2 b fun q : b = D => nD (q ▸ hb)]
      exact e
    · refine hR s2 (Moved.trans W.gtrans ((mv.mono up).then_heap (Nat.le_succ _) fun b o hb e => ?_) mv2) hS4
      rw [sb.2 b fun q : b = D => hb (q ▸ List.mem_cons_self)]
      exact e
abbrev newSet (w : World) : Obj := { cls := .type "set", dict := none, data := .set #[] 0 (.fresh 0 0 (!w.params.followText "set-order")) }
set_option maxHeartbeats 3200000 in
theorem tx_of_list {l : Addr} {items : Array Value} (ys : List Str) {Q : Value → Shared → Prop} (hh : A.handled = none) (hl : s.heap.IsList l items) (hit : StrsAre items.toList ys) (hb : ys.length + 1 < scanBound)
    (k : ∀ (h' : Heap) (tk : Nat), TxSet w h' s.heap.objs.size ys → (∀ b o, s.heap.get? b = some o → h'.get? b = some o) → Q (.ref s.heap.objs.size) { s with heap := h', toks := tk }) : wpAny (model P w) A (call (.type "set") [.ref l]) Q E s := by
  have isz : items.size = ys.length := by rw [← StrsAre.len_eq hit, Array.length_toList]
  obtain ⟨c, tl, hmro⟩ := F.called_set.mro
  have m1 := F.called_set.made
  have m2 := F.called_set.sub
  refine wpAny_call (codeAny_of_tree ?_)
  show wpAny _ _ (callAny (.type "set") _) _ _ _
  refine wpAny_pure ⟨Code.quiet_builtin _ (by decide +kernel), codeAny_builtin F.entry_type_call ?_⟩
  rw [Around.under_plain (weight_type_call_type "set" [.ref l] []) rfl]
  have m3 := F.called_set.notType
  have m4 := F.called_set.canCreate
  have m5 := F.typeCall_set_1 (.ref l)
  repeat (any_goals (first | assumption | wp_step))
  refine codeAny_mono (code_set_led1 (.ref l) (E := E) (Q₁ := fun ob t => ob = .ref s.heap.objs.size ∧ t = { s with heap := s.heap.push (newSet w) }) ⟨rfl, rfl⟩) fun r t hr => ?_
  cases r with
  | error e => exact hr
  | ok fl =>
    cases fl with
    | ret ob =>
      obtain ⟨rfl, rfl⟩ := hr
      have gS : (s.heap.push (newSet w)).get? s.heap.objs.size = some (newSet w) := Heap.get?_push_size _ rfl
      have gT : Shared.TypeIs { s with heap := s.heap.push (newSet w) } (.ref s.heap.objs.size) "set" := ⟨_, gS, rfl⟩
      have m6 := F.called_set.init.lookup
      have m7 := F.called_set.init.bind (.ref s.heap.objs.size)
      repeat (any_goals (first | assumption | wp_step))
      refine codeAny_mono (codeAny_call_builtin (R := wants (fun r t => r = .none ∧ ∃ h' tk, t = { s with heap := h', toks := tk } ∧ TxSet w h' s.heap.objs.size ys ∧ ∀ b o, s.heap.get? b = some o → h'.get? b = some o) E) F.called_set.init.plain F.entry_set_init (check_set_init_1 gT ?_)) fun r2 t2 hr2 => ?_
      · obtain ⟨⟨ocls, odict, odata, oslots⟩, hol, hcl, nl, hdl⟩ := hl
        simp only at hcl hdl
        subst hcl
        subst hdl
        have hol2 : (s.heap.push (newSet w)).get? l = some { cls := .type "list", dict := odict, data := .seq items nl, slots := oslots } := Heap.get?_push_of_some _ hol
        have z1 := F.sub_list_set
        have z2 := F.sub_list_frozenset
        have z3 : (Value.type "list" == Value.type "dict") = false := by decide
        have hl1 : (s.heap.push (newSet w)).IsList l items := ⟨_, hol2, rfl, nl, rfl⟩
        unfold Builtin.«set.__init__» noKeywords Builtin.Frozenset.updateFrom
        generalize hPI : pyIter = PI
        wp_walk
        subst hPI
        refine wpAny_pyIter_list hl1 (wpAny_bind (wpAny_runValue ?_))
        have lS : l < s.heap.objs.size := Heap.lt_size hol
        have h3 : A.in1.in1.in1.handled = none := by simp [hh]
        have z4 : (s.heap.push (newSet w)).objs.size = s.heap.objs.size + 1 := Heap.size_push ..
        have z5 : l ≠ (s.heap.push (newSet w)).objs.size := by
          rw [z4]
          exact Nat.ne_of_lt (Nat.lt_succ_of_lt lS)
        have z6 : s.heap.objs.size ∉ [(s.heap.push (newSet w)).objs.size, l] := by
          rw [z4]
          simp only [List.mem_cons, List.not_mem_nil, or_false, not_or]
          exact ⟨Nat.ne_of_lt (Nat.lt_succ_self _), Nat.ne_of_gt lS⟩
        have hv : ∀ (i : Nat) (v : Value), items[i]? = some v → ∃ y t, ys[i]? = some y ∧ v = .str y t := fun i v q => by
          have hi : i < ys.length := isz ▸ (Array.getElem?_eq_some_iff.mp q).1
          obtain ⟨t, e⟩ := SS.strs_at hit i v (by rw [Array.getElem?_toList]; exact q)
          exact ⟨ys[i], t, List.getElem?_eq_getElem hi, by rw [e, List.getD_eq_getElem?_getD, List.getElem?_eq_getElem hi] <;> rfl⟩
        refine tx_loop ((Walks.list h3 _ l z5 items).toS) s.heap.objs.size z6 ys isz hb hv (items.size - 0) 0 _ (by omega) (Nat.zero_le _) ⟨⟨_, Heap.get?_push_size _ rfl, rfl, rfl⟩, (hl1.push _)⟩ ?tx0 ?tx1
        case tx0 => exact TxSet.nil (Heap.get?_push_of_some _ gS)
        case tx1 =>
          rintro ⟨h', g2, d', tk', os'⟩ mv hS
          obtain rfl : g2 = s.gens := mv.gens
          obtain rfl : d' = s.drawn := mv.drawn
          obtain rfl : os' = s.os := mv.os
          refine wpAny_pure ?_
          show wpAny _ _ (ret Value.none) _ _ _
          refine wpAny_pure ⟨rfl, h', tk', rfl, hS, fun b o e => ?_⟩
          have z7 : b < s.heap.objs.size := Heap.lt_size e
          refine mv.heap b o ?_ (Heap.get?_push_of_some _ (Heap.get?_push_of_some _ e))
          rw [z4]
          simp only [List.mem_cons, List.not_mem_nil, or_false, not_or]
          exact ⟨Nat.ne_of_lt z7, Nat.ne_of_lt (Nat.lt_succ_of_lt z7)⟩
      · cases r2 with
        | error e => exact hr2
        | ok fl2 =>
          cases fl2 with
          | ret r =>
            obtain ⟨rfl, h', tk, rfl, hS, hk⟩ := hr2
            repeat (any_goals (first | assumption | wp_step))
            exact k _ _ hS hk
          | _ => exact hr2.elim
    | _ => exact hr.elim
end
end Tl
namespace Tl
open PySem PySem.Spec PyProof.Rows L2 TL LamX
def nubS : List Str → List Str
  | [] => []
  | x :: r => if x ∈ r then nubS r else x :: nubS r
theorem nubS_mem {y : Str} : ∀ {ys : List Str}, y ∈ nubS ys ↔ y ∈ ys
  | [] => Iff.rfl
  | x :: r => by
    unfold nubS
    by_cases q : x ∈ r
    · rw [if_pos q, nubS_mem, List.mem_cons]
      exact ⟨.inr, fun z => z.elim (fun e => e ▸ q) id⟩
    · rw [if_neg q, List.mem_cons, List.mem_cons, nubS_mem]
theorem nubS_nd : ∀ {ys : List Str}, (nubS ys).Nodup
  | [] => List.nodup_nil
  | x :: r => by
    unfold nubS
    by_cases q : x ∈ r
    · rw [if_pos q]
      exact nubS_nd
    · rw [if_neg q]
      exact List.nodup_cons.mpr ⟨fun z => q (nubS_mem.mp z), nubS_nd⟩
theorem nubS_perm {xs ys : List Str} (hn : xs.Nodup) (h : ∀ y, y ∈ ys ↔ y ∈ xs) : xs.Perm (nubS ys) :=
  (List.perm_ext_iff_of_nodup hn nubS_nd).mpr fun y => (h y).symm.trans nubS_mem.symm
def setS (ys : List Str) : List Str := srtS (nubS ys)
theorem setS_mem {y : Str} {ys : List Str} : y ∈ setS ys ↔ y ∈ ys := (srtS_perm (zs := nubS ys)).mem_iff.trans nubS_mem
theorem setS_nd {ys : List Str} : (setS ys).Nodup := (srtS_perm (zs := nubS ys)).nodup_iff.mpr nubS_nd
def unS (v : Value) : Str := match v with
  | .str y _ => y
  | _ => Str.empty
theorem each_strs {h : Heap} : ∀ {vs : List Value}, (∀ v ∈ vs, ∃ y t, v = Value.str y t) → PySem.W.EachIs (fun v k => ∃ as, Reads h v k as) vs ((vs.map unS).map PyData.str)
  | [], _ => .nil
  | v :: vs, g => by
    obtain ⟨y, t, rfl⟩ := g v List.mem_cons_self
    exact .cons ⟨_, .str y t⟩ (each_strs fun u hu => g u (List.mem_cons_of_mem _ hu))
theorem vals_strs : ∀ {vs : List Value}, (∀ v ∈ vs, ∃ y t, v = Value.str y t) → Vals ((vs.map unS).map V.str) vs
  | [], _ => .nil
  | v :: vs, g => by
    obtain ⟨y, t, rfl⟩ := g v List.mem_cons_self
    exact .cons ⟨t, rfl⟩ (vals_strs fun u hu => g u (List.mem_cons_of_mem _ hu))
theorem keyed_strs (zs : List Str) : keyed (zs.map V.str) (zs.map PyData.str) = (srtS zs).map V.str := by
  unfold keyed srtS
  have e : (zs.map V.str).zip (zs.map PyData.str) = zs.map fun x => (V.str x, PyData.str x) := by
    induction zs with
    | nil => rfl
    | cons x r ih => rw [List.map_cons, List.map_cons, List.map_cons, List.zip_cons_cons, ih]
  have f : ∀ x y : Str, leS x y = PySem.W.dataLe false (Prod.snd : V × PyData → PyData) (.str x, .str x) (.str y, .str y) := fun x y => (leS_data x y).symm
  rw [e, ← PySem.W.sort_maps (r := leS) (fun x => (V.str x, PyData.str x)) fun a _ b _ => f a b, List.map_map]
  rfl
theorem nubS_len : ∀ l : List Str, (nubS l).length ≤ l.length
  | [] => Nat.le_refl 0
  | x :: r => by
    unfold nubS
    split
    · exact Nat.le_succ_of_le (nubS_len r)
    · exact Nat.succ_le_succ (nubS_len r)
theorem setS_len (ys : List Str) : (setS ys).length ≤ ys.length := by
  rw [setS, (srtS_perm (zs := nubS ys)).length_eq]
  exact nubS_len ys
theorem IsAll.unstr {K : PySem.W.Frag} {G : Hp} : ∀ {xs : List V} {zs : List Str}, IsAll K G xs (zs.map D.str) → xs = zs.map V.str
  | [], [], _ => rfl
  | [], _ :: _, h => nomatch h
  | _ :: _, [], h => nomatch h
  | x :: xs, z :: zs, .cons h r => by
    cases h
    rw [IsAll.unstr r]
    rfl
section
variable {P : Program} {w : World} {A : Around} {E : Value → Shared → Prop} {s : Shared} {a : Addr} {ys : List Str}
theorem tx_sorted {Q : Value → Shared → Prop} (R : TxSet w s.heap a ys) (hh : A.handled = none) (hu : A.units + 64 < cLine)
    (k : ∀ s' p (out : Array Value) c, (∀ b o, s.heap.get? b = some o → s'.heap.get? b = some o) → s'.gens = s.gens → s'.os = s.os → s.heap.objs.size ≤ p → s'.heap.get? p = some (seqObj "list" out c) → Vals ((setS ys).map V.str) out.toList → Q (.ref p) s') :
    wpAny (model P w) A (call (.builtin "sorted") [.ref a]) Q E s := by
  obtain ⟨ob, tb, ep, tt, ho, hex, hd, ⟨g, nd, hm⟩, hb, hf, hn, hr, hl⟩ := R
  refine Calls.call_function_entry kind_sorted plain_sorted entry_sorted (args_sorted1 _) ?_
  unfold Builtin.«sorted»
  refine wpAny_bind (m := checkCount "sorted" 1 1 _) (wpAny_pure (wpAny_bind (collect_set (A := A.in1) hh ⟨ob, ho, hex.1, hd⟩ hf hb hr hl fun s1 vs k1 hz g1 o1 pm => ?_)))
  have vl : vs.length = tb.size := by rw [pm.length_eq, List.length_map, Array.length_toList]
  have vz : vs.length ≤ sizeLine := by
    rw [vl, sizeLine_eq]
    exact Nat.le_trans (Nat.le_of_lt hb) (by decide)
  have st : ∀ v ∈ vs, ∃ y t, v = Value.str y t := fun v hv => by
    obtain ⟨z, hz, rfl⟩ := List.mem_map.mp (pm.mem_iff.mp hv)
    obtain ⟨y, t, e, _⟩ := g z hz
    exact ⟨y, t, e⟩
  have ku : (vs.map unS).Perm (tb.toList.map txOf) := by
    have q := pm.map unS
    rw [List.map_map] at q
    exact q
  have one : srtS (vs.map unS) = setS ys := srtS_one (ku.trans (nubS_perm nd hm))
  refine wpAny_bind (wpAny_newList ?_ vz)
  have oL : (s1.heap.push (seqObj "list" vs.toArray 0)).get? s1.heap.objs.size = some (seqObj "list" vs.toArray 0) := Heap.get?_push_size _ rfl
  have hal : PySem.W.AllAlike ((vs.map unS).map PyData.str) := fun d h1 d' h2 => by
    obtain ⟨x, _, rfl⟩ := List.mem_map.mp h1
    obtain ⟨y, _, rfl⟩ := List.mem_map.mp h2
    simp [PySem.W.alike]
  have hso : PySem.W.Sortable ((vs.map unS).map PyData.str) := .inr fun d h1 => by
    obtain ⟨x, _, rfl⟩ := List.mem_map.mp h1
    exact ⟨(fun z => nomatch z), fun _ z => nomatch z⟩
  refine wpAny_bind (wpAny_holding (wpAny_call_entry slot_list_sort ⟨_, oL, rfl⟩ entry_list_sort ?_ (args_list_sort _)))
  refine PySem.W.list_sort_vals (κ := PySem.W.dataKind (PySem.W.sortingHeap (s1.heap.push (seqObj "list" vs.toArray 0)) s1.heap.objs.size vs) ((vs.map unS).map PyData.str)) oL (PySem.W.SortsAt.data (s := { s1 with heap := PySem.W.sortingHeap (s1.heap.push (seqObj "list" vs.toArray 0)) s1.heap.objs.size vs }) (each_strs st) hal hso fun d h1 => ?_) vz ?_
  · obtain ⟨x, _, rfl⟩ := List.mem_map.mp h1
    have : (PyData.str x).depth ≤ 1 := by simp [PyData.depth]
    show A.units + 1 + 1 + _ < cLine
    omega
  generalize hout : PySem.W.sortVals (PySem.W.dataKind (PySem.W.sortingHeap (s1.heap.push (seqObj "list" vs.toArray 0)) s1.heap.objs.size vs) ((vs.map unS).map PyData.str)) false vs vs = out
  have vv : Vals ((setS ys).map V.str) out := by
    have hb : ((((vs.map unS).map V.str).zip ((vs.map unS).map PyData.str)).map Prod.snd) = (vs.map unS).map PyData.str := List.map_snd_zip (by simp)
    have ko : PySem.W.KeyedOut false ((((vs.map unS).map V.str).zip ((vs.map unS).map PyData.str)).map Prod.snd) vs out := by
      rw [hb]
      exact ⟨_, vs, hal, hout.symm, each_strs st⟩
    have q : Vals (keyed ((vs.map unS).map V.str) ((vs.map unS).map PyData.str)) out := vals_each (PySem.W.keyedOut_each Prod.snd ko (each_zip (vals_strs st) (by simp)))
    rw [keyed_strs, one] at q
    exact q
  obtain ⟨c, hc⟩ := sortedHeap_at (vs := vs) (out := out.toArray) oL
  refine ⟨_, rfl, wpAny_pure ⟨_, rfl, k _ s1.heap.objs.size out.toArray c (fun b o e => ?_) g1 o1 hz hc (by simpa using vv)⟩⟩
  have q := k1 b o e
  have lt := Heap.lt_size q
  show (sortedHeap (s1.heap.push (seqObj "list" vs.toArray 0)) s1.heap.objs.size vs out.toArray).get? b = some o
  rw [sortedHeap_old (Nat.ne_of_lt lt) (by rw [size_push']; exact Nat.lt_succ_of_lt lt)]
  exact Heap.get?_push_of_some _ q
end
def TxO (w : World) (a : Addr) (ys : List Str) : HO := .ext fun h => TxSet w h a ys
theorem txO_new {w : World} {P : Program} {H : Hp} {h : Heap} {a : Addr} {ys : List Str} (R : TxSet w h a ys) : ObjOk P w H h a (TxO w a ys) :=
  ⟨R, by obtain ⟨ob, _, _, _, q, _⟩ := R; exact ⟨ob, q⟩, fun h1 h2 r st => TxSet.at r fun o q => st o q⟩
def rSetTx (K : PySem.W.Frag) (w : World) : List V → Hp → VK → Prop := fun vs H Q => ∃ (l : Addr) (ys : List Str), vs = [V.ref l] ∧ SqL K H l (ys.map V.str) ∧ ys.length < 4000 ∧ ∀ p, H p = none → Q (.ref p) (upd H p (TxO w p ys))
theorem cr_setTx {X : Cx} {K : PySem.W.Frag} (hK : X.K = K) (hc : X.calm = true) : CallR X (.type "set") (rSetTx K X.w) := by
  subst hK
  intro pins s σ H vs us Q I r h
  obtain ⟨l, ys, rfl, hs, hl, q⟩ := h
  obtain ⟨its, rv, hL, hz⟩ := I.list hs
  rw [Vals.ref1 r]
  refine tx_of_list ys (I.ok.hd hc) hL.isList (by simpa using strsAre_of rv) (Nat.lt_of_lt_of_le (Nat.succ_lt_succ hl) (by decide)) fun h' tk R hk => ?_
  exact ⟨.ref _, upd H s.heap.objs.size (TxO X.w s.heap.objs.size ys), I.laid (fun b u e => hk b u e) (Nat.le_refl _) (txO_new R), rfl, q _ (I.hok.fresh (Nat.le_refl _))⟩
def rSortTx (w : World) : List V → Hp → VK → Prop := fun vs H Q => ∃ (a : Addr) (ys : List Str), vs = [V.ref a] ∧ H a = some (TxO w a ys) ∧ ys.length < 4000 ∧ ∀ p, H p = none → Q (.ref p) (upd H p (.lst ((setS ys).map V.str)))
theorem cr_sortTx {X : Cx} (hc : X.calm = true) (hu : X.A.units + 64 < cLine) : CallR X (.builtin "sorted") (rSortTx X.w) := by
  intro pins s σ H vs us Q I r h
  obtain ⟨a, ys, rfl, ha, hl, q⟩ := h
  rw [Vals.ref1 r]
  have R : TxSet X.w s.heap a ys := (I.hok a _ ha).1
  refine tx_sorted R (I.ok.hd hc) hu fun s' p out c hk hg hos hp hat vv => ?_
  have n0 : H p = none := I.hok.fresh hp
  have z : ((setS ys).map V.str).length ≤ sizeLine := by
    rw [List.length_map, sizeLine_eq]
    have := setS_len ys
    omega
  have J : Inv X pins σ (upd H p (.lst ((setS ys).map V.str))) { s with heap := s'.heap, gens := s'.gens, drawn := s'.drawn, toks := s'.toks } := I.call (ch := []) (Un.laid hk hp n0) (I.hok.laid hk hp ⟨z, out.toList, c, vv, by simpa using hat⟩) (by rw [hg]; exact I.bare) fun _ q => nomatch q
  have e : s' = { s with heap := s'.heap, gens := s'.gens, drawn := s'.drawn, toks := s'.toks } := by
    cases s'
    cases s
    cases hos
    rfl
  rw [e]
  exact ⟨.ref p, _, J, rfl, q p n0⟩
section
variable [Tabl] {K : PySem.W.Frag} {Z : XZ} {B : Option Addr} {δ : List Slot} {n : Sto} {Φ : D → Sto → Prop} {ta : TE}
theorem gk_sortSet {w : World} (h : GK K Z ta δ n fun d n1 => ∃ zs : List Str, d = .lst (zs.map D.str) ∧ zs.length < 4000 ∧ Φ (.lst ((setS zs).map D.str)) n1) : GK K Z (tCB (rSortTx w) (tCons (tCB (rSetTx K w) (tCons ta tNil)) tNil)) δ n Φ := fun B M G0 H0 xw G H σ E Q q =>
  h B M G0 H0 xw G H σ E _ fun v d G1 H1 n1 f1 E1 s1 a1 => by
    obtain ⟨zs, rfl, hl, f1⟩ := f1
    cases a1 with
    | @lst p xs _ h1 a1 =>
      have e : xs = zs.map V.str := a1.unstr
      subst e
      refine ⟨p, zs, rfl, SqL.of (E1.sub _ _ h1), hl, fun c hc => ?_⟩
      have E2 := E1.newc (o := TxO w c zs) hc
      refine ⟨c, zs, rfl, upd_same, hl, fun c2 hc2 => ?_⟩
      have s2 : ∀ o, Sub G1 (upd G1 c2 o) := fun o => Sub.new (E2.sub.none hc2)
      exact q _ _ _ _ n1 f1 (E2.laid hc2) (s1.trans (s2 _)) (.lst upd_same (IsAll.strs _))
end
end Tl
namespace Tl
open PySem PySem.Spec PyProof.Rows L2 TL LamX
section
variable [Tabl] {K : PySem.W.Frag} {Z : XZ} {δ : List Slot} {n : Sto} {te : TE}
end
end Tl
namespace Tl
open PySem PySem.Spec PyProof.Rows L2 TL LamX
def zipD : List D → List D → List D
  | x :: xs, y :: ys => .tup [x, y] :: zipD xs ys
  | _, _ => []
theorem zipD_at : ∀ {xs ys : List D} {i : Nat} {d : D}, (zipD xs ys)[i]? = some d → ∃ x y, d = .tup [x, y] ∧ xs[i]? = some x ∧ ys[i]? = some y
  | [], _, i, d, h => by simp [zipD] at h
  | x :: xs, [], i, d, h => by simp [zipD] at h
  | x :: xs, y :: ys, 0, d, h => ⟨x, y, (Option.some.inj h).symm, rfl, rfl⟩
  | x :: xs, y :: ys, i + 1, d, h => zipD_at (xs := xs) (ys := ys) (i := i) h
theorem zipD_len : ∀ {xs ys : List D}, (zipD xs ys).length = min xs.length ys.length
  | [], ys => by simp [zipD]
  | x :: xs, [] => by simp [zipD]
  | x :: xs, y :: ys => by
    rw [zipD, List.length_cons, zipD_len, List.length_cons, List.length_cons]
    omega
section
variable [Tabl] {K : PySem.W.Frag} {Z : XZ} {δ : List Slot} {n : Sto} {te : TE} {aa : TA} {Φ : D → Sto → Prop}
end
end Tl
namespace Tl
open PySem PySem.Spec PyProof.Rows L2 TL LamX
section
variable [Tabl] {K : PySem.W.Frag} {Z : XZ} {B : Option Addr} {δ : List Slot} {n : Sto} {Φ : D → Sto → Prop} {ta te : TE} {N Bk Ct : List Slot → Sto → Prop} {R : D → Sto → Prop} {ts : TS}
end
end Tl
namespace Tl
open PySem PySem.Spec PyProof.Rows L2 TL LamX
def lkS : List Addr → TS → TS
  | [], ts => ts
  | d :: r, ts => fun D σ H => ∃ u, H d = some u ∧ Mut (some u) ∧ ∀ od, lkS r ts D σ (upd H d (.frz od u))
def tLockS (ts : TS) : TS := fun D σ H => ∃ L, lkS L ts D σ H
section
variable {X : Cx} {st : Stmt} {t : TS}
theorem ps_lkS (h : PS X st t) : ∀ L, PS X st (lkS L t)
  | [] => h
  | d :: r => ⟨fun pins s σ H D I hw => by
    obtain ⟨u, hd, mu, hw⟩ := hw
    obtain ⟨od, I1⟩ := I.lock hd mu
    exact (ps_lkS h r).run pins s σ _ D I1 (hw od)⟩
theorem ps_lockS (h : PS X st t) : PS X st (tLockS t) := ⟨fun pins s σ H D I ⟨L, hw⟩ => (ps_lkS h L).run pins s σ H D I hw⟩
end
def Up (q : Addr) (e x y : D) : Prop := x = y ∨ (x = .ptr q ∧ y = e)
inductive UpKv (q : Addr) (e : D) : List (Key × D) → List (Key × D) → Prop
  | nil : UpKv q e [] []
  | cons {k : Key} {x y : D} {xs ys : List (Key × D)} (h : Up q e x y) (r : UpKv q e xs ys) : UpKv q e ((k, x) :: xs) ((k, y) :: ys)
theorem UpKv.refl {q : Addr} {e : D} : ∀ xs : List (Key × D), UpKv q e xs xs
  | [] => .nil
  | (k, x) :: xs => .cons (.inl rfl) (UpKv.refl xs)
theorem UpKv.app {q : Addr} {e : D} {xs ys us vs : List (Key × D)} (h : UpKv q e xs ys) (g : UpKv q e us vs) : UpKv q e (xs ++ us) (ys ++ vs) := by
  induction h with
  | nil => exact g
  | cons h _ ih => exact .cons h ih
def UpO (q : Addr) (e : D) (o o' : MO) : Prop := o = o' ∨ ∃ es es', o = .dic es ∧ o' = .dic es' ∧ UpKv q e es es'
def UpS (q : Addr) (e : D) (s s' : Slot) : Prop := s = s' ∨ ∃ x y, s = .d x ∧ s' = .d y ∧ Up q e x y
theorem Up.is {K : PySem.W.Frag} {G : Hp} {q : Addr} {e x y : D} {v : V} (h : Up q e x y) (a : Is K G v x) (b : Is K G (.ref q) e) : Is K G v y := by
  rcases h with rfl | ⟨rfl, rfl⟩
  · exact a
  · cases a
    exact b
theorem UpKv.is {K : PySem.W.Frag} {G : Hp} {q : Addr} {e : D} {xs ys : List (Key × D)} (h : UpKv q e xs ys) (b : Is K G (.ref q) e) : ∀ {vs : List (Key × V)}, IsKv K G vs xs → IsKv K G vs ys := by
  induction h with
  | nil => exact fun a => a
  | cons h _ ih =>
    intro vs a
    cases a with
    | cons a1 a2 => exact .cons (h.is a1 b) (ih a2)
section
variable [Tabl] {K : PySem.W.Frag} {Z : XZ} {B : Option Addr} {M : Addr → Prop} {δ δ' : List Slot} {n n' : Sto} {N Bk Ct : List Slot → Sto → Prop} {R : D → Sto → Prop} {ts : TS} {G0 H0 G H : Hp} {σ : L2.St} {q : Addr} {e : D}
theorem En.up (E : En K B M n G0 H0 G H σ δ) (b : Is K G (.ref q) e) (hl : δ'.length = δ.length) (hδ : ∀ (i : Nat) (s' : Slot), δ'[i]? = some s' → ∃ s, δ[i]? = some s ∧ UpS q e s s') (hn : n'.n = n.n) (hμ : ∀ a o', n'.μ a = some o' → ∃ o, n.μ a = some o ∧ UpO q e o o') : En K B M n' G0 H0 G H σ δ' := by
  have ow : ∀ {i : Nat} {x : MO}, δ'[i]? = some (.ow x) → δ[i]? = some (.ow x) := fun {i x} h => by
    obtain ⟨s, h1, h2⟩ := hδ i _ h
    rcases h2 with rfl | ⟨_, _, _, z, _⟩
    · exact h1
    · cases z
  refine ⟨E.sub0, E.sub, E.same, E.free, E.fresh, fun p hp => ?_, E.tabs, E.tin, E.gnt, by rw [hl]; exact E.len, fun i s' hs' => ?_, fun i j p x y hi hj => E.dis i j p x y (ow hi) (ow hj), fun a o' ha => ?_, fun i x a hi hs => ?_⟩
  · rw [hn]
    exact E.bagged p hp
  · obtain ⟨s, h1, h2⟩ := hδ i s' hs'
    have ok := E.slot i s h1
    rcases h2 with rfl | ⟨x, y, rfl, rfl, u⟩
    · exact ok
    · obtain ⟨v, e1, a⟩ := ok
      exact ⟨v, e1, u.is a b⟩
  · obtain ⟨o, h1, h2⟩ := hμ a o' ha
    obtain ⟨m1, m2⟩ := E.mob a o h1
    refine ⟨?_, m2⟩
    rcases h2 with rfl | ⟨es, es', rfl, rfl, u⟩
    · exact m1
    · obtain ⟨vs, w1, w2⟩ := m1
      exact ⟨vs, w1, u.is b w2⟩
  · cases z : n'.μ a with
    | none => rfl
    | some o' =>
      obtain ⟨o, h1, _⟩ := hμ a o' z
      have := E.mow i x a (ow hi) hs
      rw [this] at h1
      cases h1
theorem gs_lk1 {r : List Addr} {es : List (Key × D)} (hq : n.μ q = some (.dic es)) (δ' : List Slot) (n' : Sto) (hl : δ'.length = δ.length) (hδ : ∀ (i : Nat) (s' : Slot), δ'[i]? = some s' → ∃ s, δ[i]? = some s ∧ UpS q (.dct es) s s') (hn : n'.n = n.n) (hμ : ∀ a o', n'.μ a = some o' → a ≠ q ∧ ∃ o, n.μ a = some o ∧ UpO q (.dct es) o o')
    (h : GS K Z B (lkS r ts) δ' n' N R Bk Ct) : GS K Z B (lkS (q :: r) ts) δ n N R Bk Ct := fun m0 G0 H0 xw G H σ D E hn' hr hb hc => by
  obtain ⟨vs, hu, hv⟩ := E.mdic hq
  refine ⟨_, hu, trivial, fun od => ?_⟩
  have gp := (E.mob q _ hq).2.1
  have sg : Sub G (upd G q (.frz od (.dK vs))) := Sub.new gp
  have E1 := (E.mlock od hq hu).up (n' := n') (δ' := δ') (q := q) (e := .dct es) (.dct upd_same (hv.mono sg)) hl hδ hn fun a o' ha => by
    obtain ⟨ne, o, h1, h2⟩ := hμ a o' ha
    exact ⟨o, (Sto.off_ne ne).trans h1, h2⟩
  exact h m0 G0 H0 xw _ _ σ D E1 (fun σ2 δ2 G2 H2 n2 q2 e2 s2 => hn' σ2 δ2 G2 H2 n2 q2 e2 (sg.trans s2)) hr (fun σ2 δ2 G2 H2 n2 q2 e2 s2 => hb σ2 δ2 G2 H2 n2 q2 e2 (sg.trans s2)) (fun σ2 δ2 G2 H2 n2 q2 e2 s2 => hc σ2 δ2 G2 H2 n2 q2 e2 (sg.trans s2))
theorem gs_lockS (L : List Addr) (h : GS K Z B (lkS L ts) δ n N R Bk Ct) : GS K Z B (tLockS ts) δ n N R Bk Ct := fun m0 G0 H0 xw G H σ D E hn hr hb hc => ⟨L, h m0 G0 H0 xw G H σ D E hn hr hb hc⟩
end
end Tl
namespace Tl
open PySem PySem.Spec PyProof.Rows L2 TL LamX
def rLenRd : List V → Hp → VK → Prop := fun xs H Q => ∃ a kvs, xs = [V.ref a] ∧ Rd H a (.dK kvs) ∧ Q (.int kvs.length) H
theorem cr_lenRd {X : Cx} : CallR X (.builtin "len") rLenRd := by
  intro pins s σ H xs us Q I r h
  obtain ⟨a, kvs, rfl, ha, q⟩ := h
  rw [Vals.ref1 r]
  exact d_len I ha fun t s' I' => ⟨.int kvs.length, H, I', ⟨t, rfl⟩, q⟩
def rSortDk : List V → Hp → VK → Prop := fun vs H Q => ∃ (a : Addr) (kvs : List (Key × V)) (ks : List Str), vs = [V.ref a] ∧ Rd H a (.dK kvs) ∧ kvs.map (·.1) = ks.map Sum.inr ∧ ∀ p, H p = none → Q (.ref p) (upd H p (.lst ((srtS ks).map V.str)))
theorem cr_sortDk {X : Cx} (hc : X.calm = true) (hu : X.A.units + 64 < cLine) : CallR X (.builtin "sorted") rSortDk := by
  intro pins s σ H us0 us Q I r h
  obtain ⟨a, kvs, ks, rfl, ha, hks, q⟩ := h
  rw [Vals.ref1 r]
  obtain ⟨z, lo, ws, rel, dd⟩ := dk_rd I.hok ha
  obtain ⟨ep, hat⟩ := dd.dictAt
  have wk : ws.map (·.1) = ks.map Sum.inr := rel.keys.symm.trans hks
  have wl : ws.length = ks.length := by
    have e := congrArg List.length wk
    simpa using e
  have kl : ks.length = kvs.length := by
    have e := congrArg List.length hks
    simpa using e.symm
  refine Calls.call_function_entry kind_sorted plain_sorted entry_sorted (args_sorted1 _) ?_
  unfold Builtin.«sorted»
  refine wpAny_bind (m := checkCount "sorted" 1 1 _) (wpAny_pure (wpAny_bind (PySem.W.kdu_collect (A := X.A.in1) (PySem.W.kdl_dict (knd := mixKind X.prog X.w) (kvs := ws) (ep := ep) lo) (I.ok.hd hc) hat (by rw [wl, kl]; exact z) fun h' tk acc hk hacc => ?_)))
  generalize hvs : acc.toList = vs
  have vl : vs.length = ks.length := by rw [← hvs, Array.length_toList, hacc.1, wl]
  have vz : vs.length ≤ sizeLine := by
    rw [vl, kl]
    exact z
  have at_ : ∀ (j : Nat) (v : Value), vs[j]? = some v → ∃ y t, ks[j]? = some y ∧ v = Value.str y t := fun j v e => by
    obtain ⟨k, x, e1, e2⟩ := hacc.2 j v (by rw [← Array.getElem?_toList, hvs]; exact e)
    have e3 : (ws.map (·.1))[j]? = some k := by rw [List.getElem?_map, e1]; rfl
    rw [wk, List.getElem?_map] at e3
    obtain ⟨y, e4, e5⟩ := Option.map_eq_some_iff.mp e3
    subst e5
    obtain ⟨t, ev⟩ := Value.isStrOf_shape (x := y) (v := v) e2
    exact ⟨y, t, e4, ev⟩
  have st : ∀ v ∈ vs, ∃ y t, v = Value.str y t := fun v hv => by
    obtain ⟨j, hj⟩ := List.mem_iff_getElem?.mp hv
    obtain ⟨y, t, _, e⟩ := at_ j v hj
    exact ⟨y, t, e⟩
  have ku : vs.map unS = ks := by
    refine List.ext_getElem? fun j => ?_
    rw [List.getElem?_map]
    cases e : vs[j]? with
    | none =>
      have := List.getElem?_eq_none_iff.mp e
      rw [List.getElem?_eq_none (by omega)]
      rfl
    | some v =>
      obtain ⟨y, t, e1, rfl⟩ := at_ j v e
      rw [e1]
      rfl
  have I1 : Inv X pins σ H { s with heap := h', toks := tk } := I.kept hk
  refine wpAny_bind (wpAny_newList ?_ vz)
  have oL : (h'.push (seqObj "list" vs.toArray 0)).get? h'.objs.size = some (seqObj "list" vs.toArray 0) := Heap.get?_push_size _ rfl
  show wpAny _ _ _ _ _ { s with heap := h'.push (seqObj "list" vs.toArray 0), toks := tk }
  have hal : PySem.W.AllAlike ((vs.map unS).map PyData.str) := fun d h1 d' h2 => by
    obtain ⟨x, _, rfl⟩ := List.mem_map.mp h1
    obtain ⟨y, _, rfl⟩ := List.mem_map.mp h2
    simp [PySem.W.alike]
  have hso : PySem.W.Sortable ((vs.map unS).map PyData.str) := .inr fun d h1 => by
    obtain ⟨x, _, rfl⟩ := List.mem_map.mp h1
    exact ⟨(fun z => nomatch z), fun _ z => nomatch z⟩
  refine wpAny_bind (wpAny_holding (wpAny_call_entry slot_list_sort ⟨_, oL, rfl⟩ entry_list_sort ?_ (args_list_sort _)))
  refine PySem.W.list_sort_vals (κ := PySem.W.dataKind (PySem.W.sortingHeap (h'.push (seqObj "list" vs.toArray 0)) h'.objs.size vs) ((vs.map unS).map PyData.str)) oL (PySem.W.SortsAt.data (s := { s with heap := PySem.W.sortingHeap (h'.push (seqObj "list" vs.toArray 0)) h'.objs.size vs, toks := tk }) (each_strs st) hal hso fun d h1 => ?_) vz ?_
  · obtain ⟨x, _, rfl⟩ := List.mem_map.mp h1
    have : (PyData.str x).depth ≤ 1 := by simp [PyData.depth]
    show X.A.units + 1 + 1 + _ < cLine
    omega
  generalize hout : PySem.W.sortVals (PySem.W.dataKind (PySem.W.sortingHeap (h'.push (seqObj "list" vs.toArray 0)) h'.objs.size vs) ((vs.map unS).map PyData.str)) false vs vs = out
  have vv : Vals ((srtS ks).map V.str) out := by
    have hb : ((((vs.map unS).map V.str).zip ((vs.map unS).map PyData.str)).map Prod.snd) = (vs.map unS).map PyData.str := List.map_snd_zip (by simp)
    have ko : PySem.W.KeyedOut false ((((vs.map unS).map V.str).zip ((vs.map unS).map PyData.str)).map Prod.snd) vs out := by
      rw [hb]
      exact ⟨_, vs, hal, hout.symm, each_strs st⟩
    have q : Vals (keyed ((vs.map unS).map V.str) ((vs.map unS).map PyData.str)) out := vals_each (PySem.W.keyedOut_each Prod.snd ko (each_zip (vals_strs st) (by simp)))
    rw [keyed_strs, ku] at q
    exact q
  obtain ⟨c, hcc⟩ := sortedHeap_at (vs := vs) (out := out.toArray) oL
  have sz : ((srtS ks).map V.str).length ≤ sizeLine := by
    rw [List.length_map, srtS_perm.length_eq, kl]
    exact z
  refine ⟨_, rfl, wpAny_pure ⟨_, rfl, .ref h'.objs.size, upd H h'.objs.size (.lst ((srtS ks).map V.str)), I1.laid (t' := tk) (fun b o e => ?_) (Nat.le_refl _) ⟨sz, out, c, vv, hcc⟩, rfl, q _ (I1.hok.fresh (Nat.le_refl _))⟩⟩
  have lt := Heap.lt_size e
  rw [sortedHeap_old (Nat.ne_of_lt lt) (by rw [size_push']; exact Nat.lt_succ_of_lt lt)]
  exact Heap.get?_push_of_some _ e
end Tl
namespace Tl
open PySem PySem.Spec PyProof.Rows L2 TL LamX
section
variable [Tabl] {K : PySem.W.Frag} {Z : XZ} {B : Option Addr} {δ : List Slot} {n : Sto} {Φ : D → Sto → Prop} {ta tb tc te : TE} {N Bk Ct : List Slot → Sto → Prop} {R : D → Sto → Prop} {ts : TS}
theorem rc_lenDA {x : D} {es : List (Key × D)} (hx : DicAt n x es) (k : Φ (.int es.length) n) : RC K Z rLenRd [x] δ n Φ := fun B M G0 H0 xw G H σ E vs a Q q => by
  cases a with
  | cons a r =>
    cases r
    obtain ⟨p, ws, rfl, rd, kv⟩ := hx.get E a
    exact ⟨p, ws, rfl, rd, q _ _ G H n (by rw [kv.len]; exact k) E (Sub.refl G) (.int _)⟩
theorem rc_sortDA {x : D} {es : List (Key × D)} {ks : List Str} (hx : DicAt n x es) (hk : es.map (·.1) = ks.map Sum.inr) (k : Φ (.lst ((srtS ks).map D.str)) n) : RC K Z rSortDk [x] δ n Φ := fun B M G0 H0 xw G H σ E vs a Q q => by
  cases a with
  | cons a r =>
    cases r
    obtain ⟨p, ws, rfl, rd, kv⟩ := hx.get E a
    have keys : ∀ {ws : List (Key × V)} {es : List (Key × D)}, IsKv K G ws es → ws.map (·.1) = es.map (·.1) := fun {ws es} h => by
      clear kv rd hx hk
      induction ws generalizing es with
      | nil => cases h; rfl
      | cons w ws ih =>
        cases h with
        | cons _ r => rw [List.map_cons, List.map_cons, ih r]
    refine ⟨p, ws, ks, rfl, rd, (keys kv).trans hk, fun c hc => ?_⟩
    have s2 : ∀ o, Sub G (upd G c o) := fun o => Sub.new (E.sub.none hc)
    exact q _ _ _ _ n k (E.laid hc) (s2 _) (.lst upd_same (IsAll.strs _))
theorem rc_listDA {x : D} {es : List (Key × D)} (hx : DicAt n x es) (k : Φ (.lst (es.map fun kv => keyD kv.1)) n) :
    RC K Z (fun xs H Q => ∃ (a : Addr) (kvs : List (Key × V)), xs = [.ref a] ∧ Rd H a (.dK kvs) ∧ ∀ p, H p = none → Q (.ref p) (upd H p (.lst (kvs.map fun kv => kV kv.1)))) [x] δ n Φ := fun B M G0 H0 xw G H σ E vs a Q q => by
  cases a with
  | cons a r =>
    cases r
    obtain ⟨p, ws, rfl, rd, kv⟩ := hx.get E a
    have keys : ∀ {ws : List (Key × V)} {es : List (Key × D)} {G' : Hp}, IsKv K G ws es → IsAll K G' (ws.map fun kv => kV kv.1) (es.map fun kv => keyD kv.1) := fun {ws es G'} h => by
      clear kv rd hx k
      induction ws generalizing es with
      | nil => cases h; exact .nil
      | cons w ws ih =>
        cases h with
        | @cons kk _ _ _ _ _ r =>
          refine .cons ?_ (ih r)
          cases kk with
          | inl i => exact .int i
          | inr z => exact .str z
    refine ⟨p, ws, rfl, rd, fun c hc => ?_⟩
    have s2 : ∀ o, Sub G (upd G c o) := fun o => Sub.new (E.sub.none hc)
    exact q _ _ _ _ n k (E.laid hc) (s2 _) (.lst upd_same (keys kv))
theorem rc_dictDA {x : D} {es : List (Key × D)} (hx : DicAt n x es) (k : ∀ p, n.μ p = none → Φ (.ptr p) (n.put p (.dic es))) :
    RC K Z (fun xs H Q => ∃ (a : Addr) (kvs : List (Key × V)), xs = [.ref a] ∧ Rd H a (.dK kvs) ∧ ∀ p, H p = none → Q (.ref p) (upd H p (.dK kvs))) [x] δ n Φ := fun B M G0 H0 xw G H σ E vs a Q q => by
  cases a with
  | cons a r =>
    cases r
    obtain ⟨p, ws, rfl, rd, kv⟩ := hx.get E a
    exact ⟨p, ws, rfl, rd, fun c hc => q _ _ _ _ _ (k c (E.nomob hc)) (E.mnew hc ⟨_, upd_same, kv⟩) (Sub.refl G) (.ptr c)⟩
theorem dget_any {M : Addr → Prop} {G0 H0 G H : Hp} {σ : L2.St} {x : D} {es : List (Key × D)} {k : Key} {v : V} (E : En K B M n G0 H0 G H σ δ) (hx : DicAt n x es) (a : Is K G v x) :
    ∃ p, v = .ref p ∧ IsD H p ∧ ∃ o, DGet H p (kV k) o ∧ ((o = none ∧ getD' es k = none) ∨ ∃ u d, o = some u ∧ getD' es k = some d ∧ Is K G u d) := by
  obtain ⟨p, ws, rfl, rd, kv⟩ := hx.get E a
  refine ⟨p, rfl, .inl ⟨ws, rd⟩, valV ws k, .inl ⟨ws, k, rd, rfl, rfl⟩, ?_⟩
  cases g : getD' es k with
  | none => exact .inl ⟨kv.get0 g, rfl⟩
  | some d =>
    obtain ⟨u, hu, iu⟩ := kv.get g
    exact .inr ⟨u, d, hu, rfl, iu⟩
theorem gk_get1A (h : GK K Z ta δ n fun x n1 => ∃ es, DicAt n1 x es ∧ GK K Z tb δ n1 fun y n2 => ∃ k, n2 = n1 ∧ y = keyD k ∧ Φ ((getD' es k).getD .non) n2) : GK K Z (tDGet1 ta tb) δ n Φ := fun B M G0 H0 xw G H σ E Q q =>
  h B M G0 H0 xw G H σ E _ fun v x G1 H1 n1 ⟨es, hx, f1⟩ E1 s1 a1 => by
    obtain ⟨p0, e0, id0, _⟩ := dget_any (k := .inl 0) E1 hx a1
    subst e0
    refine ⟨p0, rfl, id0, f1 B M G0 H0 xw G1 H1 σ E1 _ fun w y G2 H2 n2 ⟨k, e2, ey, f2⟩ E2 s2 a2 => ?_⟩
    subst e2 ey
    obtain ⟨p, e, _, o, g, c⟩ := dget_any (k := k) E2 hx (a1.mono s2)
    cases e
    rw [a2.key]
    refine ⟨o, g, ?_⟩
    rcases c with ⟨rfl, c⟩ | ⟨u, d2, rfl, c, iu⟩
    · rw [c] at f2
      exact q _ _ G2 H2 _ f2 E2 (s1.trans s2) .non
    · rw [c] at f2
      exact q _ _ G2 H2 _ f2 E2 (s1.trans s2) iu
theorem gk_get2A (h : GK K Z ta δ n fun x n1 => ∃ es, DicAt n1 x es ∧ GK K Z tb δ n1 fun y n2 => ∃ k, n2 = n1 ∧ y = keyD k ∧ GK K Z tc δ n2 fun z n3 => ∃ es3, DicAt n3 x es3 ∧ Φ ((getD' es3 k).getD z) n3) : GK K Z (tDGet2 ta tb tc) δ n Φ := fun B M G0 H0 xw G H σ E Q q =>
  h B M G0 H0 xw G H σ E _ fun v x G1 H1 n1 ⟨es, hx, f1⟩ E1 s1 a1 => by
    obtain ⟨p0, e0, id0, _⟩ := dget_any (k := .inl 0) E1 hx a1
    subst e0
    refine ⟨p0, rfl, id0, f1 B M G0 H0 xw G1 H1 σ E1 _ fun w y G2 H2 n2 ⟨k, e2, ey, f2⟩ E2 s2 a2 => f2 B M G0 H0 xw G2 H2 σ E2 _ fun w3 z G3 H3 n3 ⟨es3, hx3, f3⟩ E3 s3 a3 => ?_⟩
    subst e2 ey
    obtain ⟨p, e, _, o, g, c⟩ := dget_any (k := k) E3 hx3 ((a1.mono s2).mono s3)
    cases e
    rw [a2.key]
    refine ⟨o, g, ?_⟩
    rcases c with ⟨rfl, c⟩ | ⟨u, d2, rfl, c, iu⟩
    · rw [c] at f3
      exact q _ _ G3 H3 _ f3 E3 ((s1.trans s2).trans s3) a3
    · rw [c] at f3
      exact q _ _ G3 H3 _ f3 E3 ((s1.trans s2).trans s3) iu
theorem gk_inA (h : GK K Z ta δ n fun y n1 => GK K Z tb δ n1 fun x n2 => ∃ es k, DicAt n2 x es ∧ y = keyD k ∧ Φ (.bl (getD' es k).isSome) n2) : GK K Z (tDIn ta tb) δ n Φ := fun B M G0 H0 xw G H σ E Q q =>
  h B M G0 H0 xw G H σ E _ fun w y G1 H1 n1 f1 E1 s1 a1 => f1 B M G0 H0 xw G1 H1 σ E1 _ fun v x G2 H2 n2 ⟨es, k, hx, ey, f2⟩ E2 s2 a2 => by
    subst ey
    obtain ⟨p, rfl, _, o, g, c⟩ := dget_any (k := k) E2 hx a2
    rw [a1.key]
    refine ⟨p, o, rfl, g, ?_⟩
    have e : o.isSome = (getD' es k).isSome := by rcases c with ⟨rfl, c⟩ | ⟨u, d, rfl, c, _⟩ <;> rw [c] <;> rfl
    rw [e]
    exact q _ _ G2 H2 n2 f2 E2 (s1.trans s2) (.bl _)
theorem gk_notinA (h : GK K Z ta δ n fun y n1 => GK K Z tb δ n1 fun x n2 => ∃ es k, DicAt n2 x es ∧ y = keyD k ∧ Φ (.bl (!(getD' es k).isSome)) n2) : GK K Z (tDNotIn ta tb) δ n Φ := fun B M G0 H0 xw G H σ E Q q =>
  h B M G0 H0 xw G H σ E _ fun w y G1 H1 n1 f1 E1 s1 a1 => f1 B M G0 H0 xw G1 H1 σ E1 _ fun v x G2 H2 n2 ⟨es, k, hx, ey, f2⟩ E2 s2 a2 => by
    subst ey
    obtain ⟨p, rfl, _, o, g, c⟩ := dget_any (k := k) E2 hx a2
    rw [a1.key]
    refine ⟨p, o, rfl, g, ?_⟩
    have e : o.isSome = (getD' es k).isSome := by rcases c with ⟨rfl, c⟩ | ⟨u, d, rfl, c, _⟩ <;> rw [c] <;> rfl
    rw [e]
    exact q _ _ G2 H2 n2 f2 E2 (s1.trans s2) (.bl _)
theorem gk_setdP (h : GK K Z ta δ n fun x n1 => ∃ p es0, x = .ptr p ∧ n1.μ p = some (.dic es0) ∧ GK K Z tb δ n1 fun y n2 => GK K Z tc δ n2 fun z n3 => ∃ es k, n3.μ p = some (.dic es) ∧ y = keyD k ∧ es.length < 100000 ∧ (∀ d, getD' es k = some d → Φ d n3) ∧ (getD' es k = none → Φ z (n3.put p (.dic (putD es k z))))) :
    GK K Z (tDSetd ta tb tc) δ n Φ := fun B M G0 H0 xw G H σ E Q q =>
  h B M G0 H0 xw G H σ E _ fun v x G1 H1 n1 ⟨p, es0, ex, hp0, f1⟩ E1 s1 a1 => by
    subst ex
    cases a1
    obtain ⟨ws0, e0, _⟩ := E1.mdic hp0
    refine ⟨p, rfl, .inl ⟨ws0, .inl e0⟩, f1 B M G0 H0 xw G1 H1 σ E1 _ fun w y G2 H2 n2 f2 E2 s2 a2 => f2 B M G0 H0 xw G2 H2 σ E2 _ fun u z G3 H3 n3 ⟨es, k, hp, ey, hl, g1, g2⟩ E3 s3 a3 => ?_⟩
    subst ey
    obtain ⟨ws, e1, kv⟩ := E3.mdic hp
    refine ⟨ws, k, e1, a2.key, by rw [kv.len]; exact sz_lt hl, fun u2 hu2 => ?_, fun hn => ?_⟩
    · cases g : getD' es k with
      | none =>
        rw [kv.get0 g] at hu2
        cases hu2
      | some d =>
        obtain ⟨u3, hu3, iu⟩ := kv.get g
        rw [hu3] at hu2
        cases hu2
        exact q _ _ G3 H3 n3 (g1 d g) E3 ((s1.trans s2).trans s3) iu
    · cases g : getD' es k with
      | none => exact q _ _ G3 _ _ (g2 g) (E3.mchg hp ⟨_, upd_same, kv.put a3⟩) ((s1.trans s2).trans s3) a3
      | some d =>
        obtain ⟨u3, hu3, _⟩ := kv.get g
        rw [hn] at hu3
        cases hu3
theorem gi_valsL {Ψ : List D → Sto → Prop} (h : GK K Z te δ n fun d n1 => ∃ es, d = .dct es ∧ Ψ (es.map (·.2)) n1) : GI K Z (iVals te) δ n Ψ := fun B M G0 H0 xw G H σ E R r =>
  h B M G0 H0 xw G H σ E _ fun v d G1 H1 n1 ⟨es, ed, f1⟩ E1 s1 a1 => by
    subst ed
    cases a1 with
    | @dct p o vs _ h1 a1 =>
      refine ⟨p, o, vs, rfl, E1.sub _ _ h1, r _ _ G1 H1 n1 f1 E1 s1 fun G' H' s2 s3 i => ⟨fun hi => ⟨s3 _ _ (s2 _ _ h1), by rw [a1.len, hi, List.length_map]; exact Nat.le_refl _⟩, fun x hx => ?_⟩⟩
      rw [List.getElem?_map] at hx
      obtain ⟨⟨k, d⟩, hd, rfl⟩ := Option.map_eq_some_iff.mp hx
      obtain ⟨hlt, _⟩ := List.getElem?_eq_some_iff.mp hd
      refine ⟨⟨s3 _ _ (s2 _ _ h1), by rw [a1.len]; exact hlt⟩, fun v H2 y => .inl ⟨y.1, ?_⟩⟩
      obtain ⟨k', hk⟩ := y.2
      exact (a1.keyAt hk hd).2.mono s2
end
end Tl
namespace Tl
open PySem PySem.Spec PyProof.Rows L2 TL LamX
abbrev Cont := List (Str × List (Str × Str))
def rowE (rs : List (Str × Str)) : List (Key × D) := rs.map fun kv => (Sum.inr kv.1, D.str kv.2)
def rowD (rs : List (Str × Str)) : D := .dct (rowE rs)
def cntE (c : Cont) : List (Key × D) := c.map fun b => (Sum.inr b.1, rowD b.2)
def cntD (c : Cont) : D := .dct (cntE c)
def ptE : List Addr → Cont → List (Key × D)
  | q :: qs, b :: c => (Sum.inr b.1, .ptr q) :: ptE qs c
  | _, _ => []
inductive Rws (n : Sto) : List Addr → Cont → Prop
  | nil : Rws n [] []
  | cons {q : Addr} {qs : List Addr} {b : Str × List (Str × Str)} {c : Cont} (h : n.μ q = some (.dic (rowE b.2))) (r : Rws n qs c) : Rws n (q :: qs) (b :: c)
theorem Rws.len {n : Sto} {qs : List Addr} {c : Cont} (h : Rws n qs c) : qs.length = c.length := by
  induction h with
  | nil => rfl
  | cons _ _ ih => rw [List.length_cons, List.length_cons, ih]
theorem Rws.keep {n n' : Sto} {qs : List Addr} {c : Cont} (h : Rws n qs c) (k : ∀ q ∈ qs, n'.μ q = n.μ q) : Rws n' qs c := by
  induction h with
  | nil => exact .nil
  | cons h _ ih => exact .cons ((k _ List.mem_cons_self).trans h) (ih fun q hq => k q (List.mem_cons_of_mem _ hq))
theorem Rws.app {n : Sto} {qs rs : List Addr} {c d : Cont} (h : Rws n qs c) (g : Rws n rs d) : Rws n (qs ++ rs) (c ++ d) := by
  induction h with
  | nil => exact g
  | cons h _ ih => exact .cons h ih
theorem ptE_app : ∀ {qs rs : List Addr} {c d : Cont}, qs.length = c.length → ptE (qs ++ rs) (c ++ d) = ptE qs c ++ ptE rs d
  | [], rs, [], d, _ => rfl
  | [], rs, _ :: _, d, h => by simp at h
  | _ :: _, rs, [], d, h => by simp at h
  | q :: qs, rs, b :: c, d, h => by
    show (Sum.inr b.1, D.ptr q) :: ptE (qs ++ rs) (c ++ d) = _
    rw [ptE_app (by simpa using h)]
    rfl
theorem ptE_keys : ∀ {qs : List Addr} {c : Cont}, qs.length = c.length → (ptE qs c).map (·.1) = c.map fun b => Sum.inr b.1
  | [], [], _ => rfl
  | [], _ :: _, h => by simp at h
  | _ :: _, [], h => by simp at h
  | q :: qs, b :: c, h => by
    show Sum.inr b.1 :: (ptE qs c).map (·.1) = _
    rw [ptE_keys (by simpa using h)]
    rfl
section
variable [Tabl] {K : PySem.W.Frag} {Z : XZ} {B : Option Addr} {δ : List Slot} {n : Sto} {N Bk Ct : List Slot → Sto → Prop} {R : D → Sto → Prop} {ts : TS}
theorem gs_lockI {p : Addr} {r : List Addr} : ∀ (qs : List Addr) (c d : Cont) (n : Sto), n.μ p = some (.dic (cntE d ++ ptE qs c)) → Rws n qs c → (p :: qs).Nodup → GS K Z B (lkS r ts) δ ((⟨n.n, m00⟩ : Sto).put p (.dic (cntE (d ++ c)))) N R Bk Ct → GS K Z B (lkS (qs ++ r) ts) δ n N R Bk Ct
  | [], [], d, n, hp, _, _, h => by
    refine gs_sub (n' := (⟨n.n, m00⟩ : Sto).put p (.dic (cntE (d ++ [])))) rfl (fun a o ha => ?_) h
    by_cases e : a = p
    · subst e
      rw [Sto.put_same] at ha
      cases ha
      rw [hp, List.append_nil]
      show some (MO.dic (cntE d ++ [])) = _
      rw [List.append_nil]
    · rw [Sto.put_ne e] at ha
      cases ha
  | q :: qs, b :: c, d, n, hp, .cons hq hr, nd, h => by
    have nd' := nd
    rw [List.nodup_cons, List.nodup_cons, List.mem_cons, not_or] at nd'
    obtain ⟨⟨n1, n2⟩, n3, n4⟩ := nd'
    refine gs_lk1 hq δ ((n.off q).put p (.dic (cntE (d ++ [b]) ++ ptE qs c))) rfl (fun i s h => ⟨s, h, .inl rfl⟩) rfl (fun a o' ha => ?_) ?_
    · by_cases e : a = p
      · subst e
        rw [Sto.put_same] at ha
        cases ha
        refine ⟨n1, _, hp, .inr ⟨_, _, rfl, rfl, ?_⟩⟩
        rw [show cntE (d ++ [b]) ++ ptE qs c = cntE d ++ ((Sum.inr b.1, rowD b.2) :: ptE qs c) by simp [cntE]]
        exact (UpKv.refl _).app (.cons (.inr ⟨rfl, rfl⟩) (UpKv.refl _))
      · rw [Sto.put_ne e] at ha
        have ne : a ≠ q := fun z => by rw [z, Sto.off_same] at ha; cases ha
        rw [Sto.off_ne ne] at ha
        exact ⟨ne, o', ha, .inl rfl⟩
    · have k : ∀ x ∈ qs, ((n.off q).put p (.dic (cntE (d ++ [b]) ++ ptE qs c))).μ x = n.μ x := fun x hx => by
        have e1 : x ≠ p := fun z => n2 (z ▸ hx)
        have e2 : x ≠ q := fun z => n3 (z ▸ hx)
        rw [Sto.put_ne e1, Sto.off_ne e2]
      refine gs_lockI qs c (d ++ [b]) _ Sto.put_same (hr.keep k) (List.nodup_cons.mpr ⟨n2, n4⟩) ?_
      rw [List.append_assoc]
      exact h
theorem gs_lockRet {p : Addr} {qs : List Addr} {c : Cont} {i : Nat} (hi : δ[i]? = some (.d (.ptr p))) (hp : n.μ p = some (.dic (ptE qs c))) (hr : Rws n qs c) (nd : (p :: qs).Nodup) (k : R (cntD c) ⟨n.n, m00⟩) : GS K Z B (tLockS (tRet (tVar i))) δ n N R Bk Ct := by
  refine gs_lockS (qs ++ [p]) (gs_lockI qs c [] n (by simpa [cntE] using hp) hr nd ?_)
  have hil : i < δ.length := (List.getElem?_eq_some_iff.mp hi).1
  refine gs_lk1 (r := []) Sto.put_same (δ.set i (.d (cntD c))) ⟨n.n, m00⟩ (by rw [List.length_set]) (fun j s' hs => ?_) rfl (fun a o' ha => by cases ha) ?_
  · by_cases e : i = j
    · subst e
      rw [List.getElem?_set_self hil] at hs
      cases hs
      exact ⟨_, hi, .inr ⟨_, _, rfl, rfl, .inr ⟨rfl, rfl⟩⟩⟩
    · rw [List.getElem?_set_ne e] at hs
      exact ⟨s', hs, .inl rfl⟩
  · exact gs_ret (gk_var (List.getElem?_set_self hil) k)
end
end Tl
namespace Tl
open PySem PySem.Spec PyProof.Rows L2 TL LamX
def keyP : Key → PyData
  | .inl i => .int i
  | .inr x => .str x
mutual
inductive Dq (K : PySem.W.Frag) (H : Hp) : V → PyData → Prop
  | non : Dq K H .non .none
  | bl (b : Bool) : Dq K H (.bl b) (.bool b)
  | int (i : Int) : Dq K H (.int i) (.int i)
  | str (x : Str) : Dq K H (.str x) (.str x)
  | lst {a : Addr} {xs : List V} {ds : List PyData} : SqL K H a xs → DqAll K H xs ds → Dq K H (.ref a) (.list ds)
  | tup {a : Addr} {xs : List V} {ds : List PyData} : SqT K H a xs → DqAll K H xs ds → Dq K H (.ref a) (.tuple ds)
  | dct {a : Addr} {kvs : List (Key × V)} {ds : List (PyData × PyData)} : Rd H a (.dK kvs) → DqKv K H kvs ds → Dq K H (.ref a) (.dict ds)
inductive DqAll (K : PySem.W.Frag) (H : Hp) : List V → List PyData → Prop
  | nil : DqAll K H [] []
  | cons {v : V} {vs : List V} {d : PyData} {ds : List PyData} : Dq K H v d → DqAll K H vs ds → DqAll K H (v :: vs) (d :: ds)
inductive DqKv (K : PySem.W.Frag) (H : Hp) : List (Key × V) → List (PyData × PyData) → Prop
  | nil : DqKv K H [] []
  | cons {k : Key} {v : V} {vs : List (Key × V)} {d : PyData} {ds : List (PyData × PyData)} : Dq K H v d → DqKv K H vs ds → DqKv K H ((k, v) :: vs) ((keyP k, d) :: ds)
end
section
variable {P : Program} {w : World} {h : Heap}
theorem key_rk {k : Key} {v : Value} (e : keyIs k v = true) (hs : (keyP k).showable = true) (hz : (keyP k).shown.length ≤ sizeLine) : Reads h v (keyP k) [] ∧ ReprK P w [] h (keyP k).depth v (keyP k).shown := by
  rcases keyIs_shape e with ⟨i, t, rfl, rfl⟩ | ⟨x, t, rfl, rfl⟩
  · refine ⟨.int i t, ?_⟩
    simp only [keyP, PyData.shown]
    exact .of_is (ReprIs.int t (by simpa [keyP, PyData.showable] using hs)) _ _ _
  · refine ⟨.str x t, ?_⟩
    simp only [keyP, PyData.shown]
    exact .of_is (ReprIs.str x t (by simpa only [keyP, PyData.shown] using hz)) _ _ _
theorem keys_rk {K : PySem.W.Frag} {H : Hp} {es : List DictEntry} {ws : List (Key × Value)} (pr : Pairs (mixKind P w) es ws) : ∀ {kvs : List (Key × V)} {ds : List (PyData × PyData)}, KV kvs ws → DqKv K H kvs ds → PyData.showableAll (ds.map (·.1)) = true → (∀ t ∈ PyData.shownAll (ds.map (·.1)), t.length ≤ sizeLine) →
    ReadsAll h (es.map (·.key)) (ds.map (·.1)) [] ∧ ReprAllK P w [] h (PyData.depthAll (ds.map (·.1))) (es.map (·.key)) (PyData.shownAll (ds.map (·.1))) := by
  induction pr with
  | nil =>
    intro kvs ds rel dq _ _
    cases rel
    cases dq
    exact ⟨.nil, by simp only [List.map_nil, PyData.shownAll]; exact .nil⟩
  | cons h1 _ _ ih =>
    intro kvs ds rel dq hs hz
    cases rel with
    | cons e er =>
      cases dq with
      | @cons k v vs d ds _ dr =>
        have hs' : (keyP k).showable = true ∧ PyData.showableAll (ds.map (·.1)) = true := by simpa [PyData.showableAll] using hs
        have ek := e.1
        dsimp only at ek
        obtain ⟨r1, k1⟩ := key_rk (P := P) (w := w) (h := h) (k := k) (ek ▸ h1) hs'.1 (hz _ (by simp only [List.map_cons, PyData.shownAll]; exact List.mem_cons_self))
        obtain ⟨r2, k2⟩ := ih er dr hs'.2 fun t ht => hz t (by simp only [List.map_cons, PyData.shownAll]; exact List.mem_cons_of_mem _ ht)
        refine ⟨.cons (as := []) (bs := []) r1 r2, ?_⟩
        simp only [List.map_cons, PyData.shownAll, PyData.depthAll]
        exact .cons (k1.level_le (Nat.le_max_left _ _)) (k2.more_le (fun _ x => x) (Nat.le_max_right _ _))
theorem vals_eq : ∀ {es : List DictEntry} {ws : List (Key × Value)}, Pairs (mixKind P w) es ws → es.map (·.val) = ws.map (·.2)
  | _, _, .nil => rfl
  | _, _, .cons _ e r => by rw [List.map_cons, List.map_cons, e, vals_eq r]
end
section
variable {X : Cx} {pins : List (Addr × Obj)} {σ : List (Option V)} {H : Hp} {s : Shared}
mutual
theorem Dq.rk (I : Inv X pins σ H s) : ∀ {v : V} {d : PyData}, Dq X.K H v d → ∀ u, RelV v u → d.showable = true → d.shown.length ≤ sizeLine → ∃ as bs, Reads s.heap u d as ∧ ReadAtMost s.heap d.depth bs ∧ ReprK X.prog X.w bs s.heap d.depth u d.shown
  | _, _, .non, u, r, _, _ => by
    cases r
    exact ⟨_, [], .none, (fun _ h => nomatch h), by simp only [PyData.shown]; exact .of_is ReprIs.none _ _ _⟩
  | _, _, .bl b, u, r, _, _ => by
    cases r
    exact ⟨_, [], .bool b, (fun _ h => nomatch h), by simp only [PyData.shown]; exact .of_is (ReprIs.bool b) _ _ _⟩
  | _, _, .int i, u, r, hs, _ => by
    obtain ⟨t, rfl⟩ := r
    exact ⟨_, [], .int i t, (fun _ h => nomatch h), by simp only [PyData.shown]; exact .of_is (ReprIs.int t (by simpa [PyData.showable] using hs)) _ _ _⟩
  | _, _, .str x, u, r, _, hz => by
    obtain ⟨t, rfl⟩ := r
    exact ⟨_, [], .str x t, (fun _ h => nomatch h), by simp only [PyData.shown]; exact .of_is (ReprIs.str x t (by simpa only [PyData.shown] using hz)) _ _ _⟩
  | _, _, .lst (a := a) (ds := ds) hl ha, u, r, hs, hz => by
    cases r
    have hz' : (listText (PyData.shownAll ds)).length ≤ sizeLine := by simpa only [PyData.shown] using hz
    obtain ⟨its, rv, ⟨o, n, ho, hc, _, hd⟩, _⟩ := I.list hl
    obtain ⟨as, bs, rs, hb, hk⟩ := DqAll.rk I ha its rv (by simpa [PyData.showable] using hs) fun t ht => Nat.le_trans (listText_mem_le ht) hz'
    have r : Reads s.heap (.ref a) (.list ds) _ := .list ho hc hd rs
    have hna : a ∉ bs := not_mem_of_deeper r (by simp only [PyData.depth]; omega) hb
    refine ⟨_, a :: bs, r, ReadAtMost.cons r (by simp only [PyData.depth]; omega) hb, ?_⟩
    simp only [PyData.depth, PyData.shown]
    cases its with
    | nil =>
      cases rs
      simp only [PyData.shownAll, listText_nil]
      exact ReprK.listEmpty ho hc hd
    | cons x l => exact ReprK.list ho hc hd hna (by simpa using hk.length_eq) (fun i y e => hk.item i y (by simpa using e))
  | _, _, .tup (a := a) (ds := ds) hl ha, u, r, hs, hz => by
    cases r
    have hz' : (tupleText (PyData.shownAll ds)).length ≤ sizeLine := by simpa only [PyData.shown] using hz
    obtain ⟨its, rv, ⟨o, ho, hc, n, hd⟩, _⟩ := I.tuple hl
    obtain ⟨as, bs, rs, hb, hk⟩ := DqAll.rk I ha its rv (by simpa [PyData.showable] using hs) fun t ht => Nat.le_trans (tupleText_mem_le ht) hz'
    have r : Reads s.heap (.ref a) (.tuple ds) _ := .tuple ho hc hd rs
    have hna : a ∉ bs := not_mem_of_deeper r (by simp only [PyData.depth]; omega) hb
    refine ⟨_, a :: bs, r, ReadAtMost.cons r (by simp only [PyData.depth]; omega) hb, ?_⟩
    simp only [PyData.depth, PyData.shown]
    exact ReprK.tuple ho hc hd hna hk
  | _, _, .dct (a := a) (ds := ds) hl ha, u, r, hs, hz => by
    cases r
    have hz' : (dictText (PyData.shownKv ds)).length ≤ sizeLine := by simpa only [PyData.shown] using hz
    obtain ⟨_, lo, ws, rel, o, es, ep, ho, ex, hd, _, pr, _⟩ := dk_rd I.hok hl
    have hsys : (a == sysModules) = false := lo
    obtain ⟨hs1, hs2⟩ := PyData.showableKv_split ds (by simpa [PyData.showable] using hs)
    obtain ⟨r1, k1⟩ := keys_rk (P := X.prog) (w := X.w) (h := s.heap) pr rel ha hs1 fun t ht => let ⟨p, hp, hl⟩ := PyData.shownKv_key_le ds t ht; Nat.le_trans hl (Nat.le_trans (dictText_mem_le hp) hz')
    obtain ⟨as, bs, r2, hb, k2⟩ := DqKv.rk I ha ws rel hs2 fun t ht => let ⟨p, hp, hl⟩ := PyData.shownKv_val_le ds t ht; Nat.le_trans hl (Nat.le_trans (dictText_mem_le hp) hz')
    rw [← vals_eq pr] at r2 k2
    have r : Reads s.heap (.ref a) (.dict ds) _ := .dict ho ex.1 hd r1 r2
    have hb : ReadAtMost s.heap (PyData.depthKv ds) bs := hb.mono (PyData.depthAll_vals_le ds)
    have hna : a ∉ bs := not_mem_of_deeper r (by simp only [PyData.depth]; omega) hb
    refine ⟨_, a :: bs, r, ReadAtMost.cons r (by simp only [PyData.depth]; omega) hb, ?_⟩
    simp only [PyData.depth, PyData.shown, PyData.shownKv_eq]
    exact ReprK.dict ho ex.1 hd hsys hna (ReprEntriesK.of_two es.toList _ _ (k1.more_le (fun b (hb : b ∈ ([] : List Addr)) => absurd hb List.not_mem_nil) (PyData.depthAll_keys_le ds)) (k2.more_le (fun b hb => hb) (PyData.depthAll_vals_le ds)))
theorem DqAll.rk (I : Inv X pins σ H s) : ∀ {vs : List V} {ds : List PyData}, DqAll X.K H vs ds → ∀ us, Vals vs us → PyData.showableAll ds = true → (∀ t ∈ PyData.shownAll ds, t.length ≤ sizeLine) → ∃ as bs, ReadsAll s.heap us ds as ∧ ReadAtMost s.heap (PyData.depthAll ds) bs ∧ ReprAllK X.prog X.w bs s.heap (PyData.depthAll ds) us (PyData.shownAll ds)
  | _, _, .nil, us, r, _, _ => by
    cases r
    exact ⟨[], [], .nil, (fun _ h => nomatch h), by simp only [PyData.shownAll]; exact .nil⟩
  | _, _, .cons (d := d) (ds := ds) h1 h2, us, r, hs, hz => by
    cases r with
    | cons e er =>
      have hs' : d.showable = true ∧ PyData.showableAll ds = true := by simpa [PyData.showableAll] using hs
      obtain ⟨as, b1, r1, hb1, k1⟩ := Dq.rk I h1 _ e hs'.1 (hz _ (by simp only [PyData.shownAll]; exact List.mem_cons_self))
      obtain ⟨bs, b2, r2, hb2, k2⟩ := DqAll.rk I h2 _ er hs'.2 fun t ht => hz t (by simp only [PyData.shownAll]; exact List.mem_cons_of_mem _ ht)
      refine ⟨_, b1 ++ b2, .cons r1 r2, ?_, ?_⟩
      · simp only [PyData.depthAll]
        exact (hb1.mono (Nat.le_max_left _ _)).append (hb2.mono (Nat.le_max_right _ _))
      · simp only [PyData.depthAll, PyData.shownAll]
        exact .cons ((k1.more fun b hb => List.mem_append_left _ hb).level_le (Nat.le_max_left _ _)) (k2.more_le (fun b hb => List.mem_append_right _ hb) (Nat.le_max_right _ _))
theorem DqKv.rk (I : Inv X pins σ H s) : ∀ {vs : List (Key × V)} {ds : List (PyData × PyData)}, DqKv X.K H vs ds → ∀ us : List (Key × Value), KV vs us → PyData.showableAll (ds.map (·.2)) = true → (∀ t ∈ PyData.shownAll (ds.map (·.2)), t.length ≤ sizeLine) → ∃ as bs, ReadsAll s.heap (us.map (·.2)) (ds.map (·.2)) as ∧ ReadAtMost s.heap (PyData.depthAll (ds.map (·.2))) bs ∧ ReprAllK X.prog X.w bs s.heap (PyData.depthAll (ds.map (·.2))) (us.map (·.2)) (PyData.shownAll (ds.map (·.2)))
  | _, _, .nil, us, r, _, _ => by
    cases r
    exact ⟨[], [], .nil, (fun _ h => nomatch h), by simp only [List.map_nil, PyData.shownAll]; exact .nil⟩
  | _, _, .cons (d := d) (ds := ds) h1 h2, us, r, hs, hz => by
    cases r with
    | cons e er =>
      have hs' : d.showable = true ∧ PyData.showableAll (ds.map (·.2)) = true := by simpa [PyData.showableAll] using hs
      obtain ⟨as, b1, r1, hb1, k1⟩ := Dq.rk I h1 _ e.2 hs'.1 (hz _ (by simp only [List.map_cons, PyData.shownAll]; exact List.mem_cons_self))
      obtain ⟨bs, b2, r2, hb2, k2⟩ := DqKv.rk I h2 _ er hs'.2 fun t ht => hz t (by simp only [List.map_cons, PyData.shownAll]; exact List.mem_cons_of_mem _ ht)
      refine ⟨_, b1 ++ b2, .cons r1 r2, ?_, ?_⟩
      · simp only [List.map_cons, PyData.depthAll]
        exact (hb1.mono (Nat.le_max_left _ _)).append (hb2.mono (Nat.le_max_right _ _))
      · simp only [List.map_cons, PyData.depthAll, PyData.shownAll]
        exact .cons ((k1.more fun b hb => List.mem_append_left _ hb).level_le (Nat.le_max_left _ _)) (k2.more_le (fun b hb => List.mem_append_right _ hb) (Nat.le_max_right _ _))
end
end
def rReprQ (K : PySem.W.Frag) : List V → Hp → VK → Prop := fun vs H Q => ∃ (v : V) (d : PyData), vs = [v] ∧ Dq K H v d ∧ d.showable = true ∧ d.depth ≤ 50 ∧ d.shown.length ≤ sizeLine ∧ Q (.str d.shown) H
theorem cr_reprQ {X : Cx} {K : PySem.W.Frag} (hK : X.K = K) (hg : X.A.guards = some []) (hu : X.A.units + 64 < cLine) : CallR X (.builtin "repr") (rReprQ K) := by
  subst hK
  intro pins s σ H vs us Q I r h
  obtain ⟨v, d, rfl, dp, hs, hp, hl, q⟩ := h
  obtain ⟨u, rfl, ru⟩ := r.one
  have go : ∀ (h' : Heap) (t tk : Tok), (∀ b o, s.heap.get? b = some o → h'.get? b = some o) → EP X pins σ Q (.str d.shown t) { s with heap := h', toks := tk } := fun h' t tk kp => ⟨.str d.shown, H, I.kept kp, ⟨t, rfl⟩, q⟩
  have hg1 : X.A.in1.guards = some [] := hg
  have hu1 : X.A.in1.units + d.depth < cLine := by
    show X.A.units + 1 + d.depth < cLine
    omega
  cases dp with
  | non =>
    cases ru
    refine PySem.P.repr_of_none ?_
    rw [PyData.shown_none] at go
    exact go s.heap _ _ fun _ _ e => e
  | bl b =>
    cases ru
    refine PySem.P.repr_of_bool ?_
    rw [PyData.shown_bool] at go
    exact go s.heap _ _ fun _ _ e => e
  | int i =>
    obtain ⟨t, rfl⟩ := ru
    refine PySem.P.repr_of_int (by simpa [PyData.showable] using hs) ?_
    rw [PyData.shown_int] at go
    exact go s.heap _ _ fun _ _ e => e
  | str x =>
    obtain ⟨t, rfl⟩ := ru
    rw [PyData.shown_str] at go hl
    exact PySem.P.repr_of_str (go s.heap _ _ fun _ _ e => e) hl
  | @lst a xs ds hL ha =>
    cases ru
    have hz' : (listText (PyData.shownAll ds)).length ≤ sizeLine := by simpa only [PyData.shown] using hl
    obtain ⟨its, rv, ⟨o, n, ho, hc, _, hd⟩, _⟩ := I.list hL
    obtain ⟨as, bs, rs, hb, hk⟩ := DqAll.rk I ha its rv (by simpa [PyData.showable] using hs) fun t ht => Nat.le_trans (listText_mem_le ht) hz'
    have hna : a ∉ bs := not_mem_of_deeper (.list ho hc hd rs) (by simp only [PyData.depth]; omega) hb
    simp only [PyData.depth] at hu1
    simp only [PyData.shown] at go
    refine call_repr_slot (by omega) ⟨o, ho, hc⟩ F.slot_list_repr.toG ?_
    cases its with
    | nil =>
      cases rs
      simp only [PyData.shownAll, listText_nil] at go
      exact call_list_repr_empty ⟨o, ho, hc⟩ ho hd ⟨_, _, rfl, go s.heap _ _ fun _ _ e => e⟩
    | cons x l => exact call_list_reprK ho hc hd hna (by simpa using hk.length_eq) (fun i y e => hk.item i y (by simpa using e)) hg1 (fun b _ => Clear.nil b) hu1 (fun _ _ e => e) (fun h' t tk kp => ⟨_, _, rfl, go h' t tk kp⟩) hz'
  | @tup a xs ds hL ha =>
    cases ru
    have hz' : (tupleText (PyData.shownAll ds)).length ≤ sizeLine := by simpa only [PyData.shown] using hl
    obtain ⟨its, rv, ⟨o, ho, hc, n, hd⟩, _⟩ := I.tuple hL
    obtain ⟨as, bs, rs, hb, hk⟩ := DqAll.rk I ha its rv (by simpa [PyData.showable] using hs) fun t ht => Nat.le_trans (tupleText_mem_le ht) hz'
    have hna : a ∉ bs := not_mem_of_deeper (.tuple ho hc hd rs) (by simp only [PyData.depth]; omega) hb
    simp only [PyData.depth] at hu1
    simp only [PyData.shown] at go
    refine call_repr_slot (by omega) ⟨o, ho, hc⟩ F.slot_tuple_repr ?_
    exact call_tuple_reprK ho hc hd hna hk hg1 (fun b _ => Clear.nil b) hu1 (fun _ _ e => e) (fun h' t tk kp => ⟨_, _, rfl, go h' t tk kp⟩) hz'
  | @dct a kvs ds hL ha =>
    cases ru
    have hz' : (dictText (PyData.shownKv ds)).length ≤ sizeLine := by simpa only [PyData.shown] using hl
    obtain ⟨_, lo, ws, rel, o, es, ep, ho, ex, hd, _, pr, _⟩ := dk_rd I.hok hL
    obtain ⟨hs1, hs2⟩ := PyData.showableKv_split ds (by simpa [PyData.showable] using hs)
    obtain ⟨r1, k1⟩ := keys_rk (P := X.prog) (w := X.w) (h := s.heap) pr rel ha hs1 fun t ht => let ⟨p, hp, hl⟩ := PyData.shownKv_key_le ds t ht; Nat.le_trans hl (Nat.le_trans (dictText_mem_le hp) hz')
    obtain ⟨as, bs, r2, hb, k2⟩ := DqKv.rk I ha ws rel hs2 fun t ht => let ⟨p, hp, hl⟩ := PyData.shownKv_val_le ds t ht; Nat.le_trans hl (Nat.le_trans (dictText_mem_le hp) hz')
    rw [← vals_eq pr] at r2 k2
    have r : Reads s.heap (.ref a) (.dict ds) _ := .dict ho ex.1 hd r1 r2
    have hb : ReadAtMost s.heap (PyData.depthKv ds) bs := hb.mono (PyData.depthAll_vals_le ds)
    have hna : a ∉ bs := not_mem_of_deeper r (by simp only [PyData.depth]; omega) hb
    simp only [PyData.depth] at hu1
    simp only [PyData.shown, PyData.shownKv_eq] at go
    refine call_repr_slot (by omega) ⟨o, ho, ex.1⟩ F.slot_dict_repr ?_
    exact call_dict_reprK ho ex.1 hd lo hna (ReprEntriesK.of_two es.toList _ _ (k1.more_le (fun b (hb : b ∈ ([] : List Addr)) => absurd hb List.not_mem_nil) (PyData.depthAll_keys_le ds)) (k2.more_le (fun b hb => hb) (PyData.depthAll_vals_le ds))) hg1 (fun b _ => Clear.nil b) hu1 (fun _ _ e => e) (fun h' t tk kp => ⟨_, _, rfl, go h' t tk kp⟩) (by rw [← PyData.shownKv_eq]; exact hz')
inductive Shq : Nat → D → Prop where
  | non {k : Nat} : Shq k .non
  | bl {k : Nat} (b : Bool) : Shq k (.bl b)
  | int {k : Nat} {i : Int} (h : i.natAbs.log2 < 1920) : Shq k (.int i)
  | str {k : Nat} (x : Str) : Shq k (.str x)
  | lst {k : Nat} {xs : List D} (h : ∀ x ∈ xs, Shq k x) : Shq (k + 1) (.lst xs)
  | tup {k : Nat} {xs : List D} (h : ∀ x ∈ xs, Shq k x) : Shq (k + 1) (.tup xs)
  | dct {k : Nat} {es : List (Key × D)} (h1 : ∀ kv ∈ es, (keyP kv.1).showable = true) (h2 : ∀ kv ∈ es, Shq k kv.2) : Shq (k + 1) (.dct es)
theorem toPk_cons {k : Key} {d : D} {es : List (Key × D)} : toPk ((k, d) :: es) = (keyP k, toP d) :: toPk es := by
  cases k <;> simp only [toPk, keyP]
theorem isAll_dq {K : PySem.W.Frag} {G H : Hp} : ∀ {ds : List D} {vs : List V}, IsAll K G vs ds → (∀ x ∈ ds, ∀ v, Is K G v x → Dq K H v (toP x)) → DqAll K H vs (toPs ds)
  | [], _, a, _ => by
    cases a
    unfold toPs
    exact .nil
  | d :: ds, _, a, hx => by
    cases a with
    | cons h r =>
      unfold toPs
      exact .cons (hx _ List.mem_cons_self _ h) (isAll_dq r fun x m => hx x (List.mem_cons_of_mem _ m))
theorem isKv_dq {K : PySem.W.Frag} {G H : Hp} : ∀ {ds : List (Key × D)} {vs : List (Key × V)}, IsKv K G vs ds → (∀ x ∈ ds, ∀ v, Is K G v x.2 → Dq K H v (toP x.2)) → DqKv K H vs (toPk ds)
  | [], _, a, _ => by
    cases a
    unfold toPk
    exact .nil
  | d :: ds, _, a, hx => by
    cases a with
    | cons h r =>
      rw [toPk_cons]
      exact .cons (hx _ List.mem_cons_self _ h) (isKv_dq r fun x m => hx x (List.mem_cons_of_mem _ m))
theorem Shq.dq {K : PySem.W.Frag} {G H : Hp} {k : Nat} {d : D} (s : Sub G H) (h : Shq k d) : ∀ v, Is K G v d → Dq K H v (toP d) := by
  induction h with
  | non =>
    intro v hv
    cases hv
    unfold toP
    exact .non
  | bl =>
    intro v hv
    cases hv
    unfold toP
    exact .bl _
  | int =>
    intro v hv
    cases hv
    unfold toP
    exact .int _
  | str =>
    intro v hv
    cases hv
    unfold toP
    exact .str _
  | lst _ ih =>
    intro v hv
    cases hv with
    | lst h a =>
      unfold toP
      exact .lst (SqL.of (s _ _ h)) (isAll_dq a ih)
  | tup _ ih =>
    intro v hv
    cases hv with
    | tup h a =>
      unfold toP
      exact .tup (s.seq h) (isAll_dq a ih)
  | dct _ _ ih =>
    intro v hv
    cases hv with
    | dct h a =>
      unfold toP
      exact .dct (.inr ⟨_, s _ _ h⟩) (isKv_dq a ih)
theorem toPs_show {xs : List D} (h : ∀ x ∈ xs, (toP x).showable = true) : PyData.showableAll (toPs xs) = true := by
  induction xs with
  | nil => unfold toPs PyData.showableAll; rfl
  | cons x r ih =>
    unfold toPs PyData.showableAll
    rw [h x List.mem_cons_self, ih fun y m => h y (List.mem_cons_of_mem _ m)]
    rfl
theorem toPk_show {xs : List (Key × D)} (h1 : ∀ x ∈ xs, (keyP x.1).showable = true) (h : ∀ x ∈ xs, (toP x.2).showable = true) : PyData.showableKv (toPk xs) = true := by
  induction xs with
  | nil => unfold toPk PyData.showableKv; rfl
  | cons x r ih =>
    obtain ⟨k, d⟩ := x
    rw [toPk_cons]
    unfold PyData.showableKv
    rw [h1 _ List.mem_cons_self, h _ List.mem_cons_self, ih (fun y m => h1 y (List.mem_cons_of_mem _ m)) fun y m => h y (List.mem_cons_of_mem _ m)]
    rfl
theorem keyP_depth {k : Key} : (keyP k).depth = 0 := by
  cases k <;> simp [keyP, PyData.depth]
theorem toPk_depth {xs : List (Key × D)} {k : Nat} (h : ∀ x ∈ xs, (toP x.2).depth ≤ k) : PyData.depthKv (toPk xs) ≤ k := by
  induction xs with
  | nil => unfold toPk PyData.depthKv; exact Nat.zero_le _
  | cons x r ih =>
    obtain ⟨kk, d⟩ := x
    rw [toPk_cons]
    unfold PyData.depthKv
    rw [keyP_depth]
    have h1 := h _ List.mem_cons_self
    have h2 := ih fun y m => h y (List.mem_cons_of_mem _ m)
    simp only at h1
    omega
theorem Shq.ok [Tabl] {k : Nat} {d : D} (h : Shq k d) : (toP d).showable = true ∧ (toP d).depth ≤ k := by
  induction h with
  | non => unfold toP; simp [PyData.showable, PyData.depth]
  | bl => unfold toP; simp [PyData.showable, PyData.depth]
  | int h => unfold toP; simp [PyData.showable, PyData.depth, h]
  | str => unfold toP; simp [PyData.showable, PyData.depth]
  | lst _ ih =>
    unfold toP
    unfold PyData.showable PyData.depth
    exact ⟨toPs_show fun x hx => (ih x hx).1, Nat.succ_le_succ (toPs_depth fun x hx => (ih x hx).2)⟩
  | tup _ ih =>
    unfold toP
    unfold PyData.showable PyData.depth
    exact ⟨toPs_show fun x hx => (ih x hx).1, Nat.succ_le_succ (toPs_depth fun x hx => (ih x hx).2)⟩
  | dct h1 _ ih =>
    unfold toP
    unfold PyData.showable PyData.depth
    exact ⟨toPk_show h1 fun x hx => (ih x hx).1, Nat.succ_le_succ (toPk_depth fun x hx => (ih x hx).2)⟩
section
variable [Tabl] {K : PySem.W.Frag} {Z : XZ} {δ : List Slot} {n : Sto} {Φ : D → Sto → Prop}
theorem rc_reprQ {m : Nat} {d : D} (hs : Shq m d) (hm : m ≤ 50) (h3 : (toP d).shown.length ≤ sizeLine) (k : Φ (.str (toP d).shown) n) : RC K Z (rReprQ K) [d] δ n Φ := fun B M G0 H0 xw G H σ E vs a Q q => by
  cases a with
  | cons a r =>
    cases r
    exact ⟨_, _, rfl, hs.dq E.sub _ a, hs.ok.1, Nat.le_trans hs.ok.2 hm, h3, q _ _ G H n k E (Sub.refl G) (.str _)⟩
end
end Tl
namespace Tl
open PySem PySem.Spec PyProof.Rows L2 TL LamX
section
variable [Tabl] {K : PySem.W.Frag} {Z : XZ} {δ : List Slot} {n : Sto} {Φ : D → Sto → Prop} {te tk tv : TE}
end
end Tl
namespace Tl
open PySem PySem.Spec PyProof.Rows L2 TL LamX
section
variable [Tabl] {K : PySem.W.Frag} {Z : XZ} {δ : List Slot} {n : Sto} {aa : TA}
end
end Tl
namespace Tl
open PySem PySem.Spec PyProof.Rows L2 TL LamX
inductive Ent (n : Sto) : List Addr → List (Key × D) → List (Key × D) → Prop
  | nil : Ent n [] [] []
  | ptr {k : Key} {q : Addr} {fs : List (Key × D)} {qs : List Addr} {es es' : List (Key × D)} (h : n.μ q = some (.dic fs)) (r : Ent n qs es es') : Ent n (q :: qs) ((k, .ptr q) :: es) ((k, .dct fs) :: es')
  | val {k : Key} {d : D} {qs : List Addr} {es es' : List (Key × D)} (r : Ent n qs es es') : Ent n qs ((k, d) :: es) ((k, d) :: es')
theorem Ent.keep {n n' : Sto} {qs : List Addr} {es es' : List (Key × D)} (h : Ent n qs es es') (k : ∀ q ∈ qs, n'.μ q = n.μ q) : Ent n' qs es es' := by
  induction h with
  | nil => exact .nil
  | ptr h _ ih => exact .ptr ((k _ List.mem_cons_self).trans h) (ih fun q hq => k q (List.mem_cons_of_mem _ hq))
  | val _ ih => exact .val (ih k)
theorem Ent.snoc {n : Sto} {qs : List Addr} {es es' : List (Key × D)} {k : Key} {d : D} (h : Ent n qs es es') : Ent n qs (es ++ [(k, d)]) (es' ++ [(k, d)]) := by
  induction h with
  | nil => exact .val .nil
  | ptr h _ ih => exact .ptr h ih
  | val _ ih => exact .val ih
theorem Ent.keys {n : Sto} {qs : List Addr} {es es' : List (Key × D)} (h : Ent n qs es es') : es.map Prod.fst = es'.map Prod.fst := by
  induction h with
  | nil => rfl
  | ptr _ _ ih => rw [List.map_cons, List.map_cons, ih]
  | val _ ih => rw [List.map_cons, List.map_cons, ih]
theorem Ent.len {n : Sto} {qs : List Addr} {es es' : List (Key × D)} (h : Ent n qs es es') : es.length = es'.length := by
  have := congrArg List.length h.keys
  rwa [List.length_map, List.length_map] at this
theorem Ent.rep {n : Sto} {qs : List Addr} {es es' : List (Key × D)} {k : Key} {d : D} (h : Ent n qs es es') : ∃ rs, rs.Sublist qs ∧ Ent n rs (es.map fun kv => if kv.1 = k then (kv.1, d) else kv) (es'.map fun kv => if kv.1 = k then (kv.1, d) else kv) := by
  induction h with
  | nil => exact ⟨[], .slnil, .nil⟩
  | @ptr k0 q fs qs es es' h _ ih =>
    obtain ⟨rs, s, e⟩ := ih
    rw [List.map_cons, List.map_cons]
    by_cases z : k0 = k
    · exact ⟨rs, s.cons _, by rw [if_pos z, if_pos z]; exact .val e⟩
    · exact ⟨q :: rs, s.cons_cons _, by rw [if_neg z, if_neg z]; exact .ptr h e⟩
  | @val k0 d0 qs es es' _ ih =>
    obtain ⟨rs, s, e⟩ := ih
    rw [List.map_cons, List.map_cons]
    by_cases z : k0 = k
    · exact ⟨rs, s, by rw [if_pos z]; exact .val e⟩
    · exact ⟨rs, s, by rw [if_neg z]; exact .val e⟩
theorem any_keys {es : List (Key × D)} {k : Key} : (es.any fun kv => decide (kv.1 = k)) = (es.map Prod.fst).any fun x => decide (x = k) := by
  rw [List.any_map]
  rfl
theorem Ent.put {n : Sto} {qs : List Addr} {es es' : List (Key × D)} {k : Key} {d : D} (h : Ent n qs es es') : ∃ rs, rs.Sublist qs ∧ Ent n rs (putD es k d) (putD es' k d) := by
  unfold putD
  rw [any_keys, any_keys, h.keys]
  split
  · exact h.rep
  · exact ⟨qs, .refl _, h.snoc⟩
theorem Ent.rws {n : Sto} {qs : List Addr} {c : Cont} (h : Rws n qs c) : Ent n qs (ptE qs c) (cntE c) := by
  induction h with
  | nil => exact .nil
  | cons h _ ih => exact .ptr h ih
section
variable [Tabl] {K : PySem.W.Frag} {Z : XZ} {B : Option Addr} {δ : List Slot} {n : Sto} {N Bk Ct : List Slot → Sto → Prop} {R : D → Sto → Prop} {ts : TS}
theorem gs_lockE {p : Addr} {r : List Addr} : ∀ {es : List (Key × D)} {qs : List Addr} {es' pre : List (Key × D)} {n : Sto}, n.μ p = some (.dic (pre ++ es)) → Ent n qs es es' → (p :: qs).Nodup → GS K Z B (lkS r ts) δ ((⟨n.n, m00⟩ : Sto).put p (.dic (pre ++ es'))) N R Bk Ct → GS K Z B (lkS (qs ++ r) ts) δ n N R Bk Ct
  | [], _, _, pre, n, hp, .nil, _, h => by
    refine gs_sub (n' := (⟨n.n, m00⟩ : Sto).put p (.dic (pre ++ []))) rfl (fun a o ha => ?_) h
    by_cases e : a = p
    · subst e
      rw [Sto.put_same] at ha
      cases ha
      exact hp
    · rw [Sto.put_ne e] at ha
      cases ha
  | e :: es, _, _, pre, n, hp, hE, nd, h => by
    cases hE with
    | @val k d _ _ es' hr =>
      refine gs_lockE (pre := pre ++ [(k, d)]) (es := es) (es' := es') (by rw [List.append_assoc]; exact hp) hr nd ?_
      rw [List.append_assoc]
      exact h
    | @ptr k q fs qs _ es' hq hr =>
      have nd' := nd
      rw [List.nodup_cons, List.nodup_cons, List.mem_cons, not_or] at nd'
      obtain ⟨⟨n1, n2⟩, n3, n4⟩ := nd'
      refine gs_lk1 hq δ ((n.off q).put p (.dic ((pre ++ [(k, .dct fs)]) ++ es))) rfl (fun i s h => ⟨s, h, .inl rfl⟩) rfl (fun a o' ha => ?_) ?_
      · by_cases e : a = p
        · subst e
          rw [Sto.put_same] at ha
          cases ha
          refine ⟨n1, _, hp, .inr ⟨_, _, rfl, rfl, ?_⟩⟩
          rw [List.append_assoc]
          exact (UpKv.refl _).app (.cons (.inr ⟨rfl, rfl⟩) (UpKv.refl _))
        · rw [Sto.put_ne e] at ha
          have ne : a ≠ q := fun z => by rw [z, Sto.off_same] at ha; cases ha
          rw [Sto.off_ne ne] at ha
          exact ⟨ne, o', ha, .inl rfl⟩
      · have hk : ∀ x ∈ qs, ((n.off q).put p (.dic ((pre ++ [(k, .dct fs)]) ++ es))).μ x = n.μ x := fun x hx => by
          have e1 : x ≠ p := fun z => n2 (z ▸ hx)
          have e2 : x ≠ q := fun z => n3 (z ▸ hx)
          rw [Sto.put_ne e1, Sto.off_ne e2]
        refine gs_lockE Sto.put_same (hr.keep hk) (List.nodup_cons.mpr ⟨n2, n4⟩) ?_
        have e : (pre ++ [(k, D.dct fs)]) ++ es' = pre ++ ((k, .dct fs) :: es') := by simp
        rw [e]
        exact h
end
end Tl
namespace Tl
open PySem PySem.Spec PyProof.Rows L2 TL LamX
def KeepB (vs : List Nat) (σ σ' : L2.St) : Prop := σ'.length = σ.length ∧ ∀ (j : Nat) (v : V), (L2.wipe σ vs)[j]? = some (some v) → σ'[j]? = some (some v)
abbrev TBd := Addr → L2.St → Hp → (Hp → Prop) → Prop
section
variable {X : Cx}
theorem addTx_ok {pins : List (Addr × Obj)} {σ : L2.St} {H : Hp} {s : Shared} {E : Value → Shared → Prop} {D : Addr} {ys : List Str} {y : Str} {tk : Tok} {Q : Value → Shared → Prop} (I : Inv X pins σ H s) (hD : H D = some (TxO X.w D ys)) (room : ys.length + 1 < scanBound)
    (h : ∀ s', Inv X pins σ (upd H D (TxO X.w D (ys ++ [y]))) s' → Q .none s') : wpAny (model X.prog X.w) X.A (call (.builtin "set.add") [.ref D, .str y tk]) Q E s := by
  have R : TxSet X.w s.heap D ys := (I.hok D _ hD).1
  have hT : s.TypeIs (.ref D) "set" := by
    obtain ⟨ob, _, _, _, ho, hex, _⟩ := R
    exact ⟨ob, ho, hex.1⟩
  refine wpAny_call_entry F.slot_set_add hT F.entry_set_add ?_ (F.args_set_add_2 _ _)
  unfold Builtin.«set.add» Builtin.Frozenset.oneOther
  simp only [List.isEmpty_nil, bind_assoc]
  unfold Builtin.Frozenset.addrOf setAdd
  refine wpAny_bind (wpAny_pure ?_)
  try dsimp only
  refine wpAny_bind (wpAny_pure ?_)
  try dsimp only
  refine wpAny_bind (wpAny_holding (wpAny_bind ((PySem.strKind X.prog X.w).pyHash (k := y) (strKind_is _ _ _ _) ?_)))
  refine tx_add (s := { s with toks := s.toks + 1 }) R room fun b h' sb new => ?_
  have he : ∃ u, h'.get? D = some u := by
    obtain ⟨ob, _, _, _, ho, _⟩ := new
    exact ⟨ob, ho⟩
  show wpAny _ _ (ret Value.none) _ _ _
  exact wpAny_pure ⟨_, rfl, h _ (I.write (e := D) (t' := s.toks + 1) (by rw [hD]; trivial) (.inl rfl) (fun b u hb hu => (sb.2 b hb).trans hu) he (txO_new new))⟩
theorem thnX {α : Type} {t : Sem α} {Q Q' : α → Shared → Prop} {M : Model} {A : Around} {E E' : Value → Shared → Prop} {s : Shared} (hx : ∀ v s, E v s → False) (h : wpAny M A t Q E s) (hQ : ∀ a s, Q a s → Q' a s) : wpAny M A t Q' E' s := wpAny_mono h hQ fun v s z => (hx v s z).elim
abbrev turnOf (p : Pos) (tg : Expr) (ifs : List Expr) (body : Sem Unit) (e : Expr) (k : Nat) (it acc : Value) (env : Env) : Sem Fin := do
  standAt p
  match ← pyNext it with
  | none => pure (.done .next)
  | some v =>
    letOwnedTupleGo tg it v
    assign tg env v
    let mut ok := true
    for c in ifs do
      if ok then ok ← isTrue c env (eval c env)
    if ok then
      body
    again (.compLoop e k it acc env)
theorem cl_core {pins : List (Addr × Obj)} {σ : L2.St} {e : Expr} {k : Nat} {tg : Expr} {ifs : List Expr} {it : Addr} {fp : List Addr} {tn : Nat → Heap → Prop} {J : It} {acc : Value} {p : Pos} {body : Sem Unit} {g : TG} {tt : TT} {vs : List Nat} {tb : L2.St → Hp → (Hp → Prop) → Prop}
    {R : Result → Shared → Prop} {s : Shared} {H : Hp} {Qd : Hp → Prop} {W : Nat → Nat → Hp → Prop} {m0 : Nat} (hc : X.calm = true) (hx : ∀ v s, X.xe v s → False) (hu : X.A.under (.compLoop e k (.ref it) acc X.env) = X.A) (hd : (model X.prog X.w).den (.compLoop e k (.ref it) acc X.env) = (compTurn e k (.ref it) acc X.env).onRaise (fun x => do noteFrame x X.env; theTreesLotGoes x)) (heq : compTurn e k (.ref it) acc X.env = turnOf p tg ifs body e k (.ref it) acc X.env)
    (T : Turn X.prog X.w X.K tg J fp it tn) (pg : PG X tg g) (pt : PTs X ifs tt) (hfp : ∀ H', (∀ b ∈ fp, H' b = none) → ∀ b ∈ fp, FpOk X pins H' b)
    (hb : ∀ pins s σ H Nx, Inv X pins σ H s → tb σ H Nx → wpAny (model X.prog X.w) X.A body (fun _ s' => ∃ σ' H', Inv X pins σ' H' s' ∧ KeepB vs σ σ' ∧ Nx H') (fun _ _ => False) s)
    (turn : ∀ i m H, W i m H → (J.stop i H ∧ Qd H) ∨ (J.go i H ∧ ∃ Nx : Hp → Prop, (∀ H', Nx H' → ∃ m', m' < m ∧ W (i + 1) m' H') ∧ ∀ x H', J.yld i H x H' → g x (L2.wipe σ vs) H' fun σ2 H2 => L2.wipe σ2 vs = L2.wipe σ vs ∧ tt σ2 H2 fun b H3 => if b = true then tb σ2 H3 Nx else Nx H3))
    (hR : ∀ H' s', Inv X pins (L2.wipe σ vs) H' s' → Qd H' → R (.ok .next) s') (I : Inv X pins (L2.wipe σ vs) H s) (st : tn 0 s.heap) (hn : ∀ b ∈ fp, H b = none) (w0 : W 0 m0 H) :
    codeAny (model X.prog X.w) X.A (.compLoop e k (.ref it) acc X.env) R s := by
  refine codeAny_loop rfl (fun n s' => ∃ i H', Inv X pins (L2.wipe σ vs) H' s' ∧ tn i s'.heap ∧ (∀ b ∈ fp, H' b = none) ∧ W i n H') (fun n s1 hI => ?_) m0 ⟨0, H, I, st, hn, w0⟩
  obtain ⟨i, H1, I1, st1, n1, w1⟩ := hI
  rw [hu, hd]
  refine wpAny_noted ?_
  rw [heq]
  refine wpAny_bind (wpAny_standAt (wpAny_bind ?_))
  rcases turn i n H1 w1 with ⟨stop, qq⟩ | ⟨go, Nx, hNx, step⟩
  · refine thnF (T.done X rfl rfl rfl hc i pins s1 _ H1 (fun _ _ => False) I1 (hfp H1 n1) st1 stop) fun r s2 ⟨hr, I2⟩ => ?_
    subst hr
    exact wpAny_pure (hR H1 s2 I2 qq)
  · refine thnF (T.item X rfl rfl rfl hc i pins s1 _ H1 (fun _ _ => False) I1 (hfp H1 n1) st1 go) fun r s2 ⟨u, hr, h2⟩ => ?_
    subst hr
    refine wpAny_bind (thnF h2 fun _ s3 ⟨x, H3, I3, r3, y3, st3, n3⟩ => ?_)
    have I3' := I3.pinned (hfp H3 n3) (T.obj _ _ st3)
    refine wpAny_bind (thnX hx (pg.run _ s3 _ H3 x u _ I3' r3 (step x H3 y3)) fun _ s4 ⟨σ4, H4, I4, hw4, q4⟩ => ?_)
    refine wpAny_bind (thnX hx (pt.run _ s4 σ4 H4 _ I4 q4) fun b s5 ⟨H5, I5, q5⟩ => ?_)
    have fin : ∀ {s' : Shared} {σ' : L2.St} {H' : Hp}, Inv X (pins ++ pinsAt fp s3.heap) σ' H' s' → KeepB vs σ4 σ' → Nx H' → ∃ m, m < n ∧ ∃ i H', Inv X pins (L2.wipe σ vs) H' s' ∧ tn i s'.heap ∧ (∀ b ∈ fp, H' b = none) ∧ W i m H' := fun {s' σ' H'} I' kb nx => by
      obtain ⟨m', hm, w'⟩ := hNx H' nx
      have pin' : ∀ b ∈ fp, ∀ o, s3.heap.get? b = some o → s'.heap.get? b = some o ∧ H' b = none := fun b hb o e =>
        let z := I'.pin (b, o) (List.mem_append_right _ (List.mem_append_right _ (mem_pinsAt hb e)))
        ⟨z.1, z.2.1⟩
      refine ⟨m', hm, i + 1, H', I'.unpinned.weak ?_ (fun j v e => kb.2 j v (by rw [hw4]; exact e)), T.keep _ _ _ st3 fun b hb o e => (pin' b hb o e).1, fun b hb => ?_, w'⟩
      · rw [kb.1, ← hw4, wipe_length]
      · obtain ⟨o, e, _⟩ := T.obj _ _ st3 b hb
        exact (pin' b hb o e).2
    have kr : KeepB vs σ4 σ4 := ⟨rfl, fun j v e => (wipe_some e).1⟩
    cases b with
    | false =>
      simp only [Bool.false_eq_true, if_false] at q5 ⊢
      exact wpAny_pure ⟨rfl, fin I5 kr q5⟩
    | true =>
      simp only [if_true] at q5 ⊢
      exact wpAny_bind (thnF (hb _ s5 σ4 H5 Nx I5 q5) fun _ s6 ⟨σ6, H6, I6, k6, nx⟩ => wpAny_pure ⟨rfl, fin I6 k6 nx⟩)
def tbOne (w : World) (te : TE) : TBd := fun D σ H Nx => te σ H fun y H1 => ∃ (z : Str) (ys : List Str), y = V.str z ∧ H1 D = some (TxO w D ys) ∧ ys.length + 1 < scanBound ∧ Nx (upd H1 D (TxO w D (ys ++ [z])))
def tbTwo (wi : TI) (g : TG) (tt : TT) (tb : TBd) (vs : List Nat) : TBd := fun D σ H Nx => wi σ H fun J H1 => ∃ W : Nat → Nat → Hp → Prop, (∃ m, W 0 m H1) ∧ ∀ i m H, W i m H → (J.stop i H ∧ Nx H) ∨ (J.go i H ∧ ∃ Ny : Hp → Prop, (∀ H', Ny H' → ∃ m', m' < m ∧ W (i + 1) m' H') ∧ ∀ x H', J.yld i H x H' →
  g x (L2.wipe σ vs) H' fun σ2 H2 => L2.wipe σ2 vs = L2.wipe σ vs ∧ tt σ2 H2 fun b H3 => if b = true then tb D σ2 H3 Ny else Ny H3)
def tSx (w : World) (wi : TI) (g : TG) (tt : TT) (tb : TBd) (vs : List Nat) : TE := fun σ H Q => wi σ H fun J H1 => ∀ D, H1 D = none → ∃ W : Nat → Nat → Hp → Prop, (∃ m, W 0 m (upd H1 D (TxO w D []))) ∧ ∀ i m H, W i m H → (J.stop i H ∧ Q (.ref D) H) ∨ (J.go i H ∧ ∃ Nx : Hp → Prop, (∀ H', Nx H' → ∃ m', m' < m ∧ W (i + 1) m' H') ∧ ∀ x H', J.yld i H x H' →
  g x (L2.wipe σ vs) H' fun σ2 H2 => L2.wipe σ2 vs = L2.wipe σ vs ∧ tt σ2 H2 fun b H3 => if b = true then tb D σ2 H3 Nx else Nx H3)
abbrev bodyOne (elt : Expr) (acc : Value) (env : Env) : Sem Unit := do
  let v ← eval elt env
  standAt elt.pos
  let _ ← call (.builtin "set.add") [acc, v]
abbrev bodyTwo (e i1 : Expr) (acc : Value) (env : Env) : Sem Unit := do
  let x ← eval i1 env
  standAt i1.pos
  let x ← foldedSetIterable i1 env x
  let _ ← runOwn (.compStart e 1 (← holding [x] (pyIter x)) acc env) env
theorem turn_two {elt t0 i0 t1 i1 : Expr} {ifs0 ifs1 : List Expr} {scope : Scope} {pos : Pos} {it acc : Value} {env : Env} : compTurn (.SetComp elt [⟨t0, i0, ifs0, 0⟩, ⟨t1, i1, ifs1, 0⟩] scope pos) 0 it acc env = turnOf i0.pos t0 ifs0 (bodyTwo (.SetComp elt [⟨t0, i0, ifs0, 0⟩, ⟨t1, i1, ifs1, 0⟩] scope pos) i1 acc env) (.SetComp elt [⟨t0, i0, ifs0, 0⟩, ⟨t1, i1, ifs1, 0⟩] scope pos) 0 it acc env := by
  have e : compTurn (.SetComp elt [⟨t0, i0, ifs0, 0⟩, ⟨t1, i1, ifs1, 0⟩] scope pos) 0 it acc env = (do
      standAt i0.pos
      match ← pyNext it with
      | none => pure (.done .next)
      | some v =>
        letOwnedTupleGo t0 it v
        assign t0 env v
        let mut ok := true
        for c in ifs0 do
          if ok then ok ← isTrue c env (eval c env)
        if ok then
          let x ← eval i1 env
          standAt i1.pos
          let x ← foldedSetIterable i1 env x
          let _ ← runOwn (.compStart (.SetComp elt [⟨t0, i0, ifs0, 0⟩, ⟨t1, i1, ifs1, 0⟩] scope pos) 1 (← holding [x] (pyIter x)) acc env) env
        again (.compLoop (.SetComp elt [⟨t0, i0, ifs0, 0⟩, ⟨t1, i1, ifs1, 0⟩] scope pos) 0 it acc env)) := rfl
  rw [e]
  unfold turnOf bodyTwo
  simp only [bind_assoc, pure_bind]
theorem bd_one {pins : List (Addr × Obj)} {σ : L2.St} {H : Hp} {s : Shared} {D : Addr} {elt : Expr} {te : TE} {vs : List Nat} {Nx : Hp → Prop} (hx : ∀ v s, X.xe v s → False) (pe : PE X elt te) (I : Inv X pins σ H s) (h : tbOne X.w te D σ H Nx) :
    wpAny (model X.prog X.w) X.A (bodyOne elt (.ref D) X.env) (fun _ s' => ∃ σ' H', Inv X pins σ' H' s' ∧ KeepB vs σ σ' ∧ Nx H') (fun _ _ => False) s := by
  refine wpAny_bind (thnX hx (pe.run pins s σ H _ I h) fun z s1 ⟨yv, H1, I1, r1, z0, ys, ey, hD, room, nx⟩ => ?_)
  subst ey
  obtain ⟨tk, rfl⟩ := (show ∃ t, z = Value.str z0 t from r1)
  refine wpAny_bind (wpAny_standAt (wpAny_bind (addTx_ok I1 hD room fun s2 I2 => wpAny_pure ⟨σ, _, I2, ⟨rfl, fun j v e => (wipe_some e).1⟩, nx⟩)))
theorem start_two {elt : Expr} {g0 : Comprehension} {t1 i1 : Expr} {ifs1 : List Expr} {scope : Scope} {pos : Pos} {it acc : Value} {env : Env} {prog : Program} {w : World} {A : Around} {R : Result → Shared → Prop} {s : Shared}
    (h0 : codeAny (model prog w) A (.compLoop (.SetComp elt [g0, ⟨t1, i1, ifs1, 0⟩] scope pos) 1 it acc env) R s)
    (h : wpAny (model prog w) A (pyIter it) (fun it' s' => codeAny (model prog w) A (.compLoop (.SetComp elt [g0, ⟨t1, i1, ifs1, 0⟩] scope pos) 1 it' acc env) R s') (notedBy (model prog w) A env fun x s' => R (.error x) s') s) :
    codeAny (model prog w) A (.compStart (.SetComp elt [g0, ⟨t1, i1, ifs1, 0⟩] scope pos) 1 it acc env) R s := by
  refine codeAny_of_tree ?_
  show wpAny _ _ ((compStart (.SetComp elt [g0, ⟨t1, i1, ifs1, 0⟩] scope pos) 1 it acc env).onRaise (fun x => do noteFrame x env; standAt theWindowsPlace)) _ _ s
  refine wpAny_notedAt ?_
  unfold compStart
  show wpAny _ _ (ask >>= _) _ _ s
  refine wpAny_bind (wpAny_askSetting (wpAny_ite ?_))
  split
  · first
      | exact wpAny_bind (wpAny_pure (wpAny_pure (And.intro rfl h0)))
      | exact wpAny_pure (And.intro rfl h0)
  · have more := wpAny_mono h (fun it' s' h' => wpAny_pure (M := model prog w) (A := A) (E := notedBy (model prog w) A env fun x s' => R (.error x) s') (a := Fin.again (.compLoop (.SetComp elt [g0, ⟨t1, i1, ifs1, 0⟩] scope pos) 1 it' acc env)) (Q := fun fin s' => match fin with | .done f => R (.ok f) s' | .again c' => c'.quiet = true ∧ codeAny (model prog w) A c' R s') (And.intro rfl h')) fun _ _ x => x
    first
      | exact wpAny_bind (wpAny_rule (wpAny_bind (wpAny_standAt (wpAny_bind more))))
      | (refine wpAny_bind (wpAny_rule ?_); show wpAny _ _ (standAt i1.pos >>= _) _ _ s; exact wpAny_bind (wpAny_standAt (wpAny_bind more)))
theorem bd_two {pins : List (Addr × Obj)} {σ : L2.St} {H : Hp} {s : Shared} {D : Addr} {elt t1 i1 : Expr} {g0 : Comprehension} {ifs1 : List Expr} {scope : Scope} {pos : Pos} {wi : TI} {g : TG} {tt : TT} {te : TE} {vs vs1 : List Nat} {Nx : Hp → Prop} (hc : X.calm = true) (hx : ∀ v s, X.xe v s → False) (hs : ∀ x, foldedSetIterable i1 X.env x = pure x)
    (hv : ∀ i ∈ vs1, i ∈ vs) (hi : PI X t1 i1 wi) (pg : PG X t1 g) (pt : PTs X ifs1 tt) (pe : PE X elt te) (I : Inv X pins σ H s) (h : tbTwo wi g tt (tbOne X.w te) vs1 D σ H Nx) :
    wpAny (model X.prog X.w) X.A (bodyTwo (.SetComp elt [g0, ⟨t1, i1, ifs1, 0⟩] scope pos) i1 (.ref D) X.env) (fun _ s' => ∃ σ' H', Inv X pins σ' H' s' ∧ KeepB vs σ σ' ∧ Nx H') (fun _ _ => False) s := by
  refine wpAny_bind (thnX hx (hi.run pins s σ H _ I h) fun xv s1 h1 => ?_)
  refine wpAny_bind (wpAny_standAt (wpAny_bind (wpAny_of_eq (hs xv) (wpAny_bind (wpAny_holding (thnX hx h1 fun itv s2 h2 => ?_))))))
  obtain ⟨it1, fp1, tn1, J1, H2, e1, I2, T1, st2, f2, W, ⟨m, w0⟩, turn⟩ := h2
  subst e1
  refine wpAny_bind (wpAny_runOwn ?_)
  rw [Around.mark_none]
  have kb : KeepB vs σ (L2.wipe σ vs1) := ⟨wipe_length _ _, fun j v e => by
    obtain ⟨e1, e2⟩ := wipe_some e
    rw [wipe_out fun z => e2 (hv j z)]
    exact e1⟩
  have loop : codeAny (model X.prog X.w) X.A (.compLoop (.SetComp elt [g0, ⟨t1, i1, ifs1, 0⟩] scope pos) 1 (.ref it1) (.ref D) X.env) (fun r s' => match r with
      | .ok _ => ∃ σ' H', Inv X pins σ' H' s' ∧ KeepB vs σ σ' ∧ Nx H'
      | .error _ => False) s2 :=
    cl_core (p := i1.pos) (body := bodyOne elt (.ref D) X.env) (vs := vs1) (tb := tbOne X.w te D) (σ := σ) (Qd := Nx) (W := W) (m0 := m) hc hx rfl rfl rfl T1 pg pt (fun H' hn b hb => ⟨hn b hb, (f2 b hb).2⟩) (fun pins s σ H Ny I h => bd_one hx pe I h) turn
      (fun H' s' I' nx => ⟨_, H', I', kb, nx⟩) (I2.weak (wipe_length _ _) fun j v e => (wipe_some e).1) st2 (fun b hb => (f2 b hb).1) w0
  refine codeAny_mono (start_two loop (T1.self X.A 0 _ _ _ st2 loop)) fun r s' hr => ?_
  cases r with
  | ok f => first | exact wpAny_pure hr | exact wpAny_bind (wpAny_pure (wpAny_pure hr))
  | error e => exact hr.elim
theorem sx_core {pins : List (Addr × Obj)} {s : Shared} {σ : L2.St} {H : Hp} {Q : VK} {elt tg iter : Expr} {ifs : List Expr} {rest : List Comprehension} {scope : Scope} {own : List (Str × Nat)} {pos pos' : Pos} {wi : TI} {g : TG} {tt : TT} {tb : TBd} {use : Option (Value → Sem Unit)} {Qf : Value → Shared → Prop}
    {body : Value → Env → Sem Unit} (hc : X.calm = true) (hN : X.N.Nodup) (I : Inv X pins σ H s) (hi : PI X tg iter wi) (ok : BlkOk X.N X.env.scope scope own)
    (heq : ∀ (it acc : Value) (env : Env), compTurn (.SetComp elt (⟨tg, iter, ifs, 0⟩ :: rest) scope pos) 0 it acc env = turnOf iter.pos tg ifs (body acc env) (.SetComp elt (⟨tg, iter, ifs, 0⟩ :: rest) scope pos) 0 it acc env)
    (hg : ∀ (s : Shared) (H : Hp) (C : Addr) (cl : List (Str × Addr)) (fp : List Addr), PG (X.blk s H scope (compEnvC scope cl C X.env) fp) tg g) (ht : ∀ (s : Shared) (H : Hp) (C : Addr) (cl : List (Str × Addr)) (fp : List Addr), PTs (X.blk s H scope (compEnvC scope cl C X.env) fp) ifs tt)
    (hb : ∀ (s0 : Shared) (H0 : Hp) (C : Addr) (cl : List (Str × Addr)) (fp : List Addr) (D : Addr) pins s σ H Nx, Inv (X.blk s0 H0 scope (compEnvC scope cl C X.env) fp) pins σ H s → tb D σ H Nx →
      wpAny (model X.prog X.w) X.A (body (.ref D) (compEnvC scope cl C X.env)) (fun _ s' => ∃ σ' H', Inv (X.blk s0 H0 scope (compEnvC scope cl C X.env) fp) pins σ' H' s' ∧ KeepB (own.map (·.2)) σ σ' ∧ Nx H') (fun _ _ => False) s)
    (hs : ∀ x, foldedSetIterable iter X.env x = pure x) (h : tSx X.w wi g tt tb (own.map (·.2)) σ H Q)
    (hRR : ∀ D C s' m H', Inv X pins σ H' s' → Q (.ref D) H' → s'.heap.Ns C m → FpOk X pins H' C → compPost (model X.prog X.w) X.A X.xe use Qf (.ref D) C (.ok .next) s') :
    wpAny (model X.prog X.w) X.A (comprehension (.SetComp elt (⟨tg, iter, ifs, 0⟩ :: rest) scope pos) scope X.env pos' (PySem.newSet (.type "set")) false (eval iter X.env) use) Qf X.xe s := by
  have hfree : ∀ y ∈ scope.names, y.2 = .free → ∃ c, X.env.cells.lookup y.1 = some c := fun y hy e => (ok.free y hy e).elim (fun k => I.ok.has _ (.inl k)) fun k => I.ok.has _ (.inr k)
  refine wpAny_comprehension_free (use := use) rfl hs (closure_ok hfree) ok.kind (fun y hy e => by rw [ok.uniq y hy, e]) (thn (hi.run pins s σ H _ I h) fun xv s1 hx => thn hx fun itv s2 h2 => ?_)
  obtain ⟨it, fp, tn, J, H2, e, I2, T, st2, f2, q⟩ := h2
  subst e
  refine PpSet.newSet_ok (newEnv_comp ?_)
  obtain ⟨W, ⟨m0, w0⟩, turn⟩ := q s2.heap.objs.size (I2.hok.fresh (Nat.le_refl _))
  generalize hD : s2.heap.objs.size = D at w0 turn
  generalize ho : ({ cls := .type "set", dict := none, data := .set #[] 0 (.fresh 0 0 (!X.w.params.followText "set-order")) } : Obj) = ob
  generalize hH3 : upd H2 D (TxO X.w D []) = H3 at w0
  generalize hs3 : ({ s2 with heap := s2.heap.push ob } : Shared) = s3
  have I3 : Inv X pins σ H3 s3 := by
    rw [← hs3, ← hH3]
    refine I2.laid (t' := s2.toks) (fun b o e => Heap.get?_push_of_some _ e) (Nat.le_of_eq hD) (txO_new (TxSet.nil ?_))
    rw [← hD, ← ho]
    exact Heap.get?_push_size _ rfl
  have k3 : ∀ b o, s2.heap.get? b = some o → s3.heap.get? b = some o := fun b o e => by
    rw [← hs3]
    exact Heap.get?_push_of_some _ e
  have z3 : s3.heap.objs.size = s2.heap.objs.size + 1 := by
    rw [← hs3]
    exact Heap.size_push ..
  have f3 : ∀ b ∈ fp, FpOk X pins H3 b ∧ b < s3.heap.objs.size := fun b hb => by
    obtain ⟨o, e, _⟩ := T.obj _ _ st2 b hb
    have hlt := Heap.lt_size e
    refine ⟨⟨?_, (f2 b hb).2⟩, by rw [z3]; exact Nat.lt_succ_of_lt hlt⟩
    rw [← hH3, upd_ne (by rw [← hD]; exact Nat.ne_of_lt hlt)]
    exact (f2 b hb).1
  have I4 := block_start I3 ok hN f3
  have pg := hg s3 H3 s3.heap.objs.size (cellsFrom (s3.heap.objs.size + 1) scope.names (cloFrom X.env.cells scope.names [])) fp
  have pt := ht s3 H3 s3.heap.objs.size (cellsFrom (s3.heap.objs.size + 1) scope.names (cloFrom X.env.cells scope.names [])) fp
  have pb := hb s3 H3 s3.heap.objs.size (cellsFrom (s3.heap.objs.size + 1) scope.names (cloFrom X.env.cells scope.names [])) fp D
  show codeAny _ _ (.compStart (.SetComp elt (⟨tg, iter, ifs, 0⟩ :: rest) scope pos) 0 (.ref it) (.ref D) (compEnvC scope (cellsFrom (s3.heap.objs.size + 1) scope.names (cloFrom X.env.cells scope.names [])) s3.heap.objs.size X.env)) (compPost (model X.prog X.w) X.A X.xe use Qf (.ref D) s3.heap.objs.size) { s3 with heap := pushCells (s3.heap.push { cls := .type "dict", data := .dict #[] }) scope.names }
  generalize hce : compEnvC scope (cellsFrom (s3.heap.objs.size + 1) scope.names (cloFrom X.env.cells scope.names [])) s3.heap.objs.size X.env = ce at I4 pg pt pb ⊢
  have cL : ce.locals = s3.heap.objs.size := by
    subst hce
    rfl
  generalize hs4 : ({ s3 with heap := pushCells (s3.heap.push { cls := .type "dict", data := .dict #[] }) scope.names } : Shared) = s4 at I4 ⊢
  have st4 : tn 0 s4.heap := T.keep _ _ _ st2 fun b _ o e => by
    rw [← hs4]
    exact pushCells_keeps _ _ _ _ (Heap.get?_push_of_some _ (k3 b o e))
  have loop : codeAny (model X.prog X.w) X.A (.compLoop (.SetComp elt (⟨tg, iter, ifs, 0⟩ :: rest) scope pos) 0 (.ref it) (.ref D) ce) (compPost (model X.prog X.w) X.A X.xe use Qf (.ref D) s3.heap.objs.size) s4 := by
    refine cl_core (X := X.blk s3 H3 scope ce fp) (pins := []) (p := iter.pos) (body := body (.ref D) ce) (vs := own.map (·.2)) (tb := tb D) (σ := σ) (Qd := Q (.ref D)) (W := W) (m0 := m0) hc (fun _ _ z => z) rfl rfl (heq _ _ _) T pg pt (fun H' hn b hb => ?_) pb turn (fun H' s' I' qq => ?_) I4 st4 (fun b hb => (f3 b hb).1.1) w0
    · exact ⟨hn b hb, (I4.ok.exf b hb).1, I4.ok.exfs b hb, .inl hb, fun x c e => (I4.ok.exf b hb).2 x c e, fun p hp => absurd (show p ∈ ([] : List (Addr × Obj)) ++ [] from hp) (by simp)⟩
    · have I7 : Inv X pins σ H' s' := I3.call' (ch := fp) I'.os I'.base I'.hok I'.bare fun b hb => ⟨(f3 b hb).1.2.2.2.1, (f3 b hb).1.2.1, (f3 b hb).1.2.2.2.2.1, (f3 b hb).1.2.2.2.2.2⟩
      have nC : H' s3.heap.objs.size = none := by
        have z : H' ce.locals = none := I'.free
        rwa [cL] at z
      obtain ⟨m, hn, _⟩ := I'.loc
      have hn : s'.heap.Ns ce.locals m := hn
      rw [cL] at hn
      exact hRR D s3.heap.objs.size s' m H' I7 qq hn (I3.fpOk (Nat.le_refl _) nC)
  exact PpSet.codeAny_compStart_set loop (T.self X.A 0 _ _ _ st4 loop)
theorem pe_sx {elt tg iter : Expr} {ifs : List Expr} {rest : List Comprehension} {scope : Scope} {own : List (Str × Nat)} {pos : Pos} {wi : TI} {g : TG} {tt : TT} {tb : TBd} {body : Value → Env → Sem Unit} (hc : X.calm = true) (hN : X.N.Nodup) (hi : PI X tg iter wi) (ok : BlkOk X.N X.env.scope scope own)
    (heq : ∀ (it acc : Value) (env : Env), compTurn (.SetComp elt (⟨tg, iter, ifs, 0⟩ :: rest) scope pos) 0 it acc env = turnOf iter.pos tg ifs (body acc env) (.SetComp elt (⟨tg, iter, ifs, 0⟩ :: rest) scope pos) 0 it acc env)
    (hg : ∀ (s : Shared) (H : Hp) (C : Addr) (cl : List (Str × Addr)) (fp : List Addr), PG (X.blk s H scope (compEnvC scope cl C X.env) fp) tg g) (ht : ∀ (s : Shared) (H : Hp) (C : Addr) (cl : List (Str × Addr)) (fp : List Addr), PTs (X.blk s H scope (compEnvC scope cl C X.env) fp) ifs tt)
    (hb : ∀ (s0 : Shared) (H0 : Hp) (C : Addr) (cl : List (Str × Addr)) (fp : List Addr) (D : Addr) pins s σ H Nx, Inv (X.blk s0 H0 scope (compEnvC scope cl C X.env) fp) pins σ H s → tb D σ H Nx →
      wpAny (model X.prog X.w) X.A (body (.ref D) (compEnvC scope cl C X.env)) (fun _ s' => ∃ σ' H', Inv (X.blk s0 H0 scope (compEnvC scope cl C X.env) fp) pins σ' H' s' ∧ KeepB (own.map (·.2)) σ σ' ∧ Nx H') (fun _ _ => False) s)
    (hs : ∀ x, foldedSetIterable iter X.env x = pure x) : PE X (.SetComp elt (⟨tg, iter, ifs, 0⟩ :: rest) scope pos) (tSx X.w wi g tt tb (own.map (·.2))) := by
  refine ⟨fun pins s σ H Q I h => ?_⟩
  rw [PpSet.eval_SetComp]
  refine sx_core hc hN I hi ok heq hg ht hb hs h fun D C s' m H' I' q hn f => ⟨m, hn, fun h'' sb => ?_⟩
  obtain ⟨f0, f1, f2, f3, f4, f5⟩ := f
  exact ⟨.ref D, H', I'.turned (t' := s'.toks) (fun b o hb e => (sb.2 b hb).trans e) f0 f1 f3 f4 f5, rfl, q⟩
theorem pe_sx2 {elt tg iter tg1 iter1 : Expr} {ifs ifs1 : List Expr} {scope : Scope} {own : List (Str × Nat)} {vs1 : List Nat} {pos : Pos} {wi wi1 : TI} {g g1 : TG} {tt tt1 : TT} {te : TE} (hc : X.calm = true) (hN : X.N.Nodup) (hi : PI X tg iter wi) (ok : BlkOk X.N X.env.scope scope own) (hv : ∀ i ∈ vs1, i ∈ own.map (·.2))
    (hg : ∀ (s : Shared) (H : Hp) (C : Addr) (cl : List (Str × Addr)) (fp : List Addr), PG (X.blk s H scope (compEnvC scope cl C X.env) fp) tg g) (ht : ∀ (s : Shared) (H : Hp) (C : Addr) (cl : List (Str × Addr)) (fp : List Addr), PTs (X.blk s H scope (compEnvC scope cl C X.env) fp) ifs tt)
    (hi1 : ∀ (s : Shared) (H : Hp) (C : Addr) (cl : List (Str × Addr)) (fp : List Addr), PI (X.blk s H scope (compEnvC scope cl C X.env) fp) tg1 iter1 wi1)
    (hg1 : ∀ (s : Shared) (H : Hp) (C : Addr) (cl : List (Str × Addr)) (fp : List Addr), PG (X.blk s H scope (compEnvC scope cl C X.env) fp) tg1 g1) (ht1 : ∀ (s : Shared) (H : Hp) (C : Addr) (cl : List (Str × Addr)) (fp : List Addr), PTs (X.blk s H scope (compEnvC scope cl C X.env) fp) ifs1 tt1)
    (he : ∀ (s : Shared) (H : Hp) (C : Addr) (cl : List (Str × Addr)) (fp : List Addr), PE (X.blk s H scope (compEnvC scope cl C X.env) fp) elt te) (hs : ∀ x, foldedSetIterable iter X.env x = pure x := by intro _; rfl) (hs1 : ∀ env x, foldedSetIterable iter1 env x = pure x := by intro _ _; rfl) :
    PE X (.SetComp elt [⟨tg, iter, ifs, 0⟩, ⟨tg1, iter1, ifs1, 0⟩] scope pos) (tSx X.w wi g tt (tbTwo wi1 g1 tt1 (tbOne X.w te) vs1) (own.map (·.2))) :=
  pe_sx (body := fun acc env => bodyTwo (.SetComp elt [⟨tg, iter, ifs, 0⟩, ⟨tg1, iter1, ifs1, 0⟩] scope pos) iter1 acc env) hc hN hi ok (fun _ _ _ => turn_two) hg ht
    (fun s0 H0 C cl fp D pins s σ H Nx I h => bd_two (X := X.blk s0 H0 scope (compEnvC scope cl C X.env) fp) hc (fun _ _ z => z) (hs1 _) hv (hi1 s0 H0 C cl fp) (hg1 s0 H0 C cl fp) (ht1 s0 H0 C cl fp) (he s0 H0 C cl fp) I h) hs
end
end Tl
namespace Tl
open PySem PySem.Spec PyProof.Rows L2 TL LamX
theorem txO_no {w : World} {c : Addr} {ys : List Str} : (∀ ps, TxO w c ys ≠ .tbl ps) ∧ ∀ a q, TxO w c ys ≠ CodeO a q := by
  refine ⟨(fun _ z => nomatch z), fun a q z => ?_⟩
  unfold TxO CodeO at z
  have z := HO.ext.inj z
  let ob : Obj := { cls := .none, data := .fields #[.none, .str q default] }
  let h : Heap := { objs := Array.replicate (a + 1) ob }
  have at_ : ∀ b o, h.get? b = some o → o = ob := fun b o e => by
    unfold Heap.get? at e
    cases hb : h.objs[b]? with
    | none => rw [hb] at e; cases e
    | some o' =>
      rw [hb] at e
      have : o' = ob := by
        have hb : (Array.replicate (a + 1) ob)[b]? = some o' := hb
        rw [Array.getElem?_replicate] at hb
        split at hb
        · exact (Option.some.inj hb).symm
        · cases hb
      subst this
      exact (Option.some.inj e).symm
  have ha : h.get? a = some ob := by
    unfold Heap.get?
    have : h.objs[a]? = some ob := by
      show (Array.replicate (a + 1) ob)[a]? = some ob
      rw [Array.getElem?_replicate, if_pos (Nat.lt_succ_self a)]
    rw [this]
  have q2 : TxSet w h c ys := by
    rw [show TxSet w h c ys = _ from congrFun z h]
    exact ⟨ob, _, _, ha, rfl, rfl⟩
  obtain ⟨o, tb, ep, tt, ho, _, hd, _⟩ := q2
  rw [at_ c o ho] at hd
  cases hd
section
variable [Tabl] {K : PySem.W.Frag} {Z : XZ} {B : Option Addr} {M : Addr → Prop} {δ δ2 : List Slot} {n n' n2 : Sto} {Φ : D → Sto → Prop} {te : TE} {tt : TT} {wi : TI} {g : TG} {vs : List Nat} {G0 H0 G H G2 H2 : Hp} {σ σ2 : L2.St}
theorem En.besideT {c : Addr} {u : HO} (E : En K B M n G0 H0 G H σ δ) (ht : Tabs Tabl.T (upd H c u)) (hu : ∀ ps, u ≠ .tbl ps) (hc : B ≠ some c) (hm : n.μ c = none) (gc : G c = none) (mc : M c) (ho : ∀ (i : Nat) (x : MO), δ[i]? = some (.ow x) → σ[i]? ≠ some (some (.ref c))) : En K B M n G0 H0 G (upd H c u) σ δ where
  sub0 := E.sub0
  sub := E.sub.off gc
  same := fun b u e nm => by
    rw [upd_ne (ne_M mc nm)]
    exact E.same b u e nm
  free := fun b hb => by
    by_cases z : b = c
    · rw [z]
      exact mc
    · rw [upd_ne z] at hb
      exact E.free b hb
  fresh := E.fresh
  bagged := fun p hp => ⟨(E.bagged p hp).1.mut fun z => hc (z ▸ hp), (E.bagged p hp).2⟩
  tabs := ht
  gnt := E.gnt
  tin := fun b ps hb => by
    by_cases z : b = c
    · rw [z]
      exact mc
    · rw [upd_ne z] at hb
      exact E.tin b ps hb
  len := E.len
  slot := fun i s hs => by
    have h := E.slot i s hs
    cases s with
    | un => trivial
    | d x => exact h
    | ow x =>
      obtain ⟨p, e, hp, r⟩ := h
      exact ⟨p, e, hp.mono (Sub.refl G) (upd_ne (fun (z : p = c) => ho i x hs (by rw [← z]; exact look_some e))), r⟩
    | raw v => exact h
    | bag => exact h
    | scr ns => exact h
    | exn a d fs => exact h
  dis := E.dis
  mob := fun a o h => by
    obtain ⟨h1, h2⟩ := E.mob a o h
    exact ⟨h1.mono (Sub.refl G) (upd_ne fun z => by rw [z, hm] at h; cases h), h2⟩
  mow := E.mow
theorem En.home2 (E : En K B M n' G0 H0 G H σ δ) (e : En K B M n2 G0 H0 G2 H2 σ2 δ2) (s : Sub G G2) (so : SameOff vs σ2 σ) (sd : OffD vs δ2 δ) (ho : ∀ i ∈ vs, ∀ x, δ[i]? ≠ some (.ow x)) : En K B M n2 G0 H0 G2 H2 σ δ := by
  refine ⟨e.sub0, e.sub, e.same, e.free, e.fresh, e.bagged, e.tabs, e.tin, e.gnt, E.len, fun m t ht => ?_, E.dis, e.mob, fun i x a hi hs => ?_⟩
  · have old := E.slot m t ht
    cases t with
    | un => trivial
    | d y =>
      obtain ⟨u, f1, f2⟩ := old
      exact ⟨u, f1, f2.mono s⟩
    | ow ys =>
      have hm : m ∉ vs := fun z => ho m z ys ht
      have h2 := e.slot m (.ow ys) ((sd m hm).trans ht)
      rw [so.2 m hm] at h2
      exact h2
    | raw u => exact old
    | bag => exact old
    | scr ns => exact ⟨_, old.choose_spec.1, s.seqL old.choose_spec.2⟩
    | exn a d fs => exact ⟨old.1, old.2.mono s⟩
  · have hm : i ∉ vs := fun z => ho i z x hi
    exact e.mow i x a ((sd i hm).trans hi) ((so.2 i hm).trans hs)
theorem wipeD_in {i : Nat} : ∀ {vs : List Nat}, i ∈ vs → ∀ x, (wipeD δ vs)[i]? ≠ some (.ow x)
  | v :: vs, h, x => by
    unfold wipeD
    by_cases z : v = i
    · subst z
      by_cases l : v < (wipeD δ vs).length
      · rw [List.getElem?_set_self l]
        exact fun z => nomatch z
      · rw [List.getElem?_eq_none (by rw [List.length_set]; exact Nat.le_of_not_lt l)]
        exact fun z => nomatch z
    · rw [List.getElem?_set_ne z]
      exact wipeD_in ((List.mem_cons.mp h).resolve_left fun y => z y.symm) x
theorem setD_no {i j : Nat} {x : D} (h : ∀ x, δ[i]? ≠ some (.ow x)) (y : MO) : (δ.set j (.d x))[i]? ≠ some (.ow y) := by
  by_cases z : j = i
  · subst z
    by_cases l : j < δ.length
    · rw [List.getElem?_set_self l]
      exact fun z => nomatch z
    · rw [List.getElem?_eq_none (by rw [List.length_set]; exact Nat.le_of_not_lt l)]
      exact fun z => nomatch z
  · rw [List.getElem?_set_ne z]
    exact h y
structure Grows (C : Hp → Hp → Addr → List D → Prop) : Prop where
  mono : ∀ {G G' H H' : Hp} {c : Addr} {ys : List D}, C G H c ys → Sub G G' → H' c = H c → C G' H' c ys
  some : ∀ {G H : Hp} {c : Addr} {ys : List D}, C G H c ys → ∃ u, H c = some u ∧ (∀ ps, u ≠ .tbl ps) ∧ ∀ a q, u ≠ CodeO a q
abbrev OwNot (σ : L2.St) (δ : List Slot) (c : Addr) : Prop := ∀ (i : Nat) (x : MO), δ[i]? = some (.ow x) → σ[i]? ≠ some (some (.ref c))
def BdOk (K : PySem.W.Frag) (C : Hp → Hp → Addr → List D → Prop) (L : Nat) (n : Sto) (bd : List Slot → List D → Prop) (tb : TBd) : Prop :=
  ∀ (B : Option Addr) (M : Addr → Prop) (G0 H0 G H : Hp) (σ : L2.St) (δ : List Slot) (c : Addr) (zs ys : List D), En K B M n G0 H0 G H σ δ → C G H c zs → G c = none → n.μ c = none → B ≠ some c → M c → OwNot σ δ c → zs.length + ys.length ≤ L → bd δ ys →
    ∀ Nx : Hp → Prop, (∀ G' H', En K B M n G0 H0 G' H' σ δ → Sub G G' → C G' H' c (zs ++ ys) → G' c = none → Nx H') → tb c σ H Nx
def ElX (K : PySem.W.Frag) (P : D → Prop) (te : TE) (n : Sto) (δ : List Slot) (ys : List D) : Prop := GK K .calm te δ n fun y n' => n' = n ∧ P y ∧ ys = [y]
def ClX (K : PySem.W.Frag) (g : TG) (tt : TT) (bd : List Slot → List D → Prop) (vs : List Nat) (δ : List Slot) (n : Sto) (x : D) (ys : List D) : Prop :=
  ∃ δ2, GG K g x (wipeD δ vs) δ2 vs ∧ OffD vs δ2 δ ∧ (∀ i ∈ vs, ∀ x, δ2[i]? ≠ some (.ow x)) ∧ GT K .calm tt δ2 n fun b n2 => n2 = n ∧ (b = true → bd δ2 ys) ∧ (b = false → ys = [])
def InX (K : PySem.W.Frag) (wi : TI) (g : TG) (tt : TT) (bd : List Slot → List D → Prop) (vs : List Nat) (n : Sto) (δ : List Slot) (ys : List D) : Prop :=
  (∀ i ∈ vs, ∀ x, δ[i]? ≠ some (.ow x)) ∧ GI K .calm wi δ n fun xs n3 => n3 = n ∧ ∃ f : D → List D, ys = xs.flatMap f ∧ ∀ x ∈ xs, ClX K g tt bd vs δ n x (f x)
theorem clx_name {bd : List Slot → List D → Prop} {j : Nat} {x : D} {ys : List D} (hj : j ∈ vs) (h : GT K .calm tt ((wipeD δ vs).set j (.d x)) n fun b n2 => n2 = n ∧ (b = true → bd ((wipeD δ vs).set j (.d x)) ys) ∧ (b = false → ys = [])) : ClX K (gName j) tt bd vs δ n x ys :=
  ⟨_, gg_name hj, OffD.wipe.set hj, fun i hi => setD_no (wipeD_in hi), h⟩
theorem lp_ok {C : Hp → Hp → Addr → List D → Prop} {L : Nat} (hC : Grows C) {bd : List Slot → List D → Prop} {tb : TBd} (hb : BdOk K C L n bd tb) {f : D → List D} {xs : List D} {J : It} {G1 H1 : Hp} {c : Addr} {zs : List D} {Nx : Hp → Prop} (E1 : En K B M n G0 H0 G1 H1 σ δ)
    (ho : ∀ i ∈ vs, ∀ x, δ[i]? ≠ some (.ow x)) {Gi : Hp} (it : IterD K J Gi xs) (sI : Sub Gi G1) (hx : ∀ x ∈ xs, ClX K g tt bd vs δ n x (f x)) (h1 : C G1 H1 c zs) (gc : G1 c = none) (nm : n.μ c = none) (nb : B ≠ some c) (mc : M c) (oc : OwNot σ δ c) (hl : zs.length + (xs.flatMap f).length ≤ L)
    (hN : ∀ G' H', En K B M n G0 H0 G' H' σ δ → Sub G1 G' → C G' H' c (zs ++ xs.flatMap f) → G' c = none → Nx H') :
    ∃ W : Nat → Nat → Hp → Prop, (∃ m, W 0 m H1) ∧ ∀ i m H, W i m H → (J.stop i H ∧ Nx H) ∨ (J.go i H ∧ ∃ Ny : Hp → Prop, (∀ H', Ny H' → ∃ m', m' < m ∧ W (i + 1) m' H') ∧ ∀ x H', J.yld i H x H' →
      g x (L2.wipe σ vs) H' fun σ2 H2 => L2.wipe σ2 vs = L2.wipe σ vs ∧ tt σ2 H2 fun b H3 => if b = true then tb c σ2 H3 Ny else Ny H3) := by
  refine ⟨fun i m H => m = xs.length - i ∧ i ≤ xs.length ∧ ∃ G, En K B M n G0 H0 G H σ δ ∧ Sub G1 G ∧ C G H c (zs ++ (xs.take i).flatMap f) ∧ G c = none, ⟨xs.length, by simp, Nat.zero_le _, G1, E1, Sub.refl G1, by simpa using h1, gc⟩, ?_⟩
  rintro i m H ⟨rfl, hi, G, e, s, hc, gc'⟩
  obtain ⟨j1, j2⟩ := it G H (sI.trans s) e.sub i
  by_cases hlt : i < xs.length
  · obtain ⟨x, hx'⟩ : ∃ x, xs[i]? = some x := ⟨xs[i], by simp [hlt]⟩
    obtain ⟨jg, jy⟩ := j2 x hx'
    refine .inr ⟨jg, fun H2 => ∃ G, En K B M n G0 H0 G H2 σ δ ∧ Sub G1 G ∧ C G H2 c (zs ++ (xs.take (i + 1)).flatMap f) ∧ G c = none, fun H2 q => ⟨xs.length - (i + 1), by omega, rfl, hlt, q⟩, fun v H' y => ?_⟩
    obtain ⟨G2, s2, e2, a2, kc⟩ := e.yld (jy v H' y)
    obtain ⟨u0, hu0, _⟩ := hC.some hc
    obtain ⟨k1, k2⟩ := kc c (not_none hu0)
    have hc2 := hC.mono hc s2 k1
    have gc2 : G2 c = none := k2.trans gc'
    obtain ⟨δ2, gg, od, no, ht⟩ := hx x (List.mem_of_getElem? hx')
    refine gg B M n G0 H0 G2 H' _ (e2.wipe vs) v a2 _ fun σ3 e3 s3 => ?_
    have so : SameOff vs σ3 σ := s3.trans SameOff.off
    have oc3 : OwNot σ3 δ2 c := fun i x hi => by
      by_cases z : i ∈ vs
      · exact absurd hi (no i z x)
      · rw [so.2 i z]
        exact oc i x ((od i z).symm.trans hi)
    refine ⟨by rw [s3.wipe]; exact SameOff.off.wipe, ?_⟩
    obtain ⟨u2, hu2, hnt, _⟩ := hC.some hc2
    have e3r := e3.rebase (c := c) nb nm oc3 ⟨u2, hu2, hnt⟩
    refine ht B _ G2 H' .calm G2 H' σ3 e3r _ fun b G4 H4 n4 f4 e4 s4 => ?_
    obtain ⟨rfl, ft, ff⟩ := f4
    have ncm : ¬ (M c ∧ c ≠ c) := fun z => z.2 rfl
    have h4 : H4 c = H' c := (e4.same c _ hu2 ncm).trans hu2.symm
    have g4 : G4 c = none := e4.fresh c ncm gc2
    have hc4 := hC.mono hc2 s4 h4
    have tk : (xs.take (i + 1)).flatMap f = (xs.take i).flatMap f ++ f x := by
      rw [take_snoc hx', List.flatMap_append]
      simp
    have E4 := e3.back e4
    cases b with
    | false =>
      refine ⟨G4, e2.home2 E4 s4 so od ho, (s.trans s2).trans s4, ?_, g4⟩
      rw [tk, ff rfl, List.append_nil]
      exact hc4
    | true =>
      refine hb B M G0 H0 G4 H4 σ3 δ2 c _ (f x) E4 hc4 g4 nm nb mc oc3 ?_ (ft rfl) _ fun G5 H5 e5 s5 h5 g5 => ⟨G5, e2.home2 e5 (s4.trans s5) so od ho, ((s.trans s2).trans s4).trans s5, ?_, g5⟩
      · have q : xs.flatMap f = (xs.take (i + 1)).flatMap f ++ (xs.drop (i + 1)).flatMap f := by rw [← List.flatMap_append, List.take_append_drop]
        rw [q, tk, List.length_append, List.length_append] at hl
        rw [List.length_append]
        omega
      · rw [tk, ← List.append_assoc]
        exact h5
  · have ei : i = xs.length := by omega
    subst ei
    rw [List.take_length] at hc
    exact .inl ⟨j1 rfl, hN G H e s hc gc'⟩
theorem bd_in {C : Hp → Hp → Addr → List D → Prop} {L : Nat} (hC : Grows C) {bd : List Slot → List D → Prop} {tb : TBd} (hb : BdOk K C L n bd tb) : BdOk K C L n (InX K wi g tt bd vs n) (tbTwo wi g tt tb vs) := by
  intro B M G0 H0 G H σ δ c zs ys E hc gc nm nb mc oc hl hbd Nx hN
  obtain ⟨ho, hg⟩ := hbd
  obtain ⟨u, hu, hnt, _⟩ := hC.some hc
  refine hg B _ G H .calm G H σ (E.rebase (c := c) nb nm oc ⟨u, hu, hnt⟩) _ fun J xs G5 H5 n5 f5 e5 s5 it => ?_
  obtain ⟨rfl, f, rfl, hx⟩ := f5
  have ncm : ¬ (M c ∧ c ≠ c) := fun z => z.2 rfl
  exact lp_ok hC hb (E.back e5) ho it (Sub.refl _) hx (hC.mono hc s5 ((e5.same c _ hu ncm).trans hu.symm)) (e5.fresh c ncm gc) nm nb mc oc hl fun G' H' e s h g => hN G' H' e (s5.trans s) h g
def CTx (w : World) (_ H : Hp) (c : Addr) (ys : List D) : Prop := ∃ zs : List Str, ys = zs.map D.str ∧ H c = some (TxO w c zs)
omit [Tabl] in
theorem grows_tx {w : World} : Grows (CTx w) where
  mono := fun ⟨zs, e, h⟩ _ k => ⟨zs, e, k.trans h⟩
  some := fun ⟨zs, _, h⟩ => ⟨_, h, txO_no⟩
theorem bd_tx {w : World} : BdOk K (CTx w) 4000 n (ElX K (fun y => ∃ z, y = .str z) te n) (tbOne w te) := by
  intro B M G0 H0 G H σ δ c zs ys E hc gc nm nb mc oc hl hbd Nx hN
  obtain ⟨zs, rfl, hz⟩ := hc
  refine hbd B _ G H .calm G H σ (E.rebase (c := c) nb nm oc ⟨_, hz, txO_no.1⟩) _ fun v d G5 H5 n5 f5 e5 s5 a5 => ?_
  obtain ⟨rfl, ⟨z, rfl⟩, rfl⟩ := f5
  have ncm : ¬ (M c ∧ c ≠ c) := fun z => z.2 rfl
  have h5 := e5.same c _ hz ncm
  have g5 := e5.fresh c ncm gc
  cases a5
  rw [List.length_map, List.length_singleton] at hl
  refine ⟨z, zs, rfl, h5, Nat.lt_of_le_of_lt hl (by decide), hN G5 _ ((E.back e5).besideT (tabs_to e5.tabs h5 txO_no) txO_no.1 nb nm g5 mc oc) s5 ⟨zs ++ [z], by simp, upd_same⟩ g5⟩
theorem En.freshc {c : Addr} (E : En K B M n G0 H0 G H σ δ) (hc : H c = none) : G c = none ∧ n.μ c = none ∧ B ≠ some c ∧ M c ∧ OwNot σ δ c :=
  ⟨E.sub.none hc, E.nomob hc, (fun z => (E.bagged c z).1.some hc), E.free c hc, fun i xs hi z => by
    obtain ⟨p, e1, e2, _⟩ := E.owo hi
    rw [z] at e1
    cases e1
    exact e2.some hc⟩
theorem gk_sx {w : World} {bd : Sto → List Slot → List D → Prop} {tb : TBd} (hb : ∀ n, BdOk K (CTx w) 4000 n (bd n) tb) (ho : ∀ i ∈ vs, ∀ x, δ[i]? ≠ some (.ow x)) {r : List V → Hp → VK → Prop}
    (h : GI K Z wi δ n fun xs n1 => ∃ (f : D → List D) (zs : List Str), (∀ x ∈ xs, ClX K g tt (bd n1) vs δ n1 x (f x)) ∧ xs.flatMap f = zs.map D.str ∧ zs.length ≤ 4000 ∧
      ∀ (B : Option Addr) (M : Addr → Prop) (G0 H0 G H : Hp) (σ : L2.St) (c : Addr), En K B M n1 G0 H0 G H σ δ → H c = some (TxO w c zs) → ∀ Q : VK, (∀ (v : V) (d : D) (G' H' : Hp) (n' : Sto), Φ d n' → En K B M n' G0 H0 G' H' σ δ → Sub G G' → Is K G' v d → Q v H') → r [.ref c] H Q) :
    GK K Z (tCB r (tCons (tSx w wi g tt tb vs) tNil)) δ n Φ := fun B M G0 H0 xw G H σ E Q q =>
  h B M G0 H0 xw G H σ E _ fun J xs G1 H1 n1 f1 E1 s1 it => by
    obtain ⟨f, zs, hx, ez, hl, hr⟩ := f1
    intro c hc
    obtain ⟨gc, nm, nb, mc, oc⟩ := E1.freshc hc
    refine lp_ok (C := CTx w) (L := 4000) (zs := []) grows_tx (hb n1) (E1.newc (o := TxO w c []) hc) ho it (Sub.refl _) hx ⟨[], rfl, upd_same⟩ gc nm nb mc oc ?_ fun G' H' e s hz g' => ?_
    · rw [ez, List.length_map, List.length_nil]
      omega
    · obtain ⟨zs', e1, hz⟩ := hz
      rw [List.nil_append, ez] at e1
      have : zs = zs' := by
        have := congrArg (List.map fun d => match d with | D.str s => s | _ => Str.empty) e1
        simpa [Function.comp_def] using this
      subst this
      exact hr B M G0 H0 G' H' σ c e hz Q fun v d G2 H2 n2 f2 e2 s2 a2 => q v d G2 H2 n2 f2 e2 ((s1.trans s).trans s2) a2
theorem sx_sort {w : World} {zs : List Str} (hl : zs.length < 4000) (h : Φ (.lst ((setS zs).map D.str)) n) : ∀ (B : Option Addr) (M : Addr → Prop) (G0 H0 G H : Hp) (σ : L2.St) (c : Addr), En K B M n G0 H0 G H σ δ → H c = some (TxO w c zs) → ∀ Q : VK, (∀ (v : V) (d : D) (G' H' : Hp) (n' : Sto), Φ d n' → En K B M n' G0 H0 G' H' σ δ → Sub G G' → Is K G' v d → Q v H') → rSortTx w [.ref c] H Q :=
  fun B M G0 H0 G H σ c E hc Q q => ⟨c, zs, rfl, hc, hl, fun p hp => q _ _ _ _ n h (E.laid hp) (Sub.new (E.sub.none hp)) (.lst upd_same (IsAll.strs _))⟩
theorem gk_sortSx2 {w : World} {wi1 : TI} {g1 : TG} {tt1 : TT} {vs1 : List Nat} (ho : ∀ i ∈ vs, ∀ x, δ[i]? ≠ some (.ow x))
    (h : GI K Z wi δ n fun xs n1 => ∃ (f : D → List D) (zs : List Str), (∀ x ∈ xs, ClX K g tt (InX K wi1 g1 tt1 (ElX K (fun y => ∃ z, y = .str z) te n1) vs1 n1) vs δ n1 x (f x)) ∧ xs.flatMap f = zs.map D.str ∧ zs.length < 4000 ∧ Φ (.lst ((setS zs).map D.str)) n1) :
    GK K Z (tCB (rSortTx w) (tCons (tSx w wi g tt (tbTwo wi1 g1 tt1 (tbOne w te) vs1) vs) tNil)) δ n Φ :=
  gk_sx (bd := fun n1 => InX K wi1 g1 tt1 (ElX K (fun y => ∃ z, y = .str z) te n1) vs1 n1) (fun n => bd_in grows_tx bd_tx) ho fun B M G0 H0 xw G H σ E R r => h B M G0 H0 xw G H σ E R fun J xs G' H' n' q e s it => by
    obtain ⟨f, zs, h1, h2, h3, h4⟩ := q
    exact r J xs G' H' n' ⟨f, zs, h1, h2, Nat.le_of_lt h3, sx_sort h3 h4⟩ e s it
omit [Tabl] in
theorem flatMap_one {f : D → D} : ∀ xs : List D, (xs.flatMap fun x => [f x]) = xs.map f
  | [] => rfl
  | x :: xs => by
    rw [List.flatMap_cons, flatMap_one xs]
    rfl
end
end Tl
namespace Tl
open PySem PySem.Spec PyProof.Rows L2 TL LamX
section
variable [Tabl] {K : PySem.W.Frag} {Z : XZ} {B : Option Addr} {δ : List Slot} {n : Sto} {Φ : D → Sto → Prop} {te ta tb : TE} {N Bk Ct : List Slot → Sto → Prop} {R : D → Sto → Prop}
end
end Tl
namespace Tl
open PySem PySem.Spec PyProof.Rows L2 TL LamX
def EqVal (K : PySem.W.Frag) (H : Hp) (v u : V) : Prop := (∃ p : Addr, v = .ref p ∧ u = .ref p) ∨ ∃ (p q : Addr) (ks ls : List (Key × V)), v = .ref p ∧ u = .ref q ∧ Rd H p (.dK ks) ∧ Rd H q (.dK ls) ∧ ks.length = ls.length ∧ HitsV K H ls ks true
theorem eqVal_run {X : Cx} {pins : List (Addr × Obj)} {σ : L2.St} {H : Hp} {s : Shared} {A : Around} (I : L2.Inv X pins σ H s) (hu : A.units + 60 < cLine) {v u : V} {x y : Value} (h : EqVal X.K H v u) (rx : RelV v x) (ry : RelV u y) : PySem.SeqAt.EqIn X.prog X.w A s x y true := by
  rcases h with ⟨p, rfl, rfl⟩ | ⟨p, q, ks, ls, rfl, rfl, hp, hq, hl, hh⟩
  · cases (show x = Value.ref p from rx)
    cases (show y = Value.ref p from ry)
    exact (PySem.SeqAt.EqAt.same _).inModel _ _
  · cases (show x = Value.ref p from rx)
    cases (show y = Value.ref q from ry)
    by_cases e : p = q
    · subst e
      exact (PySem.SeqAt.EqAt.same _).inModel _ _
    · obtain ⟨_, yp, vp, rp, dp⟩ := (show ObjOk X.prog X.w H s.heap p (.dK ks) from hp.ok I.hok)
      obtain ⟨_, yq, vq, rq, dq⟩ := (show ObjOk X.prog X.w H s.heap q (.dK ls) from hq.ok I.hok)
      refine PySem.SeqAt.EqIn.of_refs e fun E Q hQ => PySem.W.keq_eq (knd := mixKind X.prog X.w) (r := true) yp yq dp dq (by omega) (fun _ => hitsV_run I (by show A.units + 1 + 50 < _; omega) rq rp hh) ?_
      rw [← rp.length, ← rq.length, hl, beq_self_eq_true]
      exact hQ
theorem eqHits_run {X : Cx} {pins : List (Addr × Obj)} {σ : L2.St} {H : Hp} {s : Shared} {A : Around} (I : L2.Inv X pins σ H s) (hu : A.units + 60 < cLine) {ls : List (Key × V)} {vb : List (Key × Value)} (rb : KV ls vb) {ks : List (Key × V)} {va : List (Key × Value)}
    (ra : KV ks va) (h : ∀ kv ∈ ks, ∃ u, valV ls kv.1 = some u ∧ EqVal X.K H kv.2 u) : PySem.W.KeqHitsIn X.prog X.w A s vb va true := by
  unfold KV at ra
  induction ra with
  | nil => exact .nil
  | @cons p q ps qs a t ih =>
    obtain ⟨a1, a2⟩ := a
    obtain ⟨k, v⟩ := p
    obtain ⟨k2, u2⟩ := q
    have a1 : k = k2 := a1
    subst a1
    obtain ⟨u, f, e⟩ := h (k, v) List.mem_cons_self
    have rr : RelO (some u) (valueAt vb k) := by
      rw [← f]
      exact rb.val k
    obtain ⟨y, hy, ry⟩ := rr.some_of
    exact .hit (e := true) (b := true) hy (eqVal_run I hu e a2 ry) (ih fun kv hkv => h kv (List.mem_cons_of_mem _ hkv))
def rCmpDD (K : PySem.W.Frag) (neg : Bool) : R2 := fun x y H Q => ∃ a b ks ls, x = .ref a ∧ y = .ref b ∧ Rd H a (.dK ks) ∧ Rd H b (.dK ls) ∧ ks.length = ls.length ∧ (∀ kv ∈ ks, ∃ u, valV ls kv.1 = some u ∧ EqVal K H kv.2 u) ∧ Q (.bl neg) H
theorem ne_dicts {P : Program} {w : World} {A : Around} {E : Value → Shared → Prop} {s : Shared} {K : Type} [DecidableEq K] {knd : KeyKind P w K} {a b : Addr} {ka kb : List (K × Value)} {r : Bool} {Q : Value → Shared → Prop} (ha : (a == sysModules) = false) (hb : (b == sysModules) = false)
    (da : s.heap.DictOf knd a ka) (db : s.heap.DictOf knd b kb) (hu : A.units < cLine) (hits : ka.length = kb.length → PySem.W.KeqHitsIn P w A.in1 s kb ka r) (h : Q (.bool (!(ka.length == kb.length && r))) s) : wpAny (model P w) A (compareOp .NotEq (.ref a) (.ref b)) Q E s := by
  refine wpAny_richCompare_same_room (op := .NotEq) da.typeIs db.typeIs PySem.F.slot_dict_ne (wpAny_call_entry PySem.F.slot_dict_ne da.typeIs PySem.F.entry_dict_ne ?_ (PySem.F.args_dict_ne_2 _ _)) hu
  show wpAny _ _ (Builtin.Dict.dictSlotArgs "__ne__" ⟨[.ref a, .ref b], []⟩ >>= _) _ _ s
  refine wpAny_bind ?_
  unfold Builtin.Dict.dictSlotArgs
  refine wpAny_bind (wpAny_notOrdered_dict da.typeIs ?_)
  show wpAny _ _ (pure (Value.ref a, Value.ref b)) _ _ s
  refine wpAny_pure (wpAny_bind (wpAny_isInstance (T := "dict") db.typeIs PySem.F.sub_dict_dict ?_))
  simp only [Bool.not_true, Bool.false_eq_true, if_false]
  refine wpAny_bind (wpAny_pure (wpAny_bind (wpAny_pure (wpAny_bind (PySem.W.keq_samePairsIn ha hb da db hits (wpAny_pure ⟨_, rfl, ?_, ?_⟩))))))
  · exact fun x => nomatch x
  · simpa using h
theorem op_neDD {X : Cx} {K : PySem.W.Frag} (hK : X.K = K) (hu : X.A.units + 64 < cLine) : OpR X (compareOp .NotEq) (rCmpDD K false) := by
  subst hK
  intro pins s σ H x y v u Q I rx ry h
  obtain ⟨a, b, ks, ls, rfl, rfl, ea, eb, hl, hh, q⟩ := h
  cases (show v = Value.ref a from rx)
  cases (show u = Value.ref b from ry)
  obtain ⟨_, ya, va, ra, da⟩ := (show ObjOk X.prog X.w H s.heap a (.dK ks) from ea.ok I.hok)
  obtain ⟨_, yb, vb, rb, db⟩ := (show ObjOk X.prog X.w H s.heap b (.dK ls) from eb.ok I.hok)
  refine ne_dicts (knd := mixKind X.prog X.w) (r := true) ya yb da db (by omega) (fun _ => eqHits_run I (by show X.A.units + 1 + 60 < _; omega) rb ra hh) (fin_bl I q ?_)
  rw [← ra.length, ← rb.length, hl, beq_self_eq_true]
  rfl
section
variable [Tabl] {K : PySem.W.Frag} {Z : XZ} {B : Option Addr} {δ : List Slot} {n : Sto} {Φ : D → Sto → Prop}
theorem rk_cmpDD {neg : Bool} {j l : Nat} {x y : D} {es fs : List (Key × D)} (hj : j ≤ 50) (hx : DicAt n x es) (hy : DicAt n y fs) (hl : es.length = fs.length) (he : ∀ kv ∈ es, ∃ es' fs', kv.2 = .dct es' ∧ getD' fs kv.1 = some (.dct fs') ∧ es'.length = fs'.length ∧ (∀ kv ∈ es', Shp j kv.2) ∧ (∀ kv ∈ fs', Shp l kv.2) ∧ eqKv fs' es' = true)
    (k : Φ (.bl neg) n) : RK K Z (rCmpDD K neg) x y δ n Φ := fun B M G0 H0 xw G H σ E v w a b Q q => by
  obtain ⟨p, vs, rfl, h1, i1⟩ := hx.get E a
  obtain ⟨p2, vs2, rfl, h2, i2⟩ := hy.get E b
  have len : ∀ {vs : List (Key × V)} {es : List (Key × D)}, IsKv K G vs es → vs.length = es.length := fun h => h.len
  refine ⟨p, p2, vs, vs2, rfl, rfl, h1, h2, by rw [len i1, len i2, hl], ?_, q _ _ _ _ n k E (Sub.refl G) (.bl _)⟩
  clear h1 hx hl a k q
  induction vs generalizing es with
  | nil => exact fun _ h => absurd h List.not_mem_nil
  | cons kv vs ih =>
    cases i1 with
    | @cons k0 x0 xs d0 ds h r =>
      intro kw hkw
      rcases List.mem_cons.mp hkw with rfl | hkw
      · obtain ⟨es', fs', e1, e2, e3, s1, s2, e4⟩ := he (k0, d0) List.mem_cons_self
        have e1 : d0 = .dct es' := e1
        subst e1
        obtain ⟨u, hu, iu⟩ := i2.get e2
        refine ⟨u, hu, .inr ?_⟩
        cases h with
        | @dct p3 o3 ws3 _ g3 a3 =>
          cases iu with
          | @dct p4 o4 ws4 _ g4 a4 =>
            obtain ⟨r0, hr, er⟩ := hits_of hj E.sub a4 s2 a3 s1
            have : r0 = true := er.mpr e4
            subst this
            exact ⟨p3, p4, ws3, ws4, rfl, rfl, .inr ⟨o3, E.sub _ _ g3⟩, .inr ⟨o4, E.sub _ _ g4⟩, by rw [a3.len, a4.len, e3], hr⟩
      · exact ih (fun kv hkv => he kv (List.mem_cons_of_mem _ hkv)) r kw hkw
end
end Tl
namespace Tl
open PySem PySem.Spec PyProof.Rows L2 TL LamX
def allBut (h : Heap) (L : Addr) : List (Addr × Obj) := (List.range h.objs.size).filterMap fun a => if a = L then none else (h.get? a).map fun o => (a, o)
theorem allBut_mem {h : Heap} {L a : Addr} {o : Obj} : (a, o) ∈ allBut h L ↔ a ≠ L ∧ h.get? a = some o := by
  unfold allBut
  rw [List.mem_filterMap]
  constructor
  · rintro ⟨b, _, e⟩
    by_cases z : b = L
    · rw [if_pos z] at e
      cases e
    · rw [if_neg z] at e
      obtain ⟨o', e1, e2⟩ := Option.map_eq_some_iff.mp e
      cases e2
      exact ⟨z, e1⟩
  · rintro ⟨z, e⟩
    exact ⟨a, List.mem_range.mpr (Heap.lt_size e), by rw [if_neg z, e]; rfl⟩
theorem none_at (b : Addr) : ({ objs := #[] } : Heap).get? b = none := by
  unfold Heap.get?
  simp
section
variable {X : Cx} {pins : List (Addr × Obj)} {σ : L2.St} {H : Hp} {s : Shared}
theorem all_news (L : Addr) : News ({ objs := #[] } : Heap) L s.heap (allBut s.heap L) := fun p hp => by
  obtain ⟨e1, e2⟩ := allBut_mem.mp hp
  exact ⟨e2, e1, none_at _⟩
theorem all_kept {h' : Heap} {L : Addr} {more : List (Addr × Obj)} (N : News ({ objs := #[] } : Heap) L h' (allBut s.heap L ++ more)) {b : Addr} {o : Obj} (hb : b ≠ L) (e : s.heap.get? b = some o) : h'.get? b = some o :=
  (N (b, o) (List.mem_append_left _ (allBut_mem.mpr ⟨hb, e⟩))).1
theorem inv_all {h' : Heap} {t' : Nat} {m : Str → Option Value} (I : Inv X pins σ H s) (hm : s.heap.Ns X.env.locals m) (F : PyProof.Rows.Fr ({ objs := #[] } : Heap) X.env.locals h' m) (N : News ({ objs := #[] } : Heap) X.env.locals h' (allBut s.heap X.env.locals)) : Inv X pins σ H { s with heap := h', toks := t' } := by
  have k : ∀ b o, b ≠ X.env.locals → s.heap.get? b = some o → h'.get? b = some o := fun b o hb e => all_kept (more := []) (by rw [List.append_nil]; exact N) hb e
  have nit : ∀ b u, H b = some u → b ≠ X.env.locals := fun b u e z => by rw [z, I.free] at e; cases e
  refine I.step (g' := s.gens) (d' := s.drawn) (ch := []) (fun b hb => absurd hb List.not_mem_nil) (fun b o hb _ _ e _ => k b o hb e) (fun b o hb _ _ e _ => ⟨o.slots, k b o hb e⟩) (fun _ _ _ _ n => n) (fun b o _ e => ?_) (fun _ _ e => e) (fun _ _ _ e => e) (fun b ps e => ⟨#[], by rw [e]; simp⟩) (fun m' hm' => ?_) (fun b u e => ?_) I.bare
  · by_cases z : b = X.env.locals
    · obtain ⟨o', _, _, ho, _⟩ := F.ns
      exact ⟨o', by rw [z]; exact ho⟩
    · exact ⟨o, k b o z e⟩
  · have : m' = m := by
      obtain ⟨o1, es1, ep1, e1, d1, _, f1⟩ := hm
      obtain ⟨o2, es2, ep2, e2, d2, _, f2⟩ := hm'
      rw [e1] at e2
      cases e2
      rw [d1] at d2
      cases d2
      exact funext fun x => (f2 x).symm.trans (f1 x)
    rw [this]
    exact F.ns
  · refine (I.hok b u e).stay (fun c v hc q => k c v ?_ q) (fun _ q => q) fun _ _ q => q
    rcases hc with z | z
    · rw [z]; exact nit b u e
    · exact nit c _ z
end
theorem vals_ref2 {p q : Addr} {us : List Value} (h : Vals [.ref p, .ref q] us) : us = [.ref p, .ref q] := by
  cases h with
  | cons a r =>
    cases r with
    | cons b r =>
      cases r
      obtain rfl := (show _ = Value.ref p from a)
      obtain rfl := (show _ = Value.ref q from b)
      rfl
def tMinLen (K : PySem.W.Frag) (te : TE) : TE := fun σ H Q => te σ H fun x H1 => ∃ (a p q : Addr) (ys zs : List V), x = .ref a ∧ SqL K H1 a [.ref p, .ref q] ∧ SqL K H1 p ys ∧ SqL K H1 q zs ∧ Q (if ys.length ≤ zs.length then .ref p else .ref q) H1
theorem pe_minLen {X : Cx} {K : PySem.W.Frag} {px npos kpos pos : Pos} {e : Expr} {te : TE} (hK : X.K = K) (hg : Gl X "min") (hm : X.mg "min" = none) (hg2 : Gl X "len") (hm2 : X.mg "len" = none) (hca : X.calm = true) (he : PE X e te) (hst : starEach [e] X.env = [(false, eval e X.env)] := by rfl) :
    PE X (.Call (.Name "min" px) [e] [⟨some "key", .Name "len" npos, kpos⟩] pos) (tMinLen K te) := by
  subst hK
  refine ⟨fun pins s σ H Q I h => ?_⟩
  refine wpAny_Call_Name_kw (ld_blt (u := .builtin "min") I hg hm (by decide +kernel) ?_)
  refine PyProof.Rows.callWith_kw (e := e) (rest := []) ?_ (by show backTo pos (starEach [e] X.env) = _; rw [hst]; rfl) (by rw [hst]; rfl) (by rfl) (by rfl)
  have hb : backTo pos (starEach [e] X.env) = (false, eval e X.env) :: backTo pos (starEach [] X.env) := by
    rw [hst]
    rfl
  rw [hb]
  refine Calls.spliced_cons (thn (he.run pins s σ H _ I h) fun u s1 ⟨x, H1, I1, r1, a, p, q, ys, zs, ex, ha, hp, hq, q1⟩ => ?_)
  refine Calls.spliced_nil ?_
  subst ex
  obtain rfl : u = Value.ref a := r1
  show wpAny _ _ (evalAll [(do let v ← eval (.Name "len" npos) X.env; standAt pos; pure v)]) _ _ s1
  refine wpAny_evalAll_cons (wpAny_bind (ld_blt (u := .builtin "len") I1 hg2 hm2 (by decide +kernel) (wpAny_bind (wpAny_standAt (wpAny_pure ?_)))))
  refine wpAny_evalAll_nil ?_
  show wpAny _ _ (call (.builtin "min") [.ref a] [(Str.ofString "key", .builtin "len")]) _ _ s1
  obtain ⟨m, hns, _⟩ := I1.loc
  have hns0 : s1.heap.Ns X.env.locals m := hns
  have notL : ∀ {b : Addr} {its : Array Value}, s1.heap.IsList b its → b ≠ X.env.locals := fun {b its} hl z => by
    obtain ⟨o, e1, _, n, d1⟩ := hl
    obtain ⟨o2, es, ep, e2, d2, _⟩ := hns0
    rw [z, e2] at e1
    cases e1
    rw [d2] at d1
    cases d1
  obtain ⟨ia, ra, la, _⟩ := I1.list ha
  obtain ⟨ip, rp, lp, zp⟩ := I1.list hp
  obtain ⟨iq, rq, lq, zq⟩ := I1.list hq
  have ea : ia = [Value.ref p, Value.ref q] := vals_ref2 ra
  subst ea
  have la := la.isList
  have lp := lp.isList
  have lq := lq.isList
  have keepL : ∀ {b : Addr} {its : Array Value} {h : Heap} {more : List (Addr × Obj)}, s1.heap.IsList b its → News ({ objs := #[] } : Heap) X.env.locals h (allBut s1.heap X.env.locals ++ more) → h.IsList b its := fun {b its h more} hl N => by
    have nb := notL hl
    obtain ⟨o, e1, r⟩ := hl
    exact ⟨o, all_kept N nb e1, r⟩
  have sp : (ip.toArray.size : Int) < 2 ^ 63 := by
    have := rp.length
    rw [List.size_toArray]
    rw [sizeLine_eq] at zp
    omega
  have sq : (iq.toArray.size : Int) < 2 ^ 63 := by
    have := rq.length
    rw [List.size_toArray]
    rw [sizeLine_eq] at zq
    omega
  have lep := rp.length
  have leq := rq.length
  refine kmb_min_two (h₀ := { objs := #[] }) (L := X.env.locals) (m := m) (news := allBut s1.heap X.env.locals) (ip.toArray.size : Int) (iq.toArray.size : Int) (I1.ok.hd hca) ⟨hns0, fun b o e => absurd e (by rw [none_at]; exact fun z => nomatch z), Nat.zero_le _⟩ (all_news _)
    (fun h F N => keepL (more := []) la (by rw [List.append_nil]; exact N)) (fun h tk own F N => ?_) (fun h tk own F N => ?_) (fun hle h' tk' F N => ?_) (fun hlt h' tk' F N => ?_)
  · exact Calls.call_len_list (keepL lp N) sp (KskEnd.intro F N fun _ z => z)
  · exact Calls.call_len_list (keepL lq N) sq (KskEnd.intro F N fun _ z => z)
  · refine ⟨.ref p, H1, inv_all I1 hns0 F N, rfl, ?_⟩
    rw [if_pos] at q1
    · exact q1
    · rw [List.size_toArray, List.size_toArray] at hle
      omega
  · refine ⟨.ref q, H1, inv_all I1 hns0 F N, rfl, ?_⟩
    rw [if_neg] at q1
    · exact q1
    · rw [List.size_toArray, List.size_toArray] at hlt
      omega
section
variable [Tabl] {K : PySem.W.Frag} {Z : XZ} {B : Option Addr} {δ : List Slot} {n : Sto} {Φ : D → Sto → Prop} {te : TE}
theorem gk_minLen (h : GK K Z te δ n fun d n1 => ∃ xs ys : List D, d = .lst [.lst xs, .lst ys] ∧ Φ (.lst (if xs.length ≤ ys.length then xs else ys)) n1) : GK K Z (tMinLen K te) δ n Φ := fun B M G0 H0 xw G H σ E Q q =>
  h B M G0 H0 xw G H σ E _ fun v d G1 H1 n1 f1 E1 s1 a1 => by
    obtain ⟨xs, ys, rfl, f1⟩ := f1
    cases a1 with
    | @lst p vs _ h1 a1 =>
      cases a1 with
      | cons b1 r =>
        cases r with
        | cons b2 r =>
          cases r
          cases b1 with
          | @lst p1 vs1 _ g1 c1 =>
            cases b2 with
            | @lst p2 vs2 _ g2 c2 =>
              refine ⟨p, p1, p2, vs1, vs2, rfl, SqL.of (E1.sub _ _ h1), SqL.of (E1.sub _ _ g1), SqL.of (E1.sub _ _ g2), ?_⟩
              rw [c1.len, c2.len]
              by_cases z : xs.length ≤ ys.length
              · rw [if_pos z]
                rw [if_pos z] at f1
                exact q _ _ _ _ _ f1 E1 s1 (.lst g1 c1)
              · rw [if_neg z]
                rw [if_neg z] at f1
                exact q _ _ _ _ _ f1 E1 s1 (.lst g2 c2)
end
end Tl
namespace Tl
open PySem PySem.Spec PyProof.Rows L2 TL LamX
section
variable [Tabl] {K : PySem.W.Frag} {Z : XZ} {B : Option Addr} {δ : List Slot} {n : Sto} {te : TE} {ts tb : TS} {g : TG} {N Bk Ct : List Slot → Sto → Prop} {R : D → Sto → Prop}
theorem gs_forP (h : GK K Z te δ n fun d n1 => ∃ p xs, d = .ptr p ∧ n1.μ p = some (.lst xs) ∧ ∃ Iv : Nat → List Slot → Sto → Prop, (∃ δ', Wk δ δ' ∧ Iv 0 δ' n1) ∧ (∀ i δ' n', Iv i δ' n' → n'.μ p = some (.lst xs)) ∧
      (∀ i x δ' n', xs[i]? = some x → Iv i δ' n' → ∃ δ2 vs, GG K g x δ' δ2 vs ∧ GS K Z B tb δ2 n' (fun δ3 n3 => ∃ δ4, Wk δ3 δ4 ∧ Iv (i + 1) δ4 n3) R N (fun δ3 n3 => ∃ δ4, Wk δ3 δ4 ∧ Iv (i + 1) δ4 n3)) ∧ ∀ δ' n', Iv xs.length δ' n' → N δ' n') :
    GS K Z B (tFor (iList K te) g tb) δ n N R Bk Ct := fun m0 G0 H0 xw G H σ E e hn hr hb hc =>
  h B (MOf B m0 H0) G0 H0 xw G H σ e _ fun v d G1 H1 n1 f1 E1 s1 a1 => by
    obtain ⟨p, xs, rfl, hp, Iv, ⟨δ0, w0, h0⟩, hk, hs, hd⟩ := f1
    cases a1
    obtain ⟨vs0, g0, _⟩ := E1.mlst hp
    refine ⟨p, rfl, ⟨vs0, SqL.of g0⟩, fun i m σ' H' => m = xs.length - i ∧ i ≤ xs.length ∧ ∃ δ' n' G', Iv i δ' n' ∧ En K B (MOf B m0 H0) n' G0 H0 G' H' σ' δ' ∧ Sub G1 G', ⟨xs.length, by simp, Nat.zero_le _, δ0, n1, G1, h0, E1.wk w0, Sub.refl G1⟩, ?_⟩
    rintro i m σ' H' ⟨rfl, hi, δ', n', G', iv, e', s'⟩
    obtain ⟨vs, g1, ia⟩ := e'.mlst (hk i δ' n' iv)
    by_cases hlt : i < xs.length
    · obtain ⟨x, hx⟩ : ∃ x, xs[i]? = some x := ⟨xs[i], by simp [hlt]⟩
      obtain ⟨u, hu, iu⟩ := ia.at hx
      refine .inr ⟨⟨vs, u, SqL.of g1, hu⟩, fun σ' H' => ∃ δ' n' G', Iv (i + 1) δ' n' ∧ En K B (MOf B m0 H0) n' G0 H0 G' H' σ' δ' ∧ Sub G1 G', fun σ2 H2 q => ⟨xs.length - (i + 1), by omega, rfl, hlt, q⟩, fun v H'' y => ?_⟩
      obtain ⟨rfl, y⟩ := y
      have ev := y vs (SqL.of g1)
      rw [hu] at ev
      cases ev
      obtain ⟨δ2, ws, gg, hb⟩ := hs i x δ' n' hx iv
      refine gg B _ n' G0 H0 G' _ σ' e' _ iu _ fun σ3 e3 _ => ?_
      exact hb m0 G0 H0 xw G' _ σ3 _ e3 (fun σ4 δ4 G4 H4 n4 ⟨δ5, w5, q⟩ e4 s4 => ⟨δ5, n4, G4, q, e4.wk w5, s'.trans s4⟩) hr (fun σ4 δ4 G4 H4 n4 q e4 s4 => hn σ4 δ4 G4 H4 n4 q e4 ((s1.trans s').trans s4)) (fun σ4 δ4 G4 H4 n4 ⟨δ5, w5, q⟩ e4 s4 => ⟨δ5, n4, G4, q, e4.wk w5, s'.trans s4⟩)
    · have ei : i = xs.length := by omega
      subst ei
      exact .inl ⟨⟨vs, SqL.of g1, by rw [ia.len]; exact Nat.le_refl _⟩, hn σ' δ' G' H' n' (hd δ' n' iv) e' (s1.trans s')⟩
end
end Tl
namespace Tl
open PySem PySem.Spec PyProof.Rows L2 TL LamX
open Classical in
section
variable [Tabl] {K : PySem.W.Frag} {Z : XZ} {δ : List Slot} {n : Sto} {Φ : D → Sto → Prop}
end
end Tl
namespace Tl
open PySem PySem.Spec PyProof.Rows L2 TL LamX
section
variable {P : Program} {w : World} {A : Around} {E : Value → Shared → Prop} {s : Shared}
end
section
variable [Tabl] {K : PySem.W.Frag} {Z : XZ} {B : Option Addr} {δ : List Slot} {n : Sto} {te : TE} {N Bk Ct : List Slot → Sto → Prop} {R : D → Sto → Prop} {G : Hp}
omit [Tabl] in
theorem IsAll.dropD : ∀ {vs : List V} {xs : List D} (n : Nat), IsAll K G vs xs → IsAll K G (vs.drop n) (xs.drop n)
  | _, _, 0, h => h
  | [], [], n + 1, _ => .nil
  | v :: vs, x :: xs, n + 1, h => by
    cases h with
    | cons a r => exact r.dropD n
end
end Tl
namespace Tl
open PySem PySem.Spec PyProof.Rows L2 TL LamX
section
variable {X : Cx} {body su : List Stmt} {s0 : Stmt} {y1 y2 y3 y4 : Str} {c1 c2 c3 c4 : Value} {q1 q2 q3 q4 tp pc pos : Pos} {kk : Nat} {tb : WX → TS} {ts : Addr → Value → Option Addr → TS}
end
section
variable [Tabl] {K : PySem.W.Frag} {Z : XZ} {B : Option Addr} {δ : List Slot} {n : Sto} {N Bk Ct : List Slot → Sto → Prop} {R : D → Sto → Prop}
end
end Tl
namespace Tl
open PySem PySem.Spec PyProof.Rows L2 TL LamX
section
variable [Tabl] {K : PySem.W.Frag} {Z : XZ} {B : Option Addr} {δ : List Slot} {n : Sto} {N Bk Ct : List Slot → Sto → Prop} {R : D → Sto → Prop} {Φ : D → Sto → Prop} {vs : List Nat} {wi : TI} {g : TG} {tt : TT} {ta tb tk tv : TE}
end
end Tl
namespace Tl
open PySem L2 TL PySem.Spec PyProof.Rows LamX
section
variable [Tabl] {K : PySem.W.Frag} {Z : XZ} {B : Option Addr} {δ : List Slot} {n : Sto} {N Bk Ct : List Slot → Sto → Prop} {R : D → Sto → Prop} {aa : TA}
end
end Tl
namespace Tl
open PySem L2 TL PySem.Spec PyProof.Rows PySem.F
section
variable {M : Model} {A : Around} {E : Value → Shared → Prop} {h : Heap} {g : Array GenState} {d : Drawn} {t : Nat} {os : OsState}
variable {nm q : Str} {C N : Addr} {bs bm : List Value} {hdct : Bool} {sn : List Str} {sub : List Value} {ab : Bool} {col : Option Bool} {dd : Option Addr} {k0 k1 k2 k3 k5 : Option Value}
end
section
variable {prog : Program} {w : World} {A : Around} {E : Value → Shared → Prop} {R : Result → Shared → Prop} {h : Heap} {g : Array GenState} {d : Drawn} {t : Nat} {os : OsState}
variable {nm q : Str} {C N : Addr} {bs bm : List Value} {hdct : Bool} {sn : List Str} {sub : List Value} {ab : Bool} {col : Option Bool} {dd : Option Addr} {k0 k1 k2 k3 k5 : Option Value}
end
section
variable {X : Cx} {e : Expr} {es : List Expr} {ta : TA} {p p1 p2 pos : Pos}
end
end Tl
namespace Tl
open PySem PySem.Spec PyProof.Rows L2 TL LamX
section
variable [Tabl] {K : PySem.W.Frag} {Z : XZ}
theorem gs_lockAll {B : Option Addr} {δ : List Slot} {n : Sto} {N Bk Ct : List Slot → Sto → Prop} {R : D → Sto → Prop} {ts : TS} {p : Addr} {qs : List Addr} {c : Cont} {i : Nat} (hi : δ[i]? = some (.d (.ptr p))) (hp : n.μ p = some (.dic (ptE qs c))) (hr : Rws n qs c) (nd : (p :: qs).Nodup)
    (h : GS K Z B ts (δ.set i (.d (cntD c))) ⟨n.n, m00⟩ N R Bk Ct) : GS K Z B (tLockS ts) δ n N R Bk Ct := by
  have hil : i < δ.length := (List.getElem?_eq_some_iff.mp hi).1
  refine gs_lockS (qs ++ [p]) (gs_lockE (pre := []) hp (Ent.rws hr) nd (gs_lk1 (r := []) Sto.put_same (δ.set i (.d (cntD c))) ⟨n.n, m00⟩ (by rw [List.length_set]) (fun j s' hs => ?_) rfl (fun a o' ha => by cases ha) h))
  by_cases e : i = j
  · subst e
    rw [List.getElem?_set_self hil] at hs
    cases hs
    exact ⟨_, hi, .inr ⟨_, _, rfl, rfl, .inr ⟨rfl, rfl⟩⟩⟩
  · rw [List.getElem?_set_ne e] at hs
    exact ⟨s', hs, .inl rfl⟩
theorem gt_word {δ : List Slot} {n : Sto} {Φ : Bool → Sto → Prop} {i : Nat} {a b : Str} (v : Bool) (hi : δ[i]? = some (.d (.str a))) (e : decide (a = b) = v) (k : Φ v n) : GT K Z (tTest (tOp rEq (tVar i) (tC (.str b)))) δ n Φ :=
  gt_test (gk_op (gk_var hi (gk_s (rk_eqS ⟨v, congrArg D.bl e, k⟩))))
end
end Tl
namespace Tl
open PySem PySem.Spec PyProof.Rows L2 TL LamX
section
variable {X : Cx}
end
end Tl
namespace Tl
open PySem PySem.Spec PyProof.Rows L2 TL LamX
section
variable [Tabl] {K : PySem.W.Frag} {Z : XZ} {B : Option Addr} {δ : List Slot} {n : Sto} {Φ : D → Sto → Prop} {ta : TE}
end
end Tl
namespace L2
open PySem PySem.Spec PyProof.Rows
section
variable {X : Cx}
end
end L2
namespace Tl
open PySem PySem.Spec PyProof.Rows L2 TL LamX
section
variable [Tabl] {K : PySem.W.Frag} {δ : List Slot} {n : Sto} {Φ : D → Sto → Prop} {te : TE} {tt : TT} {wi : TI} {g : TG} {vs : List Nat} {E : XK} {X : Exn → Sto → Prop}
end
end Tl
namespace L2
open PySem PySem.Spec PyProof.Rows
inductive KRows : List DictEntry → List (Int × Addr) → Prop
  | nil : KRows [] []
  | cons {hs k : Int} {t : Tok} {a : Addr} {es : List DictEntry} {kvs : List (Int × Addr)} (e : hs = hashInt k) (r : KRows es kvs) : KRows (⟨hs, .int k t, .ref a⟩ :: es) ((k, a) :: kvs)
def kvK (kvs : List (Int × Addr)) : List (Key × Value) := kvs.map fun p => (.inl p.1, .ref p.2)
section
variable {P : Program} {w : World}
theorem KRows.pairs {es : List DictEntry} {kvs : List (Int × Addr)} (h : KRows es kvs) : Pairs (mixKind P w) es (kvK kvs) := by
  induction h with
  | nil => exact .nil
  | cons e r ih => exact .cons (by simp [mixKind, keyIs, Value.isInt]) rfl ih
theorem KRows.keys {es : List DictEntry} {kvs : List (Int × Addr)} (h : KRows es kvs) : ∀ e ∈ es, ∃ k, (mixKind P w).is k e.key = true ∧ e.hash = (mixKind P w).hash k := by
  induction h with
  | nil => exact fun e m => nomatch m
  | @cons hs k t a es kvs e0 r ih =>
    intro e m
    rcases List.mem_cons.mp m with rfl | m
    · exact ⟨.inl k, by simp [mixKind, keyIs, Value.isInt], e0⟩
    · exact ih e m
end
section
variable {X : Cx} {o i : Expr} {pos : Pos} {ty : TE} {a : Addr}
end
structure HeldV (P : Program) (w : World) (K : PySem.W.Frag) (mg : Str → Option Value) (base : Heap) (CX : CXT) (k : Nat) (f : Addr) (sp : Sp) : Prop where
  ex : ∃ (fd : FuncData) (ps : List Str), FnOk P w K mg base CX k f fd ps sp ∧ PySem.W.keepIn K (.ref f) = true ∧ Binds K fd ps []
end L2
namespace Tl
open PySem PySem.Spec PyProof.Rows L2 TL LamX
section
variable [Tabl] {K : PySem.W.Frag} {Z : XZ} {B : Option Addr} {δ : List Slot} {n : Sto} {Φ : D → Sto → Prop} {ty : TE} {aa : TA}
section
variable {P : Program} {w : World} {mg : Str → Option Value} {base : Heap} {CX : CXT} {k i : Nat} {f : Addr} {sp : Sp} {E : XK}
end
end
end Tl
namespace L2
open PySem PySem.Spec PyProof.Rows
section
variable {prog : Program} {w : World} {A : Around} {E : Value → Shared → Prop}
end
end L2
namespace Tl
open PySem PySem.Spec PyProof.Rows L2 TL LamX
end Tl
namespace LamX
open PySem PySem.Spec PyProof.Rows L2
end LamX
namespace Tl
open PySem PySem.Spec PyProof.Rows L2 TL LamX
section
variable [Tabl] {K : PySem.W.Frag} {Z : XZ} {δ : List Slot} {n : Sto} {Φ : D → Sto → Prop}
end
end Tl
namespace Tl
open PySem PySem.Spec PyProof.Rows L2 TL LamX
section
variable [Tabl] {K : PySem.W.Frag} {Z : XZ} {δ : List Slot} {n : Sto} {Φ : D → Sto → Prop}
end
end Tl
namespace Tl
open PySem PySem.Spec PyProof.Rows L2 TL LamX
section
variable {X : Cx} {pins : List (Addr × Obj)} {σ : L2.St} {H : Hp} {s : Shared} {a b : Addr} {kvs more : List (Key × V)} {A : Around} {E : Value → Shared → Prop}
end
section
variable {X : Cx} {o e : Expr} {apos cpos : Pos} {td ty : TE}
end
section
variable {K : PySem.W.Frag} [Tabl] {Z : XZ} {δ : List Slot} {n : Sto} {Φ : D → Sto → Prop} {ta tb : TE}
end
end Tl
namespace Tl
open PySem PySem.Spec PyProof.Rows L2 TL LamX
section
variable [Tabl] {K : PySem.W.Frag} {Z : XZ} {B : Option Addr} {M : Addr → Prop} {δ δ' : List Slot} {n n' : Sto} {N Bk Ct : List Slot → Sto → Prop} {R : D → Sto → Prop} {ts : TS} {q : Addr}
end
end Tl
namespace Tl
open PySem PySem.Spec PyProof.Rows L2 TL LamX
section
variable [Tabl] {K : PySem.W.Frag} {Z : XZ} {δ : List Slot} {n : Sto} {te : TE} {aa : TA} {Φ : D → Sto → Prop}
theorem gi_zipT {Ψ : List D → Sto → Prop} (h : GA K Z aa δ n fun ds n1 => ∃ xs ys, ds = [.tup xs, .tup ys] ∧ Ψ (zipD xs ys) n1) : GI K Z (RZ.iZipA K aa) δ n Ψ := fun B M G0 H0 xw G H σ E R r =>
  h B M G0 H0 xw G H σ E _ fun vs ds G1 H1 n1 ⟨xs, ys, ed, f⟩ E1 s1 a1 => by
    subst ed
    cases a1 with
    | cons a b =>
      cases b with
      | cons b c =>
        cases c
        cases a with
        | @tup p us _ h1 a1 =>
          cases b with
          | @tup q ws _ h2 a2 =>
            have at1 : ∀ {G' H' : Hp}, Sub G1 G' → Sub G' H' → SqT K H' p us := fun s2 s3 => s3.seq (s2.seq h1)
            have at2 : ∀ {G' H' : Hp}, Sub G1 G' → Sub G' H' → SqT K H' q ws := fun s2 s3 => s3.seq (s2.seq h2)
            refine ⟨p, q, us, ws, rfl, .inr ⟨E1.sub.seq h1, E1.sub.seq h2, r _ _ G1 H1 n1 f E1 s1 fun G' H' s2 s3 i => ⟨fun hi => ⟨us, ws, at1 s2 s3, at2 s2 s3, ?_⟩, fun d hd => ?_⟩⟩⟩
            · rw [zipD_len] at hi
              rw [a1.len, a2.len]
              omega
            · obtain ⟨x, y, rfl, hx, hy⟩ := zipD_at hd
              obtain ⟨u, hu, iu⟩ := a1.at hx
              obtain ⟨w, hw, iw⟩ := a2.at hy
              refine ⟨⟨us, ws, u, w, at1 s2 s3, at2 s2 s3, hu, hw⟩, fun v H2 yl => .inr ?_⟩
              obtain ⟨T, u', w', rfl, y1, y2, y3, y4⟩ := yl
              obtain rfl : u = u' := Option.some.inj (hu.symm.trans (y3 us (at1 s2 s3)))
              obtain rfl : w = w' := Option.some.inj (hw.symm.trans (y4 ws (at2 s2 s3)))
              have sn := Sub.new (o := .tup [u, w]) (s3.none y1)
              exact ⟨T, _, y1, y2, (fun _ z => nomatch z), .tup (SqT.of upd_same) (.cons ((iu.mono s2).mono sn) (.cons ((iw.mono s2).mono sn) .nil))⟩
end
end Tl
namespace Tl
open PySem PySem.Spec PyProof.Rows L2 TL LamX
section
variable [Tabl] {K : PySem.W.Frag} {Z : XZ} {δ : List Slot} {n : Sto} {te : TE} {Φ : D → Sto → Prop}
end
end Tl
namespace Tl
open PySem PySem.Spec PyProof.Rows L2 TL LamX
section
variable [Tabl] {K : PySem.W.Frag} {Z : XZ} {B : Option Addr} {M : Addr → Prop} {δ : List Slot} {n : Sto} {Φ : D → Sto → Prop} {te ta tb tv : TE} {aa : TA} {N Bk Ct : List Slot → Sto → Prop} {R : D → Sto → Prop} {G0 H0 G H : Hp} {σ : L2.St} {ts : TS}
end
end Tl
namespace Tl
open PySem PySem.Spec PyProof.Rows L2 TL LamX
section
variable [Tabl] {K : PySem.W.Frag} {Z : XZ} {B : Option Addr} {δ : List Slot} {n : Sto} {Φ : D → Sto → Prop} {te : TE} {N Bk Ct : List Slot → Sto → Prop} {R : D → Sto → Prop}
end
end Tl
namespace Tl
open PySem PySem.Spec PyProof.Rows L2 TL LamX
structure RoomW (k : Nat) (A : Around) : Prop where
  dp : A.depth + 3 * k + 5 < recursionLimit
  un : A.units + 16 * k + 200 < cLine
theorem RoomW.deeper {k : Nat} {A : Around} (r : RoomW (k + 1) A) (env : Env) : RoomW k (A.deeper env) :=
  ⟨by have := r.dp; show A.depth + 1 + 3 * k + 5 < _; omega, by have := r.un; show A.units + 3 + 16 * k + 200 < _; omega⟩
theorem RoomW.depth {k : Nat} {A : Around} (r : RoomW k A) : A.depth < recursionLimit := by have := r.dp; omega
theorem RoomW.of {j k : Nat} {A : Around} {h : Option Value} (r : Room k A) (l : j ≤ k) : RoomW j (A.mark h) := ⟨by have := r.dp; show A.depth + 3 * j + 5 < _; omega, by have := r.un; show A.units + 16 * j + 200 < _; omega⟩
theorem RoomW.units {k : Nat} {A : Around} (r : RoomW k A) : A.units + 64 < cLine := by have := r.un; omega
structure FnW (P : Program) (w : World) (K : PySem.W.Frag) (mg : Str → Option Value) (base : Heap) (k : Nat) (f : Addr) (fd : FuncData) (ps : List Str) (sp : Sp) : Prop where
  len : ∀ vs H Q E, sp vs H Q E → vs.length = ps.length
  run : ∀ (A : Around) (outer : List Env) (s : Shared) (H : Hp) (args : Args) (us : List Value) (vs : List V) (Q : VK) (E : XK), RoomW k A → Env0 P w K mg base A outer s H → BindsTo s fd args (ps.zip us) → Vals vs us → sp vs H Q E →
    codeAny (model P w) A (.call (.ref f) args) (CR CX0 outer P w H s Q E) s
section
variable {X : Cx} {k : Nat} {f : Addr} {fd : FuncData} {ps : List Str} {sp : Sp} {x : Str} {q pos : Pos} {e : Expr} {es : List Expr} {t : TA}
end
section
variable [Tabl] {P : Program} {w : World} {K : PySem.W.Frag} {mg : Str → Option Value} {base : Heap}
end
end Tl
namespace Tl
open PySem PySem.Spec PyProof.Rows L2 TL LamX
def EqValB (K : PySem.W.Frag) (H : Hp) (v u : V) (b : Bool) : Prop := (∃ p : Addr, v = .ref p ∧ u = .ref p ∧ b = true) ∨ ∃ (p q : Addr) (ks ls : List (Key × V)) (r : Bool), v = .ref p ∧ u = .ref q ∧ p ≠ q ∧ Rd H p (.dK ks) ∧ Rd H q (.dK ls) ∧ HitsV K H ls ks r ∧ b = (decide (ks.length = ls.length) && r)
inductive HitsD (K : PySem.W.Frag) (H : Hp) (ls : List (Key × V)) : List (Key × V) → Bool → Prop
  | nil : HitsD K H ls [] true
  | miss {k : Key} {v : V} {r : List (Key × V)} (h : valV ls k = none) : HitsD K H ls ((k, v) :: r) false
  | hit {k : Key} {v u : V} {r : List (Key × V)} {e b : Bool} (h : valV ls k = some u) (q : EqValB K H v u e) (t : HitsD K H ls r b) : HitsD K H ls ((k, v) :: r) (e && b)
end Tl
namespace Tl
open PySem PySem.Spec PyProof.Rows L2 TL LamX
section
variable [Tabl] {K : PySem.W.Frag} {Z : XZ} {B : Option Addr} {δ : List Slot} {n : Sto} {N Bk Ct : List Slot → Sto → Prop} {R : D → Sto → Prop} {te : TE}
end
end Tl
namespace Tl
open PySem PySem.Spec PyProof.Rows L2 TL LamX
section
variable [Tabl] {K : PySem.W.Frag} {Z : XZ} {δ : List Slot} {n : Sto} {Φ : D → Sto → Prop} {aa : TA}
end
end Tl
namespace Tl
open PySem PySem.Spec PyProof.Rows L2 TL LamX PySem.W
end Tl
namespace Tl
open PySem PySem.Spec PyProof.Rows L2 TL LamX
inductive CsOk (X : Cx) : List Expr → List Value → Prop
  | nil : CsOk X [] []
  | cons {y : Str} {c : Value} {q : Pos} {es : List Expr} {cs : List Value} (nm : Names X y c) (r : CsOk X es cs) : CsOk X (.Name y q :: es) (c :: cs)
section
variable {X : Cx} {body su : List Stmt} {s0 : Stmt} {n : Str} {i : Nat} {es : List Expr} {cs : List Value} {tp pc pos : Pos} {kk : Nat} {tb : WX → TS} {ts : Addr → Value → Option Addr → TS}
end
end Tl
namespace Tl
open PySem PySem.Spec PyProof.Rows L2 TL LamX
structure FnE (P : Program) (w : World) (K : PySem.W.Frag) (mg : Str → Option Value) (base : Heap) (k : Nat) (f : Addr) (fd : FuncData) (p : Str) (D : Addr) (sp : Addr → Option Addr → Hp → VK → Prop) : Prop where
  run : ∀ (A : Around) (outer : List Env) (s : Shared) (H : Hp) (args : Args) (a : Addr) (oe : Obj) (d : Option Addr) (Q : VK), RoomW k (A.mark (some (.ref a))) → Env0 P w K mg base (A.mark (some (.ref a))) outer s H → BindsTo s fd args (([p] : List Str).zip [Value.ref a]) →
    s.heap.get? a = some oe → Zc (.ref D) d oe → (∃ fs, oe.data = .fields fs) → H a = none → a ∉ frs outer → sp a d H Q →
    codeAny (model P w) (A.mark (some (.ref a))) (.call (.ref f) args) (CR CX0 outer P w H s Q fun _ _ _ => False) s
end Tl
namespace Tl
open PySem PySem.Spec PyProof.Rows L2 TL LamX
section
variable [Tabl] {P : Program} {w : World} {K : PySem.W.Frag} {mg : Str → Option Value} {base : Heap}
end
inductive NmsS (sg : Scope) (mg : Str → Option Value) : List Expr → List Value → Prop
  | nil : NmsS sg mg [] []
  | cons {y : Str} {c : Value} {q : Pos} {es : List Expr} {cs : List Value} (hg : sg.names.lookup y = some .globalImplicit) (hd : (y == ("__debug__" : Str)) = false) (hm : mg y = some c) (r : NmsS sg mg es cs) : NmsS sg mg (.Name y q :: es) (c :: cs)
end Tl
namespace Tl
open PySem PySem.Spec PyProof.Rows L2 TL LamX
section
variable [Tabl] {K : PySem.W.Frag} {Z : XZ} {δ : List Slot} {n : Sto} {Φ : D → Sto → Prop}
end
end Tl
namespace L2
open PySem PySem.Spec PyProof.Rows
section
variable {X : Cx}
end
end L2
namespace Tl
open PySem PySem.Spec PyProof.Rows L2 TL LamX
section
variable [Tabl] {K : PySem.W.Frag} {Z : XZ} {δ : List Slot} {n : Sto} {Φ : D → Sto → Prop} {ta tb : TE}
end
end Tl
namespace Tl
open PySem PySem.Spec PyProof.Rows L2 TL LamX
section
variable [Tabl] {K : PySem.W.Frag} {Z : XZ} {δ : List Slot} {n : Sto} {aa : TA}
end
end Tl
namespace Tl
open PySem PySem.Spec PyProof.Rows L2 TL LamX
abbrev ClM := Value × Bool × (Addr → Value → Option Addr → TS)
inductive ClsOkM (X : Cx) (n : Str) : List ExceptHandler → List ClM → Prop
  | nil : ClsOkM X n [] []
  | cons {x : Str} {c : Value} {ts : Addr → Value → Option Addr → TS} {s0 : Stmt} {su : List Stmt} {px pc : Pos} {hl : List ExceptHandler} {l : List ClM} (nm : Names X x c)
      (ok : ∀ (a : Addr) (ob : Obj) (k : Value) (d : Option Addr) (ps : List (Addr × Obj)), Zc k d ob → (∃ fs, ob.data = .fields fs) → PSs (X.suite a ((a, ob) :: ps)) (s0 :: su) (ts a k d))
      (r : ClsOkM X n hl l) : ClsOkM X n (.ExceptHandler (some (.Name x px)) (some n) (s0 :: su) pc :: hl) ((c, true, ts) :: l)
  | consN {x : Str} {c : Value} {ts : Addr → Value → Option Addr → TS} {s0 : Stmt} {su : List Stmt} {px pc : Pos} {hl : List ExceptHandler} {l : List ClM} (nm : Names X x c)
      (ok : ∀ (a : Addr) (ob : Obj) (k : Value) (d : Option Addr) (ps : List (Addr × Obj)), Zc k d ob → (∃ fs, ob.data = .fields fs) → PSs (X.suite a ((a, ob) :: ps)) (s0 :: su) (ts a k d))
      (r : ClsOkM X n hl l) : ClsOkM X n (.ExceptHandler (some (.Name x px)) none (s0 :: su) pc :: hl) ((c, false, ts) :: l)
section
variable {X : Cx} {body : List Stmt} {h1 : ExceptHandler} {hl : List ExceptHandler} {l : List ClM} {n : Str} {i : Nat} {pos : Pos} {tb : WX → TS}
end
end Tl
namespace Tl
open PySem PySem.Spec PyProof.Rows L2 TL LamX
section
variable [Tabl]
end
section
variable [Tabl] {K : PySem.W.Frag} {Z : XZ} {δ : List Slot} {n : Sto} {Φ : D → Sto → Prop}
end
end Tl
namespace Tl
open PySem PySem.Spec PyProof.Rows L2 TL LamX
end Tl
namespace Tl
open PySem PySem.Spec PyProof.Rows L2 TL LamX
end Tl
namespace Tl
open PySem PySem.Spec PyProof.Rows L2 TL LamX
section
variable {X : Cx} {o e f : Expr} {td ty tx : TE} {apos cpos : Pos}
end
def getT (es : List (List Key × D)) (k : List Key) : Option D := (es.find? fun kv => decide (kv.1 = k)).map (·.2)
def putT (es : List (List Key × D)) (k : List Key) (d : D) : List (List Key × D) :=
  if (es.any fun kv => decide (kv.1 = k)) = true then es.map (fun kv => if kv.1 = k then (kv.1, d) else kv) else es ++ [(k, d)]
section
variable {K : PySem.W.Frag} {G : Hp}
theorem IsKt.len : ∀ {kvs : List (List Key × V)} {es : List (List Key × D)}, IsKt K G kvs es → kvs.length = es.length
  | _, _, .nil => rfl
  | _, _, .cons _ r => by rw [List.length_cons, List.length_cons, IsKt.len r]
theorem IsKt.any {k : List Key} : ∀ {kvs : List (List Key × V)} {es : List (List Key × D)}, IsKt K G kvs es → (kvs.any fun kv => decide (kv.1 = k)) = es.any fun kv => decide (kv.1 = k)
  | _, _, .nil => rfl
  | _, _, .cons _ r => by rw [List.any_cons, List.any_cons, IsKt.any r]
theorem IsKt.app : ∀ {xs ys : List (List Key × V)} {ds es : List (List Key × D)}, IsKt K G xs ds → IsKt K G ys es → IsKt K G (xs ++ ys) (ds ++ es)
  | _, _, _, _, .nil, b => b
  | _, _, _, _, .cons h r, b => .cons h (IsKt.app r b)
theorem IsKt.upd {k : List Key} {v : V} {d : D} (hv : Is K G v d) : ∀ {kvs : List (List Key × V)} {es : List (List Key × D)}, IsKt K G kvs es → IsKt K G (kvs.map fun kv => if kv.1 = k then (kv.1, v) else kv) (es.map fun kv => if kv.1 = k then (kv.1, d) else kv)
  | _, _, .nil => .nil
  | _, _, .cons (k := k') h r => by
    rw [List.map_cons, List.map_cons]
    by_cases z : k' = k
    · rw [if_pos z, if_pos z]
      exact .cons hv (IsKt.upd hv r)
    · rw [if_neg z, if_neg z]
      exact .cons h (IsKt.upd hv r)
theorem IsKt.put {k : List Key} {v : V} {d : D} {kvs : List (List Key × V)} {es : List (List Key × D)} (h : IsKt K G kvs es) (hv : Is K G v d) : IsKt K G (putK kvs k v) (putT es k d) := by
  unfold putK putT
  rw [h.any]
  split
  · exact h.upd hv
  · exact h.app (.cons hv .nil)
theorem IsKt.get {k : List Key} : ∀ {kvs : List (List Key × V)} {es : List (List Key × D)}, IsKt K G kvs es → (getT es k = none ∧ valV kvs k = none) ∨ ∃ d v, getT es k = some d ∧ valV kvs k = some v ∧ Is K G v d
  | _, _, .nil => .inl ⟨rfl, rfl⟩
  | _, _, .cons (k := k') (x := x) (xs := xs) (d := d) (ds := ds) h r => by
    unfold getT valV
    by_cases z : k' = k
    · rw [List.find?_cons_of_pos (by simp [z]), List.find?_cons_of_pos (by simp [z])]
      exact .inr ⟨d, x, rfl, rfl, h⟩
    · rw [List.find?_cons_of_neg (by simp [z]), List.find?_cons_of_neg (by simp [z])]
      exact IsKt.get r
theorem IsAll.keys : ∀ {vs : List V} {ks : List Key}, IsAll K G vs (ks.map keyD) → vs = ks.map kV
  | _, [], h => by cases h; rfl
  | _, k :: ks, h => by
    cases h with
    | cons a r =>
      rw [List.map_cons, a.key, IsAll.keys r]
end
section
variable [Tabl] {K : PySem.W.Frag} {Z : XZ} {B : Option Addr} {δ : List Slot} {n : Sto} {Φ : D → Sto → Prop} {te ta tb tc : TE} {aa : TA} {M : Addr → Prop} {G0 H0 G H : Hp} {σ : L2.St}
end
end Tl
namespace Tl
open PySem PySem.Spec PyProof.Rows L2 TL LamX
section
variable [Tabl] {K : PySem.W.Frag} {Z : XZ} {B : Option Addr} {δ : List Slot} {n : Sto} {Φ : D → Sto → Prop}
end
end Tl
namespace Tl
open PySem PySem.Spec PyProof.Rows L2 TL He
def refsN (o : Obj) : List Addr := match o.data with
  | .seq its _ => its.toList.flatMap refV
  | .dict es _ => es.toList.flatMap fun e => refV e.val
  | .func fd => refV fd.code ++ (refV fd.defaults ++ refV fd.kwdefaults)
  | .cls cd => [cd.ns]
  | _ => []
def nextQ (g : Addr → Option Obj) (as : List Addr) : List Addr := as.flatMap fun a => match g a with
  | some o => refsN o
  | none => []
def forceA {α : Type} : List Addr → (List Addr → α) → α
  | [], k => k []
  | a :: r, k => HandSHeadRun.frNat a fun a => forceA r fun r => k (a :: r)
theorem forceA_eq {α : Type} : ∀ (l : List Addr) (k : List Addr → α), forceA l k = k l
  | [], _ => rfl
  | a :: r, k => by
    show HandSHeadRun.frNat a (fun a => forceA r fun r => k (a :: r)) = _
    rw [HandSHeadRun.frNat_eq, forceA_eq r]
def forceL {α : Type} : List (Addr × Obj) → (List (Addr × Obj) → α) → α
  | [], k => k []
  | x :: r, k => HandSHeadRun.frNat x.1 fun a => forceL r fun r => k ((a, x.2) :: r)
theorem forceL_eq {α : Type} : ∀ (l : List (Addr × Obj)) (k : List (Addr × Obj) → α), forceL l k = k l
  | [], _ => rfl
  | x :: r, k => by
    show HandSHeadRun.frNat x.1 (fun a => forceL r fun r => k ((a, x.2) :: r)) = _
    rw [HandSHeadRun.frNat_eq, forceL_eq r]
def withQ {α : Type} (g : Addr → Option Obj) (k : PySem.W.Frag → α) : α :=
  forceA (nextQ g [mainGlobals]) fun a1 => forceA (nextQ g a1) fun a2 => forceA (nextQ g a2) fun a3 => forceA (nextQ g a3) fun a4 => forceA (nextQ g a4) fun a5 =>
    forceL (frT g (mainGlobals :: (a1 ++ (a2 ++ (a3 ++ (a4 ++ a5)))))) k
def asQ (g : Addr → Option Obj) : List Addr :=
  mainGlobals :: (nextQ g [mainGlobals] ++ (nextQ g (nextQ g [mainGlobals]) ++ (nextQ g (nextQ g (nextQ g [mainGlobals])) ++ (nextQ g (nextQ g (nextQ g (nextQ g [mainGlobals]))) ++ nextQ g (nextQ g (nextQ g (nextQ g (nextQ g [mainGlobals]))))))))
theorem withQ_eq {α : Type} (g : Addr → Option Obj) (k : PySem.W.Frag → α) : withQ g k = k (frT g (asQ g)) := by
  unfold withQ asQ
  simp only [forceA_eq, forceL_eq]
abbrev AlQ : Type := AlD × Bool
def obsQ (fa : List Fa) (fn : List DefD) (tf : List Defn) (exs : List (PySem.W.Frag → Bool)) (g : Addr → Option Obj) : AlQ := withQ g fun K => (obsD fa fn K, exs.all (fun f => f K) && tabsB g tf K)
def valQ (fn : List DefD) : AlQ := (valD fn, true)
structure SaysQ (fa : List Fa) (fn : List DefD) (tf : List Defn) (exs : List (PySem.W.Frag → Bool)) (h : Heap) (K : PySem.W.Frag) : Prop where
  d : SaysD fa fn K
  more : exs.all (fun f => f K) = true
  hd : ∀ p ∈ tf, PySem.W.codeHdIn K (cT K p).1 (cT K p).2 = true
  out : ∀ p ∈ tf, K.lookup (cT K p).2 = none
  empty : ∀ p ∈ tf, h.get? (cT K p).2 = some { cls := .none, data := .fields #[] }
theorem saysQ_of {fa : List Fa} {fn : List DefD} {tf : List Defn} {exs : List (PySem.W.Frag → Bool)} {h : Heap} (e : obsQ fa fn tf exs h.get? = valQ fn) : SaysQ fa fn tf exs h (frT h.get? (asQ h.get?)) := by
  unfold obsQ at e
  rw [withQ_eq] at e
  generalize hK : frT h.get? (asQ h.get?) = K at e
  obtain ⟨e1, e2⟩ := Prod.mk.inj e
  obtain ⟨h1, h2⟩ := ba e2
  have key : ∀ p ∈ tf, PySem.W.codeHdIn K (cT K p).1 (cT K p).2 = true ∧ ∃ o, h.get? (cT K p).2 = some o ∧ emptyTab o = true := fun p hp => by
    obtain ⟨h3, h4⟩ := ba (List.all_eq_true.mp h2 p hp)
    refine ⟨h3, ?_⟩
    cases q : h.get? (cT K p).2 with
    | none =>
      rw [q] at h4
      cases h4
    | some o =>
      rw [q] at h4
      exact ⟨o, rfl, h4⟩
  refine ⟨e1, h1, fun p hp => (key p hp).1, fun p hp => ?_, fun p hp => ?_⟩
  · obtain ⟨_, o, q, z⟩ := key p hp
    have := frT_none (as := asQ h.get?) q z
    rwa [hK] at this
  · obtain ⟨_, o, q, z⟩ := key p hp
    rw [q, emptyTab_eq z]
def hookQ (fa : List Fa) (fn : List DefD) (tf : List Defn) (exs : List (PySem.W.Frag → Bool)) : PySem.W.Hook where
  α := AlQ
  obs := fun s => obsQ fa fn tf exs s.heap.get?
  val := fun _ => valQ fn
  says := fun _ h => ∃ K : PySem.W.Frag, K.In h ∧ SaysQ fa fn tf exs h K
  of := fun _ _ e => ⟨_, frT_in, saysQ_of e⟩
  keeps := fun _ _ _ ⟨K, hK, c⟩ k => ⟨K, PySem.W.Frag.In.keeps hK k, ⟨c.d, c.more, c.hd, c.out, fun p hp => k _ _ (c.empty p hp)⟩⟩
theorem obsQ_eq {fa : List Fa} {fn : List DefD} {tf : List Defn} {exs : List (PySem.W.Frag → Bool)} {g : Addr → Option Obj} {s : Shared} (h : ∀ a, g a = s.heap.get? a) : obsQ fa fn tf exs g = (hookQ fa fn tf exs).obs s := by
  have e : g = s.heap.get? := funext h
  rw [e] <;> rfl
section
variable {fa : List Fa} {fn : List DefD} {tf : List Defn} {exs : List (PySem.W.Frag → Bool)} {h : Heap} {K : PySem.W.Frag}
theorem SaysQ.at_ (c : SaysQ fa fn tf exs h K) (i : Nat) {f : PySem.W.Frag → Bool} (e : exs[i]? = some f := by rfl) : f K = true := List.all_eq_true.mp c.more f (List.mem_of_getElem? e)
end
def fdOf (K : PySem.W.Frag) (p : Str × Option Str) : FuncData := match K.lookup (fAd K p) with
  | some ⟨_, _, .func fd, _⟩ => fd
  | _ => PySem.W.fnOf "" "" (defArgs (.Pass ⟨0, 0, 0, 0⟩)) [] (defScope (.Pass ⟨0, 0, 0, 0⟩)) .none .none .none .none none .none .none
theorem fdOf_eq {K : PySem.W.Frag} {p : Str × Option Str} {oc : Value} {od : Option Addr} {osl : Array (Option Value)} {fd : FuncData} (lk : K.lookup (fAd K p) = some ⟨oc, od, .func fd, osl⟩) : fdOf K p = fd := by
  unfold fdOf
  rw [lk]
theorem funQ {fa : List Fa} {fn : List DefD} {K : PySem.W.Frag} (c : SaysD fa fn K) (i : Nat) {d : DefD} (h : fn[i]? = some d := by rfl) : FunD K d.name d.qual d.params d.body d.scope (d.dvs K) (d.kws K) (fAd K d.at_) (fdOf K d.at_) := by
  obtain ⟨fd, F⟩ := c.def_ i h
  obtain ⟨oc, od, dV, kV, doc, pm, an, cdv, ct, osl, e, lk, _⟩ := F.ex
  rw [fdOf_eq lk]
  exact F
theorem fun_of {K : PySem.W.Frag} {x qual : Str} {st : Stmt} {kws : List (Str × V)} {f : Addr} {fd : FuncData} (F : FunD K x qual (defArgs st) (defBody st) (defScope st) [] kws f fd) : Fun K x qual st f fd := by
  obtain ⟨oc, od, dV, kV, doc, pm, an, cdv, ct, osl, e, lk, hc, hd, _⟩ := F.ex
  rcases hd with ⟨_, rfl⟩ | ⟨z, _⟩
  · exact ⟨⟨oc, od, kV, doc, pm, an, cdv, ct, osl, e, lk, hc⟩, F.kp⟩
  · exact absurd rfl z
theorem walkQ_G {l : PySem.W.OpenLaw} {n k : Nat} {q : Program} {loose : List Str} {XP : (Str → Option Value) → Heap → Prop} {YP : World → Heap → Prop} {d : DefRec} {x : Str}
    (hn : l.most = some n) (hn2 : n ≤ sizeLine) (hdf : d.params.defaults = []) (hr : Room k callerA)
    (F : ∀ (w : World) (mg : Str → Option Value) (fa : Addr) (h : Heap), YP w h → h.Ns mainGlobals mg → mg d.name = some (.ref fa) → ∃ K : PySem.W.Frag, K.In h ∧ LawAtG l w K k n x mg fa h) :
    PySem.W.WalkO q loose XP YP l.row.toRowW d [] (fun f vs => PySem.call f vs) := by
  refine Att.attach_callB hn hdf fun w s₀ s₁ mg mb fa o pm cd doc a vs ns G Y ho hd hcd hmg hobj hints hlen hbits hg => ?_
  obtain ⟨K, KX, fd, cs, sp, hT, nT, C, hb, hsp, hF⟩ := F w mg fa _ Y G.T.g hmg
  exact law_callG KX G.T.g G.T.b G.T.builtins G.T.nolimit hg hT nT C G.T.bmain hobj hints (Nat.le_trans hlen hn2) hr hF hb (fun H hH hS => hsp H a ns hlen hbits hH hS)
end Tl
namespace Tl
open PySem PySem.Spec PyProof.Rows L2 TL He
end Tl
namespace Tl
open PySem PySem.Spec PyProof.Rows L2 TL LamX
section
variable [Tabl] {K : PySem.W.Frag} {Z : XZ} {δ : List Slot} {n : Sto} {Φ : D → Sto → Prop}
end
end Tl
namespace Tl
open PySem PySem.Spec PyProof.Rows L2 TL He
noncomputable def lkQ (a : Addr) (K : PySem.W.Frag) : Option PySem.Obj := List.rec (motive := fun _ => Option PySem.Obj) none (fun p _ r => Bool.rec (motive := fun _ => Option PySem.Obj) r (some p.2) (Nat.beq a p.1)) K
noncomputable def nsQ (K : PySem.W.Frag) (d : Addr) (x : Str) : Option (Option Value) := match lkQ d K with
  | some ⟨_, _, .dict l _, _⟩ => (match PySem.nsNameIn x.cps.size x.cps.toList l.toList false with
    | (some y, _) => some (some y.val)
    | (none, b) => bif b then none else some none)
  | _ => none
noncomputable def ownQ (K : PySem.W.Frag) (x : Str) (v : Value) : Option (Option Value) := match v with
  | .ref c => (match lkQ c K with
    | some ⟨_, _, .cls z, _⟩ => nsQ K z.ns x
    | _ => none)
  | v => PySem.W.ownIn K x v
noncomputable def lineQ (K : PySem.W.Frag) (x : Str) (l : List Value) : Option (Option Value) := List.rec (motive := fun _ => Option (Option Value)) (some none) (fun c _ z => match ownQ K x c with
  | some none => z
  | r => r) l
noncomputable def attQ (K : PySem.W.Frag) (c : Addr) (x : Str) : Option (Option Value) := match lkQ c K with
  | some ⟨_, _, .cls z, _⟩ => lineQ K x z.mro
  | _ => none
noncomputable def gaQ (K : PySem.W.Frag) (x : Str) : Addr := match nsQ K mainGlobals x with
  | some (some (.ref a)) => a
  | _ => 0
noncomputable def maQ (K : PySem.W.Frag) (c : Addr) (x : Str) : Addr := match attQ K c x with
  | some (some (.ref a)) => a
  | _ => 0
noncomputable def okF (K : PySem.W.Frag) (f : Fa) : Bool := match f with
  | .glo x => eqO (nsQ K mainGlobals x) (some (some (.ref (gaQ K x))))
  | .free x => eqO (nsQ K mainGlobals x) (some none)
  | .int x i => (match nsQ K mainGlobals x with
    | some (some (.int j _)) => decide (j = i)
    | _ => false)
  | .str x z => (match nsQ K mainGlobals x with
    | some (some (.str y _)) => decide (y = z)
    | _ => false)
  | .noat x y => eqO (attQ K (gaQ K x) y) (some none)
  | .meth x y => eqO (attQ K (gaQ K x) y) (some (some (.ref (maQ K (gaQ K x) y)))) && (PySem.W.isFn K (.ref (maQ K (gaQ K x) y)) && PySem.W.keepIn K (.ref (maQ K (gaQ K x) y)))
  | f => f.ok K
end Tl
namespace Tl
open PySem PySem.Spec PyProof.Rows L2 TL LamX
section
variable {X : Cx} {e : Expr} {t : TE}
end
section
variable {K : PySem.W.Frag} {G : Hp} {q : Addr} {od : Obj} {vs : List (Key × V)}
end
section
variable [Tabl] {K : PySem.W.Frag}
structure Pk (B : Option Addr) (m : Nat) (G H G' H' : Hp) : Prop where
  g : Sub G G'
  s : Sub G' H'
  k : ∀ b o, H b = some o → B ≠ some b → (∀ ps, o ≠ .tbl ps) → H' b = some o
  f : ∀ b, H b ≠ none → (∀ ps, H b ≠ some (.tbl ps)) → G b = none → G' b = none
  b : ∀ p, B = some p → Bag H' p m
  t : Tabs Tabl.T H'
  n : ∀ b ps, G' b ≠ some (.tbl ps)
variable {Z : XZ} {δ δ' : List Slot} {n n' : Sto} {te : TE} {q : Addr} {r : List Addr} {es : List (Key × D)}
end
section
variable {P : Program} {w : World} {K : PySem.W.Frag} {mg : Str → Option Value} {base : Heap}
end
section
variable [Tabl] {K : PySem.W.Frag} {Z : XZ} {δ δ' : List Slot} {n n' : Sto} {te : TE} {q : Addr} {r : List Addr} {es : List (Key × D)}
theorem En.view {B : Option Addr} {M : Addr → Prop} {G0 H0 G H : Hp} {σ σ' : L2.St} (E : En K B M n G0 H0 G H σ δ) (hl : σ'.length = δ'.length) (ho : noOw δ' = true) (hs : ∀ (i : Nat) (s' : Slot), δ'[i]? = some s' → SlotOk K B M G H (σ'[i]?.getD none) s') : En K B M n G0 H0 G H σ' δ' := by
  have no : ∀ {j : Nat} {x : MO}, δ'[j]? ≠ some (.ow x) := fun {j x} h => (noOw_of (P := fun _ => False) ho j x h).elim
  exact ⟨E.sub0, E.sub, E.same, E.free, E.fresh, E.bagged, E.tabs, E.tin, E.gnt, hl, hs, fun i j p x y h => (no h).elim, E.mob, fun i x a h => (no h).elim⟩
end
end Tl
namespace Tl
open PySem PySem.Spec PyProof.Rows L2 TL LamX
section
variable [Tabl] {K : PySem.W.Frag} {Z : XZ} {B : Option Addr} {δ : List Slot} {n : Sto} {N Bk Ct : List Slot → Sto → Prop} {R : D → Sto → Prop} {ts tb : TS} {te tc : TE} {g : TG} {Φ : D → Sto → Prop} {p : Addr} {od : Obj} {vs : List (Key × V)} {es : List (Key × D)}
end
end Tl
namespace Tl
open PySem PySem.Spec PyProof.Rows L2 TL LamX
section
variable [Tabl] {K : PySem.W.Frag} {Z : XZ} {B : Option Addr} {δ : List Slot} {n : Sto} {Φ : D → Sto → Prop} {ta : TE}
end
end Tl
namespace Tl
open PySem PySem.Spec PyProof.Rows L2 TL LamX
section
variable [Tabl] {K : PySem.W.Frag} {Z : XZ} {B : Option Addr} {δ : List Slot} {n : Sto} {Φ : D → Sto → Prop} {te : TE} {N Bk Ct : List Slot → Sto → Prop} {R : D → Sto → Prop}
end
end Tl
namespace L2
open PySem PySem.Spec PyProof.Rows Tl
section
variable {X : Cx} {e : Expr} {te : TE} {apos cpos : Pos}
def rItemsK : V → Hp → VK → Prop := fun x H Q => ∃ (d : Addr) (kvs : List (Key × V)), x = .ref d ∧ Rd H d (.dK kvs) ∧ ∀ p, H p = none → Q (.ref p) (upd H p (DX.itemsO p d))
def tItems (te : TE) : TE := fun σ H Q => te σ H fun x H1 => rItemsK x H1 Q
theorem pe_itemsK (he : PE X e te) (hbase : attributeBase e "items" X.env (eval e X.env) = eval e X.env := by rfl) (hline : (apos.endLine == cpos.line) = true := by rfl) : PE X (.Call (.Attribute e "items" apos) [] [] cpos) (tItems te) := by
  refine ⟨fun pins s σ H Q I hq => ?_⟩
  refine wpAny_Call_method (T := "dict") (id := "dict.items") hbase rfl hline F.plainAttrs_dict F.slot_dict_items F.type_dict_items (thn (he.run pins s σ H _ I hq) fun u s1 ⟨x, H1, I1, rx, d, kvs, ex, hd, q⟩ => ?_)
  subst ex
  obtain rfl : u = Value.ref d := rx
  obtain ⟨hz, hs0, vs, kv, hdo⟩ := (show ObjOk X.prog X.w H1 s1.heap d (.dK kvs) from hd.ok I1.hok)
  refine ⟨hdo.typeIs, hdo.mapOf.noDict, ?_⟩
  show wpAny _ _ (callWith cpos (.builtin "dict.items") [.ref d] [] []) _ X.xe s1
  refine method_meetsIn F.slot_dict_items F.entry_dict_items rfl (PySem.evalArgs_none ⟨rfl, hdo.typeIs, F.args_dict_items_1 _, _, meets_dict_items (mixKind X.prog X.w) d hs0, ⟨vs, hdo⟩, ?_⟩)
  exact ⟨.ref _, upd H1 s1.heap.objs.size (DX.itemsO s1.heap.objs.size d), I1.laid (t' := s1.toks) (fun b u e => Heap.get?_push_of_some _ e) (Nat.le_refl _) (DX.itemsO_ok (Heap.get?_push_size _ rfl)), rfl, q _ (I1.hok.fresh (Nat.le_refl _))⟩
def putTs : Hp → List Addr → List (Key × V) → Hp
  | H, a :: as, p :: kvs => putTs (upd H a (.tup [kV p.1, p.2])) as kvs
  | H, _, _ => H
theorem putTs_off {b : Addr} : ∀ (as : List Addr) (kvs : List (Key × V)) (H : Hp), b ∉ as → putTs H as kvs b = H b
  | [], _, _, _ => rfl
  | _ :: _, [], _, _ => rfl
  | a :: as, p :: kvs, H, h => by
    show putTs (upd H a (.tup [kV p.1, p.2])) as kvs b = H b
    rw [putTs_off as kvs _ (fun z => h (List.mem_cons_of_mem _ z)), upd_ne (fun z => h (by rw [z]; exact List.mem_cons_self))]
theorem putTs_at : ∀ (as : List Addr) (kvs : List (Key × V)) (H : Hp), as.length = kvs.length → as.Nodup → Paired (fun (t : Addr) (p : Key × V) => putTs H as kvs t = some (.tup [kV p.1, p.2])) as kvs
  | [], [], _, _, _ => .nil
  | [], _ :: _, _, h, _ => by cases h
  | _ :: _, [], _, h, _ => by cases h
  | a :: as, p :: kvs, H, h, hn => by
    have hn' := List.nodup_cons.mp hn
    have ih := putTs_at as kvs (upd H a (.tup [kV p.1, p.2])) (Nat.succ.inj h) hn'.2
    refine .cons ?_ ih
    show putTs (upd H a (.tup [kV p.1, p.2])) as kvs a = some (.tup [kV p.1, p.2])
    rw [putTs_off as kvs _ hn'.1, upd_same]
theorem prd_ix {α β : Type} {F : α → β → Prop} : ∀ {xs : List α} {ys : List β}, Paired F xs ys → ∀ {x : α}, x ∈ xs → ∃ (j : Nat) (y : β), xs[j]? = some x ∧ ys[j]? = some y ∧ F x y
  | _, _, .nil, _, h => nomatch h
  | _, _, .cons (a := a) (b := b) r t, x, h => by
    rcases List.mem_cons.mp h with rfl | h
    · exact ⟨0, b, rfl, rfl, r⟩
    · obtain ⟨j, y, h1, h2, h3⟩ := prd_ix t h
      exact ⟨j + 1, y, h1, h2, h3⟩
theorem prd_get {α β : Type} {F : α → β → Prop} : ∀ {xs : List α} {ys : List β}, Paired F xs ys → ∀ {i : Nat} {x : α}, xs[i]? = some x → ∃ y, ys[i]? = some y ∧ F x y
  | _, _, .nil, _, _, h => by cases h
  | _, _, .cons (a := a) (b := b) r t, 0, x, h => by
    have e : a = x := Option.some.inj h
    subst e
    exact ⟨_, rfl, r⟩
  | _, _, .cons r t, i + 1, x, h => prd_get t h
theorem tups_laid {pins : List (Addr × Obj)} {σ : L2.St} {H : Hp} {s : Shared} {h' : Heap} {tk : Nat} {kvs : List (Key × V)} {vs : List (Key × Value)} {as : List Addr} (I : Inv X pins σ H s) (kv : KV kvs vs)
    (hk : ∀ b o, s.heap.get? b = some o → h'.get? b = some o) (hl : as.length = vs.length) (hG : PySem.W.KdxG (mixKind X.prog X.w) vs s.heap.objs.size h' as) :
    ∃ H' : Hp, (∀ b o, H b = some o → H' b = some o) ∧ (∀ t ∈ as, H t = none) ∧ Paired (fun (t : Addr) (q : Key × V) => H' t = some (.tup [kV q.1, q.2])) as kvs ∧ Inv X pins σ H' { s with heap := h', toks := tk } := by
  have lk : kvs.length = vs.length := Paired.length kv
  have nd : as.Nodup := List.Pairwise.imp (fun {a b} (h : a < b) => Nat.ne_of_lt h) hG.rise
  have new : ∀ t ∈ as, H t = none := fun t ht => I.hok.fresh (Nat.le_of_lt (hG.above t ht))
  have atP := putTs_at as kvs H (by omega) nd
  have off : ∀ b, b ∉ as → putTs H as kvs b = H b := fun b h1 => putTs_off as kvs _ h1
  have low : ∀ b o, s.heap.get? b = some o → b ∉ as := fun b o e z => absurd (Heap.lt_size e) (Nat.not_lt.mpr (Nat.le_of_lt (hG.above b z)))
  have kp : ∀ b u, H b = some u → (putTs H as kvs) b = some u := fun b u e => by
    rw [off b (fun z => by rw [new b z] at e; cases e)]
    exact e
  refine ⟨putTs H as kvs, kp, new, atP, ?_⟩
  refine I.call' (ch := []) rfl ⟨fun b o q _ _ _ => hk b o q, fun b o q _ _ _ => ⟨o.slots, hk b o q⟩, fun b o q n _ => ?_, fun b o q _ => ⟨o, hk b o q⟩, fun b xs q => kp b _ q, fun b o u q => kp b _ q, fun b ps q => ⟨#[], by rw [kp b _ q]; simp⟩⟩ (fun b u q => ?_) I.bare fun b z => by simp at z
  · rw [off b (low b o q)]
    exact n
  · by_cases hb : b ∈ as
    · obtain ⟨j, pk, e1, e2, e3⟩ := prd_ix atP hb
      rw [e3] at q
      cases q
      obtain ⟨key, k, x, f1, f2, f3⟩ := hG.pairs j b e1
      obtain ⟨qv, g1, g2, g3⟩ := prd_get kv e2
      rw [f1] at g1
      cases g1
      have rk : RelV (kV pk.1) key := by
        rw [g2]
        exact relV_key (show keyIs k key = true from f2)
      exact ⟨by show 2 ≤ sizeLine; decide, [key, x], .cons rk (.cons g3 .nil), ⟨_, f3, rfl, _, rfl⟩⟩
    · rw [off b hb] at q
      exact (I.hok b u q).stay (fun d v _ y => hk d v y) (fun d y => kp d _ y) fun d xs y => kp d _ y
end
end L2
namespace Tl
open PySem PySem.Spec PyProof.Rows L2 TL LamX
def rSortItK (K : PySem.W.Frag) : List V → Hp → VK → Prop := fun vs H Q => ∃ (p d : Addr) (kvs : List (Key × V)), vs = [V.ref p] ∧ H p = some (DX.itemsO p d) ∧ Rd H d (.dK kvs) ∧
  ∀ (H' : Hp) (ts : List Addr), (∀ b o, H b = some o → H' b = some o) → (∀ t ∈ ts, H t = none) → Paired (fun (t : Addr) (q : Key × V) => H' t = some (.tup [kV q.1, q.2])) ts kvs →
    ∃ ks : List PyData, DpAll K H' (ts.map V.ref) ks ∧ ks.length = ts.length ∧ PySem.W.AllAlike ks ∧ PySem.W.Sortable ks ∧ (∀ d, d ∈ ks → d.depth ≤ 50) ∧ ∀ l : Addr, H' l = none → Q (.ref l) (upd H' l (.lst (keyed (ts.map V.ref) ks)))
theorem vals_refsV : ∀ as : List Addr, Vals (as.map V.ref) (as.map Value.ref)
  | [] => .nil
  | _ :: as => .cons rfl (vals_refsV as)
theorem cr_sortItK {X : Cx} {K : PySem.W.Frag} (hK : X.K = K) (hc : X.calm = true) (hu : X.A.units + 64 < cLine) : CallR X (.builtin "sorted") (rSortItK K) := by
  subst hK
  intro pins s σ H xs us Q I r h
  obtain ⟨p, d, kvs, rfl, hp, hd, q⟩ := h
  rw [Vals.ref1 r]
  have view : s.heap.IsItemsView p d := (show ObjOk X.prog X.w H s.heap p (DX.itemsO p d) from I.hok p _ hp).1
  obtain ⟨hz, hs0, vs, kv, hdo⟩ := (show ObjOk X.prog X.w H s.heap d (.dK kvs) from hd.ok I.hok)
  obtain ⟨ep, od, es, hod, hcd, hdd, hkk, hpr, hnn⟩ := hdo.dictAt
  have lk : kvs.length = vs.length := Paired.length kv
  have lv : es.size = vs.length := by rw [← hpr.length]; simp
  have hh : X.A.handled = none := I.ok.hd hc
  refine DT.sortedI (es := es) (ep := ep) hh view ⟨od, hod, hcd, hdd⟩ (by omega) fun h' tk as hk hlt hl hG => ?_
  have hG2 : PySem.W.KdxG (mixKind X.prog X.w) vs s.heap.objs.size h' as := ⟨hG.rise, hG.above, fun j a hj => by
    obtain ⟨e, he, hg⟩ := hG.pairs j a hj
    have hjl : j < vs.length := by
      have := (Array.getElem?_eq_some_iff.mp he).1
      omega
    have hv : vs[j]? = some vs[j] := List.getElem?_eq_getElem hjl
    obtain ⟨h1, h2⟩ := hpr.get? (i := j) (e := e) (by rw [Array.getElem?_toList]; exact he) hv
    exact ⟨e.key, vs[j].1, vs[j].2, hv, h1, by rw [hg, h2]; rfl⟩⟩
  obtain ⟨H', k1, k2, k3, I1⟩ := tups_laid (tk := tk) I kv hk (by omega) hG2
  obtain ⟨ks, dp, hlen, hal, hso, hdp, q⟩ := q H' as k1 k2 k3
  generalize hvs : as.map Value.ref = ws
  have rv : Vals (as.map V.ref) ws := hvs ▸ vals_refsV as
  have wl : ws.length = as.length := by rw [← hvs, List.length_map]
  have vz : ws.length ≤ sizeLine := by omega
  have oL : (h'.push (seqObj "list" ws.toArray 0)).get? h'.objs.size = some (seqObj "list" ws.toArray 0) := Heap.get?_push_size _ rfl
  show wpAny _ _ _ _ _ { s with heap := h'.push (seqObj "list" ws.toArray 0), toks := tk }
  have hk1 := dpAll_each I1 dp rv
  have old : ∀ b o, h'.get? b = some o → (PySem.W.sortingHeap (h'.push (seqObj "list" ws.toArray 0)) h'.objs.size ws).get? b = some o := fun b o e => PySem.W.sortingHeap_old (Nat.ne_of_lt (Heap.lt_size e)) (Heap.get?_push_of_some _ e)
  have hk2 := eachR_keeps (h' := PySem.W.sortingHeap (h'.push (seqObj "list" ws.toArray 0)) h'.objs.size ws) old hk1
  refine wpAny_call_entry slot_list_sort ⟨_, oL, rfl⟩ entry_list_sort ?_ (args_list_sort _)
  refine PySem.W.list_sort_vals (κ := PySem.W.dataKind (PySem.W.sortingHeap (h'.push (seqObj "list" ws.toArray 0)) h'.objs.size ws) ks) oL (PySem.W.SortsAt.data (s := { s with heap := PySem.W.sortingHeap (h'.push (seqObj "list" ws.toArray 0)) h'.objs.size ws, toks := tk }) hk2 hal hso fun d h1 => ?_) vz ?_
  · have := hdp d h1
    show X.A.units + 1 + 1 + d.depth < cLine
    omega
  generalize hout : PySem.W.sortVals (PySem.W.dataKind (PySem.W.sortingHeap (h'.push (seqObj "list" ws.toArray 0)) h'.objs.size ws) ks) false ws ws = out
  have hxl : (as.map V.ref).length = ws.length := L2.Vals.length rv
  have hxk : ks.length = (as.map V.ref).length := by rw [List.length_map]; exact hlen
  have vv : Vals (keyed (as.map V.ref) ks) out := by
    have hb : ((as.map V.ref).zip ks).map Prod.snd = ks := List.map_snd_zip (by omega)
    have ko : PySem.W.KeyedOut false (((as.map V.ref).zip ks).map Prod.snd) ws out := by
      rw [hb]
      exact ⟨_, ws, hal, hout.symm, hk2⟩
    exact vals_each (PySem.W.keyedOut_each Prod.snd ko (each_zip rv hxk))
  obtain ⟨c, hcc⟩ := sortedHeap_at (vs := ws) (out := out.toArray) oL
  have sz2 : (keyed (as.map V.ref) ks).length ≤ sizeLine := by
    rw [keyed_len hxk]
    omega
  exact ⟨_, rfl, .ref h'.objs.size, upd H' h'.objs.size (.lst (keyed (as.map V.ref) ks)), I1.laid (t' := tk) (fun b o e => by
    have lt := Heap.lt_size e
    rw [sortedHeap_old (Nat.ne_of_lt lt) (by rw [size_push']; exact Nat.lt_succ_of_lt lt)]
    exact Heap.get?_push_of_some _ e) (Nat.le_refl _) ⟨sz2, out, c, vv, hcc⟩, rfl, q _ (I1.hok.fresh (Nat.le_refl _))⟩
section
variable [Tabl] {K : PySem.W.Frag} {Z : XZ} {δ : List Slot} {n : Sto} {Φ : D → Sto → Prop} {te : TE}
def itmD (es : List (Key × D)) : List D := es.map fun kv => .tup [keyD kv.1, kv.2]
theorem gk_sortIt {m : Nat} (hm : m ≤ 50) (h : GK K Z te δ n fun d n1 => ∃ es, DicAt n1 d es ∧ (∀ x ∈ itmD es, Shp m x) ∧ PySem.W.AllAlike ((itmD es).map toP) ∧ PySem.W.Sortable ((itmD es).map toP) ∧ Φ (.lst (keyedD (itmD es) ((itmD es).map toP))) n1) : GK K Z (tCB (rSortItK K) (tCons (tItems te) tNil)) δ n Φ := fun B M G0 H0 xw G H σ E Q q =>
  h B M G0 H0 xw G H σ E _ fun v d G1 H1 n1 f1 E1 s1 a1 => by
    obtain ⟨es, hd, hs, hal, hso, f1⟩ := f1
    obtain ⟨p, vs, rfl, rd, kv⟩ := hd.get E1 a1
    refine ⟨p, vs, rfl, rd, fun w hw => ?_⟩
    have rd2 : Rd (upd H1 w (DX.itemsO w p)) p (.dK vs) := by
      rcases rd with e | ⟨o, e⟩
      · exact .inl (by rw [upd_ne (ne_of_none e hw)]; exact e)
      · exact .inr ⟨o, by rw [upd_ne (ne_of_none e hw)]; exact e⟩
    have E2 := E1.newc (o := DX.itemsO w p) hw
    refine ⟨w, p, vs, rfl, upd_same, rd2, fun H' ts k1 k2 pr => ?_⟩
    have gt : ∀ t ∈ ts, G1 t = none := fun t ht => E2.sub.none (k2 t ht)
    have E3 : En K B M n1 G0 H0 (fun b => if b ∈ ts then H' b else G1 b) H' σ δ := by
      refine E2.grow (fun b o e => ?_) (fun b o e => ?_) (fun b o e _ _ => k1 b o e) (fun b hb _ gb => ?_) (fun q hq => bag_kept (E2.bagged q hq).1 fun xs e => k1 _ _ e) ?_ (fun b ps e => ?_)
      · have : b ∉ ts := fun z => by rw [gt b z] at e; cases e
        show (if b ∈ ts then H' b else G1 b) = some o
        rw [if_neg this]
        exact e
      · have e : (if b ∈ ts then H' b else G1 b) = some o := e
        by_cases z : b ∈ ts
        · rw [if_pos z] at e
          exact e
        · rw [if_neg z] at e
          exact k1 _ _ (E2.sub _ _ e)
      · have : b ∉ ts := fun z => hb (k2 b z)
        show (if b ∈ ts then H' b else G1 b) = none
        rw [if_neg this]
        exact gb
      · intro a ha
        obtain ⟨ps, h1, h2, h3⟩ := E2.tabs a ha
        exact ⟨ps, k1 _ _ h1, h2, fun pos cv hcv => by
          obtain ⟨c, e1, e2⟩ := h3 pos cv hcv
          exact ⟨c, e1, k1 _ _ e2⟩⟩
      · have e : (if b ∈ ts then H' b else G1 b) = some (.tbl ps) := e
        by_cases z : b ∈ ts
        · rw [if_pos z] at e
          obtain ⟨j, y, _, _, e3⟩ := prd_ix pr z
          rw [e3] at e
          cases e
        · rw [if_neg z] at e
          exact E2.gnt b ps e
    have sg : Sub G1 (fun b => if b ∈ ts then H' b else G1 b) := fun b o e => by
      have : b ∉ ts := fun z => by rw [gt b z] at e; cases e
      show (if b ∈ ts then H' b else G1 b) = some o
      rw [if_neg this]
      exact e
    have al : IsAll K (fun b => if b ∈ ts then H' b else G1 b) (ts.map V.ref) (itmD es) := by
      have key : ∀ {us : List Addr} {ws : List (Key × V)} {fs : List (Key × D)}, (∀ t ∈ us, t ∈ ts) → Paired (fun (t : Addr) (q : Key × V) => H' t = some (.tup [kV q.1, q.2])) us ws → IsKv K G1 ws fs → IsAll K (fun b => if b ∈ ts then H' b else G1 b) (us.map V.ref) (itmD fs) := by
        intro us ws fs hu pr kv
        induction pr generalizing fs with
        | nil =>
          cases kv
          exact .nil
        | @cons t q us ws h1 h2 ih =>
          cases kv with
          | @cons k x xs d ds h r =>
            refine .cons ?_ (ih (fun t ht => hu t (List.mem_cons_of_mem _ ht)) r)
            have ht : (fun b => if b ∈ ts then H' b else G1 b) t = some (.tup [kV k, x]) := by
              show (if t ∈ ts then H' t else G1 t) = _
              rw [if_pos (hu t List.mem_cons_self)]
              exact h1
            refine .tup (.inl (.inl ht)) (.cons ?_ (.cons (h.mono sg) .nil))
            cases k with
            | inl i => exact .int i
            | inr z => exact .str z
      exact key (fun t h => h) pr kv
    have ltl : ts.length = (itmD es).length := by
      have := al.len
      rwa [List.length_map] at this
    refine ⟨(itmD es).map toP, al.dpD E3.sub hs, by rw [List.length_map]; exact ltl.symm, hal, hso, fun d hd => ?_, fun l hl => ?_⟩
    · obtain ⟨x, hx, rfl⟩ := List.mem_map.mp hd
      exact Nat.le_trans (hs x hx).ok.2 hm
    · have s2 : ∀ o, Sub (fun b => if b ∈ ts then H' b else G1 b) (upd (fun b => if b ∈ ts then H' b else G1 b) l o) := fun o => Sub.new (E3.sub.none hl)
      exact q _ _ _ _ n1 f1 (E3.laid hl) ((s1.trans sg).trans (s2 _)) (.lst upd_same ((isAll_keyed al).mono (s2 _)))
end
end Tl
namespace Tl
open PySem PySem.Spec PyProof.Rows L2 TL LamX
def rNeNil (K : PySem.W.Frag) : R2 := fun x y H Q => ∃ (a b : Addr) (xs : List V), x = .ref a ∧ y = .ref b ∧ SqL K H a xs ∧ SqL K H b [] ∧ Q (.bl (!xs.isEmpty)) H
theorem op_neNil {X : Cx} {K : PySem.W.Frag} (hK : X.K = K) (hu : X.A.units + 64 < cLine) : OpR X (compareOp .NotEq) (rNeNil K) := by
  subst hK
  intro pins s σ H x y v u Q I rx ry h
  obtain ⟨a, b, xs, rfl, rfl, ha, hb, q⟩ := h
  cases (show v = Value.ref a from rx)
  cases (show u = Value.ref b from ry)
  obtain ⟨its, rv, la, _⟩ := I.list ha
  obtain ⟨its2, rv2, lb, _⟩ := I.list hb
  cases rv2
  cases rv with
  | nil =>
    refine PySem.SeqAt.RcNeAt.lists (e := fun _ => true) la.isList lb.isList rfl (by omega) (fun j h1 _ => absurd h1 (by simp)) X.prog X.w _ _ (fin_bl I q ?_)
    rfl
  | cons r t =>
    refine PySem.SeqAt.RcNeAt.lists_lengths la.isList lb.isList (by simp) (by omega) X.prog X.w _ _ (fin_bl I q ?_)
    rfl
section
variable [Tabl] {K : PySem.W.Frag} {Z : XZ} {δ : List Slot} {n : Sto} {Φ : D → Sto → Prop}
theorem rk_neNil {x : D} {xs : List D} (hx : x = .lst xs ∨ ∃ p, x = .ptr p ∧ n.μ p = some (.lst xs)) (k : Φ (.bl (!xs.isEmpty)) n) : RK K Z (rNeNil K) x (.lst []) δ n Φ := fun B M G0 H0 xw G H σ E v w a b Q q => by
  have em : ∀ {vs : List V}, IsAll K G vs xs → vs.isEmpty = xs.isEmpty := fun h => by cases h <;> rfl
  cases b with
  | lst h2 a2 =>
    cases a2
    rcases hx with rfl | ⟨p, rfl, hp⟩
    · cases a with
      | lst h1 a1 => exact ⟨_, _, _, rfl, rfl, SqL.of (E.sub _ _ h1), SqL.of (E.sub _ _ h2), by rw [em a1]; exact q _ _ G H n k E (Sub.refl G) (.bl _)⟩
    · cases a
      obtain ⟨vs, g1, ia⟩ := E.mlst hp
      exact ⟨_, _, _, rfl, rfl, SqL.of g1, SqL.of (E.sub _ _ h2), by rw [em ia]; exact q _ _ G H n k E (Sub.refl G) (.bl _)⟩
end
end Tl
namespace L2
open PySem PySem.Spec PyProof.Rows Tl
section
variable {X : Cx} {CX : CXT} {k : Nat} {f C : Addr} {fd : FuncData} {ps : List Str} {sp : Sp} {dvs : List V} {ds : List Value} {E : XK} {x m : Str} {p pos apos : Pos} {e o : Expr} {es : List Expr} {ta : TE} {t : TA}
theorem run_fnG {pins : List (Addr × Obj)} {σ : St} {H : Hp} {s : Shared} {Q : VK} {us : List Value} {vs : List V} (F : FnG X.prog X.w X.K X.mg X.base k f fd ps sp) (hgd : X.A.guards = some []) (hr : Room k X.A) (hb : Binds X.K fd ps ds) (hd : Vals dvs ds) (hx : Passes CX0 X E)
    (I : Inv X pins σ H s) (r : Vals vs us) (h : sp (vs ++ dvs) H Q E) : wpAny (model X.prog X.w) X.A (call (.ref f) us) (EP X pins σ Q) X.xe s := by
  have r2 : Vals (vs ++ dvs) (us ++ ds) := r.append hd
  have hl : (us ++ ds).length = ps.length := by rw [← r2.length]; exact F.len _ _ _ _ h
  refine wpAny_call (codeAny_mono (F.run X.A X.stack s H ⟨us, []⟩ (us ++ ds) (vs ++ dvs) Q E hgd hr I.env0 (hb s us I.kIn hl) r2 h) fun r s' hq => ?_)
  cases r with
  | error e => exact hx pins σ H s e s' I hq
  | ok fl =>
    cases fl with
    | ret u => exact I.after hq
    | next => exact False.elim hq
    | brk => exact False.elim hq
    | cont => exact False.elim hq
theorem pe_callG (F : FnG X.prog X.w X.K X.mg X.base k f fd ps sp) (hgd : X.A.guards = some []) (hr : Room k X.A) (hg : Gl X x) (hm : X.mg x = some (.ref f)) (hk : PySem.W.keepIn X.K (.ref f) = true) (hb : Binds X.K fd ps ds) (hd : Vals dvs ds) (hx : Passes CX0 X E)
    (ha : PA X (e :: es) t) (hdb : (x == ("__debug__" : Str)) = false := by decide) (he : starEach (e :: es) X.env = (false, eval e X.env) :: starEach es X.env := by rfl) (hpl : (backTo pos (starEach es X.env)).any (·.1) = false := by rfl) :
    PE X (.Call (.Name x p) (e :: es) [] pos) (tCall sp dvs E t) := by
  refine ⟨fun pins s σ H Q I h => ?_⟩
  refine wpAny_Call_Name_kw (ld_glob I hg hm ?_ hdb)
  refine PySem.W.callWith_K (h₀ := X.base) I.ok.mod.kin hk (thn (ha.run pos pins s σ H _ I h) fun us s1 ⟨vs, H1, I1, r, q⟩ => ⟨I1.kIn, ?_⟩) he hpl
  exact run_fnG F hgd hr hb hd hx I1 r q
end
end L2
namespace Tl
open PySem PySem.Spec PyProof.Rows L2 TL LamX
section
variable [Tabl] {P : Program} {w : World} {K : PySem.W.Frag} {mg : Str → Option Value} {base : Heap}
theorem fn_PG {x qual : Str} {st : Stmt} {f : Addr} {fd : FuncData} {N ps : List Str} {k : Nat} {Pc : List D → (D → Prop) → Prop} (F : Fun K x qual st f fd) (S : FnScope N ps (defScope st)) (hl : ∀ ds Φ, Pc ds Φ → ds.length = ps.length)
    (hb : ∀ (cdv : Value) (A : Around) (outer : List Env) (s : Shared) (H : Hp) (E : XK), A.guards = some [] → Room k (A.deeper (PyProof.Rows.envOfC qual (defScope st) s.heap.objs.size f cdv)) →
      ∃ t, PSs (cxOf CX0 P w K mg base N qual (defScope st) f cdv A outer s H E).nox (defBody st) t ∧ ∀ ds Φ, Pc ds Φ → GS K .calm none t (startD N ds) ⟨0, m00⟩ (fun _ _ => Φ .non) (fun d _ => Φ d) (fun _ _ => False) (fun _ _ => False)) :
    FnG P w K mg base (k + 1) f fd ps (spP K Pc) := by
  refine fn_G F S (fun vs H Q E h => ?_) (fun cdv A outer s H vs Q E hgd hr h => ?_)
  · obtain ⟨G, ds, Φ, _, _, _, hv, hp, _⟩ := h
    rw [hv.len, hl ds Φ hp]
  · obtain ⟨G, ds, Φ, tb, gn, hs, hv, hp, q⟩ := h
    obtain ⟨t, h1, h2⟩ := hb cdv A outer s H E hgd hr
    exact ⟨t, h1, h2 ds Φ hp m00 G H .calm G H _ _ (En.start m00_ok tb gn hs hv) (fun σ' δ' G' H' n' hd e _ => q .non .non G' H' n' hd e.out .non) (fun v d G' H' n' hd eo hv => q v d G' H' n' hd eo hv) (fun _ _ _ _ _ z => z.elim) (fun _ _ _ _ _ z => z.elim)⟩
end
end Tl
namespace Tl
open PySem L2 TL
def top (i : Nat) : Stmt := PySem.Challenge.pw_taleless_k55_whole_ways_are_shortest.main.body.getD i (.Pass ⟨0, 0, 0, 0⟩)
abbrev s_filling : Stmt := top 1
theorem sc_filling : FnScope ["box", "rows", "key"] ["box", "rows"] (defScope s_filling) := ⟨rfl, rfl, rfl, by decide +kernel, rfl, by decide +kernel, by decide +kernel⟩
abbrev s_changes : Stmt := top 2
theorem sc_changes : FnScope ["box", "rows", "wanted", "found", "key"] ["box", "rows", "wanted"] (defScope s_changes) := ⟨rfl, rfl, rfl, by decide +kernel, rfl, by decide +kernel, by decide +kernel⟩
abbrev s_box_way : Stmt := top 3
theorem sc_box_way : FnScope ["box", "content", "other", "made"] ["box", "content", "other"] (defScope s_box_way) := ⟨rfl, rfl, rfl, by decide +kernel, rfl, by decide +kernel, by decide +kernel⟩
abbrev s_way_between : Stmt := top 4
theorem sc_way_between : FnScope ["content", "other", "found", "box", "some"] ["content", "other"] (defScope s_way_between) := ⟨rfl, rfl, rfl, by decide +kernel, rfl, by decide +kernel, by decide +kernel⟩
abbrev s_steps : Stmt := top 5
theorem sc_steps : FnScope ["content", "other"] ["content", "other"] (defScope s_steps) := ⟨rfl, rfl, rfl, by decide +kernel, rfl, by decide +kernel, by decide +kernel⟩
abbrev s_law_bag : Stmt := top 7
theorem sc_law_bag : FnScope ["_law_script", "_law_at", "_law_cell", "_law_far"] ["_law_script", "_law_at"] (defScope s_law_bag) := ⟨rfl, rfl, rfl, by decide +kernel, rfl, by decide +kernel, by decide +kernel⟩
abbrev s_law_take : Stmt := top 8
theorem sc_law_take : FnScope ["_law_bag_here", "_law_many", "_law_digit", "_law_base", "_law_mixed"] ["_law_bag_here", "_law_many"] (defScope s_law_take) := ⟨rfl, rfl, rfl, by decide +kernel, rfl, by decide +kernel, by decide +kernel⟩
abbrev s_law_name : Stmt := top 9
theorem sc_law_name : FnScope ["_law_bag_here", "_law_letters", "_law_size", "_law_spot"] ["_law_bag_here"] (defScope s_law_name) := ⟨rfl, rfl, rfl, by decide +kernel, rfl, by decide +kernel, by decide +kernel⟩
abbrev s_law_words : Stmt := top 10
theorem sc_law_words : FnScope ["_law_bag_here", "_law_some", "_law_kind", "_law_size", "_law_spot"] ["_law_bag_here"] (defScope s_law_words) := ⟨rfl, rfl, rfl, by decide +kernel, rfl, by decide +kernel, by decide +kernel⟩
abbrev s_law_cards_in : Stmt := top 11
theorem sc_law_cards_in : FnScope ["_law_held_here", "_law_found", "_law_crate"] ["_law_held_here"] (defScope s_law_cards_in) := ⟨rfl, rfl, rfl, by decide +kernel, rfl, by decide +kernel, by decide +kernel⟩
abbrev s_law_longs : Stmt := top 12
theorem sc_law_longs : FnScope ["_law_held_here", "_law_found", "_law_crate", "_law_words_here"] ["_law_held_here"] (defScope s_law_longs) := ⟨rfl, rfl, rfl, by decide +kernel, rfl, by decide +kernel, by decide +kernel⟩
abbrev s_law_held : Stmt := top 13
theorem sc_law_held : FnScope ["_law_bag_here", "_law_cap", "_law_held_here", "_law_crates", "_law_spot", "_law_pool", "_law_crate", "_law_kind"] ["_law_bag_here", "_law_cap"] (defScope s_law_held) := ⟨rfl, rfl, rfl, by decide +kernel, rfl, by decide +kernel, by decide +kernel⟩
abbrev s_law_done : Stmt := top 14
theorem sc_law_done : FnScope ["_law_held_here", "_law_deed", "_law_found", "_law_crate", "_law_word", "_law_many"] ["_law_held_here", "_law_deed"] (defScope s_law_done) := ⟨rfl, rfl, rfl, by decide +kernel, rfl, by decide +kernel, by decide +kernel⟩
abbrev s_law_put_by : Stmt := top 15
theorem sc_law_put_by : FnScope ["_law_crate", "_law_found", "_law_name_here", "_law_number", "_law_label", "_law_share"] ["_law_crate"] (defScope s_law_put_by) := ⟨rfl, rfl, rfl, by decide +kernel, rfl, by decide +kernel, by decide +kernel⟩
abbrev s_law_deeds : Stmt := top 16
theorem sc_law_deeds : FnScope ["_law_found", "_law_label", "_law_words_here"] [] (defScope s_law_deeds) := ⟨rfl, rfl, rfl, by decide +kernel, rfl, by decide +kernel, by decide +kernel⟩
abbrev s_law_sign : Stmt := top 17
theorem sc_law_sign : FnScope ["_law_held_here", "_law_crate"] ["_law_held_here"] (defScope s_law_sign) := ⟨rfl, rfl, rfl, by decide +kernel, rfl, by decide +kernel, by decide +kernel⟩
abbrev s_law_reach : Stmt := top 18
theorem sc_law_reach : FnScope ["_law_start", "_law_found", "_law_edge", "_law_here", "_law_later", "_law_held_here", "_law_deed", "_law_come", "_law_why"] ["_law_start"] (defScope s_law_reach) := ⟨rfl, rfl, rfl, by decide +kernel, rfl, by decide +kernel, by decide +kernel⟩
abbrev s_law_fewest : Stmt := top 19
theorem sc_law_fewest : FnScope ["_law_one", "_law_other", "_law_found", "_law_crate", "_law_away", "_law_label", "_law_come"] ["_law_one", "_law_other"] (defScope s_law_fewest) := ⟨rfl, rfl, rfl, by decide +kernel, rfl, by decide +kernel, by decide +kernel⟩
abbrev s_law_led : Stmt := top 20
theorem sc_law_led : FnScope ["_law_held_here", "_law_deeds_here", "_law_found", "_law_crate", "_law_deed", "_law_word"] ["_law_held_here", "_law_deeds_here"] (defScope s_law_led) := ⟨rfl, rfl, rfl, by decide +kernel, rfl, by decide +kernel, by decide +kernel⟩
abbrev s_law : Stmt := top 21
theorem sc_law : FnScope ["_law_script", "_law_at", "_law_bag_here", "_law_start", "_law_reach_here", "_law_sign_here", "_law_many", "_law_goal", "_law_most", "_law_one", "_law_other", "_law_here", "_law_told"] ["_law_script"] (defScope s_law) := ⟨rfl, rfl, rfl, by decide +kernel, rfl, by decide +kernel, by decide +kernel⟩
abbrev hR : PySem.W.OpenRow := PySem.W.OpenLaw.row PySem.Challenge.rw_taleless_k55_whole_ways_are_shortest
def hnames : List Str := ("__name__" : Str) :: ("filling" : Str) :: ("changes" : Str) :: ("box_way" : Str) :: ("way_between" : Str) :: ("steps" : Str) :: ("__name__" : Str) :: ("_law_bag" : Str) :: ("_law_take" : Str) :: ("_law_name" : Str) :: ("_law_words" : Str) :: ("_law_cards_in" : Str) :: ("_law_longs" : Str) :: ("_law_held" : Str) :: ("_law_done" : Str) :: ("_law_put_by" : Str) :: ("_law_deeds" : Str) :: ("_law_sign" : Str) :: ("_law_reach" : Str) :: ("_law_fewest" : Str) :: ("_law_led" : Str) :: ([] : List Str)
abbrev hdf_filling : He.DefD := ⟨("filling", none), "filling", "filling", defArgs s_filling, defBody s_filling, defScope s_filling, [], []⟩
abbrev hdf_changes : He.DefD := ⟨("changes", none), "changes", "changes", defArgs s_changes, defBody s_changes, defScope s_changes, [], []⟩
abbrev hdf_box_way : He.DefD := ⟨("box_way", none), "box_way", "box_way", defArgs s_box_way, defBody s_box_way, defScope s_box_way, [], []⟩
abbrev hdf_way_between : He.DefD := ⟨("way_between", none), "way_between", "way_between", defArgs s_way_between, defBody s_way_between, defScope s_way_between, [], []⟩
abbrev hdf_steps : He.DefD := ⟨("steps", none), "steps", "steps", defArgs s_steps, defBody s_steps, defScope s_steps, [], []⟩
abbrev hdf_law_bag : He.DefD := ⟨("_law_bag", none), "_law_bag", "_law_bag", defArgs s_law_bag, defBody s_law_bag, defScope s_law_bag, [], []⟩
abbrev hdf_law_take : He.DefD := ⟨("_law_take", none), "_law_take", "_law_take", defArgs s_law_take, defBody s_law_take, defScope s_law_take, [], []⟩
abbrev hdf_law_name : He.DefD := ⟨("_law_name", none), "_law_name", "_law_name", defArgs s_law_name, defBody s_law_name, defScope s_law_name, [], []⟩
abbrev hdf_law_words : He.DefD := ⟨("_law_words", none), "_law_words", "_law_words", defArgs s_law_words, defBody s_law_words, defScope s_law_words, [], []⟩
abbrev hdf_law_cards_in : He.DefD := ⟨("_law_cards_in", none), "_law_cards_in", "_law_cards_in", defArgs s_law_cards_in, defBody s_law_cards_in, defScope s_law_cards_in, [], []⟩
abbrev hdf_law_longs : He.DefD := ⟨("_law_longs", none), "_law_longs", "_law_longs", defArgs s_law_longs, defBody s_law_longs, defScope s_law_longs, [], []⟩
abbrev hdf_law_held : He.DefD := ⟨("_law_held", none), "_law_held", "_law_held", defArgs s_law_held, defBody s_law_held, defScope s_law_held, [], []⟩
abbrev hdf_law_done : He.DefD := ⟨("_law_done", none), "_law_done", "_law_done", defArgs s_law_done, defBody s_law_done, defScope s_law_done, [], []⟩
abbrev hdf_law_put_by : He.DefD := ⟨("_law_put_by", none), "_law_put_by", "_law_put_by", defArgs s_law_put_by, defBody s_law_put_by, defScope s_law_put_by, [], []⟩
abbrev hdf_law_deeds : He.DefD := ⟨("_law_deeds", none), "_law_deeds", "_law_deeds", defArgs s_law_deeds, defBody s_law_deeds, defScope s_law_deeds, [], []⟩
abbrev hdf_law_sign : He.DefD := ⟨("_law_sign", none), "_law_sign", "_law_sign", defArgs s_law_sign, defBody s_law_sign, defScope s_law_sign, [], []⟩
abbrev hdf_law_reach : He.DefD := ⟨("_law_reach", none), "_law_reach", "_law_reach", defArgs s_law_reach, defBody s_law_reach, defScope s_law_reach, [], []⟩
abbrev hdf_law_fewest : He.DefD := ⟨("_law_fewest", none), "_law_fewest", "_law_fewest", defArgs s_law_fewest, defBody s_law_fewest, defScope s_law_fewest, [], []⟩
abbrev hdf_law_led : He.DefD := ⟨("_law_led", none), "_law_led", "_law_led", defArgs s_law_led, defBody s_law_led, defScope s_law_led, [], []⟩
abbrev hdf_law : He.DefD := ⟨("law", none), "law", "law", defArgs s_law, defBody s_law, defScope s_law, [], []⟩
def hfn : List He.DefD := (hdf_filling : He.DefD) :: (hdf_changes : He.DefD) :: (hdf_box_way : He.DefD) :: (hdf_way_between : He.DefD) :: (hdf_steps : He.DefD) :: (hdf_law_bag : He.DefD) :: (hdf_law_take : He.DefD) :: (hdf_law_name : He.DefD) :: (hdf_law_words : He.DefD) :: (hdf_law_cards_in : He.DefD) :: (hdf_law_longs : He.DefD) :: (hdf_law_held : He.DefD) :: (hdf_law_done : He.DefD) :: (hdf_law_put_by : He.DefD) :: (hdf_law_deeds : He.DefD) :: (hdf_law_sign : He.DefD) :: (hdf_law_reach : He.DefD) :: (hdf_law_fewest : He.DefD) :: (hdf_law_led : He.DefD) :: (hdf_law : He.DefD) :: ([] : List He.DefD)
def hfa : List He.Fa := (.glo "filling" : He.Fa) :: (.glo "changes" : He.Fa) :: (.glo "box_way" : He.Fa) :: (.glo "way_between" : He.Fa) :: (.glo "steps" : He.Fa) :: (.glo "_law_bag" : He.Fa) :: (.glo "_law_take" : He.Fa) :: (.glo "_law_name" : He.Fa) :: (.glo "_law_words" : He.Fa) :: (.glo "_law_cards_in" : He.Fa) :: (.glo "_law_longs" : He.Fa) :: (.glo "_law_held" : He.Fa) :: (.glo "_law_done" : He.Fa) :: (.glo "_law_put_by" : He.Fa) :: (.glo "_law_deeds" : He.Fa) :: (.glo "_law_sign" : He.Fa) :: (.glo "_law_reach" : He.Fa) :: (.glo "_law_fewest" : He.Fa) :: (.glo "_law_led" : He.Fa) :: (.glo "law" : He.Fa) :: (.free "abs" : He.Fa) :: (.free "dict" : He.Fa) :: (.free "int" : He.Fa) :: (.free "len" : He.Fa) :: (.free "list" : He.Fa) :: (.free "max" : He.Fa) :: (.free "min" : He.Fa) :: (.free "range" : He.Fa) :: (.free "repr" : He.Fa) :: (.free "set" : He.Fa) :: (.free "sorted" : He.Fa) :: (.free "str" : He.Fa) :: (.free "sum" : He.Fa) :: (.free "zip" : He.Fa) :: ([] : List He.Fa)
def htf : List He.Defn := ([] : List He.Defn)
def hexs : List (PySem.W.Frag → Bool) := ([] : List (PySem.W.Frag → Bool))
abbrev hH : PySem.W.Hook := hookQ hfa hfn htf hexs
def hob (s : PySem.W.SharedT) : AlQ := obsQ hfa hfn htf hexs (HandSHeadRun.getT s)
theorem hob_eq (s : PySem.W.SharedT) : hob s = hH.obs s.abs := obsQ_eq (HandSHeadRun.getT_eq s)
set_option maxHeartbeats 0 in
theorem hrun (w : World) : HandSHeadRun.RunEq hR (PySem.W.view hR.prog [21]) hH hob 60000 hnames (w) := by
  intro os
  kernel_rfl
set_option genInjectivity false in
set_option genSizeOf false in
structure Txt (K : PySem.W.Frag) (mg : Str → Option Value) where
  f_filling : Addr
  fd_filling : FuncData
  F_filling : Fun K "filling" "filling" s_filling f_filling fd_filling
  m_filling : mg "filling" = some (.ref f_filling)
  b_filling : Binds K fd_filling ["box", "rows"] []
  f_changes : Addr
  fd_changes : FuncData
  F_changes : Fun K "changes" "changes" s_changes f_changes fd_changes
  m_changes : mg "changes" = some (.ref f_changes)
  b_changes : Binds K fd_changes ["box", "rows", "wanted"] []
  f_box_way : Addr
  fd_box_way : FuncData
  F_box_way : Fun K "box_way" "box_way" s_box_way f_box_way fd_box_way
  m_box_way : mg "box_way" = some (.ref f_box_way)
  b_box_way : Binds K fd_box_way ["box", "content", "other"] []
  f_way_between : Addr
  fd_way_between : FuncData
  F_way_between : Fun K "way_between" "way_between" s_way_between f_way_between fd_way_between
  m_way_between : mg "way_between" = some (.ref f_way_between)
  b_way_between : Binds K fd_way_between ["content", "other"] []
  f_steps : Addr
  fd_steps : FuncData
  F_steps : Fun K "steps" "steps" s_steps f_steps fd_steps
  m_steps : mg "steps" = some (.ref f_steps)
  b_steps : Binds K fd_steps ["content", "other"] []
  f_law_bag : Addr
  fd_law_bag : FuncData
  F_law_bag : Fun K "_law_bag" "_law_bag" s_law_bag f_law_bag fd_law_bag
  m_law_bag : mg "_law_bag" = some (.ref f_law_bag)
  b_law_bag : Binds K fd_law_bag ["_law_script", "_law_at"] []
  f_law_take : Addr
  fd_law_take : FuncData
  F_law_take : Fun K "_law_take" "_law_take" s_law_take f_law_take fd_law_take
  m_law_take : mg "_law_take" = some (.ref f_law_take)
  b_law_take : Binds K fd_law_take ["_law_bag_here", "_law_many"] []
  f_law_name : Addr
  fd_law_name : FuncData
  F_law_name : Fun K "_law_name" "_law_name" s_law_name f_law_name fd_law_name
  m_law_name : mg "_law_name" = some (.ref f_law_name)
  b_law_name : Binds K fd_law_name ["_law_bag_here"] []
  f_law_words : Addr
  fd_law_words : FuncData
  F_law_words : Fun K "_law_words" "_law_words" s_law_words f_law_words fd_law_words
  m_law_words : mg "_law_words" = some (.ref f_law_words)
  b_law_words : Binds K fd_law_words ["_law_bag_here"] []
  f_law_cards_in : Addr
  fd_law_cards_in : FuncData
  F_law_cards_in : Fun K "_law_cards_in" "_law_cards_in" s_law_cards_in f_law_cards_in fd_law_cards_in
  m_law_cards_in : mg "_law_cards_in" = some (.ref f_law_cards_in)
  b_law_cards_in : Binds K fd_law_cards_in ["_law_held_here"] []
  f_law_longs : Addr
  fd_law_longs : FuncData
  F_law_longs : Fun K "_law_longs" "_law_longs" s_law_longs f_law_longs fd_law_longs
  m_law_longs : mg "_law_longs" = some (.ref f_law_longs)
  b_law_longs : Binds K fd_law_longs ["_law_held_here"] []
  f_law_held : Addr
  fd_law_held : FuncData
  F_law_held : Fun K "_law_held" "_law_held" s_law_held f_law_held fd_law_held
  m_law_held : mg "_law_held" = some (.ref f_law_held)
  b_law_held : Binds K fd_law_held ["_law_bag_here", "_law_cap"] []
  f_law_done : Addr
  fd_law_done : FuncData
  F_law_done : Fun K "_law_done" "_law_done" s_law_done f_law_done fd_law_done
  m_law_done : mg "_law_done" = some (.ref f_law_done)
  b_law_done : Binds K fd_law_done ["_law_held_here", "_law_deed"] []
  f_law_put_by : Addr
  fd_law_put_by : FuncData
  F_law_put_by : Fun K "_law_put_by" "_law_put_by" s_law_put_by f_law_put_by fd_law_put_by
  m_law_put_by : mg "_law_put_by" = some (.ref f_law_put_by)
  b_law_put_by : Binds K fd_law_put_by ["_law_crate"] []
  f_law_deeds : Addr
  fd_law_deeds : FuncData
  F_law_deeds : Fun K "_law_deeds" "_law_deeds" s_law_deeds f_law_deeds fd_law_deeds
  m_law_deeds : mg "_law_deeds" = some (.ref f_law_deeds)
  b_law_deeds : Binds K fd_law_deeds [] []
  f_law_sign : Addr
  fd_law_sign : FuncData
  F_law_sign : Fun K "_law_sign" "_law_sign" s_law_sign f_law_sign fd_law_sign
  m_law_sign : mg "_law_sign" = some (.ref f_law_sign)
  b_law_sign : Binds K fd_law_sign ["_law_held_here"] []
  f_law_reach : Addr
  fd_law_reach : FuncData
  F_law_reach : Fun K "_law_reach" "_law_reach" s_law_reach f_law_reach fd_law_reach
  m_law_reach : mg "_law_reach" = some (.ref f_law_reach)
  b_law_reach : Binds K fd_law_reach ["_law_start"] []
  f_law_fewest : Addr
  fd_law_fewest : FuncData
  F_law_fewest : Fun K "_law_fewest" "_law_fewest" s_law_fewest f_law_fewest fd_law_fewest
  m_law_fewest : mg "_law_fewest" = some (.ref f_law_fewest)
  b_law_fewest : Binds K fd_law_fewest ["_law_one", "_law_other"] []
  f_law_led : Addr
  fd_law_led : FuncData
  F_law_led : Fun K "_law_led" "_law_led" s_law_led f_law_led fd_law_led
  m_law_led : mg "_law_led" = some (.ref f_law_led)
  b_law_led : Binds K fd_law_led ["_law_held_here", "_law_deeds_here"] []
  f_law : Addr
  fd_law : FuncData
  F_law : Fun K "law" "law" s_law f_law fd_law
  m_law : mg "law" = some (.ref f_law)
  b_law : Binds K fd_law ["_law_script"] []
  z_abs : mg "abs" = none
  z_dict : mg "dict" = none
  z_int : mg "int" = none
  z_len : mg "len" = none
  z_list : mg "list" = none
  z_max : mg "max" = none
  z_min : mg "min" = none
  z_range : mg "range" = none
  z_repr : mg "repr" = none
  z_set : mg "set" = none
  z_sorted : mg "sorted" = none
  z_str : mg "str" = none
  z_sum : mg "sum" = none
  z_zip : mg "zip" = none
abbrev lq (x : Str) : Str := x ++ ".<locals>." ++ "<lambda>"
section
open He
theorem hD_filling {K : PySem.W.Frag} {h : Heap} (c : SaysQ hfa hfn htf hexs h K) : FunD K "filling" "filling" (defArgs s_filling) (defBody s_filling) (defScope s_filling) [] [] (He.fAd K ("filling", none)) (fdOf K ("filling", none)) := funQ c.d 0 (d := hdf_filling) rfl
theorem hb_filling {K : PySem.W.Frag} {h : Heap} (c : SaysQ hfa hfn htf hexs h K) : Binds K (fdOf K ("filling", none)) ["box", "rows"] [] := (fun_of (hD_filling c)).binds (ps := ["box", "rows"]) fun _ _ _ _ _ _ us hl => match us, hl with | [_, _], _ => rfl
theorem hD_changes {K : PySem.W.Frag} {h : Heap} (c : SaysQ hfa hfn htf hexs h K) : FunD K "changes" "changes" (defArgs s_changes) (defBody s_changes) (defScope s_changes) [] [] (He.fAd K ("changes", none)) (fdOf K ("changes", none)) := funQ c.d 1 (d := hdf_changes) rfl
theorem hb_changes {K : PySem.W.Frag} {h : Heap} (c : SaysQ hfa hfn htf hexs h K) : Binds K (fdOf K ("changes", none)) ["box", "rows", "wanted"] [] := (fun_of (hD_changes c)).binds (ps := ["box", "rows", "wanted"]) fun _ _ _ _ _ _ us hl => match us, hl with | [_, _, _], _ => rfl
theorem hD_box_way {K : PySem.W.Frag} {h : Heap} (c : SaysQ hfa hfn htf hexs h K) : FunD K "box_way" "box_way" (defArgs s_box_way) (defBody s_box_way) (defScope s_box_way) [] [] (He.fAd K ("box_way", none)) (fdOf K ("box_way", none)) := funQ c.d 2 (d := hdf_box_way) rfl
theorem hb_box_way {K : PySem.W.Frag} {h : Heap} (c : SaysQ hfa hfn htf hexs h K) : Binds K (fdOf K ("box_way", none)) ["box", "content", "other"] [] := (fun_of (hD_box_way c)).binds (ps := ["box", "content", "other"]) fun _ _ _ _ _ _ us hl => match us, hl with | [_, _, _], _ => rfl
theorem hD_way_between {K : PySem.W.Frag} {h : Heap} (c : SaysQ hfa hfn htf hexs h K) : FunD K "way_between" "way_between" (defArgs s_way_between) (defBody s_way_between) (defScope s_way_between) [] [] (He.fAd K ("way_between", none)) (fdOf K ("way_between", none)) := funQ c.d 3 (d := hdf_way_between) rfl
theorem hb_way_between {K : PySem.W.Frag} {h : Heap} (c : SaysQ hfa hfn htf hexs h K) : Binds K (fdOf K ("way_between", none)) ["content", "other"] [] := (fun_of (hD_way_between c)).binds (ps := ["content", "other"]) fun _ _ _ _ _ _ us hl => match us, hl with | [_, _], _ => rfl
theorem hD_steps {K : PySem.W.Frag} {h : Heap} (c : SaysQ hfa hfn htf hexs h K) : FunD K "steps" "steps" (defArgs s_steps) (defBody s_steps) (defScope s_steps) [] [] (He.fAd K ("steps", none)) (fdOf K ("steps", none)) := funQ c.d 4 (d := hdf_steps) rfl
theorem hb_steps {K : PySem.W.Frag} {h : Heap} (c : SaysQ hfa hfn htf hexs h K) : Binds K (fdOf K ("steps", none)) ["content", "other"] [] := (fun_of (hD_steps c)).binds (ps := ["content", "other"]) fun _ _ _ _ _ _ us hl => match us, hl with | [_, _], _ => rfl
theorem hD_law_bag {K : PySem.W.Frag} {h : Heap} (c : SaysQ hfa hfn htf hexs h K) : FunD K "_law_bag" "_law_bag" (defArgs s_law_bag) (defBody s_law_bag) (defScope s_law_bag) [] [] (He.fAd K ("_law_bag", none)) (fdOf K ("_law_bag", none)) := funQ c.d 5 (d := hdf_law_bag) rfl
theorem hb_law_bag {K : PySem.W.Frag} {h : Heap} (c : SaysQ hfa hfn htf hexs h K) : Binds K (fdOf K ("_law_bag", none)) ["_law_script", "_law_at"] [] := (fun_of (hD_law_bag c)).binds (ps := ["_law_script", "_law_at"]) fun _ _ _ _ _ _ us hl => match us, hl with | [_, _], _ => rfl
theorem hD_law_take {K : PySem.W.Frag} {h : Heap} (c : SaysQ hfa hfn htf hexs h K) : FunD K "_law_take" "_law_take" (defArgs s_law_take) (defBody s_law_take) (defScope s_law_take) [] [] (He.fAd K ("_law_take", none)) (fdOf K ("_law_take", none)) := funQ c.d 6 (d := hdf_law_take) rfl
theorem hb_law_take {K : PySem.W.Frag} {h : Heap} (c : SaysQ hfa hfn htf hexs h K) : Binds K (fdOf K ("_law_take", none)) ["_law_bag_here", "_law_many"] [] := (fun_of (hD_law_take c)).binds (ps := ["_law_bag_here", "_law_many"]) fun _ _ _ _ _ _ us hl => match us, hl with | [_, _], _ => rfl
theorem hD_law_name {K : PySem.W.Frag} {h : Heap} (c : SaysQ hfa hfn htf hexs h K) : FunD K "_law_name" "_law_name" (defArgs s_law_name) (defBody s_law_name) (defScope s_law_name) [] [] (He.fAd K ("_law_name", none)) (fdOf K ("_law_name", none)) := funQ c.d 7 (d := hdf_law_name) rfl
theorem hb_law_name {K : PySem.W.Frag} {h : Heap} (c : SaysQ hfa hfn htf hexs h K) : Binds K (fdOf K ("_law_name", none)) ["_law_bag_here"] [] := (fun_of (hD_law_name c)).binds (ps := ["_law_bag_here"]) fun _ _ _ _ _ _ us hl => match us, hl with | [_], _ => rfl
theorem hD_law_words {K : PySem.W.Frag} {h : Heap} (c : SaysQ hfa hfn htf hexs h K) : FunD K "_law_words" "_law_words" (defArgs s_law_words) (defBody s_law_words) (defScope s_law_words) [] [] (He.fAd K ("_law_words", none)) (fdOf K ("_law_words", none)) := funQ c.d 8 (d := hdf_law_words) rfl
theorem hb_law_words {K : PySem.W.Frag} {h : Heap} (c : SaysQ hfa hfn htf hexs h K) : Binds K (fdOf K ("_law_words", none)) ["_law_bag_here"] [] := (fun_of (hD_law_words c)).binds (ps := ["_law_bag_here"]) fun _ _ _ _ _ _ us hl => match us, hl with | [_], _ => rfl
theorem hD_law_cards_in {K : PySem.W.Frag} {h : Heap} (c : SaysQ hfa hfn htf hexs h K) : FunD K "_law_cards_in" "_law_cards_in" (defArgs s_law_cards_in) (defBody s_law_cards_in) (defScope s_law_cards_in) [] [] (He.fAd K ("_law_cards_in", none)) (fdOf K ("_law_cards_in", none)) := funQ c.d 9 (d := hdf_law_cards_in) rfl
theorem hb_law_cards_in {K : PySem.W.Frag} {h : Heap} (c : SaysQ hfa hfn htf hexs h K) : Binds K (fdOf K ("_law_cards_in", none)) ["_law_held_here"] [] := (fun_of (hD_law_cards_in c)).binds (ps := ["_law_held_here"]) fun _ _ _ _ _ _ us hl => match us, hl with | [_], _ => rfl
theorem hD_law_longs {K : PySem.W.Frag} {h : Heap} (c : SaysQ hfa hfn htf hexs h K) : FunD K "_law_longs" "_law_longs" (defArgs s_law_longs) (defBody s_law_longs) (defScope s_law_longs) [] [] (He.fAd K ("_law_longs", none)) (fdOf K ("_law_longs", none)) := funQ c.d 10 (d := hdf_law_longs) rfl
theorem hb_law_longs {K : PySem.W.Frag} {h : Heap} (c : SaysQ hfa hfn htf hexs h K) : Binds K (fdOf K ("_law_longs", none)) ["_law_held_here"] [] := (fun_of (hD_law_longs c)).binds (ps := ["_law_held_here"]) fun _ _ _ _ _ _ us hl => match us, hl with | [_], _ => rfl
theorem hD_law_held {K : PySem.W.Frag} {h : Heap} (c : SaysQ hfa hfn htf hexs h K) : FunD K "_law_held" "_law_held" (defArgs s_law_held) (defBody s_law_held) (defScope s_law_held) [] [] (He.fAd K ("_law_held", none)) (fdOf K ("_law_held", none)) := funQ c.d 11 (d := hdf_law_held) rfl
theorem hb_law_held {K : PySem.W.Frag} {h : Heap} (c : SaysQ hfa hfn htf hexs h K) : Binds K (fdOf K ("_law_held", none)) ["_law_bag_here", "_law_cap"] [] := (fun_of (hD_law_held c)).binds (ps := ["_law_bag_here", "_law_cap"]) fun _ _ _ _ _ _ us hl => match us, hl with | [_, _], _ => rfl
theorem hD_law_done {K : PySem.W.Frag} {h : Heap} (c : SaysQ hfa hfn htf hexs h K) : FunD K "_law_done" "_law_done" (defArgs s_law_done) (defBody s_law_done) (defScope s_law_done) [] [] (He.fAd K ("_law_done", none)) (fdOf K ("_law_done", none)) := funQ c.d 12 (d := hdf_law_done) rfl
theorem hb_law_done {K : PySem.W.Frag} {h : Heap} (c : SaysQ hfa hfn htf hexs h K) : Binds K (fdOf K ("_law_done", none)) ["_law_held_here", "_law_deed"] [] := (fun_of (hD_law_done c)).binds (ps := ["_law_held_here", "_law_deed"]) fun _ _ _ _ _ _ us hl => match us, hl with | [_, _], _ => rfl
theorem hD_law_put_by {K : PySem.W.Frag} {h : Heap} (c : SaysQ hfa hfn htf hexs h K) : FunD K "_law_put_by" "_law_put_by" (defArgs s_law_put_by) (defBody s_law_put_by) (defScope s_law_put_by) [] [] (He.fAd K ("_law_put_by", none)) (fdOf K ("_law_put_by", none)) := funQ c.d 13 (d := hdf_law_put_by) rfl
theorem hb_law_put_by {K : PySem.W.Frag} {h : Heap} (c : SaysQ hfa hfn htf hexs h K) : Binds K (fdOf K ("_law_put_by", none)) ["_law_crate"] [] := (fun_of (hD_law_put_by c)).binds (ps := ["_law_crate"]) fun _ _ _ _ _ _ us hl => match us, hl with | [_], _ => rfl
theorem hD_law_deeds {K : PySem.W.Frag} {h : Heap} (c : SaysQ hfa hfn htf hexs h K) : FunD K "_law_deeds" "_law_deeds" (defArgs s_law_deeds) (defBody s_law_deeds) (defScope s_law_deeds) [] [] (He.fAd K ("_law_deeds", none)) (fdOf K ("_law_deeds", none)) := funQ c.d 14 (d := hdf_law_deeds) rfl
theorem hb_law_deeds {K : PySem.W.Frag} {h : Heap} (c : SaysQ hfa hfn htf hexs h K) : Binds K (fdOf K ("_law_deeds", none)) [] [] := (fun_of (hD_law_deeds c)).binds (ps := []) fun _ _ _ _ _ _ us hl => match us, hl with | [], _ => rfl
theorem hD_law_sign {K : PySem.W.Frag} {h : Heap} (c : SaysQ hfa hfn htf hexs h K) : FunD K "_law_sign" "_law_sign" (defArgs s_law_sign) (defBody s_law_sign) (defScope s_law_sign) [] [] (He.fAd K ("_law_sign", none)) (fdOf K ("_law_sign", none)) := funQ c.d 15 (d := hdf_law_sign) rfl
theorem hb_law_sign {K : PySem.W.Frag} {h : Heap} (c : SaysQ hfa hfn htf hexs h K) : Binds K (fdOf K ("_law_sign", none)) ["_law_held_here"] [] := (fun_of (hD_law_sign c)).binds (ps := ["_law_held_here"]) fun _ _ _ _ _ _ us hl => match us, hl with | [_], _ => rfl
theorem hD_law_reach {K : PySem.W.Frag} {h : Heap} (c : SaysQ hfa hfn htf hexs h K) : FunD K "_law_reach" "_law_reach" (defArgs s_law_reach) (defBody s_law_reach) (defScope s_law_reach) [] [] (He.fAd K ("_law_reach", none)) (fdOf K ("_law_reach", none)) := funQ c.d 16 (d := hdf_law_reach) rfl
theorem hb_law_reach {K : PySem.W.Frag} {h : Heap} (c : SaysQ hfa hfn htf hexs h K) : Binds K (fdOf K ("_law_reach", none)) ["_law_start"] [] := (fun_of (hD_law_reach c)).binds (ps := ["_law_start"]) fun _ _ _ _ _ _ us hl => match us, hl with | [_], _ => rfl
theorem hD_law_fewest {K : PySem.W.Frag} {h : Heap} (c : SaysQ hfa hfn htf hexs h K) : FunD K "_law_fewest" "_law_fewest" (defArgs s_law_fewest) (defBody s_law_fewest) (defScope s_law_fewest) [] [] (He.fAd K ("_law_fewest", none)) (fdOf K ("_law_fewest", none)) := funQ c.d 17 (d := hdf_law_fewest) rfl
theorem hb_law_fewest {K : PySem.W.Frag} {h : Heap} (c : SaysQ hfa hfn htf hexs h K) : Binds K (fdOf K ("_law_fewest", none)) ["_law_one", "_law_other"] [] := (fun_of (hD_law_fewest c)).binds (ps := ["_law_one", "_law_other"]) fun _ _ _ _ _ _ us hl => match us, hl with | [_, _], _ => rfl
theorem hD_law_led {K : PySem.W.Frag} {h : Heap} (c : SaysQ hfa hfn htf hexs h K) : FunD K "_law_led" "_law_led" (defArgs s_law_led) (defBody s_law_led) (defScope s_law_led) [] [] (He.fAd K ("_law_led", none)) (fdOf K ("_law_led", none)) := funQ c.d 18 (d := hdf_law_led) rfl
theorem hb_law_led {K : PySem.W.Frag} {h : Heap} (c : SaysQ hfa hfn htf hexs h K) : Binds K (fdOf K ("_law_led", none)) ["_law_held_here", "_law_deeds_here"] [] := (fun_of (hD_law_led c)).binds (ps := ["_law_held_here", "_law_deeds_here"]) fun _ _ _ _ _ _ us hl => match us, hl with | [_, _], _ => rfl
theorem hD_law {K : PySem.W.Frag} {h : Heap} (c : SaysQ hfa hfn htf hexs h K) : FunD K "law" "law" (defArgs s_law) (defBody s_law) (defScope s_law) [] [] (He.fAd K ("law", none)) (fdOf K ("law", none)) := funQ c.d 19 (d := hdf_law) rfl
theorem hb_law {K : PySem.W.Frag} {h : Heap} (c : SaysQ hfa hfn htf hexs h K) : Binds K (fdOf K ("law", none)) ["_law_script"] [] := (fun_of (hD_law c)).binds (ps := ["_law_script"]) fun _ _ _ _ _ _ us hl => match us, hl with | [_], _ => rfl
theorem mkT {K : PySem.W.Frag} {h : Heap} {mg : Str → Option Value} (X : K.In h) (G : h.Ns mainGlobals mg) (c : SaysQ hfa hfn htf hexs h K) : ∃ T : Txt K mg, T.f_law = (He.fAd K ("law", none)) ∧ T.fd_law = (fdOf K ("law", none)) := by
  exact ⟨⟨(He.fAd K ("filling", none)), (fdOf K ("filling", none)), fun_of (hD_filling c), He.glo_ok X G (c.d.fact 0 (f := .glo "filling") rfl), hb_filling c,
    (He.fAd K ("changes", none)), (fdOf K ("changes", none)), fun_of (hD_changes c), He.glo_ok X G (c.d.fact 1 (f := .glo "changes") rfl), hb_changes c,
    (He.fAd K ("box_way", none)), (fdOf K ("box_way", none)), fun_of (hD_box_way c), He.glo_ok X G (c.d.fact 2 (f := .glo "box_way") rfl), hb_box_way c,
    (He.fAd K ("way_between", none)), (fdOf K ("way_between", none)), fun_of (hD_way_between c), He.glo_ok X G (c.d.fact 3 (f := .glo "way_between") rfl), hb_way_between c,
    (He.fAd K ("steps", none)), (fdOf K ("steps", none)), fun_of (hD_steps c), He.glo_ok X G (c.d.fact 4 (f := .glo "steps") rfl), hb_steps c,
    (He.fAd K ("_law_bag", none)), (fdOf K ("_law_bag", none)), fun_of (hD_law_bag c), He.glo_ok X G (c.d.fact 5 (f := .glo "_law_bag") rfl), hb_law_bag c,
    (He.fAd K ("_law_take", none)), (fdOf K ("_law_take", none)), fun_of (hD_law_take c), He.glo_ok X G (c.d.fact 6 (f := .glo "_law_take") rfl), hb_law_take c,
    (He.fAd K ("_law_name", none)), (fdOf K ("_law_name", none)), fun_of (hD_law_name c), He.glo_ok X G (c.d.fact 7 (f := .glo "_law_name") rfl), hb_law_name c,
    (He.fAd K ("_law_words", none)), (fdOf K ("_law_words", none)), fun_of (hD_law_words c), He.glo_ok X G (c.d.fact 8 (f := .glo "_law_words") rfl), hb_law_words c,
    (He.fAd K ("_law_cards_in", none)), (fdOf K ("_law_cards_in", none)), fun_of (hD_law_cards_in c), He.glo_ok X G (c.d.fact 9 (f := .glo "_law_cards_in") rfl), hb_law_cards_in c,
    (He.fAd K ("_law_longs", none)), (fdOf K ("_law_longs", none)), fun_of (hD_law_longs c), He.glo_ok X G (c.d.fact 10 (f := .glo "_law_longs") rfl), hb_law_longs c,
    (He.fAd K ("_law_held", none)), (fdOf K ("_law_held", none)), fun_of (hD_law_held c), He.glo_ok X G (c.d.fact 11 (f := .glo "_law_held") rfl), hb_law_held c,
    (He.fAd K ("_law_done", none)), (fdOf K ("_law_done", none)), fun_of (hD_law_done c), He.glo_ok X G (c.d.fact 12 (f := .glo "_law_done") rfl), hb_law_done c,
    (He.fAd K ("_law_put_by", none)), (fdOf K ("_law_put_by", none)), fun_of (hD_law_put_by c), He.glo_ok X G (c.d.fact 13 (f := .glo "_law_put_by") rfl), hb_law_put_by c,
    (He.fAd K ("_law_deeds", none)), (fdOf K ("_law_deeds", none)), fun_of (hD_law_deeds c), He.glo_ok X G (c.d.fact 14 (f := .glo "_law_deeds") rfl), hb_law_deeds c,
    (He.fAd K ("_law_sign", none)), (fdOf K ("_law_sign", none)), fun_of (hD_law_sign c), He.glo_ok X G (c.d.fact 15 (f := .glo "_law_sign") rfl), hb_law_sign c,
    (He.fAd K ("_law_reach", none)), (fdOf K ("_law_reach", none)), fun_of (hD_law_reach c), He.glo_ok X G (c.d.fact 16 (f := .glo "_law_reach") rfl), hb_law_reach c,
    (He.fAd K ("_law_fewest", none)), (fdOf K ("_law_fewest", none)), fun_of (hD_law_fewest c), He.glo_ok X G (c.d.fact 17 (f := .glo "_law_fewest") rfl), hb_law_fewest c,
    (He.fAd K ("_law_led", none)), (fdOf K ("_law_led", none)), fun_of (hD_law_led c), He.glo_ok X G (c.d.fact 18 (f := .glo "_law_led") rfl), hb_law_led c,
    (He.fAd K ("law", none)), (fdOf K ("law", none)), fun_of (hD_law c), He.glo_ok X G (c.d.fact 19 (f := .glo "law") rfl), hb_law c,
    He.free_ok X G (c.d.fact 20 (f := .free "abs") rfl),
    He.free_ok X G (c.d.fact 21 (f := .free "dict") rfl),
    He.free_ok X G (c.d.fact 22 (f := .free "int") rfl),
    He.free_ok X G (c.d.fact 23 (f := .free "len") rfl),
    He.free_ok X G (c.d.fact 24 (f := .free "list") rfl),
    He.free_ok X G (c.d.fact 25 (f := .free "max") rfl),
    He.free_ok X G (c.d.fact 26 (f := .free "min") rfl),
    He.free_ok X G (c.d.fact 27 (f := .free "range") rfl),
    He.free_ok X G (c.d.fact 28 (f := .free "repr") rfl),
    He.free_ok X G (c.d.fact 29 (f := .free "set") rfl),
    He.free_ok X G (c.d.fact 30 (f := .free "sorted") rfl),
    He.free_ok X G (c.d.fact 31 (f := .free "str") rfl),
    He.free_ok X G (c.d.fact 32 (f := .free "sum") rfl),
    He.free_ok X G (c.d.fact 33 (f := .free "zip") rfl)⟩, rfl, rfl⟩
end
section
variable {P : Program} {w : World} {K : PySem.W.Frag} {mg : Str → Option Value} {base : Heap} [Tabl] {Z : XZ}
local macro_rules | `(tactic| walk_at "ls") => `(tactic| first
  | decide
  | assumption
  | omega
  | (simp only [List.length_append, List.length_map, List.length_cons, List.length_nil, List.length_replicate, List.length_take, List.length_drop]; omega))
local macro_rules | `(tactic| walk_at "e1") => `(tactic| first
  | ((with_reducible apply gk_var); (focus (exact rfl)))
  | with_reducible refine dN.mk ?_
  | with_reducible refine gk_i ?_
  | with_reducible refine gk_s ?_
  | with_reducible refine gk_b ?_
  | with_reducible refine gk_n ?_
  | ((with_reducible apply gk_ownIx); (focus (exact rfl)))
  | ((with_reducible apply gk_ownLen); (focus (exact rfl)))
  | ((with_reducible apply gk_scrLen); (focus (exact rfl)))
  | with_reducible refine gk_isi ?_
  | refine ⟨true, rfl, kit_ty (by kernel_rfl), ?_⟩
  | refine ⟨false, rfl, kit_ty (by kernel_rfl), ?_⟩
  | ((with_reducible apply gk_inOwn); (focus (exact rfl)); (focus (exact flat_strs)))
  | with_reducible refine gk_op ?_
  | with_reducible refine gk_un ?_
  | with_reducible refine gk_cb ?_
  | ((with_reducible refine gk_callB ?_ ?_); (focus (exact rfl)))
  | with_reducible refine gk_call ?_
  | ((with_reducible refine gk_dfl ?_ ?_); (focus (exact rfl)))
  | ((with_reducible refine gk_kw ?_ ?_); (focus (exact rfl)))
  | with_reducible refine gk_tup ?_
  | with_reducible refine gk_lst ?_
  | with_reducible refine gk_ifE ?_
  | with_reducible refine gk_andV ?_
  | with_reducible refine gk_orV ?_
  | with_reducible refine gk_notV ?_
  | with_reducible refine gk_chain ?_
  | with_reducible refine gk_sl ?_
  | with_reducible refine gk_m1 ?_
  | with_reducible refine gk_index ?_
  | with_reducible refine go_none ?_
  | with_reducible refine go_some ?_
  | with_reducible refine ga_cons ?_
  | with_reducible refine ga_nil ?_
  | with_reducible refine gt_test ?_
  | with_reducible refine gt_B ?_
  | with_reducible refine gt_not ?_
  | with_reducible refine gt_and ?_
  | with_reducible refine gt_or ?_
  | with_reducible refine gt_yes ?_
  | ((with_reducible apply gt_truOwn); (focus (exact rfl)))
  | with_reducible refine gt_tru ?_
  | with_reducible refine rk_add ?_
  | with_reducible refine rk_sub ?_
  | with_reducible refine rk_lt ?_
  | with_reducible refine rk_le ?_
  | with_reducible refine rk_gt ?_
  | with_reducible refine rk_ge ?_
  | ((with_reducible refine rk_mul ?_ ?_); (focus (first | exact .inl ⟨by decide, by decide⟩ | exact .inr ⟨by decide, by decide⟩ | exact .inl ⟨by omega, by omega⟩ | exact .inr ⟨by omega, by omega⟩)))
  | ((with_reducible refine rk_fdiv ?_ ?_); (focus (first | exact ⟨by decide, by decide⟩ | exact ⟨by omega, by omega⟩)))
  | ((with_reducible refine rk_mod ?_ ?_); (focus (first | decide | omega)))
  | with_reducible refine rk_eqI ?_
  | with_reducible refine rk_neI ?_
  | with_reducible refine rk_eqS ?_
  | with_reducible refine rk_neS ?_
  | with_reducible refine rk_eqB ?_
  | with_reducible refine rk_neB ?_
  | with_reducible refine rk_ltS ?_
  | with_reducible refine rk_gtS ?_
  | with_reducible refine rk_leS ?_
  | with_reducible refine rk_leIS ?_
  | with_reducible refine rk_gtIS ?_
  | with_reducible refine rk_ltIS ?_
  | with_reducible refine rk_isN ?_
  | with_reducible refine rk_notN ?_
  | with_reducible refine ru_neg ?_
  | ((with_reducible refine rk_addS ?_ ?_); (focus (exact sz_ (by (try simp only [str_app_len]); omega))))
  | ((with_reducible refine rk_cat ?_ ?_); (focus (walk_at "ls")))
  | ((with_reducible refine rk_catT ?_ ?_); (focus (walk_at "ls")))
  | ((with_reducible refine rc_lenS ?_ ?_); (focus (walk_at "ls")))
  | with_reducible refine rc_lenL ?_
  | with_reducible refine rc_lenT ?_
  | with_reducible refine rc_ord ?_
  | with_reducible refine rc_abs ?_
  | with_reducible refine rc_all ?_
  | with_reducible refine rc_any ?_
  | with_reducible refine rc_sum ?_
  | with_reducible refine rc_int1 ?_
  | with_reducible refine rc_intB ?_
  | with_reducible refine rc_max2 ?_
  | with_reducible refine rc_max2S ?_
  | with_reducible refine rc_min2S ?_
  | with_reducible refine rc_min2 ?_
  | with_reducible refine rc_tupL ?_
  | with_reducible refine rc_tupT ?_
  | with_reducible refine rc_listL ?_
  | with_reducible refine rc_listT ?_
  | ((with_reducible refine rs_tupTo ?_ ?_); (focus (first | decide | omega)))
  | ((with_reducible refine rs_tupFrom ?_ ?_); (focus (first | decide | omega)))
  | ((with_reducible refine rs_lstTo ?_ ?_); (focus (first | decide | omega)))
  | ((with_reducible refine rs_lstFrom ?_ ?_); (focus (first | decide | omega)))
  | with_reducible refine rs_lst ?_
  | with_reducible refine rs_tup ?_
  | ((with_reducible refine rs_str ?_ ?_); (focus (walk_at "ls")))
  | with_reducible refine gi_list ?_
  | with_reducible refine gi_tup ?_
  | with_reducible refine gi_str ?_
  | with_reducible refine gi_rng1 ?_
  | with_reducible refine gi_rng2 ?_
  | with_reducible refine gi_enum ?_
  | with_reducible refine ⟨_, rfl, ?_⟩
  | with_reducible refine ⟨_, _, rfl, ?_⟩
  | with_reducible refine ⟨_, _, _, rfl, ?_⟩
  | ((with_reducible apply rk_ixL); (focus (exact rfl)))
  | ((with_reducible apply rk_ixT); (focus (exact rfl)))
  | ((with_reducible refine And.intro (a := List.length _ ≤ 100000) ?_ ?_); (focus (walk_at "ls")))
  | with_reducible refine ⟨fun h => absurd h Bool.false_ne_true, fun _ => ?_⟩
  | with_reducible refine ⟨fun h => absurd h not_tt, fun _ => ?_⟩
  | with_reducible refine ⟨fun _ => ?_, fun h => absurd h not_ff⟩
  | with_reducible refine ⟨fun _ => ?_, fun h => absurd h.symm Bool.false_ne_true⟩)
local macro_rules | `(tactic| walk_at "s1") => `(tactic| first
  | with_reducible refine gs_seq ?_
  | with_reducible refine gs_next ?_
  | with_reducible refine gs_brk ?_
  | with_reducible refine gs_cont ?_
  | with_reducible refine gs_ret ?_
  | with_reducible refine gs_par ?_
  | with_reducible refine gs_par3 ?_
  | with_reducible refine gs_asg ?_
  | ((with_reducible refine gs_unp2 ?_ ?_); (focus (exact rfl)))
  | ((with_reducible refine gs_unp3 ?_ ?_); (focus (exact rfl)))
  | with_reducible refine gs_if ?_
  | ((with_reducible apply gs_app); (focus (exact rfl)); (focus (walk_at "ls")))
  | with_reducible refine gs_drop ?_)
local macro_rules | `(tactic| walk_at "e") => `(tactic| repeat (walk_at "e1"))
local macro_rules | `(tactic| walk_at "g") => `(tactic| repeat (first | walk_at "e1" | walk_at "s1"))
local macro_rules | `(tactic| walk_at "k") => `(tactic| try dsimp only [cxOf, Cx.nox])
local macro_rules | `(tactic| walk_at "wk") => `(tactic| repeat (first | exact Wk.nil | refine Wk.kp ?_ | refine Wk.un ?_))
local macro_rules | `(tactic| walk_at "no") => `(tactic| (intro _ h; cases h))
def Cd (z : Str) : Prop := ∀ c ∈ tl z, c < 1000
theorem Cd.ok {z : Str} (h : Cd z) : ∀ c ∈ z.cps.toList, c < 2 ^ 30 := fun c m => Nat.lt_trans (h c m) (by decide)
theorem Cd.app {x y : Str} (h : Cd x) (h2 : Cd y) : Cd (x ++ y) := fun c m => by
  rw [tl_append] at m
  rcases List.mem_append.mp m with m | m
  · exact h c m
  · exact h2 c m
theorem Cd.cut {z : Str} (h : Cd z) (lo hi : Option Int) : Cd (cutS z lo hi) := fun c m => h c (List.mem_of_mem_drop (List.mem_of_mem_take m))
theorem Cd.one {c : Nat} (h : c < 1000) : Cd (S [c]) := fun x m => by
  rw [tl_S] at m
  rw [List.mem_singleton.mp m]
  exact h
theorem Cd.of {cs : List Nat} (h : ∀ c ∈ cs, c < 1000) : Cd (S cs) := fun x m => by
  rw [tl_S] at m
  exact h x m
def Wt (z : Str) : Prop := z.length ≤ 40 ∧ ∀ c ∈ tl z, 32 ≤ c ∧ c ≤ 126 ∧ c ≠ 37
theorem Wt.cd {z : Str} (h : Wt z) : Cd z := fun c m => Nat.lt_of_le_of_lt (h.2 c m).2.1 (by decide)
theorem Wt.of {cs : List Nat} (h : cs.length ≤ 40) (g : ∀ c ∈ cs, 32 ≤ c ∧ c ≤ 126 ∧ c ≠ 37) : Wt (S cs) := ⟨by rw [S_len]; exact h, fun c m => g c (by rwa [tl_S] at m)⟩
theorem num_tl (m : Nat) : tl (Str.ofString (toString (m : Int))) = (Nat.toDigits 10 m).map Char.toNat := by
  rw [PySem.Str.ofString_eq_toList]
  show ((toString ((m : Nat) : Int)).toList.map Char.toNat).toArray.toList = _
  rw [List.toList_toArray]
  congr 1
  show (Nat.repr m).toList = _
  unfold Nat.repr
  simp
theorem digits_of (m : Nat) (hm : m < 6000) : (Str.ofString (toString (m : Int))).length ≤ 4 ∧ ∀ c ∈ tl (Str.ofString (toString (m : Int))), 48 ≤ c ∧ c ≤ 57 := by
  have hl : (Str.ofString (toString (m : Int))).length = (tl (Str.ofString (toString (m : Int)))).length := (Array.length_toList (xs := (Str.ofString (toString (m : Int))).cps)).symm
  rw [hl, num_tl, List.length_map]
  refine ⟨(Nat.length_toDigits_le_iff (by decide) (by decide)).mpr (by omega), fun c hc => ?_⟩
  obtain ⟨x, hx, rfl⟩ := List.mem_map.mp hc
  have := Nat.isDigit_of_mem_toDigits (by decide) (by decide) hx
  unfold Char.isDigit at this
  rw [Bool.and_eq_true, decide_eq_true_eq, decide_eq_true_eq] at this
  exact ⟨this.1, this.2⟩
theorem log_small {m : Nat} (h : m < 6000) : ((m : Int).natAbs).log2 < 1920 := by
  rw [Int.natAbs_natCast]
  by_cases e : m = 0
  · subst e
    decide
  · have := (Nat.log2_lt e (k := 13)).mpr (by omega)
    omega
def Nmz (z : Str) : Prop := 1 ≤ z.length ∧ z.length ≤ 8 ∧ ∀ c ∈ tl z, 97 ≤ c ∧ c ≤ 122
def WfR (rs : List (Str × Str)) : Prop := (rs.map (·.1)).Nodup ∧ ∀ kv ∈ rs, Nmz kv.1 ∧ Wt kv.2
def WfC (c : Cont) : Prop := (c.map (·.1)).Nodup ∧ ∀ b ∈ c, Nmz b.1 ∧ WfR b.2
def rowsN (c : Cont) : Nat := (c.map fun b => b.2.length).sum
def longR (rs : List (Str × Str)) : List Str := (rs.map (·.2)).filter fun y => decide (8 < y.length)
def longL (c : Cont) : List Str := c.flatMap fun b => longR b.2
def cardsN (c : Cont) : Nat := c.length + rowsN c + (setS (longL c)).length
def putR (rs : List (Str × Str)) (k z : Str) : List (Str × Str) := if k ∈ rs.map (·.1) then rs.map fun kv => if kv.1 = k then (kv.1, z) else kv else rs ++ [(k, z)]
def updC (c : Cont) (x : Str) (f : List (Str × Str) → List (Str × Str)) : Cont := c.map fun b => if b.1 = x then (b.1, f b.2) else b
theorem Nmz.top {z : Str} (h : Nmz z) : ∀ c ∈ tl z, c < 1114112 := fun c m => Nat.lt_of_le_of_lt (h.2.2 c m).2 (by decide)
theorem rowsN_app (c d : Cont) : rowsN (c ++ d) = rowsN c + rowsN d := by
  unfold rowsN
  rw [List.map_append, List.sum_append]
theorem rows_le : ∀ {c : Cont} {b : Str × List (Str × Str)}, b ∈ c → b.2.length ≤ rowsN c
  | b0 :: c, b, h => by
    show b.2.length ≤ b0.2.length + rowsN c
    rcases List.mem_cons.mp h with rfl | m
    · omega
    · have := rows_le m
      omega
theorem longL_le : ∀ c : Cont, (longL c).length ≤ rowsN c
  | [] => Nat.le_refl 0
  | b :: c => by
    have ih := longL_le c
    have h1 : (longR b.2).length ≤ b.2.length := by
      unfold longR
      exact Nat.le_trans (List.length_filter_le _ _) (by rw [List.length_map]; exact Nat.le_refl _)
    show ((longR b.2) ++ longL c).length ≤ b.2.length + rowsN c
    rw [List.length_append]
    omega
theorem getD_none {es : List (Key × D)} {k : Key} (h : getD' es k = none) : ∀ kv ∈ es, kv.1 ≠ k := fun kv hk e => by
  unfold getD' at h
  rw [Option.map_eq_none_iff, List.find?_eq_none] at h
  exact h kv hk (decide_eq_true e)
theorem putD_new {es : List (Key × D)} {k : Key} {d : D} (h : ∀ kv ∈ es, kv.1 ≠ k) : putD es k d = es ++ [(k, d)] := by
  unfold putD
  rw [if_neg]
  rw [List.any_eq_true]
  rintro ⟨kv, hk, e⟩
  exact h kv hk (of_decide_eq_true e)
theorem rowE_put {rs : List (Str × Str)} {k z : Str} : putD (rowE rs) (Sum.inr k) (.str z) = rowE (putR rs k z) := by
  unfold putR
  by_cases h : k ∈ rs.map (·.1)
  · rw [if_pos h]
    obtain ⟨kv, hk, e⟩ := List.mem_map.mp h
    unfold putD rowE
    rw [if_pos (List.any_eq_true.mpr ⟨(Sum.inr kv.1, D.str kv.2), List.mem_map.mpr ⟨kv, hk, rfl⟩, decide_eq_true (by rw [e])⟩), List.map_map, List.map_map]
    refine List.map_congr_left fun x _ => ?_
    show (if (Sum.inr x.1 : Key) = Sum.inr k then _ else _) = _
    by_cases q : x.1 = k
    · rw [if_pos (by rw [q])]
      show _ = (Sum.inr (if x.1 = k then (x.1, z) else x).1, D.str (if x.1 = k then (x.1, z) else x).2)
      rw [if_pos q]
    · rw [if_neg (fun w => q (Sum.inr.inj w))]
      show _ = (Sum.inr (if x.1 = k then (x.1, z) else x).1, D.str (if x.1 = k then (x.1, z) else x).2)
      rw [if_neg q]
  · rw [if_neg h, putD_new]
    · unfold rowE
      rw [List.map_append]
      rfl
    · intro kv hk e
      obtain ⟨x, hx, rfl⟩ := List.mem_map.mp hk
      exact h (List.mem_map.mpr ⟨x, hx, Sum.inr.inj e⟩)
theorem putR_len {rs : List (Str × Str)} {k z : Str} : rs.length ≤ (putR rs k z).length ∧ (putR rs k z).length ≤ rs.length + 1 := by
  unfold putR
  split
  · rw [List.length_map]
    omega
  · rw [List.length_append]
    simp
theorem WfR.put {rs : List (Str × Str)} {k z : Str} (h : WfR rs) (hk : Nmz k) (hz : Wt z) : WfR (putR rs k z) := by
  unfold putR
  split
  · refine ⟨?_, fun kv hkv => ?_⟩
    · rw [List.map_map, show ((·.1) ∘ fun kv : Str × Str => if kv.1 = k then (kv.1, z) else kv) = (·.1) from funext fun kv => by
        show (if kv.1 = k then (kv.1, z) else kv).1 = kv.1
        split <;> rfl]
      exact h.1
    · obtain ⟨x, hx, rfl⟩ := List.mem_map.mp hkv
      have := h.2 x hx
      split
      · exact ⟨this.1, hz⟩
      · exact this
  · rename_i n
    refine ⟨?_, fun kv hkv => ?_⟩
    · rw [List.map_append, List.nodup_append]
      refine ⟨h.1, by simp, fun a ha b hb => ?_⟩
      have : b = k := by simpa using hb
      exact fun e => n (this ▸ e ▸ ha)
    · rcases List.mem_append.mp hkv with q | q
      · exact h.2 kv q
      · rw [List.mem_singleton.mp q]
        exact ⟨hk, hz⟩
theorem updC_keys {c : Cont} {x : Str} {f : List (Str × Str) → List (Str × Str)} : (updC c x f).map (·.1) = c.map (·.1) := by
  unfold updC
  rw [List.map_map]
  refine List.map_congr_left fun b _ => ?_
  show (if b.1 = x then (b.1, f b.2) else b).1 = b.1
  split <;> rfl
theorem updC_no {c : Cont} {x : Str} {f : List (Str × Str) → List (Str × Str)} (h : x ∉ c.map (·.1)) : updC c x f = c := by
  unfold updC
  refine (List.map_congr_left fun b hb => ?_).trans (List.map_id c)
  rw [if_neg fun e => h (List.mem_map.mpr ⟨b, hb, e⟩)]
  rfl
theorem WfC.upd {c : Cont} {x : Str} {f : List (Str × Str) → List (Str × Str)} (h : WfC c) (hf : ∀ rs, WfR rs → WfR (f rs)) : WfC (updC c x f) := by
  refine ⟨by rw [updC_keys]; exact h.1, fun b hb => ?_⟩
  obtain ⟨b0, h0, rfl⟩ := List.mem_map.mp hb
  have := h.2 b0 h0
  split
  · exact ⟨this.1, hf _ this.2⟩
  · exact this
theorem updC_rows {c : Cont} {x : Str} {f : List (Str × Str) → List (Str × Str)} (nd : (c.map (·.1)).Nodup) (hf : ∀ rs, (f rs).length ≤ rs.length + 1) : rowsN (updC c x f) ≤ rowsN c + 1 := by
  induction c with
  | nil => exact Nat.le_succ 0
  | cons b c ih =>
    rw [List.map_cons, List.nodup_cons] at nd
    by_cases e : b.1 = x
    · have : updC (b :: c) x f = (b.1, f b.2) :: c := by
        show (if b.1 = x then (b.1, f b.2) else b) :: updC c x f = _
        rw [if_pos e, updC_no (e ▸ nd.1)]
      rw [this]
      show (f b.2).length + rowsN c ≤ b.2.length + rowsN c + 1
      have := hf b.2
      omega
    · have : updC (b :: c) x f = b :: updC c x f := by
        show (if b.1 = x then (b.1, f b.2) else b) :: updC c x f = _
        rw [if_neg e]
      rw [this]
      show b.2.length + rowsN (updC c x f) ≤ b.2.length + rowsN c + 1
      have := ih nd.2
      omega
theorem Rws.find {n : Sto} {qs : List Addr} {c : Cont} {x : Str} (h : Rws n qs c) (nq : qs.Nodup) (nd : (c.map (·.1)).Nodup) (hx : x ∈ c.map (·.1)) :
    ∃ q rs, q ∈ qs ∧ (x, rs) ∈ c ∧ getD' (ptE qs c) (Sum.inr x) = some (.ptr q) ∧ n.μ q = some (.dic (rowE rs)) ∧
      ∀ (f : List (Str × Str) → List (Str × Str)) (n' : Sto), n'.μ q = some (.dic (rowE (f rs))) → (∀ a ∈ qs, a ≠ q → n'.μ a = n.μ a) → Rws n' qs (updC c x f) ∧ ptE qs (updC c x f) = ptE qs c := by
  induction h with
  | nil => simp at hx
  | @cons q qs b c h r ih =>
    rw [List.map_cons, List.nodup_cons] at nd
    rw [List.nodup_cons] at nq
    by_cases e : b.1 = x
    · subst e
      refine ⟨q, b.2, List.mem_cons_self, List.mem_cons_self, ?_, h, fun f n' h1 h2 => ?_⟩
      · unfold getD' ptE
        rw [List.find?_cons_of_pos (by simp)]
        rfl
      · have u : updC (b :: c) b.1 f = (b.1, f b.2) :: c := by
          show (if b.1 = b.1 then (b.1, f b.2) else b) :: updC c b.1 f = _
          rw [if_pos rfl, updC_no nd.1]
        rw [u]
        exact ⟨.cons h1 (r.keep fun a ha => h2 a (List.mem_cons_of_mem _ ha) fun z => nq.1 (z ▸ ha)), rfl⟩
    · have hx' : x ∈ c.map (·.1) := by
        rw [List.map_cons, List.mem_cons] at hx
        exact hx.elim (fun z => absurd z.symm e) id
      obtain ⟨q', rs, m1, m2, g, w, k⟩ := ih nq.2 nd.2 hx'
      refine ⟨q', rs, List.mem_cons_of_mem _ m1, List.mem_cons_of_mem _ m2, ?_, w, fun f n' h1 h2 => ?_⟩
      · unfold getD' ptE
        rw [List.find?_cons_of_neg (by simpa using e)]
        exact g
      · have u : updC (b :: c) x f = b :: updC c x f := by
          show (if b.1 = x then (b.1, f b.2) else b) :: updC c x f = _
          rw [if_neg e]
        obtain ⟨k1, k2⟩ := k f n' h1 fun a ha ne => h2 a (List.mem_cons_of_mem _ ha) ne
        rw [u]
        refine ⟨.cons ((h2 q List.mem_cons_self fun z => nq.1 (z ▸ m1)).trans h) k1, ?_⟩
        show (Sum.inr b.1, D.ptr q) :: ptE qs (updC c x f) = _
        rw [k2]
        rfl
theorem ptE_none {qs : List Addr} {c : Cont} {x : Str} (hl : qs.length = c.length) (h : getD' (ptE qs c) (Sum.inr x) = none) : x ∉ c.map (·.1) := fun m => by
  have k := ptE_keys hl
  obtain ⟨b, hb, e⟩ := List.mem_map.mp m
  have m2 : (Sum.inr x : Key) ∈ (ptE qs c).map (·.1) := by
    rw [k]
    exact List.mem_map.mpr ⟨b, hb, by rw [e]⟩
  obtain ⟨kv, hk, e2⟩ := List.mem_map.mp m2
  exact getD_none h kv hk e2
theorem dropD_cntE {c : Cont} {x : Str} : dropD (cntE c) (Sum.inr x) = cntE (c.filter fun b => decide (b.1 ≠ x)) := by
  unfold dropD cntE
  rw [List.filter_map]
  congr 1
  refine List.filter_congr fun b _ => ?_
  show decide ((Sum.inr b.1 : Key) ≠ Sum.inr x) = decide (b.1 ≠ x)
  by_cases e : b.1 = x
  · simp [e]
  · simp [e]
theorem getD_cnt {c : Cont} {x : Str} {rs : List (Str × Str)} (nd : (c.map (·.1)).Nodup) (h : (x, rs) ∈ c) : getD' (cntE c) (Sum.inr x) = some (rowD rs) := by
  induction c with
  | nil => cases h
  | cons b c ih =>
    rw [List.map_cons, List.nodup_cons] at nd
    unfold getD' cntE
    rcases List.mem_cons.mp h with rfl | m
    · rw [List.map_cons, List.find?_cons_of_pos (by simp)]
      rfl
    · have ne : b.1 ≠ x := fun e => nd.1 (e ▸ List.mem_map.mpr ⟨(x, rs), m, rfl⟩)
      rw [List.map_cons, List.find?_cons_of_neg (by simpa using ne)]
      exact ih nd.2 m
theorem strs_ofD {Pc : Str → Prop} : ∀ {ys : List D}, (∀ y ∈ ys, ∃ z, Pc z ∧ y = .str z) → ∃ zs : List Str, ys = zs.map D.str ∧ (∀ z ∈ zs, Pc z) ∧ zs.length = ys.length
  | [], _ => ⟨[], rfl, fun _ z => (nomatch z), rfl⟩
  | y :: ys, h => by
    obtain ⟨z, hz, rfl⟩ := h y List.mem_cons_self
    obtain ⟨zs, rfl, h2, h3⟩ := strs_ofD (ys := ys) fun y hy => h y (List.mem_cons_of_mem _ hy)
    exact ⟨z :: zs, rfl, fun u hu => (List.mem_cons.mp hu).elim (fun e => e ▸ hz) (h2 u), congrArg (· + 1) h3⟩
theorem at_strs {zs : List Str} {r : Int} (h0 : 0 ≤ r) (h1 : r < (zs.length : Int)) : ∃ z, L2.atI (zs.map D.str) r = some (.str z) ∧ z ∈ zs := by
  obtain ⟨d, e, m⟩ := at_any (xs := zs.map D.str) h0 (by rw [List.length_map]; exact h1)
  obtain ⟨z, hz, rfl⟩ := List.mem_map.mp m
  exact ⟨z, e, hz⟩
def longD (d : D) : Bool := match d with
  | .str y => decide ((8 : Int) < y.length)
  | _ => false
theorem flt_longR (rs : List (Str × Str)) : ((rowE rs).map (·.2)).filter longD = (longR rs).map D.str := by
  unfold longR rowE
  induction rs with
  | nil => rfl
  | cons kv rs ih =>
    rw [List.map_cons, List.map_cons, List.map_cons, List.filter_cons, List.filter_cons, ih]
    show (if decide ((8 : Int) < kv.2.length) = true then _ else _) = _
    by_cases e : 8 < kv.2.length
    · rw [if_pos (decide_eq_true (by omega)), if_pos (decide_eq_true e)]
      rfl
    · rw [if_neg (by simpa using (by omega)), if_neg (by simpa using (by omega))]
def rowT (x k : Str) : Str := "r:" ++ x ++ ":" ++ k
def rowsT (c : Cont) : List Str := c.flatMap fun b => b.2.map fun kv => rowT b.1 kv.1
inductive OthL : Cont → Cont → Prop
  | nil : OthL [] []
  | cons {x : Str} {rs rs' : List (Str × Str)} {c c' : Cont} (h : rs'.Perm rs) (r : OthL c c') : OthL ((x, rs) :: c) ((x, rs') :: c')
def Oth (c c' : Cont) : Prop := ∃ c2, c2.Perm c ∧ OthL c2 c'
theorem OthL.snoc {x : Str} {rs rs' : List (Str × Str)} {c c' : Cont} (h : OthL c c') (g : rs'.Perm rs) : OthL (c ++ [(x, rs)]) (c' ++ [(x, rs')]) := by
  induction h with
  | nil => exact .cons g .nil
  | cons h _ ih => exact .cons h ih
theorem OthL.keys {c c' : Cont} (h : OthL c c') : c'.map (·.1) = c.map (·.1) := by
  induction h with
  | nil => rfl
  | cons h _ ih => rw [List.map_cons, List.map_cons, ih]
theorem OthL.rows {c c' : Cont} (h : OthL c c') : (rowsT c').Perm (rowsT c) := by
  induction h with
  | nil => exact List.Perm.refl _
  | cons h _ ih => exact (h.map _).append ih
theorem OthL.mem {c c' : Cont} (h : OthL c c') : ∀ b' ∈ c', ∃ b ∈ c, b.1 = b'.1 ∧ b'.2.Perm b.2 := by
  induction h with
  | nil => exact fun _ h => absurd h List.not_mem_nil
  | @cons x rs rs' c c' h _ ih =>
    intro b' hb
    rcases List.mem_cons.mp hb with rfl | hb
    · exact ⟨(x, rs), List.mem_cons_self, rfl, h⟩
    · obtain ⟨b, m, e⟩ := ih b' hb
      exact ⟨b, List.mem_cons_of_mem _ m, e⟩
theorem rowsT_len' : ∀ c : Cont, (rowsT c).length = rowsN c
  | [] => rfl
  | b :: c => by
    show ((b.2.map fun kv => rowT b.1 kv.1) ++ rowsT c).length = b.2.length + rowsN c
    rw [List.length_append, rowsT_len' c, List.length_map]
theorem rowsT_perm {c d : Cont} (h : c.Perm d) : (rowsT c).Perm (rowsT d) := h.flatMap_right _
theorem rowsN_perm {c d : Cont} (h : c.Perm d) : rowsN c = rowsN d := by
  rw [← rowsT_len', ← rowsT_len', (rowsT_perm h).length_eq]
theorem Oth.len {c c' : Cont} (h : Oth c c') : c'.length = c.length := by
  obtain ⟨c2, p, o⟩ := h
  have := congrArg List.length o.keys
  rw [List.length_map, List.length_map] at this
  rw [this, p.length_eq]
theorem Oth.rowsN {c c' : Cont} (h : Oth c c') : rowsN c' = Tl.rowsN c := by
  obtain ⟨c2, p, o⟩ := h
  rw [← rowsN_perm p, ← rowsT_len', o.rows.length_eq, rowsT_len']
theorem Oth.wf {c c' : Cont} (h : Oth c c') (wf : WfC c) : WfC c' := by
  obtain ⟨c2, p, o⟩ := h
  refine ⟨?_, fun b' hb => ?_⟩
  · rw [o.keys]
    exact (p.map _).nodup_iff.mpr wf.1
  · obtain ⟨b, m, e, q⟩ := o.mem b' hb
    have := wf.2 b (p.mem_iff.mp m)
    rw [← e]
    exact ⟨this.1, (q.map _).nodup_iff.mpr this.2.1, fun kv h => this.2.2 kv (q.mem_iff.mp h)⟩
theorem getD_oth {es : List (Key × D)} (nd : (es.map Prod.fst).Nodup) {kv : Key × D} (m : kv ∈ es) : getD' es kv.1 = some kv.2 := by
  unfold getD'
  induction es with
  | nil => cases m
  | cons a es ih =>
    rw [List.map_cons, List.nodup_cons] at nd
    rw [List.find?_cons]
    rcases List.mem_cons.mp m with rfl | m
    · rw [decide_eq_true rfl]
      rfl
    · have : a.1 ≠ kv.1 := fun e => nd.1 (by rw [e]; exact List.mem_map.mpr ⟨kv, m, rfl⟩)
      rw [decide_eq_false this]
      exact ih nd.2 m
theorem rowE_get {rs : List (Str × Str)} {k z : Str} (nd : (rs.map (·.1)).Nodup) (h : (k, z) ∈ rs) : getD' (rowE rs) (Sum.inr k) = some (.str z) := by
  have nd2 : ((rowE rs).map Prod.fst).Nodup := by
    unfold rowE
    rw [List.map_map]
    have : (Prod.fst ∘ fun kv : Str × Str => ((Sum.inr kv.1 : Key), D.str kv.2)) = Sum.inr ∘ (·.1) := rfl
    rw [this, ← List.map_map]
    exact List.Pairwise.map _ (fun a b h e => h (Sum.inr.inj e)) nd
  exact getD_oth nd2 (kv := (Sum.inr k, .str z)) (List.mem_map.mpr ⟨(k, z), h, rfl⟩)
theorem ne_in {a b : Addr} {qs : List Addr} (ha : a ∈ qs) (hb : b ∉ qs) : a ≠ b := fun z => hb (z ▸ ha)
inductive Dd where
  | make (x : Str) | put (x k z : Str) | take (x k : Str) | copy (x y : Str) | drop (x : Str)
def Dd.D : Dd → Tl.D
  | .make x => .tup [.str "make", .str x]
  | .put x k z => .tup [.str "put", .str x, .str k, .str z]
  | .take x k => .tup [.str "take", .str x, .str k]
  | .copy x y => .tup [.str "copy", .str x, .str y]
  | .drop x => .tup [.str "drop", .str x]
def Dd.Wf : Dd → Prop
  | .make x => Nmz x
  | .put x k z => Nmz x ∧ Nmz k ∧ Wt z
  | .take x k => Nmz x ∧ Nmz k
  | .copy x y => Nmz x ∧ Nmz y
  | .drop x => Nmz x
def rowsAt (c : Cont) (x : Str) : List (Str × Str) := ((c.find? fun b => decide (b.1 = x)).map (·.2)).getD []
def delR (rs : List (Str × Str)) (k : Str) : List (Str × Str) := rs.filter fun kv => decide (kv.1 ≠ k)
def doC (c : Cont) : Dd → Cont
  | .make x => c ++ [(x, [])]
  | .put x k z => updC c x fun rs => putR rs k z
  | .take x k => updC c x fun rs => delR rs k
  | .copy x y => c ++ [(y, rowsAt c x)]
  | .drop x => c.filter fun b => decide (b.1 ≠ x)
abbrev inC (c : Cont) (x : Str) : Prop := x ∈ c.map (·.1)
def whyC (c : Cont) : Dd → Option Tl.D
  | .make x => if inC c x then some (.tup [.str "Taken", .str x]) else none
  | .put x _ _ => if inC c x then none else some (.tup [.str "NoBox", .str x])
  | .take x k => if inC c x then (if k ∈ (rowsAt c x).map (·.1) then none else some (.tup [.str "NoKey", .str x, .str k])) else some (.tup [.str "NoBox", .str x])
  | .copy x y => if inC c x then (if inC c y then some (.tup [.str "Taken", .str y]) else none) else some (.tup [.str "NoBox", .str x])
  | .drop x => if inC c x then none else some (.tup [.str "NoBox", .str x])
def doneC (c : Cont) (d : Dd) : Cont × Tl.D := match whyC c d with
  | some w => (c, w)
  | none => if cardsN (doC c d) < 97 then (doC c d, .tup []) else (c, .tup [.str "Full", .int (cardsN (doC c d))])
theorem rowsAt_mem {c : Cont} {x : Str} {rs : List (Str × Str)} (nd : (c.map (·.1)).Nodup) (h : (x, rs) ∈ c) : rowsAt c x = rs := by
  unfold rowsAt
  induction c with
  | nil => cases h
  | cons b c ih =>
    rw [List.map_cons, List.nodup_cons] at nd
    rw [List.find?_cons]
    rcases List.mem_cons.mp h with rfl | h
    · rw [decide_eq_true rfl]
      rfl
    · have : b.1 ≠ x := fun e => nd.1 (by rw [e]; exact List.mem_map.mpr ⟨(x, rs), h, rfl⟩)
      rw [decide_eq_false this]
      exact ih nd.2 h
theorem rowsAt_in {c : Cont} {x : Str} (wf : WfC c) (h : inC c x) : (x, rowsAt c x) ∈ c := by
  obtain ⟨b, hb, rfl⟩ := List.mem_map.mp h
  rw [rowsAt_mem wf.1 (show (b.1, b.2) ∈ c from hb)]
  exact hb
def Has (c : Cont) (x k z : Str) : Prop := ∃ rs, (x, rs) ∈ c ∧ (k, z) ∈ rs
theorem has_at {c : Cont} {x k z : Str} (wf : WfC c) : Has c x k z ↔ inC c x ∧ (k, z) ∈ rowsAt c x := by
  constructor
  · rintro ⟨rs, h, g⟩
    exact ⟨List.mem_map.mpr ⟨(x, rs), h, rfl⟩, by rw [rowsAt_mem wf.1 h]; exact g⟩
  · rintro ⟨h, g⟩
    exact ⟨_, rowsAt_in wf h, g⟩
theorem Has.inC {c : Cont} {x k z : Str} (h : Has c x k z) : inC c x := by
  obtain ⟨rs, h, _⟩ := h
  exact List.mem_map.mpr ⟨(x, rs), h, rfl⟩
theorem Has.one {c : Cont} {x k z z' : Str} (wf : WfC c) (h : Has c x k z) (g : Has c x k z') : z = z' := by
  obtain ⟨hi, h⟩ := (has_at wf).mp h
  obtain ⟨_, g⟩ := (has_at wf).mp g
  have nd := (wf.2 _ (rowsAt_in wf hi)).2.1
  have key : ∀ {rs : List (Str × Str)}, (rs.map (·.1)).Nodup → (k, z) ∈ rs → (k, z') ∈ rs → z = z' := fun {rs} nd h g => by
    induction rs with
    | nil => cases h
    | cons kv rs ih =>
      rw [List.map_cons, List.nodup_cons] at nd
      rcases List.mem_cons.mp h with e | h <;> rcases List.mem_cons.mp g with e' | g
      · rw [← e] at e'
        exact (Prod.mk.inj e').2.symm
      · exact absurd (List.mem_map.mpr ⟨(k, z'), g, rfl⟩) (by rw [← e] at nd; exact nd.1)
      · exact absurd (List.mem_map.mpr ⟨(k, z), h, rfl⟩) (by rw [← e'] at nd; exact nd.1)
      · exact ih nd.2 h g
  exact key nd h g
theorem updC_in {c : Cont} {x y : Str} {f : List (Str × Str) → List (Str × Str)} : inC (updC c x f) y ↔ inC c y := by
  unfold inC
  rw [show (updC c x f).map (·.1) = c.map (·.1) from updC_keys]
theorem updC_mem {c : Cont} {x y : Str} {rs : List (Str × Str)} {f : List (Str × Str) → List (Str × Str)} : (y, rs) ∈ updC c x f ↔ (y ≠ x ∧ (y, rs) ∈ c) ∨ (y = x ∧ ∃ rs0, (x, rs0) ∈ c ∧ rs = f rs0) := by
  unfold updC
  rw [List.mem_map]
  constructor
  · rintro ⟨b, hb, e⟩
    by_cases z : b.1 = x
    · rw [if_pos z] at e
      cases e
      exact .inr ⟨z, b.2, by rw [← z]; exact hb, rfl⟩
    · rw [if_neg z] at e
      subst e
      exact .inl ⟨z, hb⟩
  · rintro (⟨ne, h⟩ | ⟨rfl, rs0, h, rfl⟩)
    · exact ⟨(y, rs), h, if_neg ne⟩
    · exact ⟨(y, rs0), h, if_pos rfl⟩
theorem putR_mem {rs : List (Str × Str)} {k z l v : Str} (nd : (rs.map (·.1)).Nodup) : (l, v) ∈ putR rs k z ↔ (l = k ∧ v = z) ∨ (l ≠ k ∧ (l, v) ∈ rs) := by
  unfold putR
  by_cases h : k ∈ rs.map (·.1)
  · rw [if_pos h, List.mem_map]
    constructor
    · rintro ⟨kv, m, e⟩
      by_cases q : kv.1 = k
      · rw [if_pos q] at e
        cases e
        exact .inl ⟨q, rfl⟩
      · rw [if_neg q] at e
        subst e
        exact .inr ⟨q, m⟩
    · rintro (⟨rfl, rfl⟩ | ⟨ne, m⟩)
      · obtain ⟨kv, m, e⟩ := List.mem_map.mp h
        exact ⟨kv, m, by rw [if_pos e, e]⟩
      · exact ⟨(l, v), m, if_neg ne⟩
  · rw [if_neg h, List.mem_append, List.mem_singleton]
    constructor
    · rintro (m | e)
      · exact .inr ⟨fun e => h (by rw [← e]; exact List.mem_map.mpr ⟨(l, v), m, rfl⟩), m⟩
      · cases e
        exact .inl ⟨rfl, rfl⟩
    · rintro (⟨rfl, rfl⟩ | ⟨_, m⟩)
      · exact .inr rfl
      · exact .inl m
theorem delR_mem {rs : List (Str × Str)} {k l v : Str} : (l, v) ∈ delR rs k ↔ l ≠ k ∧ (l, v) ∈ rs := by
  unfold delR
  rw [List.mem_filter]
  simp [and_comm]
theorem WfR.del {rs : List (Str × Str)} {k : Str} (h : WfR rs) : WfR (delR rs k) :=
  ⟨h.1.sublist (List.filter_sublist.map _), fun kv m => h.2 kv (List.mem_filter.mp m).1⟩
theorem doC_wf {c : Cont} {d : Dd} (wf : WfC c) (hd : d.Wf) (h : whyC c d = none) : WfC (doC c d) := by
  have app : ∀ {y : Str} {rs : List (Str × Str)}, Nmz y → WfR rs → ¬ inC c y → WfC (c ++ [(y, rs)]) := fun {y rs} hy hr hn => by
    refine ⟨?_, fun b hb => ?_⟩
    · rw [List.map_append, List.nodup_append]
      refine ⟨wf.1, by simp, fun a ha b hb => ?_⟩
      have : b = y := by simpa using hb
      exact fun z => hn (by rw [← this, ← z]; exact ha)
    · rcases List.mem_append.mp hb with hb | hb
      · exact wf.2 b hb
      · rw [List.mem_singleton.mp hb]
        exact ⟨hy, hr⟩
  cases d with
  | make x =>
    refine app hd ⟨List.nodup_nil, fun _ h => absurd h List.not_mem_nil⟩ fun z => ?_
    rw [show whyC c (.make x) = _ from if_pos z] at h
    cases h
  | put x k z => exact wf.upd fun rs hrs => hrs.put hd.2.1 hd.2.2
  | take x k => exact wf.upd fun rs hrs => hrs.del
  | copy x y =>
    simp only [whyC] at h
    by_cases hx : inC c x
    · rw [if_pos hx] at h
      by_cases hy : inC c y
      · rw [if_pos hy] at h
        cases h
      · exact app hd.2 (wf.2 _ (rowsAt_in wf hx)).2 hy
    · rw [if_neg hx] at h
      cases h
  | drop x => exact ⟨wf.1.sublist (List.filter_sublist.map _), fun b hb => wf.2 b (List.mem_filter.mp hb).1⟩
theorem has_make {c : Cont} {x y l v : Str} : Has (c ++ [(x, [])]) y l v ↔ Has c y l v := by
  constructor
  · rintro ⟨rs, h, g⟩
    rcases List.mem_append.mp h with h | h
    · exact ⟨rs, h, g⟩
    · have e := List.mem_singleton.mp h
      cases e
      cases g
  · rintro ⟨rs, h, g⟩
    exact ⟨rs, List.mem_append_left _ h, g⟩
theorem has_put {c : Cont} {x k z y l v : Str} (wf : WfC c) (hx : inC c x) : Has (updC c x fun rs => putR rs k z) y l v ↔ (y = x ∧ l = k ∧ v = z) ∨ (¬ (y = x ∧ l = k) ∧ Has c y l v) := by
  constructor
  · rintro ⟨rs, h, g⟩
    rcases updC_mem.mp h with ⟨ne, h⟩ | ⟨rfl, rs0, h0, rfl⟩
    · exact .inr ⟨fun z => ne z.1, rs, h, g⟩
    · rcases (putR_mem (show (rs0.map (·.1)).Nodup from (wf.2 _ h0).2.1)).mp g with ⟨e1, e2⟩ | ⟨ne, g⟩
      · exact .inl ⟨rfl, e1, e2⟩
      · exact .inr ⟨fun z => ne z.2, rs0, h0, g⟩
  · have h0 := rowsAt_in wf hx
    rintro (⟨rfl, rfl, rfl⟩ | ⟨ne, rs, h, g⟩)
    · exact ⟨_, updC_mem.mpr (.inr ⟨rfl, _, h0, rfl⟩), (putR_mem (wf.2 _ h0).2.1).mpr (.inl ⟨rfl, rfl⟩)⟩
    · by_cases e : y = x
      · subst e
        exact ⟨_, updC_mem.mpr (.inr ⟨rfl, _, h, rfl⟩), (putR_mem (wf.2 _ h).2.1).mpr (.inr ⟨fun z => ne ⟨rfl, z⟩, g⟩)⟩
      · exact ⟨rs, updC_mem.mpr (.inl ⟨e, h⟩), g⟩
theorem has_take {c : Cont} {x k y l v : Str} : Has (updC c x fun rs => delR rs k) y l v ↔ ¬ (y = x ∧ l = k) ∧ Has c y l v := by
  constructor
  · rintro ⟨rs, h, g⟩
    rcases updC_mem.mp h with ⟨ne, h⟩ | ⟨rfl, rs0, h0, rfl⟩
    · exact ⟨fun z => ne z.1, rs, h, g⟩
    · obtain ⟨ne, g⟩ := delR_mem.mp g
      exact ⟨fun z => ne z.2, rs0, h0, g⟩
  · rintro ⟨ne, rs, h, g⟩
    by_cases e : y = x
    · subst e
      exact ⟨_, updC_mem.mpr (.inr ⟨rfl, _, h, rfl⟩), delR_mem.mpr ⟨fun z => ne ⟨rfl, z⟩, g⟩⟩
    · exact ⟨rs, updC_mem.mpr (.inl ⟨e, h⟩), g⟩
theorem has_drop {c : Cont} {x y l v : Str} : Has (c.filter fun b => decide (b.1 ≠ x)) y l v ↔ y ≠ x ∧ Has c y l v := by
  constructor
  · rintro ⟨rs, h, g⟩
    obtain ⟨h, e⟩ := List.mem_filter.mp h
    exact ⟨of_decide_eq_true e, rs, h, g⟩
  · rintro ⟨ne, rs, h, g⟩
    exact ⟨rs, List.mem_filter.mpr ⟨h, decide_eq_true ne⟩, g⟩
theorem in_make {c : Cont} {x y : Str} {rs : List (Str × Str)} : inC (c ++ [(x, rs)]) y ↔ inC c y ∨ y = x := by
  unfold inC
  rw [List.map_append, List.mem_append]
  simp
theorem in_drop {c : Cont} {x y : Str} : inC (c.filter fun b => decide (b.1 ≠ x)) y ↔ inC c y ∧ y ≠ x := by
  unfold inC
  simp only [List.mem_map, List.mem_filter]
  constructor
  · rintro ⟨b, ⟨h, e⟩, rfl⟩
    exact ⟨⟨b, h, rfl⟩, of_decide_eq_true e⟩
  · rintro ⟨⟨b, h, rfl⟩, ne⟩
    exact ⟨b, ⟨h, decide_eq_true ne⟩, rfl⟩
theorem len_sub {α : Type} : ∀ {l m : List α}, l.Nodup → (∀ x ∈ l, x ∈ m) → l.length ≤ m.length
  | [], _, _, _ => Nat.zero_le _
  | x :: l, m, nd, h => by
    obtain ⟨nx, nd⟩ := List.nodup_cons.mp nd
    obtain ⟨s, t, rfl⟩ := List.append_of_mem (h x List.mem_cons_self)
    have := len_sub (l := l) (m := s ++ t) nd fun y hy => by
      have := h y (List.mem_cons_of_mem _ hy)
      rcases List.mem_append.mp this with g | g
      · exact List.mem_append_left _ g
      · rcases List.mem_cons.mp g with rfl | g
        · exact absurd hy nx
        · exact List.mem_append_right _ g
    rw [List.length_append] at this
    rw [List.length_append, List.length_cons, List.length_cons]
    omega
def pairsC (c : Cont) : List (Str × Str) := c.flatMap fun b => b.2.map fun kv => (b.1, kv.1)
theorem pairs_len : ∀ c : Cont, (pairsC c).length = rowsN c
  | [] => rfl
  | b :: c => by
    show ((b.2.map fun kv => (b.1, kv.1)) ++ pairsC c).length = b.2.length + rowsN c
    rw [List.length_append, pairs_len c, List.length_map]
theorem pairs_mem {c : Cont} {x k : Str} : (x, k) ∈ pairsC c ↔ ∃ z, Has c x k z := by
  unfold pairsC
  rw [List.mem_flatMap]
  constructor
  · rintro ⟨b, hb, h⟩
    obtain ⟨kv, hkv, e⟩ := List.mem_map.mp h
    cases e
    exact ⟨kv.2, b.2, hb, hkv⟩
  · rintro ⟨z, rs, h, g⟩
    exact ⟨(x, rs), h, List.mem_map.mpr ⟨(k, z), g, rfl⟩⟩
theorem pairs_nd : ∀ {c : Cont}, WfC c → (pairsC c).Nodup
  | [], _ => List.nodup_nil
  | b :: c, wf => by
    have nd := wf.1
    rw [List.map_cons, List.nodup_cons] at nd
    show ((b.2.map fun kv => (b.1, kv.1)) ++ pairsC c).Nodup
    rw [List.nodup_append]
    refine ⟨?_, pairs_nd ⟨nd.2, fun b' h => wf.2 b' (List.mem_cons_of_mem _ h)⟩, fun p hp q hq e => ?_⟩
    · have := (wf.2 b List.mem_cons_self).2.1
      have e : (b.2.map fun kv => (b.1, kv.1)) = (b.2.map (·.1)).map fun k => (b.1, k) := by
        rw [List.map_map]
        rfl
      rw [e]
      exact List.Pairwise.map _ (fun a c h z => h (Prod.mk.inj z).2) this
    · subst e
      obtain ⟨kv, _, rfl⟩ := List.mem_map.mp hp
      obtain ⟨z, h⟩ := pairs_mem.mp hq
      exact nd.1 h.inC
theorem long_mem {c : Cont} {z : Str} : z ∈ longL c ↔ 8 < z.length ∧ ∃ x k, Has c x k z := by
  unfold longL
  rw [List.mem_flatMap]
  constructor
  · rintro ⟨b, hb, h⟩
    obtain ⟨h, e⟩ := List.mem_filter.mp h
    obtain ⟨kv, hkv, rfl⟩ := List.mem_map.mp h
    exact ⟨of_decide_eq_true e, b.1, kv.1, b.2, hb, hkv⟩
  · rintro ⟨e, x, k, rs, h, g⟩
    exact ⟨(x, rs), h, List.mem_filter.mpr ⟨List.mem_map.mpr ⟨(k, z), g, rfl⟩, decide_eq_true e⟩⟩
def Within (a b c : Cont) : Prop := (∀ x, inC c x → inC a x ∨ inC b x) ∧ ∀ x k z, Has c x k z → Has a x k z ∨ Has b x k z
theorem within_cards {a b c : Cont} (wc : WfC c) (h : Within a b c) : cardsN c ≤ cardsN a + cardsN b := by
  have h1 : c.length ≤ a.length + b.length := by
    have := len_sub (m := a.map (·.1) ++ b.map (·.1)) wc.1 fun x hx => by
      rcases h.1 x hx with g | g
      · exact List.mem_append_left _ g
      · exact List.mem_append_right _ g
    simpa using this
  have h2 : rowsN c ≤ rowsN a + rowsN b := by
    have := len_sub (m := pairsC a ++ pairsC b) (pairs_nd wc) fun p hp => by
      obtain ⟨x, k⟩ := p
      obtain ⟨z, hz⟩ := pairs_mem.mp hp
      rcases h.2 x k z hz with g | g
      · exact List.mem_append_left _ (pairs_mem.mpr ⟨z, g⟩)
      · exact List.mem_append_right _ (pairs_mem.mpr ⟨z, g⟩)
    rwa [List.length_append, pairs_len, pairs_len, pairs_len] at this
  have h3 : (setS (longL c)).length ≤ (setS (longL a)).length + (setS (longL b)).length := by
    have := len_sub (m := setS (longL a) ++ setS (longL b)) setS_nd fun z hz => by
      obtain ⟨e, x, k, g⟩ := long_mem.mp (setS_mem.mp hz)
      rcases h.2 x k z g with g | g
      · exact List.mem_append_left _ (setS_mem.mpr (long_mem.mpr ⟨e, x, k, g⟩))
      · exact List.mem_append_right _ (setS_mem.mpr (long_mem.mpr ⟨e, x, k, g⟩))
    rwa [List.length_append] at this
  unfold cardsN
  omega
theorem keysR (rs : List (Str × Str)) : (rowE rs).map (·.1) = (rs.map (·.1)).map Sum.inr := by
  unfold rowE
  rw [List.map_map, List.map_map]
  rfl
theorem getR_some {rs : List (Str × Str)} {k z : Str} (nd : (rs.map (·.1)).Nodup) : getD' (rowE rs) (Sum.inr k) = some (.str z) ↔ (k, z) ∈ rs := by
  constructor
  · intro h
    unfold getD' at h
    obtain ⟨kv, hkv, e⟩ := Option.map_eq_some_iff.mp h
    have m := List.mem_of_find?_eq_some hkv
    have p := List.find?_some hkv
    obtain ⟨w, hw, rfl⟩ := List.mem_map.mp m
    have e1 : w.1 = k := Sum.inr.inj (of_decide_eq_true p)
    have e2 : w.2 = z := by cases e; rfl
    rw [← e1, ← e2]
    exact hw
  · exact rowE_get nd
theorem getR_is {rs : List (Str × Str)} {k : Str} : (getD' (rowE rs) (Sum.inr k)).isSome = decide (k ∈ rs.map (·.1)) := by
  unfold getD'
  rw [Option.isSome_map]
  by_cases h : k ∈ rs.map (·.1)
  · rw [decide_eq_true h, List.find?_isSome]
    obtain ⟨kv, m, e⟩ := List.mem_map.mp h
    exact ⟨_, List.mem_map.mpr ⟨kv, m, rfl⟩, decide_eq_true (by rw [e])⟩
  · rw [decide_eq_false h]
    cases f : List.find? (fun kv => decide (kv.1 = (Sum.inr k : Key))) (rowE rs) with
    | none => rfl
    | some kv =>
      have m := List.mem_of_find?_eq_some f
      have p := List.find?_some f
      obtain ⟨w, hw, rfl⟩ := List.mem_map.mp m
      exact absurd (List.mem_map.mpr ⟨w, hw, Sum.inr.inj (of_decide_eq_true p)⟩) h
theorem getC_is {c : Cont} {x : Str} : (getD' (cntE c) (Sum.inr x)).isSome = decide (inC c x) := by
  unfold getD'
  rw [Option.isSome_map]
  by_cases h : inC c x
  · rw [decide_eq_true h, List.find?_isSome]
    obtain ⟨kv, m, e⟩ := List.mem_map.mp h
    exact ⟨_, List.mem_map.mpr ⟨kv, m, rfl⟩, decide_eq_true (by rw [e])⟩
  · rw [decide_eq_false h]
    cases f : List.find? (fun kv => decide (kv.1 = (Sum.inr x : Key))) (cntE c) with
    | none => rfl
    | some kv =>
      have m := List.mem_of_find?_eq_some f
      have p := List.find?_some f
      obtain ⟨w, hw, rfl⟩ := List.mem_map.mp m
      exact absurd (List.mem_map.mpr ⟨w, hw, Sum.inr.inj (of_decide_eq_true p)⟩) h
theorem getC_at {c : Cont} {x : Str} (wf : WfC c) (h : inC c x) : getD' (cntE c) (Sum.inr x) = some (rowD (rowsAt c x)) := getD_cnt wf.1 (rowsAt_in wf h)
theorem mergeC : ∀ {more es : List (Key × D)}, ((es ++ more).map Prod.fst).Nodup → mergeD es more = es ++ more
  | [], es, _ => (List.append_nil es).symm
  | kv :: more, es, nd => by
    have e : putD es kv.1 kv.2 = es ++ [kv] := putD_new fun q hq h => by
      rw [List.map_append, List.nodup_append] at nd
      exact nd.2.2 q.1 (List.mem_map.mpr ⟨q, hq, rfl⟩) kv.1 (List.mem_map.mpr ⟨kv, List.mem_cons_self, rfl⟩) h
    have nd2 : (((es ++ [kv]) ++ more).map Prod.fst).Nodup := by
      rw [List.append_assoc]
      exact nd
    show mergeD (putD es kv.1 kv.2) more = _
    rw [e, mergeC nd2, List.append_assoc]
    rfl
theorem dropD_rowE {rs : List (Str × Str)} {k : Str} : dropD (rowE rs) (Sum.inr k) = rowE (delR rs k) := by
  unfold dropD rowE delR
  rw [List.filter_map]
  congr 1
  refine List.filter_congr fun b _ => ?_
  show decide ((Sum.inr b.1 : Key) ≠ Sum.inr k) = decide (b.1 ≠ k)
  by_cases e : b.1 = k
  · simp [e]
  · simp [e]
theorem Rws.dropC {n : Sto} {qs : List Addr} {c : Cont} {x : Str} (h : Rws n qs c) : ∃ rs, rs.Sublist qs ∧ Rws n rs (c.filter fun b => decide (b.1 ≠ x)) ∧ dropD (ptE qs c) (Sum.inr x) = ptE rs (c.filter fun b => decide (b.1 ≠ x)) := by
  induction h with
  | nil => exact ⟨[], List.Sublist.refl _, .nil, rfl⟩
  | @cons q qs b c h r ih =>
    obtain ⟨rs, s, g, e⟩ := ih
    by_cases z : b.1 = x
    · refine ⟨rs, s.cons _, ?_, ?_⟩
      · rw [List.filter_cons_of_neg (by simpa using z)]
        exact g
      · rw [List.filter_cons_of_neg (by simpa using z), ← e]
        show dropD ((Sum.inr b.1, D.ptr q) :: ptE qs c) _ = _
        unfold dropD
        rw [List.filter_cons_of_neg (by simpa using z)]
    · refine ⟨q :: rs, s.cons_cons _, ?_, ?_⟩
      · rw [List.filter_cons_of_pos (by simpa using z)]
        exact .cons h g
      · rw [List.filter_cons_of_pos (by simpa using z)]
        show dropD ((Sum.inr b.1, D.ptr q) :: ptE qs c) _ = (Sum.inr b.1, D.ptr q) :: ptE rs _
        rw [← e]
        unfold dropD
        rw [List.filter_cons_of_pos (by simpa using z)]
theorem Rws.someC {n : Sto} {qs : List Addr} {c : Cont} (h : Rws n qs c) : ∀ a ∈ qs, n.μ a ≠ none := by
  induction h with
  | nil => exact fun _ h => absurd h List.not_mem_nil
  | cons h _ ih =>
    intro a ha
    rcases List.mem_cons.mp ha with rfl | ha
    · rw [h]
      exact fun z => nomatch z
    · exact ih a ha
def wdD : Dd → Str
  | .make _ => "make" | .put _ _ _ => "put" | .take _ _ => "take" | .copy _ _ => "copy" | .drop _ => "drop"
def crD : Dd → Str
  | .make x => x | .put x _ _ => x | .take x _ => x | .copy x _ => x | .drop x => x
theorem deedD_at (d : Dd) : ∃ xs : List D, d.D = .tup xs ∧ xs[0]? = some (.str (wdD d)) ∧ xs[1]? = some (.str (crD d)) := by
  cases d <;> exact ⟨_, rfl, rfl, rfl⟩
structure StC (n : Sto) (p : Addr) (qs : List Addr) (c : Cont) : Prop where
  dc : n.μ p = some (.dic (ptE qs c))
  rs : Rws n qs c
  nd : (p :: qs).Nodup
theorem StC.get {n : Sto} {p : Addr} {qs : List Addr} {c : Cont} (h : StC n p qs c) {x : Str} : (getD' (ptE qs c) (Sum.inr x)).isSome = decide (inC c x) := by
  unfold getD'
  rw [Option.isSome_map]
  have kq : (ptE qs c).map (·.1) = c.map fun b => (Sum.inr b.1 : Key) := ptE_keys h.rs.len
  by_cases z : inC c x
  · rw [decide_eq_true z, List.find?_isSome]
    obtain ⟨kv, m, e⟩ := List.mem_map.mp z
    have : (Sum.inr x : Key) ∈ (ptE qs c).map (·.1) := by
      rw [kq]
      exact List.mem_map.mpr ⟨kv, m, by rw [e]⟩
    obtain ⟨q, hq, eq⟩ := List.mem_map.mp this
    exact ⟨q, hq, decide_eq_true eq⟩
  · rw [decide_eq_false z]
    cases f : List.find? (fun kv => decide (kv.1 = (Sum.inr x : Key))) (ptE qs c) with
    | none => rfl
    | some kv =>
      have m := List.mem_of_find?_eq_some f
      have pp := List.find?_some f
      have : kv.1 ∈ (ptE qs c).map (·.1) := List.mem_map.mpr ⟨kv, m, rfl⟩
      rw [kq, of_decide_eq_true pp] at this
      obtain ⟨b, hb, e⟩ := List.mem_map.mp this
      exact absurd (List.mem_map.mpr ⟨b, hb, Sum.inr.inj e⟩) z
theorem StC.len {n : Sto} {p : Addr} {qs : List Addr} {c : Cont} (h : StC n p qs c) : (ptE qs c).length = c.length := by
  have := congrArg List.length (ptE_keys h.rs.len)
  rwa [List.length_map, List.length_map] at this
theorem StC.newk {n : Sto} {p : Addr} {qs : List Addr} {c : Cont} (h : StC n p qs c) {y : Str} (hn : ¬ inC c y) {q : Addr} {rs : List (Str × Str)} : putD (ptE qs c) (Sum.inr y) (.ptr q) = ptE (qs ++ [q]) (c ++ [(y, rs)]) := by
  rw [ptE_app h.rs.len]
  refine putD_new fun kv hkv e => hn ?_
  have : kv.1 ∈ (ptE qs c).map (·.1) := List.mem_map.mpr ⟨kv, hkv, rfl⟩
  rw [ptE_keys h.rs.len, e] at this
  obtain ⟨b, hb, e2⟩ := List.mem_map.mp this
  exact List.mem_map.mpr ⟨b, hb, Sum.inr.inj e2⟩
theorem StC.more {n n' : Sto} {p q : Addr} {qs : List Addr} {c : Cont} (h : StC n p qs c) {y : Str} {rs : List (Str × Str)} (hy : ¬ inC c y) (hq : n.μ q = none) (e : n' = (n.put q (.dic (rowE rs))).put p (.dic (putD (ptE qs c) (Sum.inr y) (.ptr q)))) : StC n' p (qs ++ [q]) (c ++ [(y, rs)]) := by
  have npq := (List.nodup_cons.mp h.nd).1
  have qp : q ≠ p := fun z => by rw [z, h.dc] at hq; cases hq
  have qq : q ∉ qs := fun z => h.rs.someC q z hq
  subst e
  refine ⟨?_, ?_, ?_⟩
  · rw [h.newk hy (rs := rs)]
    exact Sto.put_same
  · refine (h.rs.keep fun a ha => (Sto.put_ne (ne_in ha npq)).trans (Sto.put_ne (ne_in ha qq))).app (.cons ?_ .nil)
    exact (Sto.put_ne qp).trans Sto.put_same
  · rw [← List.cons_append, List.nodup_append]
    exact ⟨h.nd, by simp, fun a ha b hb z => by
      rw [List.mem_singleton.mp hb] at z
      rcases List.mem_cons.mp ha with rfl | ha
      · exact qp z.symm
      · exact qq (z ▸ ha)⟩
theorem StC.upd {n : Sto} {p : Addr} {qs : List Addr} {c : Cont} (h : StC n p qs c) (wf : WfC c) {x : Str} (hi : inC c x) : ∃ q, getD' (ptE qs c) (Sum.inr x) = some (.ptr q) ∧ n.μ q = some (.dic (rowE (rowsAt c x))) ∧ ∀ f : List (Str × Str) → List (Str × Str), StC (n.put q (.dic (rowE (f (rowsAt c x))))) p qs (updC c x f) := by
  obtain ⟨q, rs, mq, mrs, gq, eq, up⟩ := Rws.find h.rs (List.nodup_cons.mp h.nd).2 wf.1 hi
  have ers : rowsAt c x = rs := rowsAt_mem wf.1 mrs
  refine ⟨q, gq, by rw [ers]; exact eq, fun f => ?_⟩
  rw [ers]
  obtain ⟨u1, u2⟩ := up f (n.put q (.dic (rowE (f rs)))) Sto.put_same fun a _ ne => Sto.put_ne ne
  refine ⟨?_, u1, h.nd⟩
  rw [u2]
  exact (Sto.put_ne (Ne.symm (ne_in mq (List.nodup_cons.mp h.nd).1))).trans h.dc
theorem StC.less {n : Sto} {p : Addr} {qs : List Addr} {c : Cont} (h : StC n p qs c) (x : Str) : ∃ qs', StC (n.put p (.dic (dropD (ptE qs c) (Sum.inr x)))) p qs' (c.filter fun b => decide (b.1 ≠ x)) := by
  obtain ⟨qs', sub, r', ed'⟩ := h.rs.dropC (x := x)
  have npq := (List.nodup_cons.mp h.nd).1
  refine ⟨qs', ?_, r'.keep fun a ha => Sto.put_ne (ne_in (sub.subset ha) npq), List.nodup_cons.mpr ⟨fun z => npq (sub.subset z), (List.nodup_cons.mp h.nd).2.sublist sub⟩⟩
  rw [ed']
  exact Sto.put_same
theorem doC_len {c : Cont} {d : Dd} (wf : WfC c) (h : whyC c d = none) : (doC c d).length ≤ c.length + 1 ∧ rowsN (doC c d) ≤ 2 * rowsN c + 1 := by
  have up : ∀ {f : List (Str × Str) → List (Str × Str)} {x : Str}, (∀ rs, (f rs).length ≤ rs.length + 1) → (updC c x f).length ≤ c.length + 1 ∧ rowsN (updC c x f) ≤ 2 * rowsN c + 1 := fun {f x} hf => by
    have h1 := congrArg List.length (updC_keys (c := c) (x := x) (f := f))
    rw [List.length_map, List.length_map] at h1
    have := updC_rows (c := c) (x := x) (f := f) wf.1 hf
    omega
  cases d with
  | make x =>
    show (c ++ [(x, [])]).length ≤ _ ∧ rowsN (c ++ [(x, [])]) ≤ _
    rw [List.length_append, rowsN_app]
    refine ⟨Nat.le_refl _, ?_⟩
    show rowsN c + 0 ≤ _
    omega
  | put x k z => exact up fun rs => putR_len.2
  | take x k => exact up fun rs => Nat.le_succ_of_le (List.length_filter_le _ _)
  | copy x y =>
    show (c ++ [(y, rowsAt c x)]).length ≤ _ ∧ rowsN (c ++ [(y, rowsAt c x)]) ≤ _
    rw [List.length_append, rowsN_app]
    refine ⟨Nat.le_refl _, ?_⟩
    simp only [whyC] at h
    have hx : inC c x := Classical.byContradiction fun z => by rw [if_neg z] at h; cases h
    have := rows_le (rowsAt_in wf hx)
    have : (rowsAt c x).length ≤ rowsN c := this
    show rowsN c + ((rowsAt c x).length + 0) ≤ _
    omega
  | drop x =>
    refine ⟨Nat.le_succ_of_le (List.length_filter_le _ _), ?_⟩
    have fl : ∀ c : Cont, rowsN (c.filter fun b => decide (b.1 ≠ x)) ≤ rowsN c := fun c => by
      induction c with
      | nil => exact Nat.le_refl _
      | cons b c ih =>
        rw [List.filter_cons]
        split
        · show b.2.length + rowsN (c.filter fun b => decide (b.1 ≠ x)) ≤ b.2.length + rowsN c
          omega
        · show rowsN (c.filter fun b => decide (b.1 ≠ x)) ≤ b.2.length + rowsN c
          omega
    have := fl c
    show rowsN (c.filter fun b => decide (b.1 ≠ x)) ≤ _
    omega
def valR (rs : List (Str × Str)) (k : Str) : Str := ((rs.find? fun kv => decide (kv.1 = k)).map (·.2)).getD Str.empty
def fillD (x : Str) (rs : List (Str × Str)) : List Dd := (srtS (rs.map (·.1))).map fun k => .put x k (valR rs k)
def chgD (x : Str) (rs ws : List (Str × Str)) : List Dd := ((srtS (rs.map (·.1))).filter fun k => decide (k ∉ ws.map (·.1))).map (fun k => Dd.take x k) ++ ((srtS (ws.map (·.1))).filter fun k => decide ((k, valR ws k) ∉ rs)).map fun k => Dd.put x k (valR ws k)
def boxD (a b : Cont) (x : Str) : List Dd :=
  if inC b x then (if inC a x then (if (chgD x (rowsAt a x) (rowsAt b x)).length ≤ (.drop x :: .make x :: fillD x (rowsAt b x)).length then chgD x (rowsAt a x) (rowsAt b x) else .drop x :: .make x :: fillD x (rowsAt b x)) else .make x :: fillD x (rowsAt b x)) else [.drop x]
def wayD (a b : Cont) : List Dd := (setS (a.map (·.1) ++ b.map (·.1))).flatMap (boxD a b)
theorem valR_mem {rs : List (Str × Str)} {k z : Str} (nd : (rs.map (·.1)).Nodup) (h : (k, z) ∈ rs) : valR rs k = z := by
  unfold valR
  induction rs with
  | nil => cases h
  | cons b c ih =>
    rw [List.map_cons, List.nodup_cons] at nd
    rw [List.find?_cons]
    rcases List.mem_cons.mp h with rfl | h
    · rw [decide_eq_true rfl]
      rfl
    · have : b.1 ≠ k := fun e => nd.1 (by rw [e]; exact List.mem_map.mpr ⟨(k, z), h, rfl⟩)
      rw [decide_eq_false this]
      exact ih nd.2 h
theorem valR_in {rs : List (Str × Str)} {k : Str} (nd : (rs.map (·.1)).Nodup) (h : k ∈ rs.map (·.1)) : (k, valR rs k) ∈ rs := by
  obtain ⟨kv, m, rfl⟩ := List.mem_map.mp h
  rw [valR_mem nd (show (kv.1, kv.2) ∈ rs from m)]
  exact m
inductive Leads (a b : Cont) : Cont → List Dd → Cont → Prop
  | nil {c : Cont} : Leads a b c [] c
  | cons {c e : Cont} {d : Dd} {ds : List Dd} (h : whyC c d = none) (w : Within a b (doC c d)) (v : WfC (doC c d)) (r : Leads a b (doC c d) ds e) : Leads a b c (d :: ds) e
theorem Leads.app {a b c e f : Cont} {ds es : List Dd} (h : Leads a b c ds e) (g : Leads a b e es f) : Leads a b c (ds ++ es) f := by
  induction h with
  | nil => exact g
  | cons h w v _ ih => exact .cons h w v (ih g)
theorem why_put {c : Cont} {x k z : Str} (h : inC c x) : whyC c (.put x k z) = none := if_pos h
theorem why_drop {c : Cont} {x : Str} (h : inC c x) : whyC c (.drop x) = none := if_pos h
theorem why_make {c : Cont} {x : Str} (h : ¬ inC c x) : whyC c (.make x) = none := if_neg h
theorem why_take {c : Cont} {x k z : Str} (wf : WfC c) (h : Has c x k z) : whyC c (.take x k) = none := by
  obtain ⟨h1, h2⟩ := (has_at wf).mp h
  simp only [whyC]
  rw [if_pos h1, if_pos (List.mem_map.mpr ⟨(k, z), h2, rfl⟩)]
theorem lead_puts {a b : Cont} {x : Str} : ∀ (ps : List (Str × Str)) {c : Cont}, WfC c → Within a b c → inC c x → Nmz x → (ps.map (·.1)).Nodup → (∀ p ∈ ps, Has b x p.1 p.2 ∧ Nmz p.1 ∧ Wt p.2) →
    ∃ e, Leads a b c (ps.map fun p => .put x p.1 p.2) e ∧ WfC e ∧ Within a b e ∧ (∀ y, inC e y ↔ inC c y) ∧ ∀ y l v, Has e y l v ↔ (y = x ∧ (l, v) ∈ ps) ∨ (¬ (y = x ∧ l ∈ ps.map (·.1)) ∧ Has c y l v)
  | [], c, wf, wi, hx, nx, nd, hp => ⟨c, .nil, wf, wi, fun _ => Iff.rfl, fun y l v => by simp⟩
  | p :: ps, c, wf, wi, hx, nx, nd, hp => by
    rw [List.map_cons, List.nodup_cons] at nd
    obtain ⟨h1, h2, h3⟩ := hp p List.mem_cons_self
    have wf1 : WfC (doC c (.put x p.1 p.2)) := doC_wf wf ⟨nx, h2, h3⟩ (why_put hx)
    have hh : ∀ y l v, Has (doC c (.put x p.1 p.2)) y l v ↔ (y = x ∧ l = p.1 ∧ v = p.2) ∨ (¬ (y = x ∧ l = p.1) ∧ Has c y l v) := fun y l v => has_put wf hx
    have ii : ∀ y, inC (doC c (.put x p.1 p.2)) y ↔ inC c y := fun y => show inC (updC c x fun rs => putR rs p.1 p.2) y ↔ _ from updC_in
    have wi1 : Within a b (doC c (.put x p.1 p.2)) := ⟨fun y hy => wi.1 y ((ii y).mp hy), fun y l v hv => by
      rcases (hh y l v).mp hv with ⟨rfl, rfl, rfl⟩ | ⟨_, g⟩
      · exact .inr h1
      · exact wi.2 y l v g⟩
    obtain ⟨e, le, wfe, wie, ie, he⟩ := lead_puts ps (a := a) (b := b) wf1 wi1 ((ii x).mpr hx) nx nd.2 fun q hq => hp q (List.mem_cons_of_mem _ hq)
    refine ⟨e, .cons (why_put hx) wi1 wf1 le, wfe, wie, fun y => (ie y).trans (ii y), fun y l v => ?_⟩
    rw [he, hh]
    constructor
    · rintro (⟨e1, e2⟩ | ⟨ne, ⟨e1, e2, e3⟩ | ⟨ne2, g⟩⟩)
      · exact .inl ⟨e1, List.mem_cons_of_mem _ e2⟩
      · exact .inl ⟨e1, by rw [e2, e3]; exact List.mem_cons_self⟩
      · refine .inr ⟨fun z => ?_, g⟩
        rcases List.mem_cons.mp z.2 with q | q
        · exact ne2 ⟨z.1, q⟩
        · exact ne ⟨z.1, q⟩
    · rintro (⟨e1, e2⟩ | ⟨ne, g⟩)
      · rcases List.mem_cons.mp e2 with q | q
        · have q1 : l = p.1 := by rw [← q]
          have q2 : v = p.2 := by rw [← q]
          exact .inr ⟨fun z => nd.1 (by rw [← q1]; exact z.2), .inl ⟨e1, q1, q2⟩⟩
        · exact .inl ⟨e1, q⟩
      · exact .inr ⟨fun z => ne ⟨z.1, List.mem_cons_of_mem _ z.2⟩, .inr ⟨fun z => ne ⟨z.1, by rw [z.2]; exact List.mem_cons_self⟩, g⟩⟩
theorem lead_takes {a b : Cont} {x : Str} : ∀ (ks : List Str) {c : Cont}, WfC c → Within a b c → Nmz x → ks.Nodup → (∀ k ∈ ks, Nmz k ∧ ∃ z, Has c x k z) →
    ∃ e, Leads a b c (ks.map fun k => .take x k) e ∧ WfC e ∧ Within a b e ∧ (∀ y, inC e y ↔ inC c y) ∧ ∀ y l v, Has e y l v ↔ ¬ (y = x ∧ l ∈ ks) ∧ Has c y l v
  | [], c, wf, wi, nx, nd, hp => ⟨c, .nil, wf, wi, fun _ => Iff.rfl, fun y l v => by simp⟩
  | k :: ks, c, wf, wi, nx, nd, hp => by
    rw [List.nodup_cons] at nd
    obtain ⟨h1, z, h2⟩ := hp k List.mem_cons_self
    have wf1 : WfC (doC c (.take x k)) := doC_wf wf ⟨nx, h1⟩ (why_take wf h2)
    have hh : ∀ y l v, Has (doC c (.take x k)) y l v ↔ ¬ (y = x ∧ l = k) ∧ Has c y l v := fun y l v => has_take
    have ii : ∀ y, inC (doC c (.take x k)) y ↔ inC c y := fun y => show inC (updC c x fun rs => delR rs k) y ↔ _ from updC_in
    have wi1 : Within a b (doC c (.take x k)) := ⟨fun y hy => wi.1 y ((ii y).mp hy), fun y l v hv => wi.2 y l v ((hh y l v).mp hv).2⟩
    obtain ⟨e, le, wfe, wie, ie, he⟩ := lead_takes ks (a := a) (b := b) wf1 wi1 nx nd.2 fun q hq => by
      obtain ⟨g1, v, g2⟩ := hp q (List.mem_cons_of_mem _ hq)
      exact ⟨g1, v, (hh x q v).mpr ⟨fun y => nd.1 (by rw [← y.2]; exact hq), g2⟩⟩
    refine ⟨e, .cons (why_take wf h2) wi1 wf1 le, wfe, wie, fun y => (ie y).trans (ii y), fun y l v => ?_⟩
    rw [he, hh]
    constructor
    · rintro ⟨n1, n2, g⟩
      refine ⟨fun w => ?_, g⟩
      rcases List.mem_cons.mp w.2 with q | q
      · exact n2 ⟨w.1, q⟩
      · exact n1 ⟨w.1, q⟩
    · rintro ⟨n1, g⟩
      exact ⟨fun w => n1 ⟨w.1, List.mem_cons_of_mem _ w.2⟩, fun w => n1 ⟨w.1, by rw [w.2]; exact List.mem_cons_self⟩, g⟩
structure BoxTo (a b c : Cont) (x : Str) (ds : List Dd) (e : Cont) : Prop where
  lead : Leads a b c ds e
  wf : WfC e
  wi : Within a b e
  at1 : inC e x ↔ inC b x
  at2 : ∀ k z, Has e x k z ↔ Has b x k z
  off1 : ∀ y, y ≠ x → (inC e y ↔ inC c y)
  off2 : ∀ y, y ≠ x → ∀ k z, Has e y k z ↔ Has c y k z
theorem lead_made {a b c : Cont} {x : Str} (wb : WfC b) (wf : WfC c) (wi : Within a b c) (hb : inC b x) (hc : ¬ inC c x) : ∃ e, BoxTo a b c x (.make x :: fillD x (rowsAt b x)) e := by
  have hx := wb.2 _ (rowsAt_in wb hb)
  have wf1 : WfC (doC c (.make x)) := doC_wf wf hx.1 (why_make hc)
  have hh : ∀ y l v, Has (doC c (.make x)) y l v ↔ Has c y l v := fun y l v => has_make
  have ii : ∀ y, inC (doC c (.make x)) y ↔ inC c y ∨ y = x := fun y => in_make
  have wi1 : Within a b (doC c (.make x)) := ⟨fun y hy => by
    rcases (ii y).mp hy with g | rfl
    · exact wi.1 y g
    · exact .inr hb, fun y l v hv => wi.2 y l v ((hh y l v).mp hv)⟩
  have nds : (srtS ((rowsAt b x).map (·.1))).Nodup := srtS_perm.nodup_iff.mpr hx.2.1
  have mk : ∀ p ∈ (srtS ((rowsAt b x).map (·.1))).map fun k => (k, valR (rowsAt b x) k), p ∈ rowsAt b x := fun p hp => by
    obtain ⟨k, hk, rfl⟩ := List.mem_map.mp hp
    exact valR_in hx.2.1 (srtS_perm.mem_iff.mp hk)
  obtain ⟨e, le, wfe, wie, ie, he⟩ := lead_puts ((srtS ((rowsAt b x).map (·.1))).map fun k => (k, valR (rowsAt b x) k)) (a := a) (b := b) wf1 wi1 ((ii x).mpr (.inr rfl)) hx.1 (by rw [List.map_map]; simpa [Function.comp_def] using nds) fun p hp => ⟨(has_at wb).mpr ⟨hb, mk p hp⟩, hx.2.2 p (mk p hp)⟩
  refine ⟨e, .cons (why_make hc) wi1 wf1 ?_, wfe, wie, ?_, fun k z => ?_, fun y ne => ?_, fun y ne k z => ?_⟩
  · have : fillD x (rowsAt b x) = ((srtS ((rowsAt b x).map (·.1))).map fun k => (k, valR (rowsAt b x) k)).map fun p => .put x p.1 p.2 := by
      unfold fillD
      rw [List.map_map]
      rfl
    rw [this]
    exact le
  · rw [ie, ii]
    exact ⟨fun _ => hb, fun _ => .inr rfl⟩
  · rw [he, hh]
    constructor
    · rintro (⟨_, g⟩ | ⟨_, g⟩)
      · exact (has_at wb).mpr ⟨hb, mk _ g⟩
      · exact absurd g.inC hc
    · intro g
      obtain ⟨_, g⟩ := (has_at wb).mp g
      refine .inl ⟨rfl, List.mem_map.mpr ⟨k, srtS_perm.mem_iff.mpr (List.mem_map.mpr ⟨(k, z), g, rfl⟩), ?_⟩⟩
      rw [valR_mem hx.2.1 g]
  · rw [ie, ii]
    exact ⟨fun h => h.resolve_right ne, .inl⟩
  · rw [he, hh]
    exact ⟨fun h => h.elim (fun z => absurd z.1 ne) (·.2), fun h => .inr ⟨fun z => ne z.1, h⟩⟩
theorem lead_drop {a b c : Cont} {x : Str} (wf : WfC c) (nx : Nmz x) (wi : Within a b c) (hc : inC c x) : Leads a b c [.drop x] (doC c (.drop x)) ∧ WfC (doC c (.drop x)) ∧ Within a b (doC c (.drop x)) ∧ (∀ y, inC (doC c (.drop x)) y ↔ inC c y ∧ y ≠ x) ∧ ∀ y l v, Has (doC c (.drop x)) y l v ↔ y ≠ x ∧ Has c y l v := by
  have wf1 : WfC (doC c (.drop x)) := doC_wf wf nx (why_drop hc)
  have ii : ∀ y, inC (doC c (.drop x)) y ↔ inC c y ∧ y ≠ x := fun y => in_drop
  have hh : ∀ y l v, Has (doC c (.drop x)) y l v ↔ y ≠ x ∧ Has c y l v := fun y l v => has_drop
  have wi1 : Within a b (doC c (.drop x)) := ⟨fun y hy => wi.1 y ((ii y).mp hy).1, fun y l v hv => wi.2 y l v ((hh y l v).mp hv).2⟩
  exact ⟨.cons (why_drop hc) wi1 wf1 .nil, wf1, wi1, ii, hh⟩
theorem lead_box {a b c : Cont} {x : Str} (wa : WfC a) (wb : WfC b) (wf : WfC c) (wi : Within a b c) (h1 : inC c x ↔ inC a x) (h2 : ∀ k z, Has c x k z ↔ Has a x k z) (hx : inC a x ∨ inC b x) : ∃ e, BoxTo a b c x (boxD a b x) e := by
  unfold boxD
  by_cases hb : inC b x
  · rw [if_pos hb]
    by_cases ha : inC a x
    · rw [if_pos ha]
      have ga := wa.2 _ (rowsAt_in wa ha)
      have gb := wb.2 _ (rowsAt_in wb hb)
      split
      · -- key by key
        have hc := h1.mpr ha
        have mt : ∀ k ∈ (srtS ((rowsAt a x).map (·.1))).filter fun k => decide (k ∉ (rowsAt b x).map (·.1)), (k, valR (rowsAt a x) k) ∈ rowsAt a x ∧ k ∉ (rowsAt b x).map (·.1) := fun k hk => by
          obtain ⟨m, d⟩ := List.mem_filter.mp hk
          exact ⟨valR_in ga.2.1 (srtS_perm.mem_iff.mp m), of_decide_eq_true d⟩
        obtain ⟨e, le, wfe, wie, ie, he⟩ := lead_takes (a := a) (b := b) ((srtS ((rowsAt a x).map (·.1))).filter fun k => decide (k ∉ (rowsAt b x).map (·.1))) wf wi ga.1 ((srtS_perm.nodup_iff.mpr ga.2.1).sublist List.filter_sublist) fun k hk => ⟨(ga.2.2 _ (mt k hk).1).1, _, (h2 _ _).mpr ((has_at wa).mpr ⟨ha, (mt k hk).1⟩)⟩
        have mp : ∀ p ∈ ((srtS ((rowsAt b x).map (·.1))).filter fun k => decide ((k, valR (rowsAt b x) k) ∉ rowsAt a x)).map fun k => (k, valR (rowsAt b x) k), p ∈ rowsAt b x ∧ p ∉ rowsAt a x := fun p hp => by
          obtain ⟨k, hk, rfl⟩ := List.mem_map.mp hp
          obtain ⟨m, d⟩ := List.mem_filter.mp hk
          exact ⟨valR_in gb.2.1 (srtS_perm.mem_iff.mp m), of_decide_eq_true d⟩
        obtain ⟨f, lf, wff, wif, jf, hf⟩ := lead_puts (a := a) (b := b) (((srtS ((rowsAt b x).map (·.1))).filter fun k => decide ((k, valR (rowsAt b x) k) ∉ rowsAt a x)).map fun k => (k, valR (rowsAt b x) k)) wfe wie ((ie x).mpr hc) ga.1
          (by rw [List.map_map]; simpa [Function.comp_def] using (srtS_perm.nodup_iff.mpr gb.2.1).sublist List.filter_sublist) fun p hp => ⟨(has_at wb).mpr ⟨hb, (mp p hp).1⟩, gb.2.2 p (mp p hp).1⟩
        refine ⟨f, ?_, wff, wif, ?_, fun k z => ?_, fun y ne => ?_, fun y ne k z => ?_⟩
        · have : chgD x (rowsAt a x) (rowsAt b x) = ((srtS ((rowsAt a x).map (·.1))).filter fun k => decide (k ∉ (rowsAt b x).map (·.1))).map (fun k => Dd.take x k) ++ (((srtS ((rowsAt b x).map (·.1))).filter fun k => decide ((k, valR (rowsAt b x) k) ∉ rowsAt a x)).map fun k => (k, valR (rowsAt b x) k)).map fun p => .put x p.1 p.2 := by
            unfold chgD
            rw [List.map_map]
            rfl
          rw [this]
          exact le.app lf
        · rw [jf, ie]
          exact ⟨fun _ => hb, fun _ => hc⟩
        · rw [hf, he, h2]
          constructor
          · rintro (⟨_, g⟩ | ⟨n1, n2, g⟩)
            · exact (has_at wb).mpr ⟨hb, (mp _ g).1⟩
            · obtain ⟨_, g⟩ := (has_at wa).mp g
              have kb : k ∈ (rowsAt b x).map (·.1) := Classical.byContradiction fun q => n2 ⟨rfl, List.mem_filter.mpr ⟨srtS_perm.mem_iff.mpr (List.mem_map.mpr ⟨(k, z), g, rfl⟩), decide_eq_true q⟩⟩
              have vb := valR_in gb.2.1 kb
              by_cases q : (k, valR (rowsAt b x) k) ∈ rowsAt a x
              · have : valR (rowsAt b x) k = z := by
                  rw [← valR_mem ga.2.1 q, valR_mem ga.2.1 g]
                rw [this] at vb
                exact (has_at wb).mpr ⟨hb, vb⟩
              · exact absurd ⟨rfl, List.mem_map.mpr ⟨(k, valR (rowsAt b x) k), List.mem_map.mpr ⟨k, List.mem_filter.mpr ⟨srtS_perm.mem_iff.mpr kb, decide_eq_true q⟩, rfl⟩, rfl⟩⟩ n1
          · intro g
            obtain ⟨_, g⟩ := (has_at wb).mp g
            have kb : k ∈ (rowsAt b x).map (·.1) := List.mem_map.mpr ⟨(k, z), g, rfl⟩
            have vz := valR_mem gb.2.1 g
            by_cases q : (k, z) ∈ rowsAt a x
            · refine .inr ⟨fun w => ?_, fun w => ?_, (has_at wa).mpr ⟨ha, q⟩⟩
              · obtain ⟨p, hp, e2⟩ := List.mem_map.mp w.2
                have e2 : p.1 = k := e2
                have := mp p hp
                have e3 : p = (k, z) := by
                  have q1 := valR_mem gb.2.1 (show (p.1, p.2) ∈ rowsAt b x from this.1)
                  rw [e2, vz] at q1
                  exact Prod.ext e2 q1.symm
                exact this.2 (by rw [e3]; exact q)
              · exact of_decide_eq_true (List.mem_filter.mp w.2).2 kb
            · refine .inl ⟨rfl, List.mem_map.mpr ⟨k, List.mem_filter.mpr ⟨srtS_perm.mem_iff.mpr kb, decide_eq_true (by rw [vz]; exact q)⟩, by rw [vz]⟩⟩
        · rw [jf, ie]
        · rw [hf, he]
          exact ⟨fun h => h.elim (fun w => absurd w.1 ne) (·.2.2), fun h => .inr ⟨fun w => ne w.1, fun w => ne w.1, h⟩⟩
      · -- anew
        obtain ⟨l1, wf1, wi1, i1, g1⟩ := lead_drop wf ga.1 wi (h1.mpr ha)
        obtain ⟨e, B⟩ := lead_made wb wf1 wi1 hb fun z => ((i1 x).mp z).2 rfl
        refine ⟨e, l1.app B.lead, B.wf, B.wi, B.at1, B.at2, fun y ne => (B.off1 y ne).trans ((i1 y).trans ⟨(·.1), fun h => ⟨h, ne⟩⟩), fun y ne k z => (B.off2 y ne k z).trans ((g1 y k z).trans ⟨(·.2), fun h => ⟨ne, h⟩⟩)⟩
    · rw [if_neg ha]
      exact lead_made wb wf wi hb fun z => ha (h1.mp z)
  · rw [if_neg hb]
    have ha := hx.resolve_right hb
    have ga := wa.2 _ (rowsAt_in wa ha)
    obtain ⟨l1, wf1, wi1, i1, g1⟩ := lead_drop wf ga.1 wi (h1.mpr ha)
    refine ⟨_, l1, wf1, wi1, ?_, fun k z => ?_, fun y ne => (i1 y).trans ⟨(·.1), fun h => ⟨h, ne⟩⟩, fun y ne k z => (g1 y k z).trans ⟨(·.2), fun h => ⟨ne, h⟩⟩⟩
    · rw [i1]
      exact ⟨fun h => absurd rfl h.2, fun h => absurd h hb⟩
    · rw [g1]
      exact ⟨fun h => absurd rfl h.1, fun h => absurd h.inC hb⟩
theorem lead_boxes {a b : Cont} (wa : WfC a) (wb : WfC b) : ∀ (xs : List Str) {c : Cont}, xs.Nodup → WfC c → Within a b c → (∀ x ∈ xs, (inC c x ↔ inC a x) ∧ (∀ k z, Has c x k z ↔ Has a x k z) ∧ (inC a x ∨ inC b x)) →
    ∃ e, Leads a b c (xs.flatMap (boxD a b)) e ∧ WfC e ∧ (∀ x, x ∈ xs → (inC e x ↔ inC b x) ∧ ∀ k z, Has e x k z ↔ Has b x k z) ∧ ∀ x, x ∉ xs → (inC e x ↔ inC c x) ∧ ∀ k z, Has e x k z ↔ Has c x k z
  | [], c, _, wf, _, _ => ⟨c, .nil, wf, fun _ h => absurd h List.not_mem_nil, fun _ _ => ⟨Iff.rfl, fun _ _ => Iff.rfl⟩⟩
  | x :: xs, c, nd, wf, wi, h => by
    obtain ⟨nx, nd⟩ := List.nodup_cons.mp nd
    obtain ⟨g1, g2, g3⟩ := h x List.mem_cons_self
    obtain ⟨e, B⟩ := lead_box wa wb wf wi g1 g2 g3
    obtain ⟨f, lf, wff, o1, o2⟩ := lead_boxes wa wb xs nd B.wf B.wi fun y hy => by
      have ne : y ≠ x := fun z => nx (z ▸ hy)
      obtain ⟨k1, k2, k3⟩ := h y (List.mem_cons_of_mem _ hy)
      exact ⟨(B.off1 y ne).trans k1, fun k z => (B.off2 y ne k z).trans (k2 k z), k3⟩
    refine ⟨f, B.lead.app lf, wff, fun y hy => ?_, fun y hy => ?_⟩
    · rcases List.mem_cons.mp hy with rfl | hy
      · obtain ⟨k1, k2⟩ := o2 y nx
        exact ⟨k1.trans B.at1, fun k z => (k2 k z).trans (B.at2 k z)⟩
      · exact o1 y hy
    · have ne : y ≠ x := fun z => hy (z ▸ List.mem_cons_self)
      obtain ⟨k1, k2⟩ := o2 y fun z => hy (List.mem_cons_of_mem _ z)
      exact ⟨k1.trans (B.off1 y ne), fun k z => (k2 k z).trans (B.off2 y ne k z)⟩
def SameC (e b : Cont) : Prop := (∀ x, inC e x ↔ inC b x) ∧ ∀ x k z, Has e x k z ↔ Has b x k z
theorem way_leads {a b : Cont} (wa : WfC a) (wb : WfC b) : ∃ e, Leads a b a (wayD a b) e ∧ WfC e ∧ SameC e b := by
  obtain ⟨e, le, wfe, o1, o2⟩ := lead_boxes wa wb (setS (a.map (·.1) ++ b.map (·.1))) setS_nd wa ⟨fun _ h => .inl h, fun _ _ _ h => .inl h⟩ fun x hx => ⟨Iff.rfl, fun _ _ => Iff.rfl, List.mem_append.mp (setS_mem.mp hx)⟩
  have off : ∀ x, x ∉ setS (a.map (·.1) ++ b.map (·.1)) → ¬ inC a x ∧ ¬ inC b x := fun x h => ⟨fun z => h (setS_mem.mpr (List.mem_append_left _ z)), fun z => h (setS_mem.mpr (List.mem_append_right _ z))⟩
  refine ⟨e, le, wfe, fun x => ?_, fun x k z => ?_⟩
  · by_cases h : x ∈ setS (a.map (·.1) ++ b.map (·.1))
    · exact (o1 x h).1
    · obtain ⟨n1, n2⟩ := off x h
      exact (o2 x h).1.trans ⟨fun z => absurd z n1, fun z => absurd z n2⟩
  · by_cases h : x ∈ setS (a.map (·.1) ++ b.map (·.1))
    · exact (o1 x h).2 k z
    · obtain ⟨n1, n2⟩ := off x h
      exact ((o2 x h).2 k z).trans ⟨fun z => absurd z.inC n1, fun z => absurd z.inC n2⟩
inductive Thg : D → Prop
  | non : Thg .non
  | bl (b : Bool) : Thg (.bl b)
  | int (i : Int) : Thg (.int i)
  | str {z : Str} (h : z.length ≤ 1000) : Thg (.str z)
  | lst (xs : List D) : Thg (.lst xs)
  | tup (xs : List D) : Thg (.tup xs)
  | dct {es : List (Key × D)} (h0 : es.length ≤ 1000) (nd : (es.map Prod.fst).Nodup) (hk : ∀ kv ∈ es, ∃ z : Str, kv.1 = .inr z ∧ z.length ≤ 1000) (hv : ∀ kv ∈ es, Thg kv.2) : Thg (.dct es)
theorem Thg.np {d : D} (h : Thg d) : isPtr d = false := by cases h <;> rfl
theorem getD_memT {es : List (Key × D)} (nd : (es.map Prod.fst).Nodup) {kv : Key × D} (m : kv ∈ es) : getD' es kv.1 = some kv.2 := by
  induction es with
  | nil => cases m
  | cons g es ih =>
    obtain ⟨n1, n2⟩ := List.nodup_cons.mp nd
    unfold getD'
    rcases List.mem_cons.mp m with rfl | m
    · rw [List.find?_cons_of_pos (by simp)]
      rfl
    · rw [List.find?_cons_of_neg (by
        simp only [decide_eq_true_eq]
        exact fun z => n1 (z ▸ List.mem_map_of_mem m))]
      exact ih n2 m
section
variable [Tabl] {K : PySem.W.Frag} {Z : XZ} {δ : List Slot} {n : Sto} {Φ : D → Sto → Prop}
end
theorem Shq.mono {j k : Nat} {d : D} (h : Shq j d) : j ≤ k → Shq k d := by
  induction h generalizing k with
  | non => exact fun _ => .non
  | bl b => exact fun _ => .bl b
  | int h => exact fun _ => .int h
  | str x => exact fun _ => .str x
  | lst _ ih =>
    intro hk
    obtain ⟨m, rfl⟩ : ∃ m, k = m + 1 := ⟨k - 1, by omega⟩
    exact .lst fun x hx => ih x hx (by omega)
  | tup _ ih =>
    intro hk
    obtain ⟨m, rfl⟩ : ∃ m, k = m + 1 := ⟨k - 1, by omega⟩
    exact .tup fun x hx => ih x hx (by omega)
  | dct h1 _ ih =>
    intro hk
    obtain ⟨m, rfl⟩ : ∃ m, k = m + 1 := ⟨k - 1, by omega⟩
    exact .dct h1 fun x hx => ih x hx (by omega)
structure Tll (k w : Nat) (d : D) : Prop where
  thg : Thg d
  shq : Shq k d
  lv : (toP d).leavesShort 8 = true
  wt : (toP d).weight ≤ w
theorem Tll.mono {j k v w : Nat} {d : D} (h : Tll j v d) (h1 : j ≤ k) (h2 : v ≤ w) : Tll k w d := ⟨h.thg, h.shq.mono h1, h.lv, Nat.le_trans h.wt h2⟩
theorem Tll.fits {k w : Nat} {d : D} (h : Tll k w d) (hw : w ≤ 2 ^ 20) : (toP d).shown.length ≤ sizeLine := PyData.shown_fits (B := 8) (by decide) (by decide) h.lv (Nat.le_trans h.wt hw)
theorem tok_str {z : Str} (h : z.length ≤ 1000) (hc : ∀ c ∈ tl z, c < 16 ^ 8) : Tll 0 z.length (.str z) := by
  refine ⟨.str h, .str z, ?_, ?_⟩
  · unfold toP PyData.leavesShort
    exact List.all_eq_true.mpr fun c m => decide_eq_true (hc c m)
  · unfold toP PyData.weight
    exact Nat.le_refl _
theorem lv_all {xs : List D} (h : ∀ x ∈ xs, (toP x).leavesShort 8 = true) : PyData.leavesShortAll 8 (toPs xs) = true := by
  induction xs with
  | nil => unfold toPs PyData.leavesShortAll; rfl
  | cons x r ih =>
    unfold toPs PyData.leavesShortAll
    rw [h x List.mem_cons_self, ih fun y m => h y (List.mem_cons_of_mem _ m)]
    rfl
theorem wt_all {xs : List D} {w : Nat} (h : ∀ x ∈ xs, (toP x).weight ≤ w) : PyData.weightAll (toPs xs) ≤ xs.length * (w + 1) := by
  induction xs with
  | nil => unfold toPs PyData.weightAll; exact Nat.zero_le _
  | cons x r ih =>
    unfold toPs PyData.weightAll
    have h1 := h x List.mem_cons_self
    have h2 := ih fun y m => h y (List.mem_cons_of_mem _ m)
    rw [List.length_cons, Nat.add_mul]
    omega
theorem tok_lst {k w : Nat} {xs : List D} (h : ∀ x ∈ xs, Tll k w x) : Tll (k + 1) (xs.length * (w + 1)) (.lst xs) := by
  refine ⟨.lst xs, .lst fun x hx => (h x hx).shq, ?_, ?_⟩
  · unfold toP PyData.leavesShort
    exact lv_all fun x hx => (h x hx).lv
  · unfold toP PyData.weight
    exact wt_all fun x hx => (h x hx).wt
theorem tok_tup {k w : Nat} {xs : List D} (h : ∀ x ∈ xs, Tll k w x) : Tll (k + 1) (xs.length * (w + 1)) (.tup xs) := by
  refine ⟨.tup xs, .tup fun x hx => (h x hx).shq, ?_, ?_⟩
  · unfold toP PyData.leavesShort
    exact lv_all fun x hx => (h x hx).lv
  · unfold toP PyData.weight
    exact wt_all fun x hx => (h x hx).wt
def Kyt (k : Key) : Prop := ∃ z : Str, k = .inr z ∧ z.length ≤ 9 ∧ ∀ c ∈ tl z, c < 16 ^ 8
theorem lv_kv {es : List (Key × D)} (hk : ∀ kv ∈ es, Kyt kv.1) (h : ∀ kv ∈ es, (toP kv.2).leavesShort 8 = true) : PyData.leavesShortKv 8 (toPk es) = true := by
  induction es with
  | nil => unfold toPk PyData.leavesShortKv; rfl
  | cons x r ih =>
    obtain ⟨k, d⟩ := x
    rw [toPk_cons]
    unfold PyData.leavesShortKv
    rw [h _ List.mem_cons_self, ih (fun y m => hk y (List.mem_cons_of_mem _ m)) fun y m => h y (List.mem_cons_of_mem _ m)]
    obtain ⟨z, e, _, hc⟩ := hk _ List.mem_cons_self
    have e : k = .inr z := e
    subst e
    have : (keyP (.inr z)).leavesShort 8 = true := by
      unfold keyP PyData.leavesShort
      exact List.all_eq_true.mpr fun c m => decide_eq_true (hc c m)
    rw [this]
    rfl
theorem wt_kv {es : List (Key × D)} {w : Nat} (hk : ∀ kv ∈ es, Kyt kv.1) (h : ∀ kv ∈ es, (toP kv.2).weight ≤ w) : PyData.weightKv (toPk es) ≤ es.length * (w + 11) := by
  induction es with
  | nil => unfold toPk PyData.weightKv; exact Nat.zero_le _
  | cons x r ih =>
    obtain ⟨k, d⟩ := x
    rw [toPk_cons]
    unfold PyData.weightKv
    have h1 : (toP d).weight ≤ w := h _ List.mem_cons_self
    have h2 := ih (fun y m => hk y (List.mem_cons_of_mem _ m)) fun y m => h y (List.mem_cons_of_mem _ m)
    obtain ⟨z, e, hl, hc⟩ := hk _ List.mem_cons_self
    have e : k = .inr z := e
    subst e
    have : (keyP (.inr z)).weight ≤ 9 := by
      unfold keyP PyData.weight
      exact hl
    rw [List.length_cons, Nat.add_mul]
    omega
theorem tok_dct {k w : Nat} {es : List (Key × D)} (h0 : es.length ≤ 1000) (nd : (es.map Prod.fst).Nodup) (hk : ∀ kv ∈ es, Kyt kv.1) (h : ∀ kv ∈ es, Tll k w kv.2) : Tll (k + 1) (es.length * (w + 11)) (.dct es) := by
  refine ⟨.dct h0 nd (fun kv hkv => ?_) fun kv hkv => (h kv hkv).thg, .dct (fun kv hkv => ?_) fun kv hkv => (h kv hkv).shq, ?_, ?_⟩
  · obtain ⟨z, e, hl, _⟩ := hk kv hkv
    exact ⟨z, e, by omega⟩
  · obtain ⟨z, e, hl, _⟩ := hk kv hkv
    rw [e]
    unfold keyP PyData.showable
    rfl
  · unfold toP PyData.leavesShort
    exact lv_kv hk fun x hx => (h x hx).lv
  · unfold toP PyData.weight
    exact wt_kv hk fun x hx => (h x hx).wt
theorem Wt.tok {z : Str} (h : Wt z) : Tll 0 40 (.str z) := (tok_str (by have := h.1; omega) fun c m => Nat.lt_of_le_of_lt (h.2 c m).2.1 (by decide)).mono (Nat.le_refl 0) h.1
def Ets (es : List (Key × D)) : Prop := es.length ≤ 98 ∧ (es.map Prod.fst).Nodup ∧ (∀ kv ∈ es, Kyt kv.1) ∧ ∀ kv ∈ es, Tll 3 6000 kv.2
theorem Ets.tok {es : List (Key × D)} (h : Ets es) : Tll 4 600000 (.dct es) := (tok_dct (by have := h.1; omega) h.2.1 h.2.2.1 h.2.2.2).mono (by omega) (by
  have := Nat.mul_le_mul_right (6000 + 11) h.1
  omega)
def xW : Str := "x"
def lW : Str := "a long text"
def wdN (v : Nat) : Str := if v = 1 then xW else lW
def rwN (s t : Nat) : List (Str × Str) := (if s = 0 then [] else [(("k" : Str), wdN s)]) ++ (if t = 0 then [] else [(("l" : Str), wdN t)])
def bxN (x : Str) (i : Nat) : Cont := if i = 0 then [] else [(x, rwN ((i - 1) / 3) ((i - 1) % 3))]
def ctN (i j : Nat) : Cont := bxN "a" i ++ bxN "b" j
def srtD (ds : List D) : List D := keyedD ds (ds.map toP)
def rwD (b : Str × List (Str × Str)) : D := .tup [.str b.1, .lst (srtD (itmD (rowE b.2)))]
def sgnD (c : Cont) : D := .lst (srtD (c.map rwD))
def plD (c : Cont) : D := .lst (c.map fun b => .tup [.str b.1, .lst (itmD (rowE b.2))])
def SmR (rs : List (Str × Str)) : Prop := ∀ kv ∈ rs, (kv.1 = "k" ∨ kv.1 = "l") ∧ (kv.2 = xW ∨ kv.2 = lW)
def Sm (c : Cont) : Prop := WfC c ∧ ∀ b ∈ c, (b.1 = "a" ∨ b.1 = "b") ∧ SmR b.2
def vN (rs : List (Str × Str)) (k : Str) : Nat := if (k, xW) ∈ rs then 1 else if (k, lW) ∈ rs then 2 else 0
def bN (c : Cont) (x : Str) : Nat := if inC c x then 1 + 3 * vN (rowsAt c x) "k" + vN (rowsAt c x) "l" else 0
theorem vN_le {rs : List (Str × Str)} {k : Str} : vN rs k ≤ 2 := by
  unfold vN
  split
  · decide
  · split <;> decide
theorem bN_lt {c : Cont} {x : Str} : bN c x < 10 := by
  unfold bN
  have := vN_le (rs := rowsAt c x) (k := "k")
  have := vN_le (rs := rowsAt c x) (k := "l")
  split <;> omega
theorem vN_congr {rs ws : List (Str × Str)} {k l : Str} (h1 : (k, xW) ∈ rs ↔ (l, xW) ∈ ws) (h2 : (k, lW) ∈ rs ↔ (l, lW) ∈ ws) : vN rs k = vN ws l := by
  unfold vN
  by_cases a : (k, xW) ∈ rs
  · rw [if_pos a, if_pos (h1.mp a)]
  · rw [if_neg a, if_neg fun z => a (h1.mpr z)]
    by_cases b : (k, lW) ∈ rs
    · rw [if_pos b, if_pos (h2.mp b)]
    · rw [if_neg b, if_neg fun z => b (h2.mpr z)]
def allR : List (List (Str × Str)) :=
  [[], [("k", xW)], [("k", lW)], [("l", xW)], [("l", lW)], [("k", xW), ("l", xW)], [("k", xW), ("l", lW)], [("k", lW), ("l", xW)], [("k", lW), ("l", lW)],
   [("l", xW), ("k", xW)], [("l", lW), ("k", xW)], [("l", xW), ("k", lW)], [("l", lW), ("k", lW)]]
theorem smr_in : ∀ {rs : List (Str × Str)}, (rs.map (·.1)).Nodup → SmR rs → rs ∈ allR
  | [], _, _ => List.mem_cons_self
  | [(k, z)], _, h => by
    obtain ⟨h1, h2⟩ := h _ List.mem_cons_self
    rcases h1 with h1 | h1 <;> rcases h2 with h2 | h2 <;> cases h1 <;> cases h2 <;> decide +kernel
  | [(k, z), (l, y)], nd, h => by
    obtain ⟨h1, h2⟩ := h _ List.mem_cons_self
    obtain ⟨h3, h4⟩ := h _ (List.mem_cons_of_mem _ List.mem_cons_self)
    rcases h1 with h1 | h1 <;> rcases h3 with h3 | h3 <;> cases h1 <;> cases h3
    · exact absurd rfl (List.nodup_cons.mp nd |>.1 |> fun h e => h (by rw [List.map_cons]; exact List.mem_cons_self))
    · rcases h2 with h2 | h2 <;> rcases h4 with h4 | h4 <;> cases h2 <;> cases h4 <;> decide +kernel
    · rcases h2 with h2 | h2 <;> rcases h4 with h4 | h4 <;> cases h2 <;> cases h4 <;> decide +kernel
    · exact absurd rfl (List.nodup_cons.mp nd |>.1 |> fun h e => h (by rw [List.map_cons]; exact List.mem_cons_self))
  | (k, z) :: (l, y) :: (m, w) :: r, nd, h => by
    obtain ⟨h1, _⟩ := h _ List.mem_cons_self
    obtain ⟨h3, _⟩ := h _ (List.mem_cons_of_mem _ List.mem_cons_self)
    obtain ⟨h5, _⟩ := h _ (List.mem_cons_of_mem _ (List.mem_cons_of_mem _ List.mem_cons_self))
    rw [List.map_cons, List.map_cons, List.map_cons, List.nodup_cons, List.nodup_cons] at nd
    obtain ⟨n1, n2, _⟩ := nd
    rcases h1 with h1 | h1 <;> rcases h3 with h3 | h3 <;> rcases h5 with h5 | h5 <;> cases h1 <;> cases h3 <;> cases h5 <;> simp at n1 n2
theorem srt_ab {a b : Str} {r q : D} (h : tl a < tl b) : srtD [.tup [.str a, r], .tup [.str b, q]] = [.tup [.str a, r], .tup [.str b, q]] ∧ srtD [.tup [.str b, q], .tup [.str a, r]] = [.tup [.str a, r], .tup [.str b, q]] := by
  have tk : ∀ (z : Str) (d : D), PySem.W.keyToks (toP (.tup [.str z, d])) = .inl 1 :: .inr (tl z) :: (.inl 1 :: (PySem.W.keyToks (toP d) ++ [.inl 0])) := fun z d => by simp [toP, toPs, PySem.W.keyToks, PySem.W.keyToksAll, tl]
  have str_blt : ∀ u v : List Nat, PyProof.Rows.itemLt (.inr u) (.inr v) = decide (u < v) := fun u v => rfl
  have int_blt : ∀ u v : Int, PyProof.Rows.itemLt (.inl u) (.inl v) = decide (u < v) := fun u v => rfl
  have l1 : PySem.W.dataLe false (Prod.snd : D × PyData → PyData) (.tup [.str a, r], toP (.tup [.str a, r])) (.tup [.str b, q], toP (.tup [.str b, q])) = true := by
    show (!PyProof.Rows.lexLt PyProof.Rows.itemOrd (PySem.W.keyToks (toP (.tup [.str b, q]))) (PySem.W.keyToks (toP (.tup [.str a, r])))) = true
    rw [tk, tk]
    have := List.lt_asymm h
    simp [PyProof.Rows.lexLt, str_blt, int_blt, h, this]
  have l2 : PySem.W.dataLe false (Prod.snd : D × PyData → PyData) (.tup [.str b, q], toP (.tup [.str b, q])) (.tup [.str a, r], toP (.tup [.str a, r])) = false := by
    show (!PyProof.Rows.lexLt PyProof.Rows.itemOrd (PySem.W.keyToks (toP (.tup [.str a, r]))) (PySem.W.keyToks (toP (.tup [.str b, q])))) = false
    rw [tk, tk]
    have := List.lt_asymm h
    simp [PyProof.Rows.lexLt, str_blt, int_blt, h, this]
  unfold srtD keyedD
  constructor
  · simp [List.mergeSort, List.MergeSort.Internal.splitInTwo, List.merge, l1]
  · simp [List.mergeSort, List.MergeSort.Internal.splitInTwo, List.merge, l2]
theorem srt_1 {d : D} : srtD [d] = [d] := by
  unfold srtD keyedD
  simp
theorem srt_0 : srtD [] = [] := by
  unfold srtD keyedD
  simp
theorem srtR {rs : List (Str × Str)} (h : rs ∈ allR) : srtD (itmD (rowE rs)) = itmD (rowE (rwN (vN rs "k") (vN rs "l"))) := by
  have kl : tl ("k" : Str) < tl ("l" : Str) := by decide +kernel
  have via : ∀ {rs ws : List (Str × Str)}, rwN (vN rs "k") (vN rs "l") = ws → srtD (itmD (rowE rs)) = itmD (rowE ws) → srtD (itmD (rowE rs)) = itmD (rowE (rwN (vN rs "k") (vN rs "l"))) := fun h g => by rw [h]; exact g
  unfold allR at h
  simp only [List.mem_cons, List.not_mem_nil, or_false] at h
  rcases h with rfl | rfl | rfl | rfl | rfl | rfl | rfl | rfl | rfl | rfl | rfl | rfl | rfl
  · exact via (ws := []) (by decide +kernel) srt_0
  · exact via (ws := [("k", xW)]) (by decide +kernel) srt_1
  · exact via (ws := [("k", lW)]) (by decide +kernel) srt_1
  · exact via (ws := [("l", xW)]) (by decide +kernel) srt_1
  · exact via (ws := [("l", lW)]) (by decide +kernel) srt_1
  · exact via (ws := [("k", xW), ("l", xW)]) (by decide +kernel) (srt_ab kl).1
  · exact via (ws := [("k", xW), ("l", lW)]) (by decide +kernel) (srt_ab kl).1
  · exact via (ws := [("k", lW), ("l", xW)]) (by decide +kernel) (srt_ab kl).1
  · exact via (ws := [("k", lW), ("l", lW)]) (by decide +kernel) (srt_ab kl).1
  · exact via (ws := [("k", xW), ("l", xW)]) (by decide +kernel) (srt_ab kl).2
  · exact via (ws := [("k", xW), ("l", lW)]) (by decide +kernel) (srt_ab kl).2
  · exact via (ws := [("k", lW), ("l", xW)]) (by decide +kernel) (srt_ab kl).2
  · exact via (ws := [("k", lW), ("l", lW)]) (by decide +kernel) (srt_ab kl).2
theorem bx_of {c : Cont} {x y : Str} : bxN y (bN c x) = if inC c x then [(y, rwN (vN (rowsAt c x) "k") (vN (rowsAt c x) "l"))] else [] := by
  unfold bxN bN
  have := vN_le (rs := rowsAt c x) (k := "k")
  have := vN_le (rs := rowsAt c x) (k := "l")
  by_cases h : inC c x
  · rw [if_pos h, if_pos h, if_neg (by omega)]
    congr 3 <;> omega
  · rw [if_neg h, if_neg h, if_pos rfl]
theorem bN_no {c : Cont} {x : Str} (h : ¬ inC c x) : bN c x = 0 := if_neg h
theorem rwD_is {b : Str × List (Str × Str)} (h : b.2 ∈ allR) : rwD b = .tup [.str b.1, .lst (itmD (rowE (rwN (vN b.2 "k") (vN b.2 "l"))))] := by
  unfold rwD
  rw [srtR h]
theorem nodup2 {α : Type} {x y : α} {l : List α} (h : (x :: y :: l).Nodup) : x ≠ y := fun e => (List.nodup_cons.mp h).1 (e ▸ List.mem_cons_self)
theorem sm_shape : ∀ {c : Cont}, Sm c → c = [] ∨ (∃ x rs, c = [(x, rs)] ∧ (x = "a" ∨ x = "b") ∧ rs ∈ allR) ∨ ∃ x rs y ws, c = [(x, rs), (y, ws)] ∧ rs ∈ allR ∧ ws ∈ allR ∧ (x = "a" ∧ y = "b" ∨ x = "b" ∧ y = "a")
  | [], _ => .inl rfl
  | [(x, rs)], h => .inr (.inl ⟨x, rs, rfl, (h.2 _ List.mem_cons_self).1, smr_in (h.1.2 _ List.mem_cons_self).2.1 (h.2 _ List.mem_cons_self).2⟩)
  | [(x, rs), (y, ws)], h => by
    refine .inr (.inr ⟨x, rs, y, ws, rfl, smr_in (h.1.2 _ List.mem_cons_self).2.1 (h.2 _ List.mem_cons_self).2, smr_in (h.1.2 _ (List.mem_cons_of_mem _ List.mem_cons_self)).2.1 (h.2 _ (List.mem_cons_of_mem _ List.mem_cons_self)).2, ?_⟩)
    have nd : x ≠ y := nodup2 h.1.1
    have h1 : x = "a" ∨ x = "b" := (h.2 _ List.mem_cons_self).1
    have h2 : y = "a" ∨ y = "b" := (h.2 _ (List.mem_cons_of_mem _ List.mem_cons_self)).1
    rcases h1 with h1 | h1 <;> rcases h2 with h2 | h2
    · exact absurd (h1.trans h2.symm) nd
    · exact .inl ⟨h1, h2⟩
    · exact .inr ⟨h1, h2⟩
    · exact absurd (h1.trans h2.symm) nd
  | (x, rs) :: (y, ws) :: (z, us) :: r, h => by
    have nd := h.1.1
    have h1 : x = "a" ∨ x = "b" := (h.2 _ List.mem_cons_self).1
    have h2 : y = "a" ∨ y = "b" := (h.2 _ (List.mem_cons_of_mem _ List.mem_cons_self)).1
    have h3 : z = "a" ∨ z = "b" := (h.2 _ (List.mem_cons_of_mem _ (List.mem_cons_of_mem _ List.mem_cons_self))).1
    rw [List.map_cons, List.map_cons, List.map_cons] at nd
    have n1 : x ≠ y := nodup2 nd
    have n2 : y ≠ z := nodup2 (List.nodup_cons.mp nd).2
    have n3 : x ≠ z := fun e => (List.nodup_cons.mp nd).1 (List.mem_cons_of_mem _ (e ▸ List.mem_cons_self))
    rcases h1 with h1 | h1 <;> rcases h2 with h2 | h2 <;> rcases h3 with h3 | h3 <;> first | exact absurd (h1.trans h2.symm) n1 | exact absurd (h2.trans h3.symm) n2 | exact absurd (h1.trans h3.symm) n3
theorem ab_ne : ("a" : Str) ≠ "b" := by decide +kernel
theorem in_one {x y : Str} {rs : List (Str × Str)} : inC [(x, rs)] y ↔ y = x := by simp [inC]
theorem in_two {x y z : Str} {rs ws : List (Str × Str)} : inC [(x, rs), (y, ws)] z ↔ z = x ∨ z = y := by simp [inC]
theorem sg_is {c : Cont} (h : Sm c) : sgnD c = plD (ctN (bN c "a") (bN c "b")) := by
  have ab : tl ("a" : Str) < tl ("b" : Str) := by decide +kernel
  unfold ctN
  rw [bx_of, bx_of]
  rcases sm_shape h with rfl | ⟨x, rs, rfl, hx, hr⟩ | ⟨x, rs, y, ws, rfl, hr, hw, hxy⟩
  · show D.lst (srtD []) = _
    rw [srt_0]
    rfl
  · have e0 : rowsAt [(x, rs)] x = rs := rowsAt_mem h.1.1 List.mem_cons_self
    show D.lst (srtD [rwD (x, rs)]) = _
    rw [srt_1, rwD_is hr]
    rcases hx with rfl | rfl
    · rw [if_pos (in_one.mpr rfl), if_neg fun z => ab_ne (in_one.mp z).symm, e0]
      rfl
    · rw [if_neg fun z => ab_ne (in_one.mp z), if_pos (in_one.mpr rfl), e0]
      rfl
  · have e0 : rowsAt [(x, rs), (y, ws)] x = rs := rowsAt_mem h.1.1 List.mem_cons_self
    have e1 : rowsAt [(x, rs), (y, ws)] y = ws := rowsAt_mem h.1.1 (List.mem_cons_of_mem _ List.mem_cons_self)
    show D.lst (srtD [rwD (x, rs), rwD (y, ws)]) = _
    rw [rwD_is hr, rwD_is hw]
    rcases hxy with ⟨rfl, rfl⟩ | ⟨rfl, rfl⟩
    · rw [if_pos (in_two.mpr (.inl rfl)), if_pos (in_two.mpr (.inr rfl)), e0, e1, (srt_ab ab).1]
      rfl
    · rw [if_pos (in_two.mpr (.inr rfl)), if_pos (in_two.mpr (.inl rfl)), e0, e1, (srt_ab ab).2]
      rfl
def sgT (c : Cont) : Str := (toP (sgnD c)).shown
def plT (i j : Nat) : Str := (toP (plD (ctN i j))).shown
theorem sgT_is {c : Cont} (h : Sm c) : sgT c = plT (bN c "a") (bN c "b") := by
  unfold sgT plT
  rw [sg_is h]
def ac (e i : Nat) : Nat := if e = 0 then (if i = 0 then 1 else i) else if e = 1 then 0 else if i = 0 then 0 else if e < 5 then 1 + 3 * (e - 2) + (i - 1) % 3 else 1 + 3 * ((i - 1) / 3) + (e - 5)
def kdD : Dd → Nat
  | .make _ => 0 | .drop _ => 1 | .copy _ _ => 0
  | .take _ k => if k = "k" then 2 else 5
  | .put _ k z => (if k = "k" then 2 else 5) + (if z = xW then 1 else 2)
def SmD : Dd → Prop
  | .make x => x = "a" ∨ x = "b" | .drop x => x = "a" ∨ x = "b" | .copy _ _ => False
  | .take x k => (x = "a" ∨ x = "b") ∧ (k = "k" ∨ k = "l")
  | .put x k z => (x = "a" ∨ x = "b") ∧ (k = "k" ∨ k = "l") ∧ (z = xW ∨ z = lW)
theorem nmz_ab : Nmz "a" ∧ Nmz "b" ∧ Nmz "k" ∧ Nmz "l" := by
  unfold Nmz
  decide +kernel
theorem wt_xl : Wt xW ∧ Wt lW := by
  unfold Wt
  decide +kernel
theorem nmz_2 {x : Str} (h : x = "a" ∨ x = "b") : Nmz x := by
  rcases h with rfl | rfl
  · exact nmz_ab.1
  · exact nmz_ab.2.1
theorem nmz_k {x : Str} (h : x = "k" ∨ x = "l") : Nmz x := by
  rcases h with rfl | rfl
  · exact nmz_ab.2.2.1
  · exact nmz_ab.2.2.2
theorem wt_2 {x : Str} (h : x = xW ∨ x = lW) : Wt x := by
  rcases h with rfl | rfl
  · exact wt_xl.1
  · exact wt_xl.2
theorem smd_wf {d : Dd} (h : SmD d) : d.Wf := by
  cases d with
  | make x => exact nmz_2 h
  | drop x => exact nmz_2 h
  | copy x y => exact h.elim
  | take x k => exact ⟨nmz_2 h.1, nmz_k h.2⟩
  | put x k z => exact ⟨nmz_2 h.1, nmz_k h.2.1, wt_2 h.2.2⟩
theorem sm_in {c : Cont} (wf : WfC c) : Sm c ↔ (∀ x, inC c x → x = "a" ∨ x = "b") ∧ ∀ x k z, Has c x k z → (k = "k" ∨ k = "l") ∧ (z = xW ∨ z = lW) := by
  constructor
  · intro h
    refine ⟨fun x hx => ?_, fun x k z ⟨rs, h1, h2⟩ => (h.2 _ h1).2 _ h2⟩
    obtain ⟨b, hb, rfl⟩ := List.mem_map.mp hx
    exact (h.2 b hb).1
  · rintro ⟨h1, h2⟩
    exact ⟨wf, fun b hb => ⟨h1 _ (List.mem_map.mpr ⟨b, hb, rfl⟩), fun kv hk => h2 b.1 kv.1 kv.2 ⟨b.2, hb, hk⟩⟩⟩
theorem sm_do {c : Cont} {d : Dd} (h : Sm c) (hd : SmD d) (hw : whyC c d = none) : Sm (doC c d) := by
  have wf := h.1
  have wf2 := doC_wf wf (smd_wf hd) hw
  refine (sm_in wf2).mpr ?_
  obtain ⟨h1, h2⟩ := (sm_in wf).mp h
  cases d with
  | make x => exact ⟨fun y hy => (in_make.mp hy).elim (h1 y) fun e => e ▸ hd, fun y k z hh => h2 y k z (has_make.mp hh)⟩
  | drop x => exact ⟨fun y hy => h1 y (in_drop.mp hy).1, fun y k z hh => h2 y k z (has_drop.mp hh).2⟩
  | copy x y => exact hd.elim
  | take x l => exact ⟨fun y hy => h1 y (updC_in.mp hy), fun y k z hh => h2 y k z (has_take.mp hh).2⟩
  | put x l v =>
    have hx : inC c x := Classical.byContradiction fun z => by
      simp only [whyC] at hw
      rw [if_neg z] at hw
      cases hw
    refine ⟨fun y hy => h1 y (updC_in.mp (show inC (updC c x fun rs => putR rs l v) y from hy)), fun y k z hh => ?_⟩
    rcases (has_put wf hx).mp hh with ⟨_, rfl, rfl⟩ | ⟨_, g⟩
    · exact hd.2
    · exact h2 y k z g
theorem bN_yes {c : Cont} {x : Str} (h : inC c x) : bN c x = 1 + 3 * vN (rowsAt c x) "k" + vN (rowsAt c x) "l" := if_pos h
theorem bN_same {c e : Cont} {x : Str} (wc : WfC c) (we : WfC e) (h1 : inC e x ↔ inC c x) (h2 : ∀ k z, Has e x k z ↔ Has c x k z) : bN e x = bN c x := by
  by_cases h : inC c x
  · have g := h1.mpr h
    have rr : ∀ k z, (k, z) ∈ rowsAt e x ↔ (k, z) ∈ rowsAt c x := fun k z => by
      have a1 := has_at we (x := x) (k := k) (z := z)
      have a2 := has_at wc (x := x) (k := k) (z := z)
      have a3 := h2 k z
      constructor
      · intro q
        exact (a2.mp (a3.mp (a1.mpr ⟨g, q⟩))).2
      · intro q
        exact (a1.mp (a3.mpr (a2.mpr ⟨h, q⟩))).2
    rw [bN_yes h, bN_yes g, vN_congr (rr "k" xW) (rr "k" lW), vN_congr (rr "l" xW) (rr "l" lW)]
  · rw [bN_no h, bN_no fun z => h (h1.mp z)]
theorem vN_x {rs : List (Str × Str)} {k : Str} (h : (k, xW) ∈ rs) : vN rs k = 1 := if_pos h
theorem vN_l {rs : List (Str × Str)} {k : Str} (h : (k, xW) ∉ rs) (g : (k, lW) ∈ rs) : vN rs k = 2 := by
  unfold vN
  rw [if_neg h, if_pos g]
theorem vN_0 {rs : List (Str × Str)} {k : Str} (h : (k, xW) ∉ rs) (g : (k, lW) ∉ rs) : vN rs k = 0 := by
  unfold vN
  rw [if_neg h, if_neg g]
theorem xl_ne : xW ≠ lW := by decide +kernel
theorem kl_ne : ("k" : Str) ≠ "l" := by decide +kernel
theorem rowsAt_has {c : Cont} (wf : WfC c) {x k z : Str} (h : inC c x) : (k, z) ∈ rowsAt c x ↔ Has c x k z := by
  rw [has_at wf]
  exact ⟨fun g => ⟨h, g⟩, (·.2)⟩
theorem bN_do {c : Cont} {d : Dd} (h : Sm c) (hd : SmD d) (hw : whyC c d = none) (x : Str) : bN (doC c d) x = if x = crD d then ac (kdD d) (bN c x) else bN c x := by
  have wf := h.1
  have wf2 := doC_wf wf (smd_wf hd) hw
  cases d with
  | make y =>
    show bN (doC c (.make y)) x = if x = y then ac (kdD (.make y)) (bN c x) else bN c x
    have ny : ¬ inC c y := fun z => by
      simp only [whyC] at hw
      rw [if_pos z] at hw
      cases hw
    have i1 : inC (doC c (.make y)) x ↔ inC c x ∨ x = y := in_make
    by_cases e : x = y
    · subst e
      rw [if_pos rfl, bN_no ny, bN_yes (i1.mpr (.inr rfl)), vN_0, vN_0]
      · rfl
      all_goals
        intro z
        exact ny ((has_make.mp ((rowsAt_has wf2 (i1.mpr (.inr rfl))).mp z)).inC)
    · rw [if_neg e]
      exact bN_same wf wf2 (i1.trans ⟨fun z => z.resolve_right e, .inl⟩) fun k z => has_make
  | drop y =>
    show bN (doC c (.drop y)) x = if x = y then ac (kdD (.drop y)) (bN c x) else bN c x
    have i1 : inC (doC c (.drop y)) x ↔ inC c x ∧ x ≠ y := in_drop
    by_cases e : x = y
    · subst e
      rw [if_pos rfl, bN_no fun z => (i1.mp z).2 rfl]
      rfl
    · rw [if_neg e]
      exact bN_same wf wf2 (i1.trans ⟨(·.1), fun z => ⟨z, e⟩⟩) fun k z => has_drop.trans ⟨(·.2), fun z => ⟨e, z⟩⟩
  | copy y z => exact hd.elim
  | take y l =>
    show bN (doC c (.take y l)) x = if x = y then ac (kdD (.take y l)) (bN c x) else bN c x
    have i1 : inC (doC c (.take y l)) x ↔ inC c x := updC_in
    by_cases e : x = y
    · subst e
      have hx : inC c x := Classical.byContradiction fun z => by
        simp only [whyC] at hw
        rw [if_neg z] at hw
        cases hw
      have hx2 := i1.mpr hx
      have rr : ∀ k z, (k, z) ∈ rowsAt (doC c (.take x l)) x ↔ k ≠ l ∧ (k, z) ∈ rowsAt c x := fun k z => by
        rw [rowsAt_has wf2 hx2, rowsAt_has wf hx]
        refine has_take.trans ⟨fun g => ⟨fun e => g.1 ⟨rfl, e⟩, g.2⟩, fun g => ⟨fun e => g.1 e.2, g.2⟩⟩
      have b1 := vN_le (rs := rowsAt c x) (k := "k")
      have b2 := vN_le (rs := rowsAt c x) (k := "l")
      rw [if_pos rfl, bN_yes hx2, bN_yes hx]
      have same : ∀ k, k ≠ l → vN (rowsAt (doC c (.take x l)) x) k = vN (rowsAt c x) k := fun k ne => vN_congr ((rr k xW).trans ⟨(·.2), fun z => ⟨ne, z⟩⟩) ((rr k lW).trans ⟨(·.2), fun z => ⟨ne, z⟩⟩)
      have off : vN (rowsAt (doC c (.take x l)) x) l = 0 := vN_0 (fun z => ((rr l xW).mp z).1 rfl) fun z => ((rr l lW).mp z).1 rfl
      rcases hd.2 with rfl | rfl
      · rw [off, same "l" (Ne.symm kl_ne)]
        show _ = ac 2 _
        generalize vN (rowsAt c x) "k" = u at *
        generalize vN (rowsAt c x) "l" = v at *
        unfold ac
        rw [if_neg (by decide), if_neg (by decide), if_neg (by omega), if_pos (by decide)]
        omega
      · rw [off, same "k" kl_ne]
        show _ = ac 5 _
        generalize vN (rowsAt c x) "k" = u at *
        generalize vN (rowsAt c x) "l" = v at *
        unfold ac
        rw [if_neg (by decide), if_neg (by decide), if_neg (by omega), if_neg (by decide)]
        omega
    · rw [if_neg e]
      exact bN_same wf wf2 i1 fun k z => has_take.trans ⟨(·.2), fun g => ⟨fun q => e q.1, g⟩⟩
  | put y l v =>
    show bN (doC c (.put y l v)) x = if x = y then ac (kdD (.put y l v)) (bN c x) else bN c x
    have i1 : inC (doC c (.put y l v)) x ↔ inC c x := show inC (updC c y fun rs => putR rs l v) x ↔ _ from updC_in
    have hy : inC c y := Classical.byContradiction fun z => by
      simp only [whyC] at hw
      rw [if_neg z] at hw
      cases hw
    by_cases e : x = y
    · subst e
      have hx2 := i1.mpr hy
      have rr : ∀ k z, (k, z) ∈ rowsAt (doC c (.put x l v)) x ↔ (k = l ∧ z = v) ∨ (k ≠ l ∧ (k, z) ∈ rowsAt c x) := fun k z => by
        rw [rowsAt_has wf2 hx2, rowsAt_has wf hy]
        refine (has_put wf hy).trans ⟨fun g => g.elim (fun g => .inl ⟨g.2.1, g.2.2⟩) fun g => .inr ⟨fun e => g.1 ⟨rfl, e⟩, g.2⟩, fun g => g.elim (fun g => .inl ⟨rfl, g.1, g.2⟩) fun g => .inr ⟨fun e => g.1 e.2, g.2⟩⟩
      have b1 := vN_le (rs := rowsAt c x) (k := "k")
      have b2 := vN_le (rs := rowsAt c x) (k := "l")
      rw [if_pos rfl, bN_yes hx2, bN_yes hy]
      have same : ∀ k, k ≠ l → vN (rowsAt (doC c (.put x l v)) x) k = vN (rowsAt c x) k := fun k ne => vN_congr ((rr k xW).trans ⟨fun g => g.elim (fun g => absurd g.1 ne) (·.2), fun z => .inr ⟨ne, z⟩⟩) ((rr k lW).trans ⟨fun g => g.elim (fun g => absurd g.1 ne) (·.2), fun z => .inr ⟨ne, z⟩⟩)
      have on : vN (rowsAt (doC c (.put x l v)) x) l = if v = xW then 1 else 2 := by
        rcases hd.2.2 with rfl | rfl
        · rw [if_pos rfl]
          exact vN_x ((rr l xW).mpr (.inl ⟨rfl, rfl⟩))
        · rw [if_neg (Ne.symm xl_ne)]
          exact vN_l (fun z => ((rr l xW).mp z).elim (fun g => xl_ne g.2) fun g => g.1 rfl) ((rr l lW).mpr (.inl ⟨rfl, rfl⟩))
      have hv : (if v = xW then 1 else 2) = 1 ∨ (if v = xW then 1 else 2) = 2 := by split <;> simp
      rcases hd.2.1 with rfl | rfl
      · rw [on, same "l" (Ne.symm kl_ne)]
        show _ = ac (2 + if v = xW then 1 else 2) _
        generalize (if v = xW then 1 else 2) = w at *
        generalize vN (rowsAt c x) "k" = u at *
        generalize vN (rowsAt c x) "l" = t at *
        unfold ac
        rw [if_neg (by omega), if_neg (by omega), if_neg (by omega), if_pos (by omega)]
        omega
      · rw [on, same "k" kl_ne]
        show _ = ac ((if ("l" : Str) = "k" then 2 else 5) + if v = xW then 1 else 2) _
        rw [if_neg (Ne.symm kl_ne)]
        generalize (if v = xW then 1 else 2) = w at *
        generalize vN (rowsAt c x) "k" = u at *
        generalize vN (rowsAt c x) "l" = t at *
        unfold ac
        rw [if_neg (by omega), if_neg (by omega), if_neg (by omega), if_neg (by omega)]
        omega
    · rw [if_neg e]
      exact bN_same wf wf2 i1 fun k z => (has_put wf hy).trans ⟨fun g => g.elim (fun g => absurd g.1 e) (·.2), fun g => .inr ⟨fun q => e q.1, g⟩⟩
theorem ac_0 {e : Nat} (h : e ≠ 0) : ac e 0 = 0 := by
  unfold ac
  rw [if_neg h]
  split
  · rfl
  · rw [if_pos rfl]
theorem bN_no_do {c : Cont} {d : Dd} (h : Sm c) (hd : SmD d) (hw : whyC c d ≠ none) : ac (kdD d) (bN c (crD d)) = bN c (crD d) := by
  have wf := h.1
  cases d with
  | make y =>
    have hy : inC c y := Classical.byContradiction fun z => hw (if_neg z)
    show ac 0 (bN c y) = bN c y
    rw [bN_yes hy]
    unfold ac
    rw [if_pos rfl, if_neg (by omega)]
  | drop y =>
    have hy : ¬ inC c y := fun z => hw (if_pos z)
    show ac 1 (bN c y) = bN c y
    rw [bN_no hy]
    rfl
  | copy y z => exact hd.elim
  | put y l v =>
    have hy : ¬ inC c y := fun z => hw (if_pos z)
    show ac (kdD (.put y l v)) (bN c y) = bN c y
    rw [bN_no hy]
    exact ac_0 fun z => by
      have z : (if l = "k" then 2 else 5) + (if v = xW then 1 else 2) = 0 := z
      split at z <;> omega
  | take y l =>
    show ac (kdD (.take y l)) (bN c y) = bN c y
    by_cases hy : inC c y
    · have nk : l ∉ (rowsAt c y).map (·.1) := fun z => hw (by simp only [whyC]; rw [if_pos hy, if_pos z])
      have n0 : vN (rowsAt c y) l = 0 := vN_0 (fun z => nk (List.mem_map.mpr ⟨_, z, rfl⟩)) fun z => nk (List.mem_map.mpr ⟨_, z, rfl⟩)
      have b1 := vN_le (rs := rowsAt c y) (k := "k")
      have b2 := vN_le (rs := rowsAt c y) (k := "l")
      rw [bN_yes hy]
      rcases hd.2 with rfl | rfl
      · rw [n0]
        show ac 2 _ = _
        generalize vN (rowsAt c y) "l" = v at *
        unfold ac
        rw [if_neg (by decide), if_neg (by decide), if_neg (by omega), if_pos (by decide)]
        omega
      · rw [n0]
        show ac (if ("l" : Str) = "k" then 2 else 5) _ = _
        rw [if_neg (Ne.symm kl_ne)]
        generalize vN (rowsAt c y) "k" = v at *
        unfold ac
        rw [if_neg (by decide), if_neg (by decide), if_neg (by omega), if_neg (by decide)]
        omega
    · rw [bN_no hy]
      exact ac_0 fun z => by
        have z : (if l = "k" then 2 else 5) = 0 := z
        split at z <;> omega
def hsN (z : Str) : Nat := (tl z).foldl (fun h c => (h * 31 + c) % 10007) 7
theorem hv0 : hsN (plT 0 0) = 9641 := by decide +kernel
theorem hv1 : hsN (plT 0 1) = 1819 := by decide +kernel
theorem hv2 : hsN (plT 0 2) = 5398 := by decide +kernel
theorem hv3 : hsN (plT 0 3) = 2636 := by decide +kernel
theorem hv4 : hsN (plT 0 4) = 8561 := by decide +kernel
theorem hv5 : hsN (plT 0 5) = 5619 := by decide +kernel
theorem hv6 : hsN (plT 0 6) = 4103 := by decide +kernel
theorem hv7 : hsN (plT 0 7) = 5067 := by decide +kernel
theorem hv8 : hsN (plT 0 8) = 9105 := by decide +kernel
theorem hv9 : hsN (plT 0 9) = 5599 := by decide +kernel
theorem hv10 : hsN (plT 1 0) = 3067 := by decide +kernel
theorem hv11 : hsN (plT 1 1) = 7248 := by decide +kernel
theorem hv12 : hsN (plT 1 2) = 5483 := by decide +kernel
theorem hv13 : hsN (plT 1 3) = 3970 := by decide +kernel
theorem hv14 : hsN (plT 1 4) = 8646 := by decide +kernel
theorem hv15 : hsN (plT 1 5) = 6697 := by decide +kernel
theorem hv16 : hsN (plT 1 6) = 6776 := by decide +kernel
theorem hv17 : hsN (plT 1 7) = 6401 := by decide +kernel
theorem hv18 : hsN (plT 1 8) = 1771 := by decide +kernel
theorem hv19 : hsN (plT 1 9) = 6815 := by decide +kernel
theorem hv20 : hsN (plT 2 0) = 732 := by decide +kernel
theorem hv21 : hsN (plT 2 1) = 843 := by decide +kernel
theorem hv22 : hsN (plT 2 2) = 323 := by decide +kernel
theorem hv23 : hsN (plT 2 3) = 3633 := by decide +kernel
theorem hv24 : hsN (plT 2 4) = 3486 := by decide +kernel
theorem hv25 : hsN (plT 2 5) = 3064 := by decide +kernel
theorem hv26 : hsN (plT 2 6) = 9919 := by decide +kernel
theorem hv27 : hsN (plT 2 7) = 6064 := by decide +kernel
theorem hv28 : hsN (plT 2 8) = 4914 := by decide +kernel
theorem hv29 : hsN (plT 2 9) = 2457 := by decide +kernel
theorem hv30 : hsN (plT 3 0) = 869 := by decide +kernel
theorem hv31 : hsN (plT 3 1) = 6983 := by decide +kernel
theorem hv32 : hsN (plT 3 2) = 3090 := by decide +kernel
theorem hv33 : hsN (plT 3 3) = 7737 := by decide +kernel
theorem hv34 : hsN (plT 3 4) = 6253 := by decide +kernel
theorem hv35 : hsN (plT 3 5) = 4250 := by decide +kernel
theorem hv36 : hsN (plT 3 6) = 1219 := by decide +kernel
theorem hv37 : hsN (plT 3 7) = 161 := by decide +kernel
theorem hv38 : hsN (plT 3 8) = 6221 := by decide +kernel
theorem hv39 : hsN (plT 3 9) = 1307 := by decide +kernel
theorem hv40 : hsN (plT 4 0) = 3895 := by decide +kernel
theorem hv41 : hsN (plT 4 1) = 6155 := by decide +kernel
theorem hv42 : hsN (plT 4 2) = 220 := by decide +kernel
theorem hv43 : hsN (plT 4 3) = 9198 := by decide +kernel
theorem hv44 : hsN (plT 4 4) = 3383 := by decide +kernel
theorem hv45 : hsN (plT 4 5) = 7291 := by decide +kernel
theorem hv46 : hsN (plT 4 6) = 9270 := by decide +kernel
theorem hv47 : hsN (plT 4 7) = 1622 := by decide +kernel
theorem hv48 : hsN (plT 4 8) = 4265 := by decide +kernel
theorem hv49 : hsN (plT 4 9) = 3809 := by decide +kernel
theorem hv50 : hsN (plT 5 0) = 8722 := by decide +kernel
theorem hv51 : hsN (plT 5 1) = 5403 := by decide +kernel
theorem hv52 : hsN (plT 5 2) = 7137 := by decide +kernel
theorem hv53 : hsN (plT 5 3) = 6029 := by decide +kernel
theorem hv54 : hsN (plT 5 4) = 293 := by decide +kernel
theorem hv55 : hsN (plT 5 5) = 4010 := by decide +kernel
theorem hv56 : hsN (plT 5 6) = 9814 := by decide +kernel
theorem hv57 : hsN (plT 5 7) = 8460 := by decide +kernel
theorem hv58 : hsN (plT 5 8) = 4809 := by decide +kernel
theorem hv59 : hsN (plT 5 9) = 4341 := by decide +kernel
theorem hv60 : hsN (plT 6 0) = 6181 := by decide +kernel
theorem hv61 : hsN (plT 6 1) = 3790 := by decide +kernel
theorem hv62 : hsN (plT 6 2) = 5486 := by decide +kernel
theorem hv63 : hsN (plT 6 3) = 4488 := by decide +kernel
theorem hv64 : hsN (plT 6 4) = 8649 := by decide +kernel
theorem hv65 : hsN (plT 6 5) = 4145 := by decide +kernel
theorem hv66 : hsN (plT 6 6) = 3103 := by decide +kernel
theorem hv67 : hsN (plT 6 7) = 6919 := by decide +kernel
theorem hv68 : hsN (plT 6 8) = 8105 := by decide +kernel
theorem hv69 : hsN (plT 6 9) = 6387 := by decide +kernel
theorem hv70 : hsN (plT 7 0) = 3300 := by decide +kernel
theorem hv71 : hsN (plT 7 1) = 6880 := by decide +kernel
theorem hv72 : hsN (plT 7 2) = 8655 := by decide +kernel
theorem hv73 : hsN (plT 7 3) = 7955 := by decide +kernel
theorem hv74 : hsN (plT 7 4) = 1811 := by decide +kernel
theorem hv75 : hsN (plT 7 5) = 3601 := by decide +kernel
theorem hv76 : hsN (plT 7 6) = 2571 := by decide +kernel
theorem hv77 : hsN (plT 7 7) = 379 := by decide +kernel
theorem hv78 : hsN (plT 7 8) = 7573 := by decide +kernel
theorem hv79 : hsN (plT 7 9) = 7927 := by decide +kernel
theorem hv80 : hsN (plT 8 0) = 1176 := by decide +kernel
theorem hv81 : hsN (plT 8 1) = 5768 := by decide +kernel
theorem hv82 : hsN (plT 8 2) = 3447 := by decide +kernel
theorem hv83 : hsN (plT 8 3) = 9337 := by decide +kernel
theorem hv84 : hsN (plT 8 4) = 6610 := by decide +kernel
theorem hv85 : hsN (plT 8 5) = 772 := by decide +kernel
theorem hv86 : hsN (plT 8 6) = 4440 := by decide +kernel
theorem hv87 : hsN (plT 8 7) = 1761 := by decide +kernel
theorem hv88 : hsN (plT 8 8) = 9442 := by decide +kernel
theorem hv89 : hsN (plT 8 9) = 410 := by decide +kernel
theorem hv90 : hsN (plT 9 0) = 7484 := by decide +kernel
theorem hv91 : hsN (plT 9 1) = 100 := by decide +kernel
theorem hv92 : hsN (plT 9 2) = 8794 := by decide +kernel
theorem hv93 : hsN (plT 9 3) = 8606 := by decide +kernel
theorem hv94 : hsN (plT 9 4) = 1950 := by decide +kernel
theorem hv95 : hsN (plT 9 5) = 8778 := by decide +kernel
theorem hv96 : hsN (plT 9 6) = 9179 := by decide +kernel
theorem hv97 : hsN (plT 9 7) = 1030 := by decide +kernel
theorem hv98 : hsN (plT 9 8) = 4174 := by decide +kernel
theorem hv99 : hsN (plT 9 9) = 1439 := by decide +kernel
theorem cgN {x y : Nat} {l m : List Nat} (h : x = y) (g : l = m) : x :: l = y :: m := by rw [h, g]
theorem hs_all : ((List.range 100).map fun q => hsN (plT (q / 10) (q % 10))) = [9641, 1819, 5398, 2636, 8561, 5619, 4103, 5067, 9105, 5599, 3067, 7248, 5483, 3970, 8646, 6697, 6776, 6401, 1771, 6815, 732, 843, 323, 3633, 3486, 3064, 9919, 6064, 4914, 2457, 869, 6983, 3090, 7737, 6253, 4250, 1219, 161, 6221, 1307, 3895, 6155, 220, 9198, 3383, 7291, 9270, 1622, 4265, 3809, 8722, 5403, 7137, 6029, 293, 4010, 9814, 8460, 4809, 4341, 6181, 3790, 5486, 4488, 8649, 4145, 3103, 6919, 8105, 6387, 3300, 6880, 8655, 7955, 1811, 3601, 2571, 379, 7573, 7927, 1176, 5768, 3447, 9337, 6610, 772, 4440, 1761, 9442, 410, 7484, 100, 8794, 8606, 1950, 8778, 9179, 1030, 4174, 1439] := by
  rw [show List.range 100 = [0, 1, 2, 3, 4, 5, 6, 7, 8, 9, 10, 11, 12, 13, 14, 15, 16, 17, 18, 19, 20, 21, 22, 23, 24, 25, 26, 27, 28, 29, 30, 31, 32, 33, 34, 35, 36, 37, 38, 39, 40, 41, 42, 43, 44, 45, 46, 47, 48, 49, 50, 51, 52, 53, 54, 55, 56, 57, 58, 59, 60, 61, 62, 63, 64, 65, 66, 67, 68, 69, 70, 71, 72, 73, 74, 75, 76, 77, 78, 79, 80, 81, 82, 83, 84, 85, 86, 87, 88, 89, 90, 91, 92, 93, 94, 95, 96, 97, 98, 99] from by decide +kernel]
  exact cgN hv0 (cgN hv1 (cgN hv2 (cgN hv3 (cgN hv4 (cgN hv5 (cgN hv6 (cgN hv7 (cgN hv8 (cgN hv9 (cgN hv10 (cgN hv11 (cgN hv12 (cgN hv13 (cgN hv14 (cgN hv15 (cgN hv16 (cgN hv17 (cgN hv18 (cgN hv19 (cgN hv20 (cgN hv21 (cgN hv22 (cgN hv23 (cgN hv24 (cgN hv25 (cgN hv26 (cgN hv27 (cgN hv28 (cgN hv29 (cgN hv30 (cgN hv31 (cgN hv32 (cgN hv33 (cgN hv34 (cgN hv35 (cgN hv36 (cgN hv37 (cgN hv38 (cgN hv39 (cgN hv40 (cgN hv41 (cgN hv42 (cgN hv43 (cgN hv44 (cgN hv45 (cgN hv46 (cgN hv47 (cgN hv48 (cgN hv49 (cgN hv50 (cgN hv51 (cgN hv52 (cgN hv53 (cgN hv54 (cgN hv55 (cgN hv56 (cgN hv57 (cgN hv58 (cgN hv59 (cgN hv60 (cgN hv61 (cgN hv62 (cgN hv63 (cgN hv64 (cgN hv65 (cgN hv66 (cgN hv67 (cgN hv68 (cgN hv69 (cgN hv70 (cgN hv71 (cgN hv72 (cgN hv73 (cgN hv74 (cgN hv75 (cgN hv76 (cgN hv77 (cgN hv78 (cgN hv79 (cgN hv80 (cgN hv81 (cgN hv82 (cgN hv83 (cgN hv84 (cgN hv85 (cgN hv86 (cgN hv87 (cgN hv88 (cgN hv89 (cgN hv90 (cgN hv91 (cgN hv92 (cgN hv93 (cgN hv94 (cgN hv95 (cgN hv96 (cgN hv97 (cgN hv98 (cgN hv99 rfl)))))))))))))))))))))))))))))))))))))))))))))))))))))))))))))))))))))))))))))))))))))))))))))))))))
theorem pl_inj {i j k l : Nat} (hi : i < 10) (hj : j < 10) (hk : k < 10) (hl : l < 10) (h : plT i j = plT k l) : i = k ∧ j = l := by
  have nd : ((List.range 100).map fun q => hsN (plT (q / 10) (q % 10))).Nodup := by
    rw [hs_all]
    decide +kernel
  have e : hsN (plT ((10 * i + j) / 10) ((10 * i + j) % 10)) = hsN (plT ((10 * k + l) / 10) ((10 * k + l) % 10)) := by
    rw [show (10 * i + j) / 10 = i by omega, show (10 * i + j) % 10 = j by omega, show (10 * k + l) / 10 = k by omega, show (10 * k + l) % 10 = l by omega, h]
  have h1 : ((List.range 100).map fun q => hsN (plT (q / 10) (q % 10)))[10 * i + j]? = some (hsN (plT ((10 * i + j) / 10) ((10 * i + j) % 10))) := by
    rw [List.getElem?_map, List.getElem?_range (by omega)]
    rfl
  have h2 : ((List.range 100).map fun q => hsN (plT (q / 10) (q % 10)))[10 * k + l]? = some (hsN (plT ((10 * k + l) / 10) ((10 * k + l) % 10))) := by
    rw [List.getElem?_map, List.getElem?_range (by omega)]
    rfl
  have := (List.getElem?_inj (by rw [List.length_map, List.length_range]; omega) nd).mp (h1.trans ((congrArg some e).trans h2.symm))
  omega
def cntB (i : Nat) : Nat := (if (i - 1) / 3 = 0 then 0 else 1) + (if (i - 1) % 3 = 0 then 0 else 1)
def chgB (i j : Nat) : Nat := (if (j - 1) / 3 = (i - 1) / 3 then 0 else 1) + (if (j - 1) % 3 = (i - 1) % 3 then 0 else 1)
def dB (i j : Nat) : Nat := if j = 0 then (if i = 0 then 0 else 1) else if i = 0 then 1 + cntB j else min (chgB i j) (2 + cntB j)
theorem dB_step : ∀ i, i < 10 → ∀ j, j < 10 → ∀ e, e < 8 → ac e j < 10 ∧ dB i (ac e j) ≤ dB i j + 1 := by decide +kernel
theorem dB_pred0 : ∀ i : Fin 10, ∀ j : Fin 10, dB i j ≠ 0 → ∃ k : Fin 10, ∃ e : Fin 8, ac e k = j ∧ dB i k + 1 = dB i j := by decide +kernel
theorem dB_pred {i j : Nat} (hi : i < 10) (hj : j < 10) (h : dB i j ≠ 0) : ∃ k e, k < 10 ∧ e < 8 ∧ ac e k = j ∧ dB i k + 1 = dB i j := by
  obtain ⟨k, e, h1, h2⟩ := dB_pred0 ⟨i, hi⟩ ⟨j, hj⟩ h
  exact ⟨k, e, k.2, e.2, h1, h2⟩
theorem dB_self : ∀ i, i < 10 → dB i i = 0 := by decide +kernel
theorem dB_0 : ∀ i, i < 10 → ∀ j, j < 10 → dB i j = 0 → j = i := by decide +kernel
theorem dB_le : ∀ i, i < 10 → ∀ j, j < 10 → dB i j ≤ 4 := by decide +kernel
def cod (c : Cont) : Nat × Nat := (bN c "a", bN c "b")
def dT (s q : Nat × Nat) : Nat := dB s.1 q.1 + dB s.2 q.2
def dC (s c : Cont) : Nat := dT (cod s) (cod c)
theorem cod_lt (c : Cont) : (cod c).1 < 10 ∧ (cod c).2 < 10 := ⟨bN_lt, bN_lt⟩
def dls : List Dd := [.make "a", .make "b", .drop "a", .drop "b", .take "a" "k", .take "b" "k", .put "a" "k" xW, .put "b" "k" xW, .put "a" "k" lW, .put "b" "k" lW,
  .take "a" "l", .take "b" "l", .put "a" "l" xW, .put "b" "l" xW, .put "a" "l" lW, .put "b" "l" lW]
theorem dls_ok {d : Dd} (h : d ∈ dls) : SmD d ∧ kdD d < 8 ∧ (crD d = "a" ∨ crD d = "b") := by
  simp only [dls, List.mem_cons, List.not_mem_nil, or_false] at h
  rcases h with rfl | rfl | rfl | rfl | rfl | rfl | rfl | rfl | rfl | rfl | rfl | rfl | rfl | rfl | rfl | rfl <;>
    exact ⟨by simp [SmD], by decide +kernel, by decide +kernel⟩
theorem dls_all : ∀ e, e < 8 → (∃ d ∈ dls, crD d = "a" ∧ kdD d = e) ∧ ∃ d ∈ dls, crD d = "b" ∧ kdD d = e := by
  intro e he
  have m : ∀ i (h : i < 16), dls[i]'h ∈ dls := fun i h => List.getElem_mem h
  have hh : e = 0 ∨ e = 1 ∨ e = 2 ∨ e = 3 ∨ e = 4 ∨ e = 5 ∨ e = 6 ∨ e = 7 := by omega
  rcases hh with rfl | rfl | rfl | rfl | rfl | rfl | rfl | rfl
  · exact ⟨⟨_, m 0 (by decide), by decide +kernel, by decide +kernel⟩, ⟨_, m 1 (by decide), by decide +kernel, by decide +kernel⟩⟩
  · exact ⟨⟨_, m 2 (by decide), by decide +kernel, by decide +kernel⟩, ⟨_, m 3 (by decide), by decide +kernel, by decide +kernel⟩⟩
  · exact ⟨⟨_, m 4 (by decide), by decide +kernel, by decide +kernel⟩, ⟨_, m 5 (by decide), by decide +kernel, by decide +kernel⟩⟩
  · exact ⟨⟨_, m 6 (by decide), by decide +kernel, by decide +kernel⟩, ⟨_, m 7 (by decide), by decide +kernel, by decide +kernel⟩⟩
  · exact ⟨⟨_, m 8 (by decide), by decide +kernel, by decide +kernel⟩, ⟨_, m 9 (by decide), by decide +kernel, by decide +kernel⟩⟩
  · exact ⟨⟨_, m 10 (by decide), by decide +kernel, by decide +kernel⟩, ⟨_, m 11 (by decide), by decide +kernel, by decide +kernel⟩⟩
  · exact ⟨⟨_, m 12 (by decide), by decide +kernel, by decide +kernel⟩, ⟨_, m 13 (by decide), by decide +kernel, by decide +kernel⟩⟩
  · exact ⟨⟨_, m 14 (by decide), by decide +kernel, by decide +kernel⟩, ⟨_, m 15 (by decide), by decide +kernel, by decide +kernel⟩⟩
def acT (d : Dd) (q : Nat × Nat) : Nat × Nat := (if crD d = "a" then ac (kdD d) q.1 else q.1, if crD d = "b" then ac (kdD d) q.2 else q.2)
theorem allR_len : ∀ rs ∈ allR, rs.length ≤ 2 := by decide +kernel
theorem longL_len {c : Cont} : (setS (longL c)).length ≤ rowsN c := by
  have h1 := setS_len (longL c)
  have h2 := longL_le c
  omega
theorem sm_cards {c : Cont} (h : Sm c) : c.length ≤ 2 ∧ rowsN c ≤ 4 ∧ cardsN c ≤ 10 := by
  have hl : c.length ≤ 2 ∧ rowsN c ≤ 4 := by
    rcases sm_shape h with rfl | ⟨x, rs, rfl, _, hr⟩ | ⟨x, rs, y, ws, rfl, hr, hw, _⟩
    · exact ⟨by decide, by decide⟩
    · have := allR_len _ hr
      refine ⟨by show 1 ≤ 2; decide, ?_⟩
      show rs.length + 0 ≤ 4
      omega
    · have := allR_len _ hr
      have := allR_len _ hw
      refine ⟨Nat.le_refl 2, ?_⟩
      show rs.length + (ws.length + 0) ≤ 4
      omega
  have := longL_len (c := c)
  refine ⟨hl.1, hl.2, ?_⟩
  unfold cardsN
  omega
theorem done_sm {c : Cont} {d : Dd} (h : Sm c) (hd : d ∈ dls) : Sm (doneC c d).1 ∧ cod (doneC c d).1 = acT d (cod c) := by
  obtain ⟨sd, _, cr⟩ := dls_ok hd
  by_cases hw : whyC c d = none
  · have s2 := sm_do h sd hw
    have e : (doneC c d).1 = doC c d := by
      unfold doneC
      rw [hw]
      have := (sm_cards s2).2.2
      show (if cardsN (doC c d) < 97 then (doC c d, (Tl.D.tup [] : Tl.D)) else _).1 = _
      rw [if_pos (by omega)]
    rw [e]
    refine ⟨s2, ?_⟩
    unfold cod acT
    rw [bN_do h sd hw, bN_do h sd hw]
    rcases cr with cr | cr
    · rw [cr, if_pos rfl, if_neg (Ne.symm ab_ne), if_neg ab_ne]
    · rw [cr, if_neg ab_ne, if_pos rfl, if_neg (Ne.symm ab_ne)]
  · have e : (doneC c d).1 = c := by
      unfold doneC
      cases q : whyC c d with
      | none => exact absurd q hw
      | some y => rfl
    rw [e]
    refine ⟨h, ?_⟩
    have := bN_no_do h sd hw
    unfold cod acT
    rcases cr with cr | cr
    · rw [cr] at this ⊢
      rw [if_pos rfl, if_neg ab_ne, this]
    · rw [cr] at this ⊢
      rw [if_neg (Ne.symm ab_ne), if_pos rfl, this]
theorem dT_step {s q : Nat × Nat} {d : Dd} (hs : s.1 < 10 ∧ s.2 < 10) (hq : q.1 < 10 ∧ q.2 < 10) (hd : d ∈ dls) : dT s (acT d q) ≤ dT s q + 1 := by
  obtain ⟨_, k, cr⟩ := dls_ok hd
  unfold dT acT
  have h1 := (dB_step s.1 hs.1 q.1 hq.1 _ k).2
  have h2 := (dB_step s.2 hs.2 q.2 hq.2 _ k).2
  rcases cr with cr | cr
  · rw [cr, if_pos rfl, if_neg ab_ne]
    show dB s.1 (ac (kdD d) q.1) + dB s.2 q.2 ≤ dB s.1 q.1 + dB s.2 q.2 + 1
    omega
  · rw [cr, if_neg (Ne.symm ab_ne), if_pos rfl]
    show dB s.1 q.1 + dB s.2 (ac (kdD d) q.2) ≤ dB s.1 q.1 + dB s.2 q.2 + 1
    omega
theorem dT_pred {s q : Nat × Nat} (hs : s.1 < 10 ∧ s.2 < 10) (hq : q.1 < 10 ∧ q.2 < 10) (h : dT s q ≠ 0) : ∃ p : Nat × Nat, (p.1 < 10 ∧ p.2 < 10) ∧ dT s p + 1 = dT s q ∧ ∃ d ∈ dls, acT d p = q := by
  unfold dT at h
  by_cases z : dB s.1 q.1 = 0
  · obtain ⟨k, e, h1, h2, h3, h4⟩ := dB_pred hs.2 hq.2 (by omega : dB s.2 q.2 ≠ 0)
    obtain ⟨d, md, c1, c2⟩ := (dls_all e h2).2
    refine ⟨(q.1, k), ⟨hq.1, h1⟩, by unfold dT; show dB s.1 q.1 + dB s.2 k + 1 = _; omega, d, md, ?_⟩
    unfold acT
    rw [c1, c2, if_neg (Ne.symm ab_ne), if_pos rfl, h3]
  · obtain ⟨k, e, h1, h2, h3, h4⟩ := dB_pred hs.1 hq.1 z
    obtain ⟨d, md, c1, c2⟩ := (dls_all e h2).1
    refine ⟨(k, q.2), ⟨h1, hq.2⟩, by unfold dT; show dB s.1 k + dB s.2 q.2 + 1 = _; omega, d, md, ?_⟩
    unfold acT
    rw [c1, c2, if_pos rfl, if_neg ab_ne, h3]
theorem dT_down {s : Nat × Nat} (hs : s.1 < 10 ∧ s.2 < 10) {k : Nat} : ∀ (n : Nat) (q : Nat × Nat), q.1 < 10 ∧ q.2 < 10 → dT s q = k + n → ∃ p : Nat × Nat, (p.1 < 10 ∧ p.2 < 10) ∧ dT s p = k
  | 0, q, hq, h => ⟨q, hq, h⟩
  | n + 1, q, hq, h => by
    obtain ⟨p, hp, e, _⟩ := dT_pred hs hq (by omega)
    exact dT_down hs n p hp (by omega)
def cods (F : List (Nat × Cont)) : List (Nat × Nat) := F.map fun e => cod e.2
structure RHd (s : Cont) (k : Nat) (F : List (Nat × Cont)) (E : List Cont) : Prop where
  ok : ∀ e ∈ F, Sm e.2 ∧ e.1 = dC s e.2 ∧ e.1 ≤ k
  nd : (cods F).Nodup
  all : ∀ q : Nat × Nat, q.1 < 10 ∧ q.2 < 10 → dT (cod s) q ≤ k → q ∈ cods F
  edge : ∀ c ∈ E, Sm c ∧ dC s c = k
  edgeF : ∀ q : Nat × Nat, q.1 < 10 ∧ q.2 < 10 → dT (cod s) q = k → ∃ c ∈ E, cod c = q
  len : E.length ≤ F.length
structure RIn (s : Cont) (k : Nat) (F : List (Nat × Cont)) (L : List Cont) : Prop where
  ok : ∀ e ∈ F, Sm e.2 ∧ e.1 = dC s e.2 ∧ e.1 ≤ k + 1
  nd : (cods F).Nodup
  all : ∀ q : Nat × Nat, q.1 < 10 ∧ q.2 < 10 → dT (cod s) q ≤ k → q ∈ cods F
  lat : ∀ c ∈ L, Sm c ∧ dC s c = k + 1
  latF : ∀ e ∈ F, e.1 = k + 1 → ∃ c ∈ L, cod c = cod e.2
  len : L.length ≤ F.length
theorem rhd_start {s : Cont} (h : Sm s) : RHd s 0 [(0, s)] [s] := by
  have hs := cod_lt s
  have z : dC s s = 0 := by
    unfold dC dT
    rw [dB_self _ hs.1, dB_self _ hs.2]
  have one : ∀ q : Nat × Nat, q.1 < 10 ∧ q.2 < 10 → dT (cod s) q ≤ 0 → q = cod s := fun q hq e => by
    unfold dT at e
    exact Prod.ext (dB_0 _ hs.1 _ hq.1 (by omega)) (dB_0 _ hs.2 _ hq.2 (by omega))
  exact ⟨fun e he => by rw [List.mem_singleton.mp he]; exact ⟨h, z.symm, Nat.le_refl 0⟩, by simp [cods], fun q hq e => List.mem_singleton.mpr (one q hq e), fun c hc => by rw [List.mem_singleton.mp hc]; exact ⟨h, z⟩, fun q hq e => ⟨s, List.mem_singleton.mpr rfl, (one q hq (Nat.le_of_eq e)).symm⟩, Nat.le_refl 1⟩
theorem RHd.inn {s : Cont} {k : Nat} {F : List (Nat × Cont)} {E : List Cont} (h : RHd s k F E) : RIn s k F [] :=
  ⟨fun e he => ⟨(h.ok e he).1, (h.ok e he).2.1, Nat.le_succ_of_le (h.ok e he).2.2⟩, h.nd, h.all, (fun _ m => nomatch m), (fun e he z => by have := (h.ok e he).2.2; omega), Nat.zero_le _⟩
theorem RIn.lens {s : Cont} {k : Nat} {F : List (Nat × Cont)} {L : List Cont} (h : RIn s k F L) : F.length ≤ 100 := by
  have hl := len_sub (m := (List.range 10).flatMap fun i => (List.range 10).map fun j => (i, j)) h.nd fun q hq => by
    obtain ⟨e, _, rfl⟩ := List.mem_map.mp hq
    have := cod_lt e.2
    exact List.mem_flatMap.mpr ⟨(cod e.2).1, List.mem_range.mpr this.1, List.mem_map.mpr ⟨(cod e.2).2, List.mem_range.mpr this.2, rfl⟩⟩
  have e1 : (cods F).length = F.length := List.length_map _
  have e2 : ((List.range 10).flatMap fun i => (List.range 10).map fun j => (i, j)).length = 100 := by decide +kernel
  omega
theorem RIn.step {s : Cont} {k : Nat} {F : List (Nat × Cont)} {L : List Cont} (h : RIn s k F L) {c : Cont} {d : Dd} (hs : Sm s) (hc : Sm c) (hk : dC s c = k) (hd : d ∈ dls) (hn : cod (doneC c d).1 ∉ cods F) : RIn s k (F ++ [(k + 1, (doneC c d).1)]) (L ++ [(doneC c d).1]) := by
  obtain ⟨s2, e2⟩ := done_sm hc hd
  have h1 : dC s (doneC c d).1 ≤ k + 1 := by
    rw [← hk]
    unfold dC
    rw [e2]
    exact dT_step (cod_lt s) (cod_lt c) hd
  have h2 : dC s (doneC c d).1 = k + 1 := by
    by_cases z : dC s (doneC c d).1 ≤ k
    · exact absurd (h.all _ (cod_lt _) z) hn
    · omega
  refine ⟨fun e he => ?_, ?_, fun q hq e => ?_, fun c hc => ?_, fun e he z => ?_, ?_⟩
  · rcases List.mem_append.mp he with he | he
    · exact h.ok e he
    · rw [List.mem_singleton.mp he]
      exact ⟨s2, h2.symm, Nat.le_refl _⟩
  · unfold cods
    rw [List.map_append, List.nodup_append]
    exact ⟨h.nd, by simp, fun a ha b hb z => by
      rw [List.map_singleton, List.mem_singleton] at hb
      exact hn (hb ▸ z ▸ ha)⟩
  · unfold cods
    rw [List.map_append]
    exact List.mem_append_left _ (h.all q hq e)
  · rcases List.mem_append.mp hc with hc | hc
    · exact h.lat c hc
    · rw [List.mem_singleton.mp hc]
      exact ⟨s2, h2⟩
  · rcases List.mem_append.mp he with he | he
    · obtain ⟨c, m, g⟩ := h.latF e he z
      exact ⟨c, List.mem_append_left _ m, g⟩
    · rw [List.mem_singleton.mp he]
      exact ⟨_, List.mem_append_right _ (List.mem_singleton.mpr rfl), rfl⟩
  · rw [List.length_append, List.length_append]
    have := h.len
    simp
    omega
theorem RIn.next {s : Cont} {k : Nat} {F F0 : List (Nat × Cont)} {E L : List Cont} (h : RIn s k F L) (he : RHd s k F0 E) (hp : ∀ c ∈ E, ∀ d ∈ dls, cod (doneC c d).1 ∈ cods F) : RHd s (k + 1) F L := by
  have all : ∀ q : Nat × Nat, q.1 < 10 ∧ q.2 < 10 → dT (cod s) q ≤ k + 1 → q ∈ cods F := fun q hq e => by
    by_cases z : dT (cod s) q ≤ k
    · exact h.all q hq z
    · obtain ⟨p, p1, p2, d, md, p3⟩ := dT_pred (cod_lt s) hq (by omega)
      obtain ⟨c, mc, ec⟩ := he.edgeF p p1 (by omega)
      have := hp c mc d md
      rw [(done_sm (he.edge c mc).1 md).2, ec, p3] at this
      exact this
  refine ⟨h.ok, h.nd, all, h.lat, fun q hq e => ?_, h.len⟩
  obtain ⟨x, mx, ex⟩ := List.mem_map.mp (all q hq (Nat.le_of_eq e))
  obtain ⟨c, mc, ec⟩ := h.latF x mx (by rw [(h.ok x mx).2.1]; unfold dC; rw [ex]; exact e)
  exact ⟨c, mc, ec.trans ex⟩
theorem RHd.low {s : Cont} {k : Nat} {F : List (Nat × Cont)} {c : Cont} {E : List Cont} (h : RHd s k F (c :: E)) : k ≤ 8 := by
  rw [← (h.edge c List.mem_cons_self).2]
  unfold dC dT
  have h1 := dB_le _ (cod_lt s).1 _ (cod_lt c).1
  have h2 := dB_le _ (cod_lt s).2 _ (cod_lt c).2
  omega
theorem RHd.fin {s : Cont} {k : Nat} {F : List (Nat × Cont)} (h : RHd s k F []) : F.length = 100 := by
  have no : ∀ q : Nat × Nat, q.1 < 10 ∧ q.2 < 10 → dT (cod s) q ≤ k := fun q hq => Classical.byContradiction fun z => by
    obtain ⟨p, hp, e⟩ := dT_down (cod_lt s) (k := k) (dT (cod s) q - k) q hq (by omega)
    obtain ⟨c, mc, _⟩ := h.edgeF p hp e
    cases mc
  have h1 := len_sub (l := (List.range 10).flatMap fun i => (List.range 10).map fun j => (i, j)) (m := cods F) (by decide +kernel) fun q hq => by
    obtain ⟨i, hi, hq⟩ := List.mem_flatMap.mp hq
    obtain ⟨j, hj, rfl⟩ := List.mem_map.mp hq
    have v : i < 10 ∧ j < 10 := ⟨List.mem_range.mp hi, List.mem_range.mp hj⟩
    exact h.all (i, j) v (no (i, j) v)
  have e1 : (cods F).length = F.length := List.length_map _
  have e2 : ((List.range 10).flatMap fun i => (List.range 10).map fun j => (i, j)).length = 100 := by decide +kernel
  have := h.inn.lens
  omega
def entF (F : List (Nat × Cont)) : List (Key × D) := F.map fun e => (Sum.inr (sgT e.2), .tup [.int (e.1 : Nat), cntD e.2])
theorem sg_cod {b c : Cont} (hb : Sm b) (hc : Sm c) : sgT b = sgT c ↔ cod b = cod c := by
  rw [sgT_is hb, sgT_is hc]
  constructor
  · intro h
    obtain ⟨h1, h2⟩ := pl_inj bN_lt bN_lt bN_lt bN_lt h
    exact Prod.ext h1 h2
  · intro h
    have h1 : bN b "a" = bN c "a" := congrArg Prod.fst h
    have h2 : bN b "b" = bN c "b" := congrArg Prod.snd h
    rw [h1, h2]
theorem ent_some {F : List (Nat × Cont)} {c : Cont} (hF : ∀ e ∈ F, Sm e.2) (hc : Sm c) (h : cod c ∈ cods F) : ∃ e ∈ F, cod e.2 = cod c ∧ getD' (entF F) (Sum.inr (sgT c)) = some (.tup [.int (e.1 : Nat), cntD e.2]) := by
  induction F with
  | nil => cases h
  | cons x F ih =>
    by_cases z : sgT x.2 = sgT c
    · refine ⟨x, List.mem_cons_self, (sg_cod (hF x List.mem_cons_self) hc).mp z, ?_⟩
      unfold getD' entF
      rw [List.map_cons, List.find?_cons_of_pos (by simpa using z)]
      rfl
    · have nz : cod x.2 ≠ cod c := fun q => z ((sg_cod (hF x List.mem_cons_self) hc).mpr q)
      obtain ⟨e, me, h1, h2⟩ := ih (fun e m => hF e (List.mem_cons_of_mem _ m)) ((List.mem_cons.mp h).resolve_left fun q => nz q.symm)
      refine ⟨e, List.mem_cons_of_mem _ me, h1, ?_⟩
      rw [← h2]
      unfold getD' entF
      rw [List.map_cons, List.find?_cons_of_neg (by simpa using z)]
theorem ent_none {F : List (Nat × Cont)} {c : Cont} (hF : ∀ e ∈ F, Sm e.2) (hc : Sm c) (h : cod c ∉ cods F) : getD' (entF F) (Sum.inr (sgT c)) = none := by
  unfold getD' entF
  rw [Option.map_eq_none_iff, List.find?_eq_none]
  intro kv hkv e
  obtain ⟨x, mx, rfl⟩ := List.mem_map.mp hkv
  have e : sgT x.2 = sgT c := Sum.inr.inj (of_decide_eq_true e)
  exact h (List.mem_map.mpr ⟨x, mx, (sg_cod (hF x mx) hc).mp e⟩)
theorem ent_new {F : List (Nat × Cont)} {c : Cont} {k : Nat} (hF : ∀ e ∈ F, Sm e.2) (hc : Sm c) (h : cod c ∉ cods F) : putD (entF F) (Sum.inr (sgT c)) (.tup [.int (k : Nat), cntD c]) = entF (F ++ [(k, c)]) := by
  rw [putD_new (getD_none (ent_none hF hc h))]
  unfold entF
  rw [List.map_append]
  rfl
def nTk (rs ws : List (Str × Str)) : Nat := ((rs.map (·.1)).filter fun k => decide (k ∉ ws.map (·.1))).length
def nPt (rs ws : List (Str × Str)) : Nat := ((ws.map (·.1)).filter fun k => decide ((k, valR ws k) ∉ rs)).length
theorem chg_len {x : Str} {rs ws : List (Str × Str)} : (chgD x rs ws).length = nTk rs ws + nPt rs ws := by
  unfold chgD nTk nPt
  rw [List.length_append, List.length_map, List.length_map, (srtS_perm.filter _).length_eq, (srtS_perm.filter _).length_eq]
theorem fill_len {x : Str} {rs : List (Str × Str)} : (fillD x rs).length = rs.length := by
  unfold fillD
  rw [List.length_map, srtS_perm.length_eq, List.length_map]
theorem box_len {a b : Cont} {x : Str} : (boxD a b x).length = if inC b x then (if inC a x then min (nTk (rowsAt a x) (rowsAt b x) + nPt (rowsAt a x) (rowsAt b x)) (2 + (rowsAt b x).length) else 1 + (rowsAt b x).length) else 1 := by
  unfold boxD
  split
  · split
    · rw [List.length_cons, List.length_cons, fill_len, chg_len]
      split
      · rw [chg_len]
        omega
      · rw [List.length_cons, List.length_cons, fill_len]
        omega
    · rw [List.length_cons, fill_len]
      omega
  · rfl
theorem two_len : ∀ rs ∈ allR, ∀ ws ∈ allR, nTk rs ws + nPt rs ws = chgB (1 + 3 * vN rs "k" + vN rs "l") (1 + 3 * vN ws "k" + vN ws "l") := by decide +kernel
theorem cnt_len : ∀ ws ∈ allR, ws.length = cntB (1 + 3 * vN ws "k" + vN ws "l") := by decide +kernel
theorem sm_rows {c : Cont} {x : Str} (h : Sm c) (hx : inC c x) : rowsAt c x ∈ allR := by
  have m := rowsAt_in h.1 hx
  exact smr_in (h.1.2 _ m).2.1 (h.2 _ m).2
theorem box_dist {a b : Cont} {x : Str} (ha : Sm a) (hb : Sm b) (h : inC a x ∨ inC b x) : (boxD a b x).length = dB (bN a x) (bN b x) := by
  rw [box_len]
  unfold dB
  by_cases q : inC b x
  · have nb : ¬ bN b x = 0 := by rw [bN_yes q]; omega
    rw [if_pos q, if_neg nb, cnt_len _ (sm_rows hb q), ← bN_yes q]
    by_cases p : inC a x
    · have na : ¬ bN a x = 0 := by rw [bN_yes p]; omega
      rw [if_pos p, if_neg na, two_len _ (sm_rows ha p) _ (sm_rows hb q), ← bN_yes q, ← bN_yes p]
    · rw [if_neg p, if_pos (bN_no p)]
  · have p := h.resolve_right q
    have na : ¬ bN a x = 0 := by rw [bN_yes p]; omega
    rw [if_neg q, if_pos (bN_no q), if_neg na]
theorem two_shape : ∀ {l : List Str}, l.Nodup → (∀ x ∈ l, x = "a" ∨ x = "b") → l = [] ∨ l = [("a" : Str)] ∨ l = [("b" : Str)] ∨ l = [("a" : Str), ("b" : Str)] ∨ l = [("b" : Str), ("a" : Str)]
  | [], _, _ => .inl rfl
  | [x], _, h => by
    rcases h x List.mem_cons_self with rfl | rfl
    · exact .inr (.inl rfl)
    · exact .inr (.inr (.inl rfl))
  | [x, y], nd, h => by
    have n1 := nodup2 nd
    rcases h x List.mem_cons_self with rfl | rfl <;> rcases h y (List.mem_cons_of_mem _ List.mem_cons_self) with rfl | rfl
    · exact absurd rfl n1
    · exact .inr (.inr (.inr (.inl rfl)))
    · exact .inr (.inr (.inr (.inr rfl)))
    · exact absurd rfl n1
  | x :: y :: z :: r, nd, h => by
    have n1 : x ≠ y := nodup2 nd
    have n2 : y ≠ z := nodup2 (List.nodup_cons.mp nd).2
    have n3 : x ≠ z := fun e => (List.nodup_cons.mp nd).1 (List.mem_cons_of_mem _ (e ▸ List.mem_cons_self))
    rcases h x List.mem_cons_self with h1 | h1 <;> rcases h y (List.mem_cons_of_mem _ List.mem_cons_self) with h2 | h2 <;> rcases h z (List.mem_cons_of_mem _ (List.mem_cons_of_mem _ List.mem_cons_self)) with h3 | h3 <;>
      first | exact absurd (h1.trans h2.symm) n1 | exact absurd (h2.trans h3.symm) n2 | exact absurd (h1.trans h3.symm) n3
theorem sum_two {l : List Str} {f : Str → Nat} (nd : l.Nodup) (h : ∀ x ∈ l, x = "a" ∨ x = "b") (h0 : ∀ x, x ∉ l → f x = 0) : (l.map f).sum = f "a" + f "b" := by
  have ab : ("a" : Str) ≠ "b" := ab_ne
  rcases two_shape nd h with rfl | rfl | rfl | rfl | rfl
  · rw [h0 "a" List.not_mem_nil, h0 "b" List.not_mem_nil]
    rfl
  · rw [h0 "b" (by simpa using Ne.symm ab)]
    simp
  · rw [h0 "a" (by simpa using ab)]
    simp
  · simp
  · simp
    omega
theorem way_dist {a b : Cont} (ha : Sm a) (hb : Sm b) : (wayD a b).length = dC a b := by
  unfold wayD
  have ia := ((sm_in ha.1).mp ha).1
  have ib := ((sm_in hb.1).mp hb).1
  have mem : ∀ x, x ∈ setS (a.map (·.1) ++ b.map (·.1)) ↔ inC a x ∨ inC b x := fun x => setS_mem.trans List.mem_append
  rw [List.length_flatMap, List.map_congr_left (g := fun x => dB (bN a x) (bN b x)) fun x hx => box_dist ha hb ((mem x).mp hx)]
  rw [sum_two (f := fun x => dB (bN a x) (bN b x)) setS_nd (fun x hx => ((mem x).mp hx).elim (ia x) (ib x)) fun x hx => by
    have hx : ¬ (inC a x ∨ inC b x) := fun z => hx ((mem x).mpr z)
    show dB (bN a x) (bN b x) = 0
    rw [bN_no fun z => hx (.inl z), bN_no fun z => hx (.inr z)]
    rfl]
  rfl
theorem gt_notbox {δ : List Slot} {n : Sto} {Φ : Bool → Sto → Prop} {i j : Nat} {x : Str} {c : Cont} (hi : δ[i]? = some (.d (.str x))) (hj : δ[j]? = some (.d (cntD c))) (h1 : ¬ inC c x → Φ true n) (h2 : inC c x → Φ false n) : GT K Z (tTest (tDNotIn (tVar i) (tVar j))) δ n Φ :=
  gt_test (gk_notinA (gk_var hi (gk_var hj ⟨cntE c, .inr x, .inr (.inl rfl), rfl, !decide (inC c x), congrArg D.bl (by rw [getC_is]), by
    by_cases z : inC c x
    · rw [decide_eq_true z]
      exact h2 z
    · rw [decide_eq_false z]
      exact h1 z⟩)))
theorem lk_dct {K : PySem.W.Frag} [Tabl] {Z : XZ} {B : Option Addr} {δ : List Slot} {n : Sto} {N Bk Ct : List Slot → Sto → Prop} {R : D → Sto → Prop} {p : Addr} {es : List (Key × D)} {i : Nat} (hi : δ[i]? = some (.d (.ptr p))) (hp : n.μ p = some (.dic es)) (k : R (.dct es) ⟨n.n, m00⟩) : GS K Z B (tLockS (tRet (tVar i))) δ n N R Bk Ct := by
  have hil : i < δ.length := (List.getElem?_eq_some_iff.mp hi).1
  refine gs_lockS [p] (gs_lk1 (r := []) hp (δ.set i (.d (.dct es))) ⟨n.n, m00⟩ (by rw [List.length_set]) (fun j s' hs => ?_) rfl (fun a o' ha => by cases ha) (gs_ret (gk_var (List.getElem?_set_self hil) k)))
  by_cases e : i = j
  · subst e
    rw [List.getElem?_set_self hil] at hs
    cases hs
    exact ⟨_, hi, .inr ⟨_, _, rfl, rfl, .inr ⟨rfl, rfl⟩⟩⟩
  · rw [List.getElem?_set_ne e] at hs
    exact ⟨s', hs, .inl rfl⟩
def putF (x : Str) (rs : List (Str × Str)) : D → D
  | .str k => .tup [.str "put", .str x, .str k, .str (valR rs k)]
  | d => d
def sp_filling (K : PySem.W.Frag) : Sp := spP K fun ds Φ => ∃ (x : Str) (rs : List (Str × Str)), ds = [.str x, rowD rs] ∧ (rs.map (·.1)).Nodup ∧ rs.length ≤ 1000 ∧ Φ (.lst ((fillD x rs).map Dd.D))
theorem ok_filling (T : Txt K mg) : FnOk P w K mg base CX0 1 T.f_filling T.fd_filling ["box", "rows"] (sp_filling K) := by
  refine fn_P T.F_filling sc_filling (fun ds Φ h => ?_) (fun cdv A outer s H E hr => ⟨_, (pss_one (ps_ret (pe_lc (own := [("key", 2)]) (g := gName 2) (by rfl) sc_filling.nd (pi_list (pe_callB (cr_sortDk rfl hr.units) (by rfl) T.z_sorted (by decide +kernel) (pa_cons (pv 1) pa_nil))) (blkOk_by (own := [("key", 2)]) (N := ["box", "rows", "key"]) (sc := defScope s_filling) (by decide +kernel)) (fun _ _ _ _ _ => (pg_name (i := 2) sc_filling.nd rfl (Or.inl rfl))) (fun _ _ _ _ _ => pts_nil) (fun _ _ _ _ _ => (pe_tup (pa_cons pe_str (pa_cons (pv 0) (pa_cons (pv 2) (pa_cons (pe_dget (hu_by hr) (pv 1) (pv 2) (fun _ _ => rfl)) pa_nil))))))))), fun ds Φ h => ?_⟩)
  · obtain ⟨x, rs, rfl, _⟩ := h
    rfl
  · obtain ⟨x, rs, rfl, nd, hl, k⟩ := h
    walk_at "k"
    refine gs_ret (gk_map1 (f := putF x rs) (fun _ h => nomatch (show some Slot.un = some _ from h)) (gi_list (gk_cb (ga_cons (gk_var rfl (ga_nil (rc_sortDA (ks := rs.map (·.1)) (.inr (.inl rfl)) (keysR rs) ⟨_, rfl, ?_, fun y hy => ?_, ?_⟩)))))))
    · rw [List.length_map, srtS_perm.length_eq, List.length_map]
      omega
    · obtain ⟨k, hk, rfl⟩ := List.mem_map.mp hy
      exact gk_tup (ga_cons (gk_s (ga_cons (gk_var rfl (ga_cons (gk_var rfl (ga_cons (gk_dgetL (gk_var rfl ⟨rowE rs, rfl, gk_var rfl ⟨.inr k, _, rfl, rowE_get nd (valR_in nd (srtS_perm.mem_iff.mp hk)), ga_nil ⟨by show 4 ≤ 100000; decide, rfl, rfl⟩⟩⟩)))))))))
    · have : ((srtS (rs.map (·.1))).map D.str).map (putF x rs) = (fillD x rs).map Dd.D := by
        unfold fillD
        rw [List.map_map, List.map_map]
        rfl
      rw [this]
      exact k
theorem c_filling {δ : List Slot} {n : Sto} {Φ : D → Sto → Prop} {x : Str} {rs : List (Str × Str)} (nd : (rs.map (·.1)).Nodup) (hl : rs.length ≤ 1000) (k : Φ (.lst ((fillD x rs).map Dd.D)) n) : SC K Z (sp_filling K) [.str x, rowD rs] δ n Φ := sc_P ⟨x, rs, rfl, nd, hl, k⟩
def takeF (x : Str) : D → D
  | .str k => .tup [.str "take", .str x, .str k]
  | d => d
def goneC (ws : List (Str × Str)) : D → Bool
  | .str k => decide (k ∉ ws.map (·.1))
  | _ => false
def newC (rs ws : List (Str × Str)) : D → Bool
  | .str k => decide ((k, valR ws k) ∉ rs)
  | _ => false
def sp_changes (K : PySem.W.Frag) : Sp := spP K fun ds Φ => ∃ (x : Str) (rs ws : List (Str × Str)), ds = [.str x, rowD rs, rowD ws] ∧ (rs.map (·.1)).Nodup ∧ (ws.map (·.1)).Nodup ∧ rs.length ≤ 1000 ∧ ws.length ≤ 1000 ∧ Φ (.lst ((chgD x rs ws).map Dd.D))
theorem ok_changes (T : Txt K mg) : FnOk P w K mg base CX0 1 T.f_changes T.fd_changes ["box", "rows", "wanted"] (sp_changes K) := by
  refine fn_P T.F_changes sc_changes (fun ds Φ h => ?_) (fun cdv A outer s H E hr => ⟨_, (pss_cons (ps_setLc (i := 3) (own := [("key", 4)]) (g := gName 4) (by rfl) sc_changes.nd rfl rfl (sw_true rfl rfl rfl (by decide +kernel)) (pi_list (pe_callB (cr_sortDk rfl hr.units) (by rfl) T.z_sorted (by decide +kernel) (pa_cons (pv 1) pa_nil))) (blkOk_by (own := [("key", 4)]) (N := ["box", "rows", "wanted", "found", "key"]) (sc := defScope s_changes) (by decide +kernel)) (fun _ _ _ _ _ => (pg_name (i := 4) sc_changes.nd rfl (Or.inl rfl))) (fun _ _ _ _ _ => (pts_one (pt_cmp (pc_dnotin (hu_by hr) (pv 4) (pv 2))))) (fun _ _ _ _ _ => (pe_tup (pa_cons pe_str (pa_cons (pv 0) (pa_cons (pv 4) pa_nil))))))
      (pss_one (ps_ret (pe_op op_cat (pv 3) (pe_lc (own := [("key", 4)]) (g := gName 4) (by rfl) sc_changes.nd (pi_list (pe_callB (cr_sortDk rfl hr.units) (by rfl) T.z_sorted (by decide +kernel) (pa_cons (pv 2) pa_nil))) (blkOk_by (own := [("key", 4)]) (N := ["box", "rows", "wanted", "found", "key"]) (sc := defScope s_changes) (by decide +kernel)) (fun _ _ _ _ _ => (pg_name (i := 4) sc_changes.nd rfl (Or.inl rfl))) (fun _ _ _ _ _ => (pts_one (pt_cmpR op_ne (pe_dget1 (hu_by hr) (pv 1) (pv 4) ⟨rfl, rfl, rfl, rfl⟩) (pe_dget (hu_by hr) (pv 2) (pv 4) (fun _ _ => rfl)) (nomark _)))) (fun _ _ _ _ _ => (pe_tup (pa_cons pe_str (pa_cons (pv 0) (pa_cons (pv 4) (pa_cons (pe_dget (hu_by hr) (pv 2) (pv 4) (fun _ _ => rfl)) pa_nil))))))))))), fun ds Φ h => ?_⟩)
  · obtain ⟨x, rs, ws, rfl, _⟩ := h
    rfl
  · obtain ⟨x, rs, ws, rfl, nr, nw, hr1, hw1, k⟩ := h
    walk_at "k"
    have e1 : (((srtS (rs.map (·.1))).map D.str).filter (goneC ws)).map (takeF x) = (((srtS (rs.map (·.1))).filter fun k => decide (k ∉ ws.map (·.1))).map fun k => Dd.take x k).map Dd.D := by
      rw [List.filter_map, List.map_map, List.map_map]
      rfl
    have e2 : (((srtS (ws.map (·.1))).map D.str).filter (newC rs ws)).map (putF x ws) = (((srtS (ws.map (·.1))).filter fun k => decide ((k, valR ws k) ∉ rs)).map fun k => Dd.put x k (valR ws k)).map Dd.D := by
      rw [List.filter_map, List.map_map, List.map_map]
      rfl
    refine gs_seq (gs_asg (gk_filt1 (f := takeF x) (c := goneC ws) (fun _ h => nomatch (show some Slot.un = some _ from h)) (gi_list (gk_cb (ga_cons (gk_var rfl (ga_nil (rc_sortDA (ks := rs.map (·.1)) (.inr (.inl rfl)) (keysR rs) ⟨_, rfl, ?_, fun y hy => ?_, ?_⟩))))))))
    · rw [List.length_map, srtS_perm.length_eq, List.length_map]
      omega
    · obtain ⟨k, hk, rfl⟩ := List.mem_map.mp hy
      refine gt_test (gk_notinA (gk_var rfl (gk_var rfl ⟨rowE ws, .inr k, .inr (.inl rfl), rfl, _, rfl, ?_, rfl, fun _ => ?_⟩)))
      · rw [getR_is]
        show _ = decide (k ∉ ws.map (·.1))
        by_cases q : k ∈ ws.map (·.1) <;> simp [q]
      · exact gk_tup (ga_cons (gk_s (ga_cons (gk_var rfl (ga_cons (gk_var rfl (ga_nil ⟨by show 3 ≤ 100000; decide, rfl, rfl⟩)))))))
    rw [e1]
    refine gs_ret (gk_op (gk_var rfl (gk_filt1 (f := putF x ws) (c := newC rs ws) (fun _ h => nomatch (show some Slot.un = some _ from h)) (gi_list (gk_cb (ga_cons (gk_var rfl (ga_nil (rc_sortDA (ks := ws.map (·.1)) (.inr (.inl rfl)) (keysR ws) ⟨_, rfl, ?_, fun y hy => ?_, ?_⟩)))))))))
    · rw [List.length_map, srtS_perm.length_eq, List.length_map]
      omega
    · obtain ⟨k, hk, rfl⟩ := List.mem_map.mp hy
      have kw := valR_in nw (srtS_perm.mem_iff.mp hk)
      refine gt_test (gk_op (gk_get1A (gk_var rfl ⟨rowE rs, .inr (.inl rfl), gk_var rfl ⟨.inr k, rfl, rfl, gk_dgetL (gk_var rfl ⟨rowE ws, rfl, gk_var rfl ⟨.inr k, _, rfl, rowE_get nw kw, ?_⟩⟩)⟩⟩)))
      cases g : getD' (rowE rs) (Sum.inr k) with
      | none =>
        refine rk_ne (u := .non) (w := .str (valR ws k)) rfl rfl rfl ⟨_, rfl, ?_, rfl, fun _ => gk_tup (ga_cons (gk_s (ga_cons (gk_var rfl (ga_cons (gk_var rfl (ga_cons (gk_dgetL (gk_var rfl ⟨rowE ws, rfl, gk_var rfl ⟨.inr k, _, rfl, rowE_get nw kw, ga_nil ⟨by show 4 ≤ 100000; decide, rfl, rfl⟩⟩⟩)))))))))⟩
        have : (k, valR ws k) ∉ rs := fun m => by
          rw [rowE_get nr m] at g
          cases g
        show _ = decide _
        rw [decide_eq_true this]
        simp
      | some d =>
        have hd : ∃ z, d = .str z := by
          unfold getD' at g
          obtain ⟨kv, hkv, rfl⟩ := Option.map_eq_some_iff.mp g
          obtain ⟨w, _, rfl⟩ := List.mem_map.mp (List.mem_of_find?_eq_some hkv)
          exact ⟨_, rfl⟩
        obtain ⟨z, rfl⟩ := hd
        have mz := (getR_some nr).mp g
        refine rk_neS ⟨_, rfl, ?_, rfl, fun _ => gk_tup (ga_cons (gk_s (ga_cons (gk_var rfl (ga_cons (gk_var rfl (ga_cons (gk_dgetL (gk_var rfl ⟨rowE ws, rfl, gk_var rfl ⟨.inr k, _, rfl, rowE_get nw kw, ga_nil ⟨by show 4 ≤ 100000; decide, rfl, rfl⟩⟩⟩)))))))))⟩
        show _ = decide _
        by_cases e : z = valR ws k
        · have : ¬ (k, valR ws k) ∉ rs := fun q => q (by rw [← e]; exact mz)
          rw [decide_eq_true e, decide_eq_false this]
          rfl
        · have : (k, valR ws k) ∉ rs := fun q => e (by rw [← valR_mem nr mz, ← valR_mem nr q])
          rw [decide_eq_false e, decide_eq_true this]
          rfl
    · rw [e2]
      refine rk_cat ?_ ?_
      · rw [List.length_map, List.length_map, List.length_map, List.length_map]
        have f1 : ∀ (p : Str → Bool), ((srtS (rs.map (·.1))).filter p).length ≤ 1000 := fun p => by
          refine Nat.le_trans (List.length_filter_le _ _) ?_
          rw [srtS_perm.length_eq, List.length_map]
          exact hr1
        have f2 : ∀ (p : Str → Bool), ((srtS (ws.map (·.1))).filter p).length ≤ 1000 := fun p => by
          refine Nat.le_trans (List.length_filter_le _ _) ?_
          rw [srtS_perm.length_eq, List.length_map]
          exact hw1
        have := f1 fun k => decide (k ∉ ws.map (·.1))
        have := f2 fun k => decide ((k, valR ws k) ∉ rs)
        omega
      · rw [← List.map_append]
        exact k
theorem c_changes {δ : List Slot} {n : Sto} {Φ : D → Sto → Prop} {x : Str} {rs ws : List (Str × Str)} (h1 : (rs.map (·.1)).Nodup) (h2 : (ws.map (·.1)).Nodup) (h3 : rs.length ≤ 1000) (h4 : ws.length ≤ 1000) (k : Φ (.lst ((chgD x rs ws).map Dd.D)) n) : SC K Z (sp_changes K) [.str x, rowD rs, rowD ws] δ n Φ := sc_P ⟨x, rs, ws, rfl, h1, h2, h3, h4, k⟩
def sp_law_bag (K : PySem.W.Frag) : Sp := fun vs H Q _ => ∃ (a : Addr) (ns : List Int) (i : Int), vs = [.ref a, .int i] ∧ SqL K H a (ns.map V.int) ∧ 0 ≤ i ∧ i ≤ 63 ∧
  ∀ (p : Addr) (H' : Hp), H p = none → Bag H' p 0 → Same H H' → Q (.ref p) H'
theorem atI_ints {ns : List Int} {i : Int} (h0 : 0 ≤ i) (h1 : i < (ns.length : Int)) : ∃ z, atI (ns.map V.int) i = some (.int z) ∧ z ∈ ns := by
  obtain ⟨j, rfl⟩ : ∃ j : Nat, i = (j : Int) := ⟨i.toNat, by omega⟩
  have hj : j < ns.length := by omega
  refine ⟨ns[j], atI_nat ?_, List.getElem_mem hj⟩
  rw [List.getElem?_map, List.getElem?_eq_getElem hj]
  rfl
theorem ok_law_bag (T : Txt K mg) : FnOk P w K mg base CX0 1 T.f_law_bag T.fd_law_bag ["_law_script", "_law_at"] (sp_law_bag K) := by
  refine T.F_law_bag.ok sc_law_bag (fun vs H Q E h => ?_) (fun cdv A outer s H vs Q E hr h => ?_)
  · obtain ⟨a, ns, i, rfl, _⟩ := h
    rfl
  · obtain ⟨a, ns, i, rfl, hS, hi0, hi1, k⟩ := h
    refine ⟨_, (pss_cons (ps_set (i := 2) sc_law_bag.nd rfl (Or.inl rfl) pe_int)
      (pss_cons (ps_if (pt_cmpR op_lt (pv 1) (pe_callB call_len_seq (by rfl) T.z_len (by decide +kernel) (pa_cons (pv 0) pa_nil)) (nomark _))
        (pss_one (ps_set (i := 2) sc_law_bag.nd rfl (Or.inl rfl) (pe_ix ix_list (pv 0) (pv 1) (fun _ _ => rfl))))
        pss_nil)
      (pss_cons (ps_set (i := 3) sc_law_bag.nd rfl (Or.inl rfl) (pe_callB call_abs (by rfl) T.z_abs (by decide +kernel) (pa_cons (pv 2) pa_nil)))
      (pss_one (ps_ret (pe_lst (pa_cons (pe_op op_mul (pv 3) (pe_callTy call_int1 (by rfl) T.z_int (by decide +kernel) (pa_cons (pe_cmpR op_ge (pv 3) (pe_op op_powW pe_int pe_int) (nomark _)) pa_nil))) (pa_cons (pe_op op_add (pe_op op_add (pe_op op_mod (pv 2) (pe_op op_add (pe_op op_powW pe_int pe_int) pe_int)) (pe_op op_mul pe_int (pv 1))) pe_int) (pa_cons pe_int pa_nil))))))))), ?_⟩
    have fin : ∀ far cell : Int, 0 ≤ far → ∀ p, H p = none → Q (.ref p) (upd H p (.lst [.int (far * (if decide (10 ^ 18 ≤ far) = true then 1 else 0)), .int (cell % (10 ^ 18 + 9) + 7368787 * i + 41), .int 0])) := fun far cell hc p hp => by
      have m0 := Int.emod_nonneg cell (show (10 ^ 18 + 9 : Int) ≠ 0 by decide)
      have m1 := Int.emod_lt_of_pos cell (show (0 : Int) < 10 ^ 18 + 9 by decide)
      refine k p _ hp ⟨_, _, _, upd_same, ?_, by omega, by omega, by decide, by decide⟩ (Same.new (Same.refl H) hp)
      split <;> omega
    have am : ∀ z : Int, 0 ≤ (if z < 0 then -z else z) := fun z => by split <;> omega
    refine ⟨_, rfl, _, rfl, a, _, rfl, .inl hS, _, _, rfl, rfl, _, rfl, ?_⟩
    refine ite2 (fun h0 => ?_) (fun h0 => ?_)
    · have h0 : i < ((ns.map V.int).length : Int) := of_decide_eq_true h0
      rw [List.length_map] at h0
      obtain ⟨z, ez, _⟩ := atI_ints hi0 h0
      refine ⟨_, rfl, _, rfl, a, _, _, _, rfl, rfl, hS, ez, _, rfl, _, rfl, ?_⟩
      refine ⟨_, rfl, _, rfl, _, _, rfl, rfl, ⟨by decide, by decide +kernel⟩, _, _, rfl, rfl, .inr ⟨_, rfl, _, _, rfl, rfl, mul01, ?_⟩⟩
      refine ⟨_, rfl, _, _, rfl, rfl, ⟨by decide, by decide +kernel⟩, _, _, rfl, rfl, _, _, rfl, rfl, (by show (0 : Int) < 10 ^ 18 + 9; decide), _, rfl, _, _, rfl, rfl, .inl ⟨by decide, by decide⟩, _, _, rfl, rfl, _, _, rfl, rfl, sz3, fun p hp => ?_⟩
      exact fin _ z (am z) p hp
    · refine ⟨_, rfl, _, rfl, ?_⟩
      refine ⟨_, rfl, _, rfl, _, _, rfl, rfl, ⟨by decide, by decide +kernel⟩, _, _, rfl, rfl, .inr ⟨_, rfl, _, _, rfl, rfl, mul01, ?_⟩⟩
      refine ⟨_, rfl, _, _, rfl, rfl, ⟨by decide, by decide +kernel⟩, _, _, rfl, rfl, _, _, rfl, rfl, (by show (0 : Int) < 10 ^ 18 + 9; decide), _, rfl, _, _, rfl, rfl, .inl ⟨by decide, by decide⟩, _, _, rfl, rfl, _, _, rfl, rfl, sz3, fun p hp => ?_⟩
      exact fin _ 0 (am 0) p hp
theorem gs_lawbag {δ : List Slot} {k : Nat} {μ : Addr → Option MO} {te : TE} {N Bk Ct : List Slot → Sto → Prop} {R : D → Sto → Prop} {ts : TS} {X : XK} {i j : Nat} {ns : List Int} (hi : δ[i]? = some (.scr ns)) (hj : ∀ x, δ[j]? ≠ some (.ow x)) (h : GK K .calm te δ ⟨k, μ⟩ fun d n1 => ∃ k : Int, d = .int k ∧ 0 ≤ k ∧ k ≤ 63 ∧ ∀ p, GS K .calm (some p) ts (δ.set j .bag) ⟨0, n1.μ⟩ (fun δ' n' => N (unbag δ') ⟨0, n'.μ⟩) (fun d n' => R d ⟨0, n'.μ⟩) (fun δ' n' => Bk (unbag δ') ⟨0, n'.μ⟩) (fun δ' n' => Ct (unbag δ') ⟨0, n'.μ⟩)) :
    GS K .calm none (tSeq (tAsg (tCall (sp_law_bag K) [] X (tCons (tVar i) (tCons te tNil))) (gName j)) ts) δ ⟨k, μ⟩ N R Bk Ct :=
  gs_newbag (fun a i H Q E h0 h1 h2 k => ⟨a, ns, i, rfl, h0, h1, h2, k⟩) hi hj h
def sp_law_take : Sp := fun vs H Q _ => ∃ (p : Addr) (n : Nat) (many : Int), vs = [.ref p, .int many] ∧ Bag H p n ∧ n < 2 ^ 40 ∧ 0 < many ∧ many < 2 ^ 128 ∧
  ∀ (r : Int) (H' : Hp), 0 ≤ r → r < many → Bag H' p (n + 1) → Fr p H H' → Q (.int r) H'
theorem take_pow {b c : Int} (h1 : 0 ≤ b) (h2 : b < 2 ^ 62) (h3 : 0 ≤ c) (h4 : c ≤ 2 ^ 40) : CPowW (b * (2 * c + 1) + 7919 * c * c + 29) 3 := by
  refine ⟨by decide, ?_⟩
  have e1 : b * (2 * c + 1) ≤ 2 ^ 62 * (2 * c + 1) := Int.mul_le_mul_of_nonneg_right (by omega) (by omega)
  have e2 : 7919 * c * c ≤ 7919 * 2 ^ 40 * 2 ^ 40 := Int.mul_le_mul (by omega) (by omega) (by omega) (by omega)
  have e3 : 0 ≤ b * (2 * c + 1) := Int.mul_nonneg h1 (by omega)
  have e4 : 0 ≤ 7919 * c * c := Int.mul_nonneg (by omega) h3
  have e5 : (b * (2 * c + 1) + 7919 * c * c + 29).natAbs < 2 ^ 120 := by omega
  have e6 : Builtin.Int.intBits (b * (2 * c + 1) + 7919 * c * c + 29) ≤ 120 := PyProof.Rows.intBits_le e5
  omega
theorem ok_law_take (T : Txt K mg) : FnOk P w K mg base CX0 1 T.f_law_take T.fd_law_take ["_law_bag_here", "_law_many"] sp_law_take := by
  refine T.F_law_take.ok sc_law_take (fun vs H Q E h => ?_) (fun cdv A outer s H vs Q E hr h => ?_)
  · obtain ⟨p, n, many, rfl, _⟩ := h
    rfl
  · obtain ⟨p, n, many, rfl, bg, hn, hm0, hm1, k⟩ := h
    obtain ⟨a, b, c, hp, ha, hb0, hb1, hc0, hc1⟩ := bg
    refine ⟨_, (pss_cons (ps_if (pt_cmpR op_gt (pe_ix ix_list (pv 0) pe_int (fun _ _ => rfl)) pe_int (nomark _))
        (pss_cons (ps_set (i := 2) sc_law_take.nd rfl (Or.inl rfl) (pe_op op_mod (pe_ix ix_list (pv 0) pe_int (fun _ _ => rfl)) (pv 1)))
        (pss_cons (ps_asg (pe_op op_fdivW (pe_ix ix_list (pv 0) pe_int (fun _ _ => rfl)) (pv 1)) (pg_sub (pv 0) pe_int set_list))
        (pss_one (ps_ret (pv 2)))))
        pss_nil)
      (pss_cons (ps_asg (pe_op op_add (pe_ix ix_list (pv 0) pe_int (fun _ _ => rfl)) pe_int) (pg_sub (pv 0) pe_int set_list))
      (pss_cons (ps_set (i := 3) sc_law_take.nd rfl (Or.inl rfl) (pe_op op_add (pe_op op_add (pe_op op_mul (pe_ix ix_list (pv 0) pe_int (fun _ _ => rfl)) (pe_op op_add (pe_op op_mul pe_int (pe_ix ix_list (pv 0) pe_int (fun _ _ => rfl))) pe_int)) (pe_op op_mul (pe_op op_mul pe_int (pe_ix ix_list (pv 0) pe_int (fun _ _ => rfl))) (pe_ix ix_list (pv 0) pe_int (fun _ _ => rfl)))) pe_int))
      (pss_cons (ps_set (i := 4) sc_law_take.nd rfl (Or.inl rfl) (pe_op op_mod (pe_op op_powW (pv 3) pe_int) pe_int))
      (pss_one (ps_ret (pe_op op_mod (pe_op op_fdiv (pe_op op_mod (pe_op op_mul (pv 4) (pe_op op_add (pe_op op_fdiv (pv 4) pe_int) (pe_ix ix_list (pv 0) pe_int (fun _ _ => rfl)))) pe_int) pe_int) (pv 1)))))))), ?_⟩
    refine ⟨_, rfl, p, _, _, _, rfl, rfl, SqL.of hp, rfl, _, _, rfl, rfl, _, rfl, ?_⟩
    refine ite2 (fun h0 => ?_) (fun h0 => ?_)
    · have h0 : 0 < a := of_decide_eq_true h0
      refine ⟨_, rfl, p, _, _, _, rfl, rfl, SqL.of hp, rfl, _, rfl, _, _, rfl, rfl, hm0, ?_⟩
      refine ⟨_, rfl, p, _, _, _, rfl, rfl, SqL.of hp, rfl, _, rfl, _, _, rfl, rfl, wide_div hm0 (b := 128) (by omega) (by decide) (by decide), _, rfl, p, _, _, 0, rfl, rfl, hp, rfl, ?_⟩
      refine ⟨_, rfl, ?_⟩
      exact k _ _ (Int.emod_nonneg _ (by omega)) (Int.emod_lt_of_pos _ hm0) ⟨a / many, b, c, upd_same, Int.ediv_nonneg ha (by omega), hb0, hb1, hc0, by omega⟩ Fr.refl.at
    · have hp2 : upd H p (.lst [.int a, .int b, .int (c + 1)]) p = some (.lst [.int a, .int b, .int (c + 1)]) := upd_same
      refine ⟨_, rfl, p, _, _, _, rfl, rfl, SqL.of hp, rfl, _, _, rfl, rfl, _, rfl, p, _, _, 2, rfl, rfl, hp, rfl, ?_⟩
      refine ⟨_, rfl, p, _, _, _, rfl, rfl, SqL.of hp2, rfl, _, rfl, p, _, _, _, rfl, rfl, SqL.of hp2, rfl, _, _, rfl, rfl, .inl ⟨by decide, by decide⟩, _, _, rfl, rfl, _, _, rfl, rfl, .inl ⟨by omega, by omega⟩, ?_⟩
      refine ⟨_, rfl, p, _, _, _, rfl, rfl, SqL.of hp2, rfl, _, _, rfl, rfl, .inl ⟨by decide, by decide⟩, _, rfl, p, _, _, _, rfl, rfl, SqL.of hp2, rfl, _, _, rfl, rfl, .inr ⟨by omega, by omega⟩, _, _, rfl, rfl, _, _, rfl, rfl, ?_⟩
      have v1 := Int.emod_nonneg ((b * (2 * (c + 1) + 1) + 7919 * (c + 1) * (c + 1) + 29) ^ Int.toNat 3) (show (2147483587 : Int) ≠ 0 by decide)
      have v2 := Int.emod_lt_of_pos ((b * (2 * (c + 1) + 1) + 7919 * (c + 1) * (c + 1) + 29) ^ Int.toNat 3) (show (0 : Int) < 2147483587 by decide)
      refine ⟨_, rfl, _, _, rfl, rfl, take_pow hb0 hb1 (by omega) (by omega), _, _, rfl, rfl, (by show (0 : Int) < 2147483587; decide), ?_⟩
      refine ⟨_, rfl, _, rfl, _, _, rfl, rfl, ⟨by decide, by decide⟩, _, rfl, p, _, _, _, rfl, rfl, SqL.of hp2, rfl, _, _, rfl, rfl, _, _, rfl, rfl, .inl ⟨by omega, by omega⟩, _, _, rfl, rfl, (by show (0 : Int) < 2147483549; decide), _, _, rfl, rfl, ⟨by decide, by decide⟩, _, rfl, _, _, rfl, rfl, hm0, ?_⟩
      exact k _ _ (Int.emod_nonneg _ (by omega)) (Int.emod_lt_of_pos _ hm0) ⟨a, b, c + 1, hp2, ha, hb0, hb1, by omega, by omega⟩ (Fr.at Fr.refl)
theorem sb_take {δ : List Slot} {n : Nat} {μ : Addr → Option MO} {Φ : D → Sto → Prop} {many : Int} (hn : n < 2 ^ 40) (h0 : 0 < many) (h1 : many < 2 ^ 128) (k : ∀ r : Int, 0 ≤ r → r < many → Φ (.int r) ⟨n + 1, μ⟩) : SB K Z sp_law_take [.int many] δ ⟨n, μ⟩ Φ := fun p M G0 H0 xw G H σ E vs h Q X q => by
  cases h with
  | cons a r =>
    cases r
    cases a
    exact ⟨p, n, many, rfl, (E.bagged p rfl).1, hn, h0, h1, fun r H' r0 r1 bg fr => q _ _ G H' ⟨n + 1, μ⟩ (k r r0 r1) (E.drawn bg fr) (Sub.refl G) (.int r)⟩
def sp_law_longs (K : PySem.W.Frag) : Sp := spP K fun ds Φ => ∃ c : Cont, ds = [cntD c] ∧ WfC c ∧ c.length ≤ 1000 ∧ rowsN c ≤ 1000 ∧ Φ (.lst ((setS (longL c)).map D.str))
theorem ok_law_longs (T : Txt K mg) : FnOk P w K mg base CX0 1 T.f_law_longs T.fd_law_longs ["_law_held_here"] (sp_law_longs K) := by
  refine fn_P T.F_law_longs sc_law_longs (fun ds Φ h => ?_) (fun cdv A outer s H E hr => ⟨_, (pss_cons (ps_set (i := 1) sc_law_longs.nd rfl (Or.inl rfl) (pe_lst pa_nil))
      (pss_cons (ps_for PassesOwn.never (by rfl) (pi_keys (pv 0)) (pg_name (i := 2) sc_law_longs.nd rfl (Or.inl rfl))
        (pss_one (ps_set (i := 1) sc_law_longs.nd rfl (Or.inl rfl) (pe_op op_cat (pv 1) (pe_lc (own := [("_law_words_here", 3)]) (g := gName 3) (by rfl) sc_law_longs.nd (pi_values (pe_dget (hu_by hr) (pv 0) (pv 2) (fun _ _ => rfl))) (blkOk_by (own := [("_law_words_here", 3)]) (N := ["_law_held_here", "_law_found", "_law_crate", "_law_words_here"]) (sc := defScope s_law_longs) (by decide +kernel)) (fun _ _ _ _ _ => (pg_name (i := 3) sc_law_longs.nd rfl (Or.inl rfl))) (fun _ _ _ _ _ => (pts_one (pt_cmpR op_gt (pe_callB call_len_str (by rfl) T.z_len (by decide +kernel) (pa_cons (pv 3) pa_nil)) pe_int (nomark _)))) (fun _ _ _ _ _ => (pv 3)))))))
      (pss_one (ps_ret (pe_callB (cr_sortTx rfl hr.units) (by rfl) T.z_sorted (by decide +kernel) (pa_cons (pe_callTy (cr_setTx (K := K) rfl rfl) (by rfl) T.z_set (by decide +kernel) (pa_cons (pv 1) pa_nil)) pa_nil)))))), fun ds Φ h => ?_⟩)
  · obtain ⟨c, rfl, _⟩ := h
    rfl
  · obtain ⟨c, rfl, wf, h1, h2, k⟩ := h
    walk_at "k"
    have hl := longL_le c
    refine gs_seq (gs_asg (gk_lst (ga_nil ⟨by show 0 ≤ 100000; decide, ?_⟩)))
    refine gs_seq (gs_forW (gi_keysL (gk_var rfl ⟨_, rfl, fun i δ' n' => δ' = [.d (cntD c), .d (.lst ((longL (c.take i)).map D.str)), .un, .un] ∧ n' = ⟨0, m00⟩, ⟨_, by walk_at "wk", rfl, rfl⟩, ?_, ?_⟩)))
    · rintro i x δ' n' hx ⟨rfl, rfl⟩
      rw [List.getElem?_map] at hx
      obtain ⟨kv, hkv, rfl⟩ := Option.map_eq_some_iff.mp hx
      unfold cntE at hkv
      rw [List.getElem?_map] at hkv
      obtain ⟨b, hb, rfl⟩ := Option.map_eq_some_iff.mp hkv
      refine ⟨_, [2], gg_name (by decide), ?_⟩
      have hm := List.mem_of_getElem? hb
      have lw : ∀ y ∈ b.2, y.2.length ≤ 40 := fun y hy => ((wf.2 b hm).2.2 y hy).2.1
      have hsn : c.take (i + 1) = c.take i ++ [b] := by rw [List.take_add_one, hb]; rfl
      have el : longL (c.take (i + 1)) = longL (c.take i) ++ longR b.2 := by
        rw [hsn]
        unfold longL
        rw [List.flatMap_append]
        simp
      have hbl : b.2.length ≤ 1000 := by
        have := rows_le hm
        omega
      have hl1 : (longL (c.take (i + 1))).length ≤ 1000 := by
        refine Nat.le_trans (longL_le _) ?_
        have : rowsN c = rowsN (c.take (i + 1)) + rowsN (c.drop (i + 1)) := by rw [← rowsN_app, List.take_append_drop]
        omega
      refine gs_asg (gk_op (gk_var rfl (gk_filt1 (f := id) (c := longD) (fun _ h => nomatch (show some Slot.un = some _ from h)) (gi_valsL (gk_dgetL (gk_var rfl ⟨_, rfl, gk_var rfl ⟨.inr b.1, rowD b.2, rfl, getD_cnt wf.1 hm, _, rfl, by unfold rowE; rw [List.length_map, List.length_map]; omega, fun d hd => ?_, ?_⟩⟩))))))
      · obtain ⟨kv, hkv, rfl⟩ := List.mem_map.mp hd
        obtain ⟨y, hy, rfl⟩ := List.mem_map.mp hkv
        have := lw y hy
        refine gt_test (gk_op (gk_cb (ga_cons (gk_var rfl (ga_nil (rc_lenS (by omega) ?_))))))
        walk_at "e"
        exact ⟨rfl, rfl, fun _ => gk_var rfl ⟨rfl, rfl⟩⟩
      · rw [List.map_id, flt_longR]
        rw [el, List.length_append] at hl1
        refine rk_cat (by rw [List.length_map, List.length_map]; omega) ?_
        rw [← List.map_append, ← el]
        exact ⟨_, by walk_at "wk", rfl, rfl⟩
    · rintro δ' n' ⟨rfl, rfl⟩
      rw [List.length_map, show (cntE c).length = c.length from List.length_map _, List.take_length]
      exact gs_ret (gk_sortSet (gk_var rfl ⟨_, rfl, by omega, k⟩))
theorem c_law_longs {δ : List Slot} {n : Sto} {Φ : D → Sto → Prop} {c : Cont} (h0 : WfC c) (h1 : c.length ≤ 1000) (h2 : rowsN c ≤ 1000) (k : Φ (.lst ((setS (longL c)).map D.str)) n) : SC K Z (sp_law_longs K) [cntD c] δ n Φ := sc_P ⟨c, rfl, h0, h1, h2, k⟩
theorem wd_or (v : Nat) : wdN v = xW ∨ wdN v = lW := by
  unfold wdN
  split <;> simp
theorem rw_sm {s t : Nat} : SmR (rwN s t) := by
  unfold rwN
  intro kv h
  rcases List.mem_append.mp h with h | h
  · split at h
    · cases h
    · rw [List.mem_singleton.mp h]
      exact ⟨.inl rfl, wd_or s⟩
  · split at h
    · cases h
    · rw [List.mem_singleton.mp h]
      exact ⟨.inr rfl, wd_or t⟩
theorem rw_wf {s t : Nat} : WfR (rwN s t) := by
  refine ⟨?_, fun kv h => ⟨nmz_k (rw_sm kv h).1, wt_2 (rw_sm kv h).2⟩⟩
  unfold rwN
  split <;> split
  · exact List.nodup_nil
  · show [("l" : Str)].Nodup
    decide +kernel
  · show [("k" : Str)].Nodup
    decide +kernel
  · show [("k" : Str), "l"].Nodup
    decide +kernel
theorem wf_snoc {c : Cont} {x : Str} {rs : List (Str × Str)} (h : WfC c) (nx : ¬ inC c x) (hx : Nmz x) (hr : WfR rs) : WfC (c ++ [(x, rs)]) := by
  refine ⟨?_, fun b hb => ?_⟩
  · rw [List.map_append, List.nodup_append]
    exact ⟨h.1, by simp, fun a ha b hb z => by
      have : b = x := by simpa using hb
      exact nx (this ▸ z ▸ ha)⟩
  · rcases List.mem_append.mp hb with hb | hb
    · exact h.2 b hb
    · rw [List.mem_singleton.mp hb]
      exact ⟨hx, hr⟩
theorem wf_nil : WfC [] := ⟨List.nodup_nil, fun _ h => nomatch h⟩
theorem bx_in {x y : Str} {i : Nat} (h : inC (bxN x i) y) : y = x := by
  unfold bxN at h
  split at h
  · cases h
  · exact in_one.mp h
theorem bx_len {x : Str} {i : Nat} : (bxN x i).length ≤ 1 := by
  unfold bxN
  split <;> simp
theorem wf_bx {c : Cont} {x : Str} {i : Nat} (h : WfC c) (nx : ¬ inC c x) (hx : Nmz x) : WfC (c ++ bxN x i) := by
  unfold bxN
  split
  · rw [List.append_nil]
    exact h
  · exact wf_snoc h nx hx rw_wf
theorem ct_sm {i j : Nat} : Sm (ctN i j) := by
  have w1 : WfC (bxN "a" i) := wf_bx (c := []) wf_nil (fun h => nomatch h) nmz_ab.1
  refine ⟨wf_bx w1 (fun h => ab_ne (bx_in h).symm) nmz_ab.2.1, fun b hb => ?_⟩
  have one : ∀ {x : Str} {i : Nat}, b ∈ bxN x i → b.1 = x ∧ SmR b.2 := fun {x i} h => by
    unfold bxN at h
    split at h
    · cases h
    · rw [List.mem_singleton.mp h]
      exact ⟨rfl, rw_sm⟩
  rcases List.mem_append.mp hb with hb | hb
  · exact ⟨.inl (one hb).1, (one hb).2⟩
  · exact ⟨.inr (one hb).1, (one hb).2⟩
theorem upd_last {c : Cont} {x : Str} {rs : List (Str × Str)} {f : List (Str × Str) → List (Str × Str)} (h : ¬ inC c x) : updC (c ++ [(x, rs)]) x f = c ++ [(x, f rs)] := by
  unfold updC
  rw [List.map_append]
  have : c.map (fun b => if b.1 = x then (b.1, f b.2) else b) = c := by
    rw [show (c.map fun b => if b.1 = x then (b.1, f b.2) else b) = updC c x f from rfl]
    exact updC_no h
  rw [this]
  simp
theorem putR_new {rs : List (Str × Str)} {k z : Str} (h : k ∉ rs.map (·.1)) : putR rs k z = rs ++ [(k, z)] := if_neg h
def pbC (i j : Nat) : Nat → Cont
  | 0 => [] | 1 => bxN "a" i | _ + 2 => ctN i j
def prR (a b : Nat) : Nat → List (Str × Str)
  | 0 => [] | 1 => rwN a 0 | _ + 2 => rwN a b
def sp_law_put_by (K : PySem.W.Frag) : Sp := spP K fun ds Φ => ∃ i j : Nat, ds = [.tup [.int (i : Nat), .int (j : Nat)]] ∧ i < 10 ∧ j < 10 ∧ Φ (cntD (ctN i j))
theorem ok_law_put_by (T : Txt K mg) : FnOk P w K mg base CX0 1 T.f_law_put_by T.fd_law_put_by ["_law_crate"] (sp_law_put_by K) := by
  refine fn_P T.F_law_put_by sc_law_put_by (fun ds Φ h => ?_) (fun cdv A outer s H E hr => ⟨_, (pss_cons (ps_set (i := 1) sc_law_put_by.nd rfl (Or.inl rfl) pe_dnewK)
      (pss_cons (ps_for PassesOwn.never (by rfl) (RZ.pi_zipA (by rfl) T.z_zip (pa_cons (pe_tup (pa_cons pe_str (pa_cons pe_str pa_nil))) (pa_cons (pv 0) pa_nil))) (pg_tup (by rfl) (pgs_cons (pg_name (i := 2) sc_law_put_by.nd rfl (Or.inl rfl)) (pgs_cons (pg_name (i := 3) sc_law_put_by.nd rfl (Or.inl rfl)) pgs_nil)))
        (pss_one (ps_if (pt_cmpR op_gt (pv 3) pe_int (nomark _))
          (pss_cons (ps_dput (hu_by hr) (pv 1) (pv 2) pe_dnewK rfl)
          (pss_one (ps_for PassesOwn.never (by rfl) (RZ.pi_zipA (by rfl) T.z_zip (pa_cons (pe_tup (pa_cons pe_str (pa_cons pe_str pa_nil))) (pa_cons (pe_tup (pa_cons (pe_op op_fdiv (pe_op op_sub (pv 3) pe_int) pe_int) (pa_cons (pe_op op_mod (pe_op op_sub (pv 3) pe_int) pe_int) pa_nil))) pa_nil))) (pg_tup (by rfl) (pgs_cons (pg_name (i := 4) sc_law_put_by.nd rfl (Or.inl rfl)) (pgs_cons (pg_name (i := 5) sc_law_put_by.nd rfl (Or.inl rfl)) pgs_nil)))
            (pss_one (ps_if (pt_cmpR op_gt (pv 5) pe_int (nomark _))
              (pss_one (ps_dput (hu_by hr) (pe_dget (hu_by hr) (pv 1) (pv 2) (fun _ _ => rfl)) (pv 4) (pe_ix ix_list (pe_lst (pa_cons pe_str (pa_cons pe_str pa_nil))) (pe_op op_sub (pv 5) pe_int) (fun _ _ => rfl)) rfl))
              pss_nil)))))
          pss_nil)))
      (pss_one (ps_lockS (ps_ret (pv 1)))))), fun ds Φ h => ?_⟩)
  · obtain ⟨i, j, rfl, _⟩ := h
    rfl
  · obtain ⟨i, j, rfl, hi, hj, k⟩ := h
    walk_at "k"
    refine gs_seq (gs_asg (gk_newD fun p hp => ?_))
    refine gs_seq (gs_forW (gi_zipT ?_))
    refine ga_cons (gk_tup (ga_cons (gk_s (ga_cons (gk_s (ga_nil ⟨by show 2 ≤ 100000; decide, ga_cons (gk_var rfl (ga_nil ⟨_, _, rfl, ?_⟩))⟩))))))
    refine ⟨fun t δ' n' => ∃ qs, δ' = [.d (.tup [.int (i : Nat), .int (j : Nat)]), .d (.ptr p), .un, .un, .un, .un] ∧ StC n' p qs (pbC i j t), ⟨_, by walk_at "wk", [], rfl, Sto.put_same, .nil, by simp⟩, ?_, ?_⟩
    · rintro t x δ' n1 hx ⟨qs, rfl, st⟩
      obtain ⟨nm, v, c0, rfl, e0, e1, hv, nx, w0, hn, l0⟩ : ∃ (nm : Str) (v : Nat) (c0 : Cont), x = .tup [.str nm, .int (v : Nat)] ∧ pbC i j t = c0 ∧ pbC i j (t + 1) = c0 ++ bxN nm v ∧ v < 10 ∧ ¬ inC c0 nm ∧ WfC c0 ∧ Nmz nm ∧ c0.length ≤ 1 := by
        match t, hx with
        | 0, hx => exact ⟨"a", i, [], (Option.some.inj hx).symm, rfl, rfl, hi, (fun h => nomatch h), wf_nil, nmz_ab.1, Nat.zero_le _⟩
        | 1, hx => exact ⟨"b", j, bxN "a" i, (Option.some.inj hx).symm, rfl, rfl, hj, fun h => ab_ne (bx_in h).symm, wf_bx (c := []) wf_nil (fun h => nomatch h) nmz_ab.1, nmz_ab.2.1, bx_len⟩
        | t + 2, hx => cases hx
      rw [e0] at st
      clear e0 hx
      refine ⟨_, [2, 3], gg_tup rfl (ggs_cons (gg_name (by decide)) (ggs_cons (gg_name (by decide)) ggs_nil)), ?_⟩
      refine gs_if ?_
      walk_at "g"
      refine ⟨fun h0 => ?_, fun h0 => ?_⟩
      · have h0 : 0 < v := by have := of_decide_eq_true h0; omega
        refine gs_seq (gs_putP (gk_newD fun q hq => gk_var rfl ⟨p, rfl, gk_var rfl ⟨ptE qs c0, .inr nm, ?_, rfl, ?_, ?_⟩⟩))
        · exact (Sto.put_ne fun z => by rw [← z, st.dc] at hq; cases hq).trans st.dc
        · rw [st.len]
          omega
        have s1 : StC ((n1.put q (.dic [])).put p (.dic (putD (ptE qs c0) (Sum.inr nm) (.ptr q)))) p (qs ++ [q]) (c0 ++ [(nm, [])]) := st.more (rs := []) nx hq rfl
        generalize ((n1.put q (.dic [])).put p (.dic (putD (ptE qs c0) (Sum.inr nm) (.ptr q)))) = n2 at s1 ⊢
        have ev : ((v : Int) - 1) / 3 = ((v - 1) / 3 : Nat) ∧ ((v : Int) - 1) % 3 = ((v - 1) % 3 : Nat) := by omega
        refine gs_forW (gi_zipT ?_)
        refine ga_cons (gk_tup (ga_cons (gk_s (ga_cons (gk_s (ga_nil ⟨by show 2 ≤ 100000; decide, ga_cons (gk_tup ?_)⟩))))))
        walk_at "e"
        rw [ev.1, ev.2]
        clear ev
        have hs : (v - 1) / 3 ≤ 2 ∧ (v - 1) % 3 ≤ 2 := by omega
        have eb : bxN nm v = [(nm, rwN ((v - 1) / 3) ((v - 1) % 3))] := if_neg (by omega)
        rw [eb] at e1
        clear eb
        generalize (v - 1) / 3 = a at hs e1 ⊢
        generalize (v - 1) % 3 = b at hs e1 ⊢
        refine ⟨fun u δ' n' => ∃ qs rs, δ' = [.d (.tup [.int (i : Nat), .int (j : Nat)]), .d (.ptr p), .d (.str nm), .d (.int (v : Nat)), .un, .un] ∧ StC n' p qs (c0 ++ [(nm, rs)]) ∧ WfR rs ∧ rs = prR a b u, ⟨_, by walk_at "wk", _, [], rfl, s1, ⟨List.nodup_nil, fun _ h => nomatch h⟩, rfl⟩, ?_, ?_⟩
        · clear s1
          rintro u x δ' n3 hx ⟨qs, rs, rfl, s1, wr, er⟩
          obtain ⟨lb, g, rfl, hg, hl, nl, lr, e2⟩ : ∃ (lb : Str) (g : Nat), x = .tup [.str lb, .int (g : Nat)] ∧ g ≤ 2 ∧ Nmz lb ∧ lb ∉ rs.map (·.1) ∧ rs.length ≤ 2 ∧ prR a b (u + 1) = rs ++ (if g = 0 then [] else [(lb, wdN g)]) := by
            match u, hx with
            | 0, hx =>
              rw [show rs = [] from er]
              exact ⟨"k", a, (Option.some.inj hx).symm, hs.1, nmz_ab.2.2.1, List.not_mem_nil, Nat.zero_le _, by rw [List.nil_append]; unfold prR rwN; rw [if_pos rfl, List.append_nil]⟩
            | 1, hx =>
              rw [show rs = rwN a 0 from er]
              refine ⟨"l", b, (Option.some.inj hx).symm, hs.2, nmz_ab.2.2.2, ?_, ?_, ?_⟩
              · unfold rwN
                split
                · simp
                · show ("l" : Str) ∉ [("k" : Str)]
                  decide +kernel
              · unfold rwN
                split <;> simp
              · show rwN a b = rwN a 0 ++ _
                unfold rwN
                rw [if_pos rfl, List.append_nil]
            | u + 2, hx => cases hx
          clear hx er
          refine ⟨_, [4, 5], gg_tup rfl (ggs_cons (gg_name (by decide)) (ggs_cons (gg_name (by decide)) ggs_nil)), ?_⟩
          refine gs_if ?_
          walk_at "g"
          refine ⟨fun g0 => ?_, fun g0 => ?_⟩
          · have g0 : g ≠ 0 := by have := of_decide_eq_true g0; omega
            rw [if_neg g0] at e2
            have w1 := wf_snoc w0 nx hn wr
            have i1 : inC (c0 ++ [(nm, rs)]) nm := by simp [inC]
            obtain ⟨q2, gq, eq, up⟩ := s1.upd w1 i1
            have er2 : rowsAt (c0 ++ [(nm, rs)]) nm = rs := rowsAt_mem w1.1 (List.mem_append_right _ List.mem_cons_self)
            rw [er2] at eq up
            refine gs_putP (gk_op (gk_lst (ga_cons (gk_s (ga_cons (gk_s (ga_nil ⟨by show 2 ≤ 100000; decide, ?_⟩)))))))
            walk_at "e"
            obtain ⟨z, ez, hz⟩ : ∃ z : D, L2.atI [D.str "x", D.str "a long text"] ((g : Int) - 1) = some z ∧ z = .str (wdN g) := by
              have : g = 1 ∨ g = 2 := by omega
              rcases this with rfl | rfl
              · exact ⟨_, rfl, rfl⟩
              · exact ⟨_, rfl, rfl⟩
            refine rk_ixL ez ?_
            subst hz
            refine gk_dgetP (gk_var rfl ⟨p, rfl, gk_var rfl ⟨_, .inr nm, _, s1.dc, rfl, gq, q2, rfl, gk_var rfl ⟨_, .inr lb, eq, rfl, by unfold rowE; rw [List.length_map]; omega, ?_⟩⟩⟩)
            rw [rowE_put, putR_new nl]
            have s2 := up fun rs => putR rs lb (wdN g)
            rw [putR_new nl, upd_last nx, putR_new nl] at s2
            exact ⟨_, by walk_at "wk", _, _, rfl, s2, by rw [← putR_new nl]; exact wr.put hl (wt_2 (wd_or g)), e2.symm⟩
          · have g0 : g = 0 := by have := of_decide_eq_false g0; omega
            rw [if_pos g0, List.append_nil] at e2
            exact gs_next ⟨_, by walk_at "wk", _, _, rfl, s1, wr, e2.symm⟩
        · rintro δ' n3 ⟨qs, rs, rfl, s2, _, er⟩
          rw [show rs = rwN a b from er] at s2
          exact ⟨_, by walk_at "wk", _, rfl, by rw [e1]; exact s2⟩
      · have h0 : v = 0 := by have := of_decide_eq_false h0; omega
        have eb : bxN nm v = [] := if_pos h0
        rw [eb, List.append_nil] at e1
        exact gs_next ⟨_, by walk_at "wk", _, rfl, by rw [e1]; exact st⟩
    · rintro δ' n1 ⟨qs, rfl, st⟩
      exact gs_lockRet rfl st.dc st.rs st.nd k
theorem c_law_put_by {δ : List Slot} {n : Sto} {Φ : D → Sto → Prop} {i j : Nat} (hi : i < 10) (hj : j < 10) (k : Φ (cntD (ctN i j)) n) : SC K Z (sp_law_put_by K) [.tup [.int (i : Nat), .int (j : Nat)]] δ n Φ := sc_P ⟨i, j, rfl, hi, hj, k⟩
def sp_law_deeds (K : PySem.W.Frag) : Sp := spP K fun ds Φ => ds = [] ∧ Φ (.lst (dls.map Dd.D))
theorem ok_law_deeds (T : Txt K mg) : FnOk P w K mg base CX0 1 T.f_law_deeds T.fd_law_deeds [] (sp_law_deeds K) := by
  refine fn_P T.F_law_deeds sc_law_deeds (fun ds Φ h => ?_) (fun cdv A outer s H E hr => ⟨_, (pss_cons (ps_set (i := 0) sc_law_deeds.nd rfl (Or.inl rfl) (pe_lst (pa_cons (pe_tup (pa_cons pe_str (pa_cons pe_str pa_nil))) (pa_cons (pe_tup (pa_cons pe_str (pa_cons pe_str pa_nil))) (pa_cons (pe_tup (pa_cons pe_str (pa_cons pe_str pa_nil))) (pa_cons (pe_tup (pa_cons pe_str (pa_cons pe_str pa_nil))) pa_nil))))))
      (pss_cons (ps_for PassesOwn.never (by rfl) (pi_tup (pe_tup (pa_cons pe_str (pa_cons pe_str pa_nil)))) (pg_name (i := 1) sc_law_deeds.nd rfl (Or.inl rfl))
        (pss_cons (ps_set (i := 0) sc_law_deeds.nd rfl (Or.inl rfl) (pe_op op_cat (pv 0) (pe_lst (pa_cons (pe_tup (pa_cons pe_str (pa_cons pe_str (pa_cons (pv 1) pa_nil)))) (pa_cons (pe_tup (pa_cons pe_str (pa_cons pe_str (pa_cons (pv 1) pa_nil)))) pa_nil)))))
        (pss_one (ps_for PassesOwn.never (by rfl) (pi_tup (pe_tup (pa_cons pe_str (pa_cons pe_str pa_nil)))) (pg_name (i := 2) sc_law_deeds.nd rfl (Or.inl rfl))
          (pss_one (ps_set (i := 0) sc_law_deeds.nd rfl (Or.inl rfl) (pe_op op_cat (pv 0) (pe_lst (pa_cons (pe_tup (pa_cons pe_str (pa_cons pe_str (pa_cons (pv 1) (pa_cons (pv 2) pa_nil))))) (pa_cons (pe_tup (pa_cons pe_str (pa_cons pe_str (pa_cons (pv 1) (pa_cons (pv 2) pa_nil))))) pa_nil))))))))))
      (pss_one (ps_ret (pv 0))))), fun ds Φ h => ?_⟩)
  · obtain ⟨rfl, _⟩ := h
    rfl
  · obtain ⟨rfl, k⟩ := h
    walk_at "k"
    refine gs_seq ?_
    walk_at "g"
    refine (gs_forW (gi_tup (gk_tup (ga_cons (gk_s (ga_cons (gk_s (ga_nil ⟨by show 2 ≤ 100000; decide, _, rfl, fun t δ' n' => δ' = [.d (.lst ((dls.take (4 + 6 * t)).map Dd.D)), .un, .un] ∧ n' = ⟨0, m00⟩, ⟨_, by walk_at "wk", rfl, rfl⟩, ?_, ?_⟩))))))))
    · rintro t x δ' n' hx ⟨rfl, rfl⟩
      obtain ⟨lb, rfl, ht⟩ : ∃ lb : Str, x = .str lb ∧ (t = 0 ∧ lb = "k" ∨ t = 1 ∧ lb = "l") := by
        match t, hx with
        | 0, hx => exact ⟨"k", (Option.some.inj hx).symm, .inl ⟨rfl, rfl⟩⟩
        | 1, hx => exact ⟨"l", (Option.some.inj hx).symm, .inr ⟨rfl, rfl⟩⟩
        | t + 2, hx => cases hx
      clear hx
      refine ⟨_, [1], gg_name (by decide), ?_⟩
      refine gs_seq (gs_asg (gk_op (gk_var rfl (gk_lst (ga_cons (gk_tup (ga_cons (gk_s (ga_cons (gk_s (ga_cons (gk_var rfl (ga_nil ⟨by show 3 ≤ 100000; decide, ga_cons (gk_tup (ga_cons (gk_s (ga_cons (gk_s (ga_cons (gk_var rfl (ga_nil ⟨by show 3 ≤ 100000; decide, ga_nil ⟨by show 2 ≤ 100000; decide, rk_cat ?_ ?_⟩⟩))))))))⟩)))))))))))))
      · rw [List.length_map, List.length_take]
        show min _ 16 + 2 ≤ _
        omega
      refine gs_forW (gi_tup (gk_tup (ga_cons (gk_s (ga_cons (gk_s (ga_nil ⟨by show 2 ≤ 100000; decide, _, rfl, fun u δ' n' => δ' = [.d (.lst ((dls.take (4 + 6 * t + 2 + 2 * u)).map Dd.D)), .d (.str lb), .un] ∧ n' = ⟨0, m00⟩, ⟨_, Wk.refl _, ?_, rfl⟩, ?_, ?_⟩)))))))
      · rcases ht with ⟨rfl, rfl⟩ | ⟨rfl, rfl⟩ <;> rfl
      · rintro u x δ' n' hx ⟨rfl, rfl⟩
        obtain ⟨wd, rfl, hu⟩ : ∃ wd : Str, x = .str wd ∧ (u = 0 ∧ wd = xW ∨ u = 1 ∧ wd = lW) := by
          match u, hx with
          | 0, hx => exact ⟨xW, (Option.some.inj hx).symm, .inl ⟨rfl, rfl⟩⟩
          | 1, hx => exact ⟨lW, (Option.some.inj hx).symm, .inr ⟨rfl, rfl⟩⟩
          | u + 2, hx => cases hx
        clear hx
        refine ⟨_, [2], gg_name (by decide), ?_⟩
        refine gs_asg (gk_op (gk_var rfl (gk_lst (ga_cons (gk_tup (ga_cons (gk_s (ga_cons (gk_s (ga_cons (gk_var rfl (ga_cons (gk_var rfl (ga_nil ⟨by show 4 ≤ 100000; decide, ga_cons (gk_tup (ga_cons (gk_s (ga_cons (gk_s (ga_cons (gk_var rfl (ga_cons (gk_var rfl (ga_nil ⟨by show 4 ≤ 100000; decide, ga_nil ⟨by show 2 ≤ 100000; decide, rk_cat ?_ ?_⟩⟩))))))))))⟩))))))))))))))
        · rw [List.length_map, List.length_take]
          show min _ 16 + 2 ≤ _
          omega
        · refine ⟨[.d (.lst ((dls.take (4 + 6 * t + 2 + 2 * (u + 1))).map Dd.D)), .d (.str lb), .un], ?_, rfl, rfl⟩
          rcases ht with ⟨rfl, rfl⟩ | ⟨rfl, rfl⟩ <;> rcases hu with ⟨rfl, rfl⟩ | ⟨rfl, rfl⟩ <;> exact .kp (.kp (.un .nil))
      · rintro δ' n' ⟨rfl, rfl⟩
        refine ⟨[.d (.lst ((dls.take (4 + 6 * (t + 1))).map Dd.D)), .un, .un], ?_, rfl, rfl⟩
        rcases ht with ⟨rfl, rfl⟩ | ⟨rfl, rfl⟩ <;> exact .kp (.un (.kp .nil))
    · rintro δ' n' ⟨rfl, rfl⟩
      refine gs_ret ?_
      refine gk_var rfl ?_
      exact k
theorem c_law_deeds {δ : List Slot} {n : Sto} {Φ : D → Sto → Prop} (k : Φ (.lst (dls.map Dd.D)) n) : SC K Z (sp_law_deeds K) [] δ n Φ := sc_P ⟨rfl, k⟩
theorem alk_rows : ∀ (rs ws : List (Str × Str)), PySem.W.alikeAll (toPs (itmD (rowE rs))) (toPs (itmD (rowE ws))) = true
  | [], _ => by
    unfold itmD rowE
    simp [toPs, PySem.W.alikeAll]
  | _ :: _, [] => by
    unfold itmD rowE
    simp [toPs, PySem.W.alikeAll]
  | x :: rs, y :: ws => by
    have ih := alk_rows rs ws
    show PySem.W.alikeAll (toPs (D.tup [.str x.1, .str x.2] :: itmD (rowE rs))) (toPs (D.tup [.str y.1, .str y.2] :: itmD (rowE ws))) = true
    simp only [toPs, PySem.W.alikeAll]
    rw [ih]
    simp [toP, toPs, PySem.W.alike, PySem.W.alikeAll]
theorem alk_row (x y : Str × Str) : PySem.W.alike (toP (.tup [.str x.1, .str x.2])) (toP (.tup [.str y.1, .str y.2])) = true := by
  simp [toP, toPs, PySem.W.alike, PySem.W.alikeAll]
theorem itm_in {rs : List (Str × Str)} {d : D} (h : d ∈ itmD (rowE rs)) : ∃ p ∈ rs, d = .tup [.str p.1, .str p.2] := by
  obtain ⟨kv, hkv, rfl⟩ := List.mem_map.mp h
  obtain ⟨p, hp, rfl⟩ := List.mem_map.mp hkv
  exact ⟨p, hp, rfl⟩
theorem shp_row {rs : List (Str × Str)} (h : WfR rs) : ∀ x ∈ itmD (rowE rs), Shp 1 x := fun d hd => by
  obtain ⟨p, hp, rfl⟩ := itm_in hd
  have := h.2 p hp
  refine .tup fun x hx => ?_
  simp only [List.mem_cons, List.not_mem_nil, or_false] at hx
  rcases hx with rfl | rfl
  · exact .str this.1.top
  · exact .str fun c m => Nat.lt_of_le_of_lt (this.2.2 c m).2.1 (by decide)
theorem sort_rows {rs : List (Str × Str)} : PySem.W.AllAlike ((itmD (rowE rs)).map toP) ∧ PySem.W.Sortable ((itmD (rowE rs)).map toP) := by
  refine ⟨fun d hd d' hd' => ?_, .inl fun d hd => ?_⟩
  · obtain ⟨x, hx, rfl⟩ := List.mem_map.mp hd
    obtain ⟨y, hy, rfl⟩ := List.mem_map.mp hd'
    obtain ⟨p, _, rfl⟩ := itm_in hx
    obtain ⟨q, _, rfl⟩ := itm_in hy
    exact alk_row p q
  · obtain ⟨x, hx, rfl⟩ := List.mem_map.mp hd
    obtain ⟨p, _, rfl⟩ := itm_in hx
    exact ⟨.str p.1, [.str p.2], by simp [toP, toPs]⟩
theorem sort_boxes {c : Cont} (h : Sm c) : (∀ x ∈ c.map rwD, Shp 3 x) ∧ PySem.W.AllAlike ((c.map rwD).map toP) ∧ PySem.W.Sortable ((c.map rwD).map toP) := by
  have rw1 : ∀ b ∈ c, rwD b = .tup [.str b.1, .lst (itmD (rowE (rwN (vN b.2 "k") (vN b.2 "l"))))] := fun b hb => rwD_is (smr_in (h.1.2 b hb).2.1 (h.2 b hb).2)
  refine ⟨fun d hd => ?_, fun d hd d' hd' => ?_, .inl fun d hd => ?_⟩
  · obtain ⟨b, hb, rfl⟩ := List.mem_map.mp hd
    rw [rw1 b hb]
    refine .tup fun x hx => ?_
    simp only [List.mem_cons, List.not_mem_nil, or_false] at hx
    rcases hx with rfl | rfl
    · exact .str (h.1.2 b hb).1.top
    · exact .lst fun x hx => shp_row rw_wf x hx
  · obtain ⟨x, hx, rfl⟩ := List.mem_map.mp hd
    obtain ⟨y, hy, rfl⟩ := List.mem_map.mp hd'
    obtain ⟨p, hp, rfl⟩ := List.mem_map.mp hx
    obtain ⟨q, hq, rfl⟩ := List.mem_map.mp hy
    rw [rw1 p hp, rw1 q hq]
    simp [toP, toPs, PySem.W.alike, PySem.W.alikeAll, alk_rows]
  · obtain ⟨x, hx, rfl⟩ := List.mem_map.mp hd
    obtain ⟨p, hp, rfl⟩ := List.mem_map.mp hx
    rw [rw1 p hp]
    exact ⟨.str p.1, _, by simp only [toP, toPs]; rfl⟩
theorem tok_pl {i j : Nat} : Tll 4 5000 (plD (ctN i j)) := by
  have ok := ct_sm (i := i) (j := j)
  have rws : ∀ b ∈ ctN i j, b.2.length ≤ 2 := fun b hb => allR_len _ (smr_in (ok.1.2 b hb).2.1 (ok.2 b hb).2)
  have ln := (sm_cards ok).1
  have hh : (∀ x ∈ (ctN i j).map (fun b => D.tup [.str b.1, .lst (itmD (rowE b.2))]), Tll 3 2000 x) → Tll 4 5000 (plD (ctN i j)) := fun h => (tok_lst h).mono (Nat.le_refl 4) (by rw [List.length_map]; omega)
  refine hh fun x hx => ?_
  obtain ⟨b, hb, rfl⟩ := List.mem_map.mp hx
  have wb := ok.1.2 b hb
  refine (tok_tup (k := 2) (w := 500) fun y hy => ?_).mono (by decide) (by show 2 * 501 ≤ 2000; decide)
  simp only [List.mem_cons, List.not_mem_nil, or_false] at hy
  rcases hy with rfl | rfl
  · exact (tok_str (by have := wb.1.2.1; omega) fun c m => Nat.lt_of_le_of_lt (wb.1.2.2 c m).2 (by decide)).mono (by decide) (by have := wb.1.2.1; omega)
  · refine (tok_lst (k := 1) (w := 100) fun z hz => ?_).mono (by decide) (by unfold itmD rowE; rw [List.length_map, List.length_map]; have := rws b hb; omega)
    obtain ⟨p, hp, rfl⟩ := itm_in hz
    refine (tok_tup (k := 0) (w := 40) fun y hy => ?_).mono (by decide) (by show 2 * 41 ≤ 100; decide)
    simp only [List.mem_cons, List.not_mem_nil, or_false] at hy
    have wp := wb.2.2 p hp
    rcases hy with rfl | rfl
    · exact (tok_str (by have := wp.1.2.1; omega) fun c m => Nat.lt_of_le_of_lt (wp.1.2.2 c m).2 (by decide)).mono (by decide) (by have := wp.1.2.1; omega)
    · exact wp.2.tok
def sp_law_sign (K : PySem.W.Frag) : Sp := spP K fun ds Φ => ∃ c : Cont, ds = [cntD c] ∧ Sm c ∧ Φ (.str (sgT c))
theorem ok_law_sign (T : Txt K mg) : FnG P w K mg base 1 T.f_law_sign T.fd_law_sign ["_law_held_here"] (sp_law_sign K) := by
  refine fn_PG T.F_law_sign sc_law_sign (fun ds Φ h => ?_) (fun cdv A outer s H E hgd hr => ⟨_, (pss_one (ps_ret (pe_callB (cr_reprQ (K := K) rfl hgd hr.units) (by rfl) T.z_repr (by decide +kernel) (pa_cons (pe_callB (cr_sortedD (K := K) rfl hr.units) (by rfl) T.z_sorted (by decide +kernel) (pa_cons (pe_lc (own := [("_law_crate", 1)]) (g := gName 1) (by rfl) sc_law_sign.nd (pi_keys (pv 0)) (blkOk_by (own := [("_law_crate", 1)]) (N := ["_law_held_here", "_law_crate"]) (sc := defScope s_law_sign) (by decide +kernel)) (fun _ _ _ _ _ => (pg_name (i := 1) sc_law_sign.nd rfl (Or.inl rfl))) (fun _ _ _ _ _ => pts_nil) (fun _ _ _ _ _ => (pe_tup (pa_cons (pv 1) (pa_cons (pe_callB (cr_sortItK (K := K) rfl rfl hr.units) (by rfl) T.z_sorted (by decide +kernel) (pa_cons (pe_itemsK (pe_dget (hu_by hr) (pv 0) (pv 1) (fun _ _ => rfl))) pa_nil)) pa_nil))))) pa_nil)) pa_nil)))), fun ds Φ h => ?_⟩)
  · obtain ⟨c, rfl, _⟩ := h
    rfl
  · obtain ⟨c, rfl, hs, k⟩ := h
    walk_at "k"
    have cl := (sm_cards hs).1
    refine gs_ret (gk_cb (ga_cons (gk_cb (ga_cons (gk_lc (fun i hi x => ?_) (gi_keysL (gk_var rfl ⟨cntE c, rfl, ?_, fun i acc n' => acc = (c.take i).map rwD ∧ n' = ⟨0, m00⟩, ⟨rfl, rfl⟩, ?_, ?_⟩)))))))
    · cases List.mem_singleton.mp hi
      exact fun h => nomatch (show some Slot.un = some _ from h)
    · unfold cntE
      rw [List.length_map, List.length_map]
      omega
    · rintro i x acc n' hx ⟨rfl, rfl⟩ _
      rw [List.getElem?_map] at hx
      obtain ⟨kv, hkv, rfl⟩ := Option.map_eq_some_iff.mp hx
      unfold cntE at hkv
      rw [List.getElem?_map] at hkv
      obtain ⟨b, hb, rfl⟩ := Option.map_eq_some_iff.mp hkv
      have mb := List.mem_of_getElem? hb
      have tk : c.take (i + 1) = c.take i ++ [b] := by rw [List.take_add_one, hb]; rfl
      have wb := hs.1.2 b mb
      obtain ⟨s1, s2⟩ := sort_rows (rs := b.2)
      refine ⟨_, gg_name (List.mem_singleton.mpr rfl), OffD.wipe.set (List.mem_singleton.mpr rfl), gt_yes ⟨fun _ => ?_, fun z => nomatch z⟩⟩
      refine gk_tup (ga_cons (gk_var rfl (ga_cons (gk_sortIt (m := 1) (by decide) (gk_dgetL (gk_var rfl ⟨cntE c, rfl, gk_var rfl ⟨.inr b.1, rowD b.2, rfl, getD_cnt hs.1.1 mb, rowE b.2, .inr (.inl rfl), shp_row wb.2, s1, s2, ga_nil ⟨by show 2 ≤ 100000; decide, ?_, rfl⟩⟩⟩))))))
      rw [tk, List.map_append]
      rfl
    · rintro acc n' ⟨rfl, rfl⟩ _
      rw [List.length_map, show (cntE c).length = c.length from List.length_map _, List.take_length]
      obtain ⟨s0, s1, s2⟩ := sort_boxes hs
      have tk := tok_pl (i := bN c "a") (j := bN c "b")
      rw [← sg_is hs] at tk
      refine ga_nil (rc_sortD (m := 3) (by decide) s0 s1 s2 (ga_nil (rc_reprQ (m := 4) (d := sgnD c) tk.shq (by decide) (tk.fits (by decide)) k)))
theorem c_law_sign {δ : List Slot} {n : Sto} {Φ : D → Sto → Prop} {c : Cont} (h : Sm c) (k : Φ (.str (sgT c)) n) : SC K Z (sp_law_sign K) [cntD c] δ n Φ := sc_P ⟨c, rfl, h, k⟩
theorem len_gone {rs ws : List (Str × Str)} : ((((rowE rs).map fun kv => keyD kv.1).filter (goneC ws)).map id).length = nTk rs ws := by
  have e : ((rowE rs).map fun kv => keyD kv.1) = (rs.map (·.1)).map D.str := by
    unfold rowE
    rw [List.map_map, List.map_map]
    rfl
  rw [List.length_map, e, List.filter_map, List.length_map]
  rfl
theorem len_new {rs ws : List (Str × Str)} : ((((rowE ws).map fun kv => keyD kv.1).filter (newC rs ws)).map id).length = nPt rs ws := by
  have e : ((rowE ws).map fun kv => keyD kv.1) = (ws.map (·.1)).map D.str := by
    unfold rowE
    rw [List.map_map, List.map_map]
    rfl
  rw [List.length_map, e, List.filter_map, List.length_map]
  rfl
theorem key_row {rs : List (Str × Str)} {z : D} (h : z ∈ (rowE rs).map fun kv => keyD kv.1) : ∃ k, z = .str k ∧ k ∈ rs.map (·.1) := by
  obtain ⟨kv, hkv, rfl⟩ := List.mem_map.mp h
  obtain ⟨p, hp, rfl⟩ := List.mem_map.mp hkv
  exact ⟨p.1, rfl, List.mem_map.mpr ⟨p, hp, rfl⟩⟩
theorem take_len {a b : Cont} {i : Nat} {y : Str} (h : (setS (a.map (·.1) ++ b.map (·.1)))[i]? = some y) : (((setS (a.map (·.1) ++ b.map (·.1))).take (i + 1)).flatMap (boxD a b)).length = (((setS (a.map (·.1) ++ b.map (·.1))).take i).flatMap (boxD a b)).length + (boxD a b y).length := by
  rw [List.take_add_one, h, List.flatMap_append, List.length_append]
  show _ + ((boxD a b y) ++ []).length = _
  rw [List.append_nil]
def sp_law_fewest (K : PySem.W.Frag) : Sp := spP K fun ds Φ => ∃ a b : Cont, ds = [cntD a, cntD b] ∧ WfC a ∧ WfC b ∧ a.length ≤ 100 ∧ b.length ≤ 100 ∧ rowsN a ≤ 100 ∧ rowsN b ≤ 100 ∧ Φ (.int ((wayD a b).length : Nat))
theorem ok_law_fewest (T : Txt K mg) : FnOk P w K mg base CX0 1 T.f_law_fewest T.fd_law_fewest ["_law_one", "_law_other"] (sp_law_fewest K) := by
  refine fn_P T.F_law_fewest sc_law_fewest (fun ds Φ h => ?_) (fun cdv A outer s H E hr => ⟨_, (pss_cons (ps_set (i := 2) sc_law_fewest.nd rfl (Or.inl rfl) pe_int)
      (pss_cons (ps_for PassesOwn.never (by rfl) (pi_list (pe_callB (cr_sortTx rfl hr.units) (by rfl) T.z_sorted (by decide +kernel) (pa_cons (pe_callTy (cr_setTx (K := K) rfl rfl) (by rfl) T.z_set (by decide +kernel) (pa_cons (pe_op op_cat (pe_callTy (call_listD rfl) (by rfl) T.z_list (by decide +kernel) (pa_cons (pv 0) pa_nil)) (pe_callTy (call_listD rfl) (by rfl) T.z_list (by decide +kernel) (pa_cons (pv 1) pa_nil))) pa_nil)) pa_nil))) (pg_name (i := 3) sc_law_fewest.nd rfl (Or.inr rfl))
        (pss_one (ps_if (pt_cmp (pc_dnotin (hu_by hr) (pv 3) (pv 1)))
          (pss_one (ps_set (i := 2) sc_law_fewest.nd rfl (Or.inl rfl) (pe_op op_add (pv 2) pe_int)))
          (pss_one (ps_if (pt_cmp (pc_dnotin (hu_by hr) (pv 3) (pv 0)))
            (pss_one (ps_set (i := 2) sc_law_fewest.nd rfl (Or.inl rfl) (pe_op op_add (pe_op op_add (pv 2) pe_int) (pe_callB cr_lenRd (by rfl) T.z_len (by decide +kernel) (pa_cons (pe_dget (hu_by hr) (pv 1) (pv 3) (fun _ _ => rfl)) pa_nil)))))
            (pss_cons (ps_setLc (i := 4) (own := [("_law_label", 5)]) (g := gName 5) (by rfl) sc_law_fewest.nd rfl rfl (sw_true rfl rfl rfl (by decide +kernel)) (pi_keys (pe_dget (hu_by hr) (pv 0) (pv 3) (fun _ _ => rfl))) (blkOk_by (own := [("_law_label", 5)]) (N := ["_law_one", "_law_other", "_law_found", "_law_crate", "_law_away", "_law_label", "_law_come"]) (sc := defScope s_law_fewest) (by decide +kernel)) (fun _ _ _ _ _ => (pg_name (i := 5) sc_law_fewest.nd rfl (Or.inl rfl))) (fun _ _ _ _ _ => (pts_one (pt_cmp (pc_dnotin (hu_by hr) (pv 5) (pe_dget (hu_by hr) (pv 1) (pv 3) (fun _ _ => rfl)))))) (fun _ _ _ _ _ => (pv 5)))
            (pss_cons (ps_setLc (i := 6) (own := [("_law_label", 5)]) (g := gName 5) (by rfl) sc_law_fewest.nd rfl rfl (sw_true rfl rfl rfl (by decide +kernel)) (pi_keys (pe_dget (hu_by hr) (pv 1) (pv 3) (fun _ _ => rfl))) (blkOk_by (own := [("_law_label", 5)]) (N := ["_law_one", "_law_other", "_law_found", "_law_crate", "_law_away", "_law_label", "_law_come"]) (sc := defScope s_law_fewest) (by decide +kernel)) (fun _ _ _ _ _ => (pg_name (i := 5) sc_law_fewest.nd rfl (Or.inl rfl))) (fun _ _ _ _ _ => (pts_one (pt_cmpR op_ne (pe_dget2 (hu_by hr) (pe_dget (hu_by hr) (pv 0) (pv 3) (fun _ _ => rfl)) (pv 5) pe_non ⟨rfl, rfl, rfl, rfl⟩) (pe_dget (hu_by hr) (pe_dget (hu_by hr) (pv 1) (pv 3) (fun _ _ => rfl)) (pv 5) (fun _ _ => rfl)) (nomark _)))) (fun _ _ _ _ _ => (pv 5)))
            (pss_one (ps_set (i := 2) sc_law_fewest.nd rfl (Or.inl rfl) (pe_op op_add (pv 2) (pe_callB (call_min2 rfl) (by rfl) T.z_min (by decide +kernel) (pa_cons (pe_op op_add (pe_callB call_len_seq (by rfl) T.z_len (by decide +kernel) (pa_cons (pv 4) pa_nil)) (pe_callB call_len_seq (by rfl) T.z_len (by decide +kernel) (pa_cons (pv 6) pa_nil))) (pa_cons (pe_op op_add pe_int (pe_callB cr_lenRd (by rfl) T.z_len (by decide +kernel) (pa_cons (pe_dget (hu_by hr) (pv 1) (pv 3) (fun _ _ => rfl)) pa_nil))) pa_nil)))))))))))))
      (pss_one (ps_ret (pv 2))))), fun ds Φ h => ?_⟩)
  · obtain ⟨a, b, rfl, _⟩ := h
    rfl
  · obtain ⟨a, b, rfl, wa, wb, la, lb, ha, hb, k⟩ := h
    walk_at "k"
    refine gs_seq (gs_asg (gk_i ?_))
    refine gs_seq (gs_forW (gi_list (gk_sortSet (gk_op (gk_cb (ga_cons (gk_var rfl (ga_nil (rc_listDA (.inr (.inl rfl)) (gk_cb (ga_cons (gk_var rfl (ga_nil (rc_listDA (.inr (.inl rfl)) (rk_cat ?_ ⟨a.map (·.1) ++ b.map (·.1), ?_, ?_, _, rfl, fun i δ' n' => δ' = [.d (cntD a), .d (cntD b), .d (.int ((((setS (a.map (·.1) ++ b.map (·.1))).take i).flatMap (boxD a b)).length : Nat)), .un, .un, .un, .un] ∧ n' = ⟨0, m00⟩, ⟨_, by walk_at "wk", rfl, rfl⟩, ?_, ?_⟩)))))))))))))))
    · unfold cntE
      rw [List.length_map, List.length_map, List.length_map, List.length_map]
      omega
    · unfold cntE
      rw [List.map_append, List.map_map, List.map_map, List.map_map, List.map_map]
      rfl
    · rw [List.length_append, List.length_map, List.length_map]
      omega
    · rintro i x δ' n' hx ⟨rfl, rfl⟩
      rw [List.getElem?_map] at hx
      obtain ⟨y, hy, rfl⟩ := Option.map_eq_some_iff.mp hx
      have my : inC a y ∨ inC b y := List.mem_append.mp (setS_mem.mp (List.mem_of_getElem? hy))
      have tl := take_len hy
      rw [box_len] at tl
      refine ⟨_, [3], gg_name (by decide), ?_⟩
      refine gs_if (gt_notbox (x := y) (c := b) rfl rfl (fun nb => ⟨fun _ => ?_, fun z => nomatch z⟩) fun ib => ⟨(fun z => nomatch z), fun _ => ?_⟩)
      · rw [if_neg nb] at tl
        refine gs_asg (gk_op (gk_var rfl (gk_i (rk_add ⟨[.d (cntD a), .d (cntD b), .d (.int ((((setS (a.map (·.1) ++ b.map (·.1))).take (i + 1)).flatMap (boxD a b)).length : Nat)), .un, .un, .un, .un], ?_, rfl, rfl⟩))))
        rw [tl]
        exact .kp (.kp (.kp (.un (.kp (.kp (.kp .nil))))))
      rw [if_pos ib] at tl
      refine gs_if (gt_notbox (x := y) (c := a) rfl rfl (fun na => ⟨fun _ => ?_, fun z => nomatch z⟩) fun ia => ⟨(fun z => nomatch z), fun _ => ?_⟩)
      · rw [if_neg na] at tl
        refine gs_asg (gk_op (gk_op (gk_var rfl (gk_i (rk_add (gk_cb (ga_cons (gk_dgetL (gk_var rfl ⟨cntE b, rfl, gk_var rfl ⟨.inr y, _, rfl, getC_at wb ib, ga_nil (rc_lenDA (.inr (.inl rfl)) (rk_add ⟨[.d (cntD a), .d (cntD b), .d (.int ((((setS (a.map (·.1) ++ b.map (·.1))).take (i + 1)).flatMap (boxD a b)).length : Nat)), .un, .un, .un, .un], ?_, rfl, rfl⟩))⟩⟩)))))))))
        rw [tl]
        have e : ((rowE (rowsAt b y)).length : Int) = ((rowsAt b y).length : Nat) := by
          unfold rowE
          rw [List.length_map]
        have e2 : (((((setS (a.map (·.1) ++ b.map (·.1))).take i).flatMap (boxD a b)).length : Nat) : Int) + 1 + ((rowE (rowsAt b y)).length : Nat) = (((((setS (a.map (·.1) ++ b.map (·.1))).take i).flatMap (boxD a b)).length + (1 + (rowsAt b y).length) : Nat) : Int) := by omega
        rw [e2]
        exact .kp (.kp (.kp (.un (.kp (.kp (.kp .nil))))))
      rw [if_pos ia] at tl
      have wr := (wa.2 _ (rowsAt_in wa ia)).2
      have ww := (wb.2 _ (rowsAt_in wb ib)).2
      have lr := rows_le (rowsAt_in wa ia)
      have lw := rows_le (rowsAt_in wb ib)
      have lr : (rowsAt a y).length ≤ 100 := Nat.le_trans lr ha
      have lw : (rowsAt b y).length ≤ 100 := Nat.le_trans lw hb
      refine gs_seq (gs_asg (gk_filt1 (f := id) (c := goneC (rowsAt b y)) (fun _ h => nomatch (show some Slot.un = some _ from h)) (gi_keysL (gk_dgetL (gk_var rfl ⟨cntE a, rfl, gk_var rfl ⟨.inr y, _, rfl, getC_at wa ia, rowE (rowsAt a y), rfl, ?_, fun z hz => ?_, ?_⟩⟩)))))
      · unfold rowE
        rw [List.length_map, List.length_map]
        omega
      · obtain ⟨kk, rfl, _⟩ := key_row hz
        refine gt_test (gk_notinA (gk_var rfl (gk_dgetL (gk_var rfl ⟨cntE b, rfl, gk_var rfl ⟨.inr y, _, rfl, getC_at wb ib, rowE (rowsAt b y), .inr kk, .inr (.inl rfl), rfl, _, rfl, ?_, rfl, fun _ => gk_var rfl ⟨rfl, rfl⟩⟩⟩))))
        rw [getR_is]
        show _ = decide (kk ∉ (rowsAt b y).map (·.1))
        by_cases q : kk ∈ (rowsAt b y).map (·.1) <;> simp [q]
      have l1 := len_gone (rs := rowsAt a y) (ws := rowsAt b y)
      generalize (((rowE (rowsAt a y)).map fun kv => keyD kv.1).filter (goneC (rowsAt b y))).map id = xs1 at l1 ⊢
      refine gs_seq (gs_asg (gk_filt1 (f := id) (c := newC (rowsAt a y) (rowsAt b y)) (fun _ h => nomatch (show some Slot.un = some _ from h)) (gi_keysL (gk_dgetL (gk_var rfl ⟨cntE b, rfl, gk_var rfl ⟨.inr y, _, rfl, getC_at wb ib, rowE (rowsAt b y), rfl, ?_, fun z hz => ?_, ?_⟩⟩)))))
      · unfold rowE
        rw [List.length_map, List.length_map]
        omega
      · obtain ⟨kk, rfl, mk⟩ := key_row hz
        have kw := valR_in ww.1 mk
        refine gt_test (gk_op (gk_get2A (gk_dgetL (gk_var rfl ⟨cntE a, rfl, gk_var rfl ⟨.inr y, _, rfl, getC_at wa ia, rowE (rowsAt a y), .inr (.inl rfl), gk_var rfl ⟨.inr kk, rfl, rfl, gk_n ⟨rowE (rowsAt a y), .inr (.inl rfl), gk_dgetL (gk_dgetL (gk_var rfl ⟨cntE b, rfl, gk_var rfl ⟨.inr y, _, rfl, getC_at wb ib, rowE (rowsAt b y), rfl, gk_var rfl ⟨.inr kk, _, rfl, rowE_get ww.1 kw, ?_⟩⟩⟩))⟩⟩⟩⟩))))
        cases g : getD' (rowE (rowsAt a y)) (Sum.inr kk) with
        | none =>
          refine rk_ne (u := .non) (w := .str (valR (rowsAt b y) kk)) rfl rfl rfl ⟨_, rfl, ?_, rfl, fun _ => gk_var rfl ⟨rfl, rfl⟩⟩
          have : (kk, valR (rowsAt b y) kk) ∉ rowsAt a y := fun m => by
            rw [rowE_get wr.1 m] at g
            cases g
          show _ = decide _
          rw [decide_eq_true this]
          simp
        | some d =>
          have hd : ∃ z, d = .str z := by
            unfold getD' at g
            obtain ⟨kv, hkv, rfl⟩ := Option.map_eq_some_iff.mp g
            obtain ⟨w, _, rfl⟩ := List.mem_map.mp (List.mem_of_find?_eq_some hkv)
            exact ⟨_, rfl⟩
          obtain ⟨z, rfl⟩ := hd
          have mz := (getR_some wr.1).mp g
          refine rk_neS ⟨_, rfl, ?_, rfl, fun _ => gk_var rfl ⟨rfl, rfl⟩⟩
          show _ = decide _
          by_cases e : z = valR (rowsAt b y) kk
          · have : ¬ (kk, valR (rowsAt b y) kk) ∉ rowsAt a y := fun q => q (by rw [← e]; exact mz)
            rw [decide_eq_false this]
            simp [e]
          · have : (kk, valR (rowsAt b y) kk) ∉ rowsAt a y := fun q => e (by rw [← valR_mem wr.1 q, valR_mem wr.1 mz])
            rw [decide_eq_true this]
            simp [e]
      have l2 := len_new (rs := rowsAt a y) (ws := rowsAt b y)
      generalize (((rowE (rowsAt b y)).map fun kv => keyD kv.1).filter (newC (rowsAt a y) (rowsAt b y))).map id = xs2 at l2 ⊢
      have e : ((rowE (rowsAt b y)).length : Int) = ((rowsAt b y).length : Nat) := by
        unfold rowE
        rw [List.length_map]
      refine gs_asg (gk_op (gk_var rfl (gk_cb (ga_cons (gk_op (gk_cb (ga_cons (gk_var rfl (ga_nil (rc_lenL (gk_cb (ga_cons (gk_var rfl (ga_nil (rc_lenL (rk_add (ga_cons (gk_op (gk_i (gk_cb (ga_cons (gk_dgetL (gk_var rfl ⟨cntE b, rfl, gk_var rfl ⟨.inr y, _, rfl, getC_at wb ib, ga_nil (rc_lenDA (.inr (.inl rfl)) (rk_add (ga_nil (rc_min2 (rk_add ⟨[.d (cntD a), .d (cntD b), .d (.int ((((setS (a.map (·.1) ++ b.map (·.1))).take (i + 1)).flatMap (boxD a b)).length : Nat)), .un, .un, .un, .un], ?_, rfl, rfl⟩)))))⟩⟩)))))))))))))))))))))))
      have e2 : (((((setS (a.map (·.1) ++ b.map (·.1))).take i).flatMap (boxD a b)).length : Nat) : Int) + (if (2 : Int) + ((rowE (rowsAt b y)).length : Nat) < (xs1.length : Nat) + (xs2.length : Nat) then (2 : Int) + ((rowE (rowsAt b y)).length : Nat) else (xs1.length : Nat) + (xs2.length : Nat)) = ((((setS (a.map (·.1) ++ b.map (·.1))).take (i + 1)).flatMap (boxD a b)).length : Nat) := by
        rw [tl, l1, l2, e]
        split <;> omega
      rw [e2]
      exact .kp (.kp (.kp (.un (.un (.un (.un .nil))))))
    · rintro δ' n' ⟨rfl, rfl⟩
      refine gs_ret (gk_var rfl ?_)
      rw [List.length_map, List.take_length]
      exact k
theorem c_law_fewest {δ : List Slot} {n : Sto} {Φ : D → Sto → Prop} {a b : Cont} (h1 : WfC a) (h2 : WfC b) (h3 : a.length ≤ 100) (h4 : b.length ≤ 100) (h5 : rowsN a ≤ 100) (h6 : rowsN b ≤ 100) (k : Φ (.int ((wayD a b).length : Nat)) n) : SC K Z (sp_law_fewest K) [cntD a, cntD b] δ n Φ := sc_P ⟨a, b, rfl, h1, h2, h3, h4, h5, h6, k⟩
theorem cards_parts {c : Cont} {m : Nat} (h : cardsN c ≤ m) : c.length ≤ m ∧ rowsN c ≤ m := by
  unfold cardsN at h
  omega
def Dd.nocp : Dd → Prop
  | .copy _ _ => False
  | _ => True
theorem fillD_nc {x : Str} {rs : List (Str × Str)} : ∀ d ∈ fillD x rs, d.nocp := fun d hd => by
  obtain ⟨k, hk, rfl⟩ := List.mem_map.mp hd
  exact trivial
theorem boxD_nc {a b : Cont} {x : Str} : ∀ d ∈ boxD a b x, d.nocp := by
  intro d hd
  have made : ∀ d ∈ Dd.make x :: fillD x (rowsAt b x), d.nocp := fun d hd => by
    rcases List.mem_cons.mp hd with rfl | hd
    · exact trivial
    · exact fillD_nc d hd
  unfold boxD at hd
  split at hd
  · split at hd
    · split at hd
      · rcases List.mem_append.mp hd with hd | hd
        · obtain ⟨k, hk, rfl⟩ := List.mem_map.mp hd
          exact trivial
        · obtain ⟨k, hk, rfl⟩ := List.mem_map.mp hd
          exact trivial
      · rcases List.mem_cons.mp hd with rfl | hd
        · exact trivial
        · exact made d hd
    · exact made d hd
  · rw [List.mem_singleton.mp hd]
    exact trivial
theorem wayD_nc {a b : Cont} : ∀ d ∈ wayD a b, d.nocp := fun d hd => by
  obtain ⟨x, _, hd⟩ := List.mem_flatMap.mp hd
  exact boxD_nc d hd
def sp_law_led (K : PySem.W.Frag) : Sp := spP K fun ds Φ => ∃ (a b e : Cont) (dd : List Dd), ds = [cntD a, .lst (dd.map Dd.D)] ∧ WfC a ∧ (∀ d ∈ dd, d.nocp) ∧ Leads a b a dd e ∧ cardsN a + cardsN b ≤ 200 ∧ dd.length ≤ 50000 ∧ Φ (cntD e)
theorem ok_law_led (T : Txt K mg) : FnOk P w K mg base CX0 1 T.f_law_led T.fd_law_led ["_law_held_here", "_law_deeds_here"] (sp_law_led K) := by
  refine fn_P T.F_law_led sc_law_led (fun ds Φ h => ?_) (fun cdv A outer s H E hr => ⟨_, (pss_cons (ps_set (i := 2) sc_law_led.nd rfl (Or.inl rfl) (pe_callTy (call_dictP rfl) (by rfl) T.z_dict (by decide +kernel) (pa_cons (pe_lc (own := [("_law_crate", 3)]) (g := gName 3) (by rfl) sc_law_led.nd (pi_keys (pv 0)) (blkOk_by (own := [("_law_crate", 3)]) (N := ["_law_held_here", "_law_deeds_here", "_law_found", "_law_crate", "_law_deed", "_law_word"]) (sc := defScope s_law_led) (by decide +kernel)) (fun _ _ _ _ _ => (pg_name (i := 3) sc_law_led.nd rfl (Or.inl rfl))) (fun _ _ _ _ _ => pts_nil) (fun _ _ _ _ _ => (pe_tup (pa_cons (pv 3) (pa_cons (pe_callTy call_dictD (by rfl) T.z_dict (by decide +kernel) (pa_cons (pe_dget (hu_by hr) (pv 0) (pv 3) (fun _ _ => rfl)) pa_nil)) pa_nil))))) pa_nil)))
      (pss_cons (ps_for PassesOwn.never (by rfl) (pi_list (pv 1)) (pg_name (i := 4) sc_law_led.nd rfl (Or.inl rfl))
        (pss_cons (ps_par (i := 5) (j := 3) (by rfl) sc_law_led.nd rfl rfl (by decide) rfl rfl (pa_cons (pe_ix ix_tup (pv 4) pe_int (fun _ _ => rfl)) (pa_cons (pe_ix ix_tup (pv 4) pe_int (fun _ _ => rfl)) pa_nil)) (by rfl))
        (pss_cons (ps_if (PW.pt (pw_or (pt_cmpR op_eq (pe_cmpR op_eq (pv 5) pe_str (nomark _)) (pe_cmp (pc_din (hu_by hr) (pv 3) (pv 2)) rfl) (nomark _)) (pw_or1 (PW.pt (pw_and (pt_cmpR op_eq (pv 5) pe_str (nomark _)) (pw_and1 (pt_cmp (pc_dnotin (hu_by hr) (pe_ix ix_tup (pv 4) pe_int (fun _ _ => rfl)) (pe_dget (hu_by hr) (pv 2) (pv 3) (fun _ _ => rfl))))))))))
          (pss_one (ps_ret pe_non))
          pss_nil)
        (pss_one (ps_if (pt_cmpR op_eq (pv 5) pe_str (nomark _))
          (pss_one (ps_dput (hu_by hr) (pv 2) (pv 3) pe_dnewK rfl))
          (pss_one (ps_if (pt_cmpR op_eq (pv 5) pe_str (nomark _))
            (pss_one (ps_dput (hu_by hr) (pe_dget (hu_by hr) (pv 2) (pv 3) (fun _ _ => rfl)) (pe_ix ix_tup (pv 4) pe_int (fun _ _ => rfl)) (pe_ix ix_tup (pv 4) pe_int (fun _ _ => rfl)) rfl))
            (pss_one (ps_if (pt_cmpR op_eq (pv 5) pe_str (nomark _))
              (pss_one (ps_expr (pe_dpop1 (pe_dget (hu_by hr) (pv 2) (pv 3) (fun _ _ => rfl)) (pe_ix ix_tup (pv 4) pe_int (fun _ _ => rfl)) ⟨rfl, rfl, rfl, rfl⟩)))
              (pss_one (ps_expr (pe_dpop1 (pv 2) (pv 3) ⟨rfl, rfl, rfl, rfl⟩))))))))))))
      (pss_one (ps_lockS (ps_ret (pv 2)))))), fun ds Φ h => ?_⟩)
  · obtain ⟨a, b, e, dd, rfl, _⟩ := h
    rfl
  · obtain ⟨c, b, e, dd, rfl, wf, nc, ld, hc, hl, k⟩ := h
    walk_at "k"
    have lc : c.length ≤ 200 ∧ rowsN c ≤ 200 := cards_parts (show cardsN c ≤ 200 by omega)
    have knd : (c.map fun b => (Sum.inr b.1 : Key)).Nodup := by
      have q := List.Pairwise.map (S := fun a b : Key => a ≠ b) Sum.inr (fun a b h e => h (Sum.inr.inj e)) wf.1
      rw [List.map_map] at q
      exact q
    refine gs_seq (gs_asg (gk_cb (ga_cons (gk_lc (fun i hi x => ?_) (gi_keysL (gk_var rfl ⟨cntE c, rfl, ?_, fun i acc n' => ∃ qs, acc = (ptE qs (c.take i)).map (fun kv => .tup [keyD kv.1, kv.2]) ∧ Rws n' qs (c.take i) ∧ qs.Nodup, ⟨[], rfl, .nil, List.nodup_nil⟩, ?_, ?_⟩))))))
    · cases List.mem_singleton.mp hi
      exact fun h => nomatch (show some Slot.un = some _ from h)
    · unfold cntE
      rw [List.length_map, List.length_map]
      omega
    · rintro i x acc n' hx ⟨qs, rfl, h1, h2⟩ _
      rw [List.getElem?_map] at hx
      obtain ⟨kv, hkv, rfl⟩ := Option.map_eq_some_iff.mp hx
      unfold cntE at hkv
      rw [List.getElem?_map] at hkv
      obtain ⟨b, hb, rfl⟩ := Option.map_eq_some_iff.mp hkv
      have mb := List.mem_of_getElem? hb
      have tk : c.take (i + 1) = c.take i ++ [b] := by rw [List.take_add_one, hb]; rfl
      refine ⟨_, gg_name (List.mem_singleton.mpr rfl), OffD.wipe.set (List.mem_singleton.mpr rfl), gt_yes ⟨fun _ => ?_, fun z => nomatch z⟩⟩
      refine gk_tup (ga_cons (gk_var rfl (ga_cons (gk_cb (ga_cons (gk_dgetL (gk_var rfl ⟨cntE c, rfl, gk_var rfl ⟨.inr b.1, rowD b.2, rfl, getD_cnt wf.1 mb, ga_nil (rc_dictDA (.inr (.inl rfl)) fun q hq => ga_nil ⟨by show 2 ≤ 100000; decide, qs ++ [q], ?_, ?_, ?_⟩)⟩⟩)))))))
      · rw [tk, ptE_app h1.len, List.map_append]
        rfl
      · rw [tk]
        exact (h1.keep fun a ha => Sto.put_ne fun z => h1.someC a ha (z ▸ hq)).app (.cons Sto.put_same .nil)
      · rw [List.nodup_append]
        exact ⟨h2, by simp, fun a ha b hb z => by
          rw [List.mem_singleton.mp hb] at z
          exact h1.someC a ha (z ▸ hq)⟩
    rintro acc n' ⟨qs, rfl, h1, h2⟩ _
    rw [List.length_map, show (cntE c).length = c.length from List.length_map _, List.take_length] at h1
    rw [List.length_map, show (cntE c).length = c.length from List.length_map _, List.take_length]
    have kq : (ptE qs c).map (·.1) = c.map fun b => (Sum.inr b.1 : Key) := ptE_keys h1.len
    refine ga_nil (rc_dictP (kvs := ptE qs c) rfl fun p hp => ?_)
    rw [mergeC (es := []) (by rw [List.nil_append]; show ((ptE qs c).map (·.1)).Nodup; rw [kq]; exact knd), List.nil_append]
    have st : StC (n'.put p (.dic (ptE qs c))) p qs c := ⟨Sto.put_same, h1.keep fun a ha => Sto.put_ne fun z => h1.someC a ha (z ▸ hp), List.nodup_cons.mpr ⟨fun z => h1.someC p z hp, h2⟩⟩
    generalize n'.put p (.dic (ptE qs c)) = n1 at st ⊢
    clear hp h1 h2
    refine gs_seq (gs_forW (gi_list (gk_var rfl ⟨_, rfl, fun j δ' n' => ∃ (qs : List Addr) (ci : Cont), δ' = [.d (cntD c), .d (.lst (dd.map Dd.D)), .d (.ptr p), .un, .un, .un] ∧ StC n' p qs ci ∧ WfC ci ∧ Within c b ci ∧ Leads c b ci (dd.drop j) e, ⟨_, by walk_at "wk", qs, c, rfl, st, wf, ⟨fun _ h => .inl h, fun _ _ _ h => .inl h⟩, ld⟩, ?_, ?_⟩)))
    · clear st
      rintro j x δ' n2 hx ⟨qs, ci, rfl, st, wi, ii, li⟩
      rw [List.getElem?_map] at hx
      obtain ⟨d, hd, rfl⟩ := Option.map_eq_some_iff.mp hx
      have md := List.mem_of_getElem? hd
      have dr : dd.drop j = d :: dd.drop (j + 1) := by
        obtain ⟨hl, e2⟩ := List.getElem?_eq_some_iff.mp hd
        rw [List.drop_eq_getElem_cons hl, e2]
      rw [dr] at li
      obtain ⟨hw, w1, v1, r1⟩ : whyC ci d = none ∧ Within c b (doC ci d) ∧ WfC (doC ci d) ∧ Leads c b (doC ci d) (dd.drop (j + 1)) e := by
        cases li with
        | cons h w v r => exact ⟨h, w, v, r⟩
      have ci1 := within_cards wi ii
      obtain ⟨s1, s2⟩ := cards_parts (show cardsN ci ≤ 200 by omega)
      have el := st.len
      have done : ∀ {n3 : Sto} {qs3 : List Addr}, StC n3 p qs3 (doC ci d) → ∃ δ4, Wk [Slot.d (cntD c), .d (.lst (dd.map Dd.D)), .d (.ptr p), .d (.str (crD d)), .d d.D, .d (.str (wdD d))] δ4 ∧ ∃ (qs : List Addr) (ci : Cont), δ4 = [.d (cntD c), .d (.lst (dd.map Dd.D)), .d (.ptr p), .un, .un, .un] ∧ StC n3 p qs ci ∧ WfC ci ∧ Within c b ci ∧ Leads c b ci (dd.drop (j + 1)) e := fun st3 => ⟨_, by walk_at "wk", _, _, rfl, st3, v1, w1, r1⟩
      obtain ⟨xs, ed, x0, x1⟩ := deedD_at d
      refine ⟨_, [4], gg_name (by decide), ?_⟩
      rw [ed] at done ⊢
      refine gs_seq (gs_par (ga_cons (gk_op (gk_var rfl (gk_i (rk_ixT (atI_nat (j := 0) x0) (ga_cons (gk_op (gk_var rfl (gk_i (rk_ixT (atI_nat (j := 1) x1) (ga_nil ⟨_, _, rfl, ?_⟩))))))))))))
      have cin : ∀ x, (getD' (ptE qs ci) (Sum.inr x)).isSome = decide (inC ci x) := fun x => st.get
      cases d with
      | copy x y => exact (nc _ md).elim
      | make x =>
        have hn : ¬ inC ci x := fun z => by
          simp only [whyC] at hw
          rw [if_pos z] at hw
          cases hw
        refine gs_seq (gs_if (gt_or (gt_test (gk_op (gk_op (gk_var rfl (gk_s (rk_eqS (gk_inA (gk_var rfl (gk_var rfl ⟨ptE qs ci, .inr x, .inl ⟨p, rfl, st.dc⟩, rfl, rk_eqB ⟨false, ?_, (fun z => nomatch z), fun _ => ?_⟩⟩)))))))))))
        · rw [cin, decide_eq_false hn]
          exact congrArg D.bl (show decide (decide (("make" : Str) = "make") = false) = false by decide +kernel)
        refine gt_and (gt_word (a := "make") false rfl (by decide +kernel) ⟨(fun z => nomatch z), fun _ => ⟨(fun z => nomatch z), fun _ => gs_next ?_⟩⟩)
        refine gs_if (gt_word (a := "make") true rfl (by decide +kernel) ⟨fun _ => ?_, fun z => nomatch z⟩)
        refine gs_putP (gk_newD fun q hq => gk_var rfl ⟨p, rfl, gk_var rfl ⟨ptE qs ci, .inr x, ?_, rfl, by omega, ?_⟩⟩)
        · exact (Sto.put_ne fun z => by rw [← z, st.dc] at hq; cases hq).trans st.dc
        exact done (st.more (rs := []) hn hq rfl)
      | put x k2 z =>
        cases (show D.tup [.str "put", .str x, .str k2, .str z] = .tup xs from ed)
        have hi : inC ci x := Classical.byContradiction fun z => by
          simp only [whyC] at hw
          rw [if_neg z] at hw
          cases hw
        refine gs_seq (gs_if (gt_or (gt_test (gk_op (gk_op (gk_var rfl (gk_s (rk_eqS (gk_inA (gk_var rfl (gk_var rfl ⟨ptE qs ci, .inr x, .inl ⟨p, rfl, st.dc⟩, rfl, rk_eqB ⟨false, ?_, (fun z => nomatch z), fun _ => ?_⟩⟩)))))))))))
        · rw [cin, decide_eq_true hi]
          exact congrArg D.bl (show decide (decide (("put" : Str) = "make") = true) = false by decide +kernel)
        refine gt_and (gt_word (a := "put") false rfl (by decide +kernel) ⟨(fun z => nomatch z), fun _ => ⟨(fun z => nomatch z), fun _ => gs_next ?_⟩⟩)
        refine gs_if (gt_word (a := "put") false rfl (by decide +kernel) ⟨(fun z => nomatch z), fun _ => ?_⟩)
        refine gs_if (gt_word (a := "put") true rfl (by decide +kernel) ⟨fun _ => ?_, fun z => nomatch z⟩)
        obtain ⟨q, gq, eq, up⟩ := st.upd wi hi
        have lr : (rowsAt ci x).length ≤ 200 := Nat.le_trans (rows_le (rowsAt_in wi hi)) s2
        refine gs_putP (gk_op (gk_var rfl (gk_i (rk_ixT (d := .str z) rfl (gk_dgetP (gk_var rfl ⟨p, rfl, gk_var rfl ⟨_, .inr x, _, st.dc, rfl, gq, q, rfl, gk_op (gk_var rfl (gk_i (rk_ixT (d := .str k2) rfl ⟨_, .inr k2, eq, rfl, by unfold rowE; rw [List.length_map]; omega, ?_⟩)))⟩⟩))))))
        rw [rowE_put]
        exact done (up fun rs => putR rs k2 z)
      | take x k2 =>
        cases (show D.tup [.str "take", .str x, .str k2] = .tup xs from ed)
        have hi : inC ci x := Classical.byContradiction fun z => by
          simp only [whyC] at hw
          rw [if_neg z] at hw
          cases hw
        have ik : k2 ∈ (rowsAt ci x).map (·.1) := Classical.byContradiction fun z => by
          simp only [whyC] at hw
          rw [if_pos hi, if_neg z] at hw
          cases hw
        obtain ⟨q, gq, eq, up⟩ := st.upd wi hi
        have wr := (wi.2 _ (rowsAt_in wi hi)).2
        refine gs_seq (gs_if (gt_or (gt_test (gk_op (gk_op (gk_var rfl (gk_s (rk_eqS (gk_inA (gk_var rfl (gk_var rfl ⟨ptE qs ci, .inr x, .inl ⟨p, rfl, st.dc⟩, rfl, rk_eqB ⟨false, ?_, (fun z => nomatch z), fun _ => ?_⟩⟩)))))))))))
        · rw [cin, decide_eq_true hi]
          exact congrArg D.bl (show decide (decide (("take" : Str) = "make") = true) = false by decide +kernel)
        refine gt_and (gt_word (a := "take") true rfl (by decide +kernel) ⟨fun _ => gt_test (gk_notinA (gk_op (gk_var rfl (gk_i (rk_ixT (d := .str k2) rfl (gk_dgetP (gk_var rfl ⟨p, rfl, gk_var rfl ⟨_, .inr x, _, st.dc, rfl, gq, rowE (rowsAt ci x), .inr k2, .inl ⟨q, rfl, eq⟩, rfl, false, ?_, (fun z => nomatch z), fun _ => gs_next ?_⟩⟩))))))), fun z => nomatch z⟩)
        · rw [getR_is, decide_eq_true ik]
          rfl
        refine gs_if (gt_word (a := "take") false rfl (by decide +kernel) ⟨(fun z => nomatch z), fun _ => ?_⟩)
        refine gs_if (gt_word (a := "take") false rfl (by decide +kernel) ⟨(fun z => nomatch z), fun _ => ?_⟩)
        refine gs_if (gt_word (a := "take") true rfl (by decide +kernel) ⟨fun _ => ?_, fun z => nomatch z⟩)
        refine gs_drop (gk_dpopP (gk_dgetP (gk_var rfl ⟨p, rfl, gk_var rfl ⟨_, .inr x, _, st.dc, rfl, gq, q, _, rfl, eq, gk_op (gk_var rfl (gk_i (rk_ixT (d := .str k2) rfl ⟨_, .inr k2, _, eq, rfl, rowE_get wr.1 (valR_in wr.1 ik), ?_⟩)))⟩⟩)))
        rw [dropD_rowE]
        exact done (up fun rs => delR rs k2)
      | drop x =>
        have hi : inC ci x := Classical.byContradiction fun z => by
          simp only [whyC] at hw
          rw [if_neg z] at hw
          cases hw
        obtain ⟨q, gq, eq, up⟩ := st.upd wi hi
        refine gs_seq (gs_if (gt_or (gt_test (gk_op (gk_op (gk_var rfl (gk_s (rk_eqS (gk_inA (gk_var rfl (gk_var rfl ⟨ptE qs ci, .inr x, .inl ⟨p, rfl, st.dc⟩, rfl, rk_eqB ⟨false, ?_, (fun z => nomatch z), fun _ => ?_⟩⟩)))))))))))
        · rw [cin, decide_eq_true hi]
          exact congrArg D.bl (show decide (decide (("drop" : Str) = "make") = true) = false by decide +kernel)
        refine gt_and (gt_word (a := "drop") false rfl (by decide +kernel) ⟨(fun z => nomatch z), fun _ => ⟨(fun z => nomatch z), fun _ => gs_next ?_⟩⟩)
        refine gs_if (gt_word (a := "drop") false rfl (by decide +kernel) ⟨(fun z => nomatch z), fun _ => ?_⟩)
        refine gs_if (gt_word (a := "drop") false rfl (by decide +kernel) ⟨(fun z => nomatch z), fun _ => ?_⟩)
        refine gs_if (gt_word (a := "drop") false rfl (by decide +kernel) ⟨(fun z => nomatch z), fun _ => ?_⟩)
        obtain ⟨qs', st'⟩ := st.less x
        exact gs_drop (gk_dpopP (gk_var rfl ⟨p, _, rfl, st.dc, gk_var rfl ⟨_, .inr x, _, st.dc, rfl, gq, done st'⟩⟩))
    · rintro δ' n2 ⟨qs, ci, rfl, st, wi, ii, li⟩
      rw [List.length_map, List.drop_length] at li
      cases li
      exact gs_lockRet rfl st.dc st.rs st.nd k
theorem c_law_led {δ : List Slot} {n : Sto} {Φ : D → Sto → Prop} {a b e : Cont} {dd : List Dd} (h1 : WfC a) (h2 : ∀ d ∈ dd, d.nocp) (h3 : Leads a b a dd e) (h4 : cardsN a + cardsN b ≤ 200) (h5 : dd.length ≤ 50000) (k : Φ (cntD e) n) : SC K Z (sp_law_led K) [cntD a, .lst (dd.map Dd.D)] δ n Φ := sc_P ⟨a, b, e, dd, rfl, h1, h2, h3, h4, h5, k⟩
def sp_box_way (K : PySem.W.Frag) : Sp := spP K fun ds Φ => ∃ (x : Str) (a b : Cont), ds = [.str x, cntD a, cntD b] ∧ WfC a ∧ WfC b ∧ rowsN a ≤ 1000 ∧ rowsN b ≤ 1000 ∧ Φ (.lst ((boxD a b x).map Dd.D))
theorem fillD_len (x : Str) (rs : List (Str × Str)) : (fillD x rs).length = rs.length := by
  unfold fillD
  rw [List.length_map, srtS_perm.length_eq, List.length_map]
theorem ok_box_way (T : Txt K mg) : FnOk P w K mg base CX0 2 T.f_box_way T.fd_box_way ["box", "content", "other"] (sp_box_way K) := by
  refine fn_P T.F_box_way sc_box_way (fun ds Φ h => ?_) (fun cdv A outer s H E hr => ⟨_, (pss_cons (ps_if (pt_cmp (pc_dnotin (hu_by hr) (pv 0) (pv 2)))
        (pss_one (ps_ret (pe_lst (pa_cons (pe_tup (pa_cons pe_str (pa_cons (pv 0) pa_nil))) pa_nil))))
        pss_nil)
      (pss_cons (ps_set (i := 3) sc_box_way.nd rfl (Or.inl rfl) (pe_op op_cat (pe_lst (pa_cons (pe_tup (pa_cons pe_str (pa_cons (pv 0) pa_nil))) pa_nil)) (pe_call (ok_filling T) (hr.mono (by decide)) (by rfl) T.m_filling T.F_filling.kp T.b_filling .nil pass0 (pa_cons (pv 0) (pa_cons (pe_dget (hu_by hr) (pv 2) (pv 0) (fun _ _ => rfl)) pa_nil)))))
      (pss_cons (ps_if (pt_cmp (pc_dnotin (hu_by hr) (pv 0) (pv 1)))
        (pss_one (ps_ret (pv 3)))
        pss_nil)
      (pss_one (ps_ret (pe_minLen (K := K) rfl (by rfl) T.z_min (by rfl) T.z_len rfl (pe_lst (pa_cons (pe_call (ok_changes T) (hr.mono (by decide)) (by rfl) T.m_changes T.F_changes.kp T.b_changes .nil pass0 (pa_cons (pv 0) (pa_cons (pe_dget (hu_by hr) (pv 1) (pv 0) (fun _ _ => rfl)) (pa_cons (pe_dget (hu_by hr) (pv 2) (pv 0) (fun _ _ => rfl)) pa_nil)))) (pa_cons (pe_op op_cat (pe_lst (pa_cons (pe_tup (pa_cons pe_str (pa_cons (pv 0) pa_nil))) pa_nil)) (pv 3)) pa_nil))))))))), fun ds Φ h => ?_⟩)
  · obtain ⟨x, a, b, rfl, _⟩ := h
    rfl
  · obtain ⟨x, a, b, rfl, wa, wb, ha, hb, k⟩ := h
    walk_at "k"
    unfold boxD at k
    refine gs_seq (gs_if (gt_test (gk_notinA (gk_var rfl (gk_var rfl ⟨cntE b, .inr x, .inr (.inl rfl), rfl, _, rfl, fun h => ?_, fun h => ?_⟩)))))
    · rw [getC_is] at h
      have nb : ¬ inC b x := of_decide_eq_false (by simpa using h)
      rw [if_neg nb] at k
      exact gs_ret (gk_lst (ga_cons (gk_tup (ga_cons (gk_s (ga_cons (gk_var rfl (ga_nil ⟨by show 2 ≤ 100000; decide, ga_nil ⟨by show 1 ≤ 100000; decide, k⟩⟩))))))))
    · refine gs_next ?_
      rw [getC_is] at h
      have ib : inC b x := of_decide_eq_true (by simpa using h)
      rw [if_pos ib] at k
      have gb := wb.2 _ (rowsAt_in wb ib)
      have lb : (rowsAt b x).length ≤ 1000 := Nat.le_trans (rows_le (rowsAt_in wb ib)) hb
      refine gs_seq (gs_asg (gk_op (gk_lst (ga_cons (gk_tup (ga_cons (gk_s (ga_cons (gk_var rfl (ga_nil ⟨by show 2 ≤ 100000; decide, ga_nil ⟨by show 1 ≤ 100000; decide, ?_⟩⟩))))))))))
      refine gk_call (ga_cons (gk_var rfl (ga_cons (gk_dgetL (gk_var rfl ⟨cntE b, rfl, gk_var rfl ⟨.inr x, _, rfl, getC_at wb ib, ga_nil (c_filling gb.2.1 lb ?_)⟩⟩)))))
      refine rk_cat (by rw [List.length_map, fillD_len]; simp; omega) ?_
      have em : [D.tup [.str "make", .str x]] ++ (fillD x (rowsAt b x)).map Dd.D = (Dd.make x :: fillD x (rowsAt b x)).map Dd.D := rfl
      rw [em]
      refine gs_seq (gs_if (gt_test (gk_notinA (gk_var rfl (gk_var rfl ⟨cntE a, .inr x, .inr (.inl rfl), rfl, _, rfl, fun h => ?_, fun h => ?_⟩)))))
      · rw [getC_is] at h
        have na : ¬ inC a x := of_decide_eq_false (by simpa using h)
        rw [if_neg na] at k
        exact gs_ret (gk_var rfl k)
      · refine gs_next ?_
        rw [getC_is] at h
        have ia : inC a x := of_decide_eq_true (by simpa using h)
        rw [if_pos ia] at k
        have ga := wa.2 _ (rowsAt_in wa ia)
        have la : (rowsAt a x).length ≤ 1000 := Nat.le_trans (rows_le (rowsAt_in wa ia)) ha
        refine gs_ret (gk_minLen (gk_lst (ga_cons (gk_call (ga_cons (gk_var rfl (ga_cons (gk_dgetL (gk_var rfl ⟨cntE a, rfl, gk_var rfl ⟨.inr x, _, rfl, getC_at wa ia, ga_cons (gk_dgetL (gk_var rfl ⟨cntE b, rfl, gk_var rfl ⟨.inr x, _, rfl, getC_at wb ib, ga_nil (c_changes ga.2.1 gb.2.1 la lb ?_)⟩⟩))⟩⟩)))))))))
        refine ga_cons (gk_op (gk_lst (ga_cons (gk_tup (ga_cons (gk_s (ga_cons (gk_var rfl (ga_nil ⟨by show 2 ≤ 100000; decide, ga_nil ⟨by show 1 ≤ 100000; decide, gk_var rfl (rk_cat ?_ ?_)⟩⟩)))))))))
        · rw [List.length_map, List.length_cons, List.length_cons, fillD_len]
          show 0 + 1 + _ ≤ _
          omega
        · have ed : [D.tup [.str "drop", .str x]] ++ (Dd.make x :: fillD x (rowsAt b x)).map Dd.D = (Dd.drop x :: Dd.make x :: fillD x (rowsAt b x)).map Dd.D := rfl
          rw [ed]
          refine ga_nil ⟨by show 2 ≤ 100000; decide, _, _, rfl, ?_⟩
          rw [List.length_map, List.length_map]
          split
          · rename_i z
            rw [if_pos z] at k
            exact k
          · rename_i z
            rw [if_neg z] at k
            exact k
theorem c_box_way {δ : List Slot} {n : Sto} {Φ : D → Sto → Prop} {x : Str} {a b : Cont} (h1 : WfC a) (h2 : WfC b) (h3 : rowsN a ≤ 1000) (h4 : rowsN b ≤ 1000) (k : Φ (.lst ((boxD a b x).map Dd.D)) n) : SC K Z (sp_box_way K) [.str x, cntD a, cntD b] δ n Φ := sc_P ⟨x, a, b, rfl, h1, h2, h3, h4, k⟩
def sp_law_name (K : PySem.W.Frag) : Sp := spB K fun n ds Φ => ds = [] ∧ n ≤ 2 ^ 39 ∧ ∀ z m, Nmz z → m ≤ n + 20 → Φ (.str z) m
theorem ok_law_name (T : Txt K mg) : FnOk P w K mg base CX0 2 T.f_law_name T.fd_law_name ["_law_bag_here"] (sp_law_name K) := by
  refine fn_B T.F_law_name sc_law_name (fun n ds Φ h => ?_) (fun cdv A outer s H E hr => ⟨_, (pss_cons (ps_set (i := 1) sc_law_name.nd rfl (Or.inr rfl) (pe_ix ix_list (pe_lst (pa_cons pe_str (pa_cons pe_str pa_nil))) (pe_callTy call_int1 (by rfl) T.z_int (by decide +kernel) (pa_cons (pe_cmpR op_eq (pe_call (ok_law_take T) (hr.mono (by decide)) (by rfl) T.m_law_take T.F_law_take.kp T.b_law_take .nil pass0 (pa_cons (pv 0) (pa_cons pe_int pa_nil))) pe_int (nomark _)) pa_nil)) (fun _ _ => rfl)))
      (pss_cons (ps_set (i := 2) sc_law_name.nd rfl (Or.inl rfl) (pe_op op_add pe_int (pe_call (ok_law_take T) (hr.mono (by decide)) (by rfl) T.m_law_take T.F_law_take.kp T.b_law_take .nil pass0 (pa_cons (pv 0) (pa_cons (pe_ix ix_list (pe_lst (pa_cons pe_int (pa_cons pe_int (pa_cons pe_int pa_nil)))) (pe_call (ok_law_take T) (hr.mono (by decide)) (by rfl) T.m_law_take T.F_law_take.kp T.b_law_take .nil pass0 (pa_cons (pv 0) (pa_cons pe_int pa_nil))) (fun _ _ => rfl)) pa_nil)))))
      (pss_one (ps_ret (pe_join pe_str (pe_lc (own := [("_law_spot", 3)]) (g := gName 3) (by rfl) sc_law_name.nd (pi_range1 (by rfl) T.z_range (pa_cons (pv 2) pa_nil)) (blkOk_by (own := [("_law_spot", 3)]) (N := ["_law_bag_here", "_law_letters", "_law_size", "_law_spot"]) (sc := defScope s_law_name) (by decide +kernel)) (fun _ _ _ _ _ => (pg_name (i := 3) sc_law_name.nd rfl (Or.inl rfl))) (fun _ _ _ _ _ => pts_nil) (fun _ _ _ _ _ => (pe_ix ix_str (pv 1) (pe_call (ok_law_take T) (hr.mono (by decide)) (by rfl) T.m_law_take T.F_law_take.kp T.b_law_take .nil pass0 (pa_cons (pv 0) (pa_cons (pe_callB call_len_str (by rfl) T.z_len (by decide +kernel) (pa_cons (pv 1) pa_nil)) pa_nil))) (fun _ _ => rfl))))))))), fun p n ds Φ h => ?_⟩)
  · rw [h.1]
    rfl
  · obtain ⟨rfl, hn, k⟩ := h
    walk_at "k"
    walk_at "g"
    refine sb_take (by omega) (by decide) (by decide) fun r h0 h1 => ?_
    walk_at "g"
    obtain ⟨d, ed, hd⟩ := at_2 (a := .str "abc") (b := .str "abcdefghijklmnopqrstuvwxyz") (r := if decide (r = 0) = true then 1 else 0) (by split <;> omega) (by split <;> omega)
    refine rk_ixL ed ?_
    obtain ⟨lt, rfl, hl0, hl1, hlc⟩ : ∃ lt : Str, d = .str lt ∧ 1 ≤ lt.length ∧ lt.length ≤ 26 ∧ ∀ c ∈ tl lt, 97 ≤ c ∧ c ≤ 122 := by
      rcases hd with rfl | rfl
      · exact ⟨_, rfl, by decide +kernel, by decide +kernel, by decide +kernel⟩
      · exact ⟨_, rfl, by decide +kernel, by decide +kernel, by decide +kernel⟩
    clear ed hd
    walk_at "g"
    refine sb_take (by omega) (by decide) (by decide) fun r2 h20 h21 => ?_
    obtain ⟨d, ed, hd⟩ := at_any (xs := [.int 2, .int 3, .int 8]) h20 (by show r2 < 3; omega)
    refine rk_ixL ed ?_
    obtain ⟨mx, rfl, x0, x1⟩ : ∃ mx : Int, d = .int mx ∧ 1 ≤ mx ∧ mx ≤ 8 := by
      simp only [List.mem_cons, List.not_mem_nil, or_false] at hd
      rcases hd with rfl | rfl | rfl <;> exact ⟨_, rfl, by decide, by decide⟩
    clear ed hd
    walk_at "g"
    refine sb_take (by omega) (by omega) (by omega) fun r3 h30 h31 => ?_
    walk_at "g"
    refine gk_draw1 (Pd := fun y => ∃ c, c ∈ tl lt ∧ y = .str (S [c])) 1 ?_ ?_
    · exact fun _ h => nomatch h
    walk_at "g"
    refine ⟨by omega, by omega, ?_⟩
    refine ⟨_, _, rfl, by rw [rangeD_len]; omega, fun i x m hx hm => ?_, fun ys m hl hy hm => ?_⟩
    · obtain ⟨hi, rfl⟩ := rangeD_at hx
      walk_at "g"
      refine sb_take (by omega) (by omega) (by omega) fun r4 h40 h41 => ?_
      have ll : lt.length = lt.cps.toList.length := (Array.length_toList (xs := lt.cps)).symm
      obtain ⟨c, ec, mc⟩ := sign_at (z := lt) h40 (by omega)
      exact rk_ixS (by omega) ec ⟨_, rfl, ⟨c, mc, rfl⟩, by omega⟩
    · obtain ⟨cs, rfl, h2, h3⟩ := ones_of hy
      rw [rangeD_len] at hl hm
      exact ru_ones (by omega) (dN.mk <| k _ m ⟨by rw [S_len]; omega, by rw [S_len]; omega, fun c hc => hlc c (h2 c (by rwa [tl_S] at hc))⟩ (by omega))
theorem sb_name {δ : List Slot} {n : Nat} {μ : Addr → Option MO} {Φ : D → Sto → Prop} (hn : n ≤ 2 ^ 39) (k : ∀ z m, Nmz z → m ≤ n + 20 → Φ (.str z) ⟨m, μ⟩) : SB K Z (sp_law_name K) [] δ ⟨n, μ⟩ Φ := sb_P ⟨rfl, hn, k⟩
def wordsD : List D := [.str "", .str "x", .str " ", .str "a b ", .str "12345678", .str "123456789", .str " two  blanks ", .str (mulS "~" 40), .str "r:a:b and so on", .str "t:long one"]
theorem words_ok {d : D} (h : d ∈ wordsD) : ∃ z, d = .str z ∧ Wt z := by
  have one : ∀ z : Str, (decide (z.length ≤ 40) && (tl z).all fun c => decide (32 ≤ c) && decide (c ≤ 126) && decide (c ≠ 37)) = true → Wt z := fun z q => by
    rw [Bool.and_eq_true, decide_eq_true_eq, List.all_eq_true] at q
    refine ⟨q.1, fun c hc => ?_⟩
    have := q.2 c hc
    rw [Bool.and_eq_true, Bool.and_eq_true, decide_eq_true_eq, decide_eq_true_eq, decide_eq_true_eq] at this
    exact ⟨this.1.1, this.1.2, this.2⟩
  unfold wordsD at h
  simp only [List.mem_cons, List.not_mem_nil, or_false] at h
  rcases h with rfl | rfl | rfl | rfl | rfl | rfl | rfl | rfl | rfl | rfl <;> exact ⟨_, rfl, one _ (by decide +kernel)⟩
def sp_law_words (K : PySem.W.Frag) : Sp := spB K fun n ds Φ => ds = [] ∧ n ≤ 2 ^ 39 ∧ ∀ z m, Wt z → m ≤ n + 50 → Φ (.str z) m
theorem ok_law_words (T : Txt K mg) : FnOk P w K mg base CX0 2 T.f_law_words T.fd_law_words ["_law_bag_here"] (sp_law_words K) := by
  refine fn_B T.F_law_words sc_law_words (fun n ds Φ h => ?_) (fun cdv A outer s H E hr => ⟨_, (pss_cons (ps_set (i := 1) sc_law_words.nd rfl (Or.inl rfl) (pe_lst (pa_cons pe_str (pa_cons pe_str (pa_cons pe_str (pa_cons pe_str (pa_cons pe_str (pa_cons pe_str (pa_cons pe_str (pa_cons (pe_op op_mul_str pe_str pe_int) (pa_cons pe_str (pa_cons pe_str pa_nil))))))))))))
      (pss_cons (ps_set (i := 2) sc_law_words.nd rfl (Or.inl rfl) (pe_call (ok_law_take T) (hr.mono (by decide)) (by rfl) T.m_law_take T.F_law_take.kp T.b_law_take .nil pass0 (pa_cons (pv 0) (pa_cons pe_int pa_nil))))
      (pss_cons (ps_if (pt_cmpR op_lt (pv 2) pe_int (nomark _))
        (pss_one (ps_ret (pe_ix ix_list (pv 1) (pv 2) (fun _ _ => rfl))))
        pss_nil)
      (pss_cons (ps_if (pt_cmpR op_lt (pv 2) pe_int (nomark _))
        (pss_one (ps_ret (pe_op op_add_str pe_str (pe_callTy call_str_int (by rfl) T.z_str (by decide +kernel) (pa_cons (pe_call (ok_law_take T) (hr.mono (by decide)) (by rfl) T.m_law_take T.F_law_take.kp T.b_law_take .nil pass0 (pa_cons (pv 0) (pa_cons pe_int pa_nil))) pa_nil)))))
        pss_nil)
      (pss_cons (ps_set (i := 3) sc_law_words.nd rfl (Or.inl rfl) (pe_ix ix_list (pe_lst (pa_cons (pe_call (ok_law_take T) (hr.mono (by decide)) (by rfl) T.m_law_take T.F_law_take.kp T.b_law_take .nil pass0 (pa_cons (pv 0) (pa_cons pe_int pa_nil))) (pa_cons (pe_op op_add pe_int (pe_call (ok_law_take T) (hr.mono (by decide)) (by rfl) T.m_law_take T.F_law_take.kp T.b_law_take .nil pass0 (pa_cons (pv 0) (pa_cons pe_int pa_nil)))) pa_nil))) (pe_call (ok_law_take T) (hr.mono (by decide)) (by rfl) T.m_law_take T.F_law_take.kp T.b_law_take .nil pass0 (pa_cons (pv 0) (pa_cons pe_int pa_nil))) (fun _ _ => rfl)))
      (pss_one (ps_ret (pe_join pe_str (pe_lc (own := [("_law_spot", 4)]) (g := gName 4) (by rfl) sc_law_words.nd (pi_range1 (by rfl) T.z_range (pa_cons (pv 3) pa_nil)) (blkOk_by (own := [("_law_spot", 4)]) (N := ["_law_bag_here", "_law_some", "_law_kind", "_law_size", "_law_spot"]) (sc := defScope s_law_words) (by decide +kernel)) (fun _ _ _ _ _ => (pg_name (i := 4) sc_law_words.nd rfl (Or.inl rfl))) (fun _ _ _ _ _ => pts_nil) (fun _ _ _ _ _ => (pe_ix ix_str pe_str (pe_call (ok_law_take T) (hr.mono (by decide)) (by rfl) T.m_law_take T.F_law_take.kp T.b_law_take .nil pass0 (pa_cons (pv 0) (pa_cons pe_int pa_nil))) (fun _ _ => rfl)))))))))))), fun p n ds Φ h => ?_⟩)
  · rw [h.1]
    rfl
  · obtain ⟨rfl, hn, k⟩ := h
    walk_at "k"
    walk_at "g"
    refine rk_mulS (by decide) (by decide) (by decide) ?_
    walk_at "g"
    refine sb_take (by omega) (by decide) (by decide) fun r h0 h1 => ?_
    walk_at "g"
    refine ⟨fun h => ?_, fun h => ?_⟩
    · have h := of_decide_eq_true h
      walk_at "g"
      obtain ⟨d, e, hd⟩ := at_any (xs := wordsD) h0 (by show r < 10; omega)
      obtain ⟨z, rfl, hz⟩ := words_ok hd
      exact rk_ixL e (dN.mk (k z _ hz (by omega)))
    · walk_at "g"
      refine ⟨fun h => ?_, fun h => ?_⟩
      · walk_at "g"
        refine sb_take (by omega) (by decide) (by decide) fun r2 h20 h21 => ?_
        obtain ⟨m, rfl⟩ : ∃ m : Nat, r2 = (m : Int) := ⟨r2.toNat, by omega⟩
        walk_at "g"
        refine rc_strI (log_small (by omega)) ?_
        obtain ⟨d1, d2⟩ := digits_of m (by omega)
        have l0 : (Str.ofString "long text ").length = 10 := by decide +kernel
        have c0 : ∀ c ∈ tl (Str.ofString "long text "), 32 ≤ c ∧ c ≤ 126 ∧ c ≠ 37 := by decide +kernel
        refine rk_addS (sz_ (by omega)) (dN.mk (k _ _ ⟨by rw [str_app_len]; omega, fun c hc => ?_⟩ (by omega)))
        rw [tl_append] at hc
        rcases List.mem_append.mp hc with hc | hc
        · exact c0 c hc
        · have := d2 c hc
          omega
      · walk_at "g"
        refine sb_take (by omega) (by decide) (by decide) fun r2 h20 h21 => ?_
        walk_at "g"
        refine sb_take (by omega) (by decide) (by decide) fun r3 h30 h31 => ?_
        walk_at "g"
        refine sb_take (by omega) (by decide) (by decide) fun r4 h40 h41 => ?_
        obtain ⟨d, ed, hd⟩ := at_2 (a := .int r2) (b := .int (9 + r3)) h40 h41
        refine rk_ixL ed ?_
        obtain ⟨mm, rfl, m0, m1⟩ : ∃ mm : Int, d = .int mm ∧ 0 ≤ mm ∧ mm ≤ 40 := by
          rcases hd with rfl | rfl
          · exact ⟨_, rfl, by omega, by omega⟩
          · exact ⟨_, rfl, by omega, by omega⟩
        walk_at "g"
        refine gk_draw1 (Pd := fun y => ∃ c, c ∈ tl " !#abXYZ019:-_~" ∧ y = .str (S [c])) 1 ?_ ?_
        · exact fun _ h => nomatch h
        walk_at "g"
        refine ⟨by omega, by omega, ?_⟩
        refine ⟨_, _, rfl, by rw [rangeD_len]; omega, fun i x m hx hm => ?_, fun ys m hl hy hm => ?_⟩
        · obtain ⟨hi, rfl⟩ := rangeD_at hx
          walk_at "g"
          refine sb_take (by omega) (by decide) (by decide) fun r2 h20 h21 => ?_
          obtain ⟨c, ec, mc⟩ := sign_at (z := " !#abXYZ019:-_~") h20 h21
          exact rk_ixS (by decide) ec ⟨_, rfl, ⟨c, mc, rfl⟩, by omega⟩
        · obtain ⟨cs, rfl, h2, h3⟩ := ones_of hy
          rw [rangeD_len] at hl hm
          have sg : ∀ c ∈ tl " !#abXYZ019:-_~", 32 ≤ c ∧ c ≤ 126 ∧ c ≠ 37 := by decide +kernel
          exact ru_ones (by omega) (dN.mk <| k _ m (Wt.of (by omega) fun c hc => sg c (h2 c hc)) (by omega))
theorem sb_words {δ : List Slot} {n : Nat} {μ : Addr → Option MO} {Φ : D → Sto → Prop} (hn : n ≤ 2 ^ 39) (k : ∀ z m, Wt z → m ≤ n + 50 → Φ (.str z) ⟨m, μ⟩) : SB K Z (sp_law_words K) [] δ ⟨n, μ⟩ Φ := sb_P ⟨rfl, hn, k⟩
def lenD (c : Cont) (d : D) : D := match d with
  | .str x => .int ((((c.find? fun b => decide (b.1 = x)).map (·.2)).getD []).length : Nat)
  | d => d
theorem find_cnt {c : Cont} {b : Str × List (Str × Str)} (nd : (c.map (·.1)).Nodup) (h : b ∈ c) : (c.find? fun y => decide (y.1 = b.1)).map (·.2) = some b.2 := by
  induction c with
  | nil => cases h
  | cons y c ih =>
    rw [List.map_cons, List.nodup_cons] at nd
    rcases List.mem_cons.mp h with rfl | m
    · rw [List.find?_cons_of_pos (by simp)]
      rfl
    · have ne : y.1 ≠ b.1 := fun e => nd.1 (e ▸ List.mem_map.mpr ⟨b, m, rfl⟩)
      rw [List.find?_cons_of_neg (by simpa using ne)]
      exact ih nd.2 m
theorem map_lenD {c : Cont} (nd : (c.map (·.1)).Nodup) : ∀ d : Cont, (∀ b ∈ d, b ∈ c) → (((cntE d).map fun kv => keyD kv.1).map (lenD c)) = (d.map fun b => (b.2.length : Int)).map D.int
  | [], _ => rfl
  | b :: d, h => by
    have ih := map_lenD nd d fun x hx => h x (List.mem_cons_of_mem _ hx)
    unfold cntE at ih ⊢
    rw [List.map_cons, List.map_cons, List.map_cons, List.map_cons, List.map_cons, ih]
    congr 1
    show D.int _ = D.int _
    rw [find_cnt nd (h b List.mem_cons_self)]
    rfl
theorem sum_rows : ∀ c : Cont, (c.map fun b => (b.2.length : Int)).sum = (rowsN c : Nat)
  | [] => rfl
  | b :: c => by
    rw [List.map_cons, List.sum_cons, sum_rows c]
    show _ = ((b.2.length + rowsN c : Nat) : Int)
    omega
def sp_law_cards_in (K : PySem.W.Frag) : Sp := spP K fun ds Φ => ∃ c : Cont, ds = [cntD c] ∧ WfC c ∧ c.length ≤ 1000 ∧ rowsN c ≤ 1000 ∧ Φ (.int (cardsN c : Nat))
theorem ok_law_cards_in (T : Txt K mg) : FnOk P w K mg base CX0 2 T.f_law_cards_in T.fd_law_cards_in ["_law_held_here"] (sp_law_cards_in K) := by
  refine fn_P T.F_law_cards_in sc_law_cards_in (fun ds Φ h => ?_) (fun cdv A outer s H E hr => ⟨_, (pss_cons (ps_setLc (i := 1) (own := [("_law_crate", 2)]) (g := gName 2) (by rfl) sc_law_cards_in.nd rfl rfl (sw_true rfl rfl rfl (by decide +kernel)) (pi_keys (pv 0)) (blkOk_by (own := [("_law_crate", 2)]) (N := ["_law_held_here", "_law_found", "_law_crate"]) (sc := defScope s_law_cards_in) (by decide +kernel)) (fun _ _ _ _ _ => (pg_name (i := 2) sc_law_cards_in.nd rfl (Or.inl rfl))) (fun _ _ _ _ _ => pts_nil) (fun _ _ _ _ _ => (pe_callB cr_lenRd (by rfl) T.z_len (by decide +kernel) (pa_cons (pe_dget (hu_by hr) (pv 0) (pv 2) (fun _ _ => rfl)) pa_nil))))
      (pss_one (ps_ret (pe_op op_add (pe_op op_add (pe_callB cr_lenRd (by rfl) T.z_len (by decide +kernel) (pa_cons (pv 0) pa_nil)) (pe_callB (cr_sum rfl) (by rfl) T.z_sum (by decide +kernel) (pa_cons (pv 1) pa_nil))) (pe_callB call_len_seq (by rfl) T.z_len (by decide +kernel) (pa_cons (pe_call (ok_law_longs T) (hr.mono (by decide)) (by rfl) T.m_law_longs T.F_law_longs.kp T.b_law_longs .nil pass0 (pa_cons (pv 0) pa_nil)) pa_nil)))))), fun ds Φ h => ?_⟩)
  · obtain ⟨c, rfl, _⟩ := h
    rfl
  · obtain ⟨c, rfl, wf, h1, h2, k⟩ := h
    walk_at "k"
    refine gs_seq (gs_asg (gk_map1 (f := lenD c) (fun _ h => nomatch (show some Slot.un = some _ from h)) (gi_keysL (gk_var rfl ⟨_, rfl, by unfold cntE; rw [List.length_map, List.length_map]; omega, fun d hd => ?_, ?_⟩))))
    · obtain ⟨kv, hkv, rfl⟩ := List.mem_map.mp hd
      obtain ⟨b, hb, rfl⟩ := List.mem_map.mp hkv
      refine gk_cb (ga_cons (gk_dgetL (gk_var rfl ⟨_, rfl, gk_var rfl ⟨.inr b.1, rowD b.2, rfl, getD_cnt wf.1 hb, ga_nil (rc_lenDA (.inr (.inl rfl)) ⟨?_, rfl⟩)⟩⟩)))
      show D.int _ = D.int _
      rw [find_cnt wf.1 hb]
      unfold rowE
      rw [List.length_map]
      rfl
    rw [map_lenD wf.1 c fun b h => h]
    refine gs_ret (gk_op (gk_op (gk_cb (ga_cons (gk_var rfl (ga_nil (rc_lenDA (.inr (.inl rfl)) ?_)))))))
    walk_at "e"
    refine c_law_longs wf h1 h2 ?_
    walk_at "e"
    rw [sum_rows, List.length_map, show (cntE c).length = c.length from List.length_map _]
    rw [show ((c.length : Nat) : Int) + (rowsN c : Nat) + ((setS (longL c)).length : Nat) = (cardsN c : Nat) by unfold cardsN; omega]
    exact k
theorem c_law_cards_in {δ : List Slot} {n : Sto} {Φ : D → Sto → Prop} {c : Cont} (h0 : WfC c) (h1 : c.length ≤ 1000) (h2 : rowsN c ≤ 1000) (k : Φ (.int (cardsN c : Nat)) n) : SC K Z (sp_law_cards_in K) [cntD c] δ n Φ := sc_P ⟨c, rfl, h0, h1, h2, k⟩
theorem chgD_len (x : Str) (rs ws : List (Str × Str)) : (chgD x rs ws).length ≤ rs.length + ws.length := by
  unfold chgD
  rw [List.length_append, List.length_map, List.length_map]
  have h1 : ∀ (l : List (Str × Str)) (p : Str → Bool), ((srtS (l.map (·.1))).filter p).length ≤ l.length := fun l p => by
    refine Nat.le_trans (List.length_filter_le _ _) ?_
    rw [srtS_perm.length_eq, List.length_map]
    exact Nat.le_refl _
  have := h1 rs fun k => decide (k ∉ ws.map (·.1))
  have := h1 ws fun k => decide ((k, valR ws k) ∉ rs)
  omega
theorem setS_two {a b : Cont} : ([cntD a, cntD b].flatMap fun d => match d with | .dct es => es.map fun kv => keyD kv.1 | _ => []) = (a.map (·.1) ++ b.map (·.1)).map D.str := by
  have e : ∀ c : Cont, ((cntE c).map fun kv => keyD kv.1) = (c.map (·.1)).map D.str := fun c => by
    unfold cntE
    rw [List.map_map, List.map_map]
    rfl
  show (cntE a).map (fun kv => keyD kv.1) ++ ((cntE b).map (fun kv => keyD kv.1) ++ []) = _
  rw [e, e, List.append_nil, List.map_append]
def sp_way_between (K : PySem.W.Frag) : Sp := spR K fun ds Φ => ∃ a b : Cont, ds = [cntD a, cntD b] ∧ WfC a ∧ WfC b ∧ a.length ≤ 10 ^ 2 ∧ b.length ≤ 10 ^ 2 ∧ rowsN a ≤ 100 ∧ rowsN b ≤ 100 ∧ Φ (.lst ((wayD a b).map Dd.D))
theorem boxD_len1 {a b : Cont} (wa : WfC a) (wb : WfC b) (ha : rowsN a ≤ 100) (hb : rowsN b ≤ 100) (x : Str) : (boxD a b x).length ≤ 202 := by
  have lb : inC b x → (rowsAt b x).length ≤ 100 := fun h => Nat.le_trans (rows_le (rowsAt_in wb h)) hb
  have la : inC a x → (rowsAt a x).length ≤ 100 := fun h => Nat.le_trans (rows_le (rowsAt_in wa h)) ha
  have := fillD_len x (rowsAt b x)
  have := chgD_len x (rowsAt a x) (rowsAt b x)
  unfold boxD
  split
  · rename_i hb'
    have := lb hb'
    split
    · rename_i ha'
      have := la ha'
      split
      · omega
      · rw [List.length_cons, List.length_cons]
        omega
    · rw [List.length_cons]
      omega
  · simp
theorem flat_len {a b : Cont} (wa : WfC a) (wb : WfC b) (ha : rowsN a ≤ 100) (hb : rowsN b ≤ 100) : ∀ xs : List Str, (xs.flatMap (boxD a b)).length ≤ 202 * xs.length
  | [] => Nat.le_refl 0
  | x :: xs => by
    rw [List.flatMap_cons, List.length_append, List.length_cons]
    have := flat_len wa wb ha hb xs
    have := boxD_len1 wa wb ha hb x
    omega
theorem ok_way_between (T : Txt K mg) : FnOk P w K mg base CX0 3 T.f_way_between T.fd_way_between ["content", "other"] (sp_way_between K) := by
  refine fn_R T.F_way_between sc_way_between (fun ds Φ h => ?_) (fun cdv A outer s H E hr => ⟨_, (pss_cons (ps_set (i := 2) sc_way_between.nd rfl (Or.inl rfl) (pe_lst pa_nil))
      (pss_cons (ps_for PassesOwn.never (by rfl) (pi_list (pe_callB (cr_sortTx rfl hr.units) (by rfl) T.z_sorted (by decide +kernel) (pa_cons (pe_sx2 (own := [("some", 4), ("box", 3)]) (vs1 := [3]) (g := gName 4) (g1 := gName 3) (by rfl) sc_way_between.nd (pi_tup (pe_tup (pa_cons (pv 0) (pa_cons (pv 1) pa_nil)))) (blkOk_by (own := [("some", 4), ("box", 3)]) (N := ["content", "other", "found", "box", "some"]) (sc := defScope s_way_between) (by decide +kernel)) (by decide) (fun _ _ _ _ _ => (pg_name (i := 4) sc_way_between.nd rfl (Or.inl rfl))) (fun _ _ _ _ _ => pts_nil) (fun _ _ _ _ _ => (pi_keys (pv 4))) (fun _ _ _ _ _ => (pg_name (i := 3) sc_way_between.nd rfl (Or.inl rfl))) (fun _ _ _ _ _ => pts_nil) (fun _ _ _ _ _ => (pv 3))) pa_nil))) (pg_name (i := 3) sc_way_between.nd rfl (Or.inl rfl))
        (pss_one (ps_aug (i := 2) sc_way_between.nd rfl (Or.inl rfl) (pe_call (ok_box_way T) (hr.mono (by decide)) (by rfl) T.m_box_way T.F_box_way.kp T.b_box_way .nil pass0 (pa_cons (pv 3) (pa_cons (pv 0) (pa_cons (pv 1) pa_nil)))) ip_list)))
      (pss_one (ps_ret (pv 2))))), fun ds Φ h => ?_⟩)
  · obtain ⟨a, b, rfl, _⟩ := h
    rfl
  · obtain ⟨a, b, rfl, wa, wb, la, lb, ha, hb, k⟩ := h
    walk_at "k"
    refine gs_seq (gs_own (ga_nil ⟨by show 0 ≤ 100000; decide, ?_⟩))
    have ls : (setS (a.map (·.1) ++ b.map (·.1))).length ≤ 200 := by
      have := setS_len (a.map (·.1) ++ b.map (·.1))
      rw [List.length_append, List.length_map, List.length_map] at this
      omega
    refine gs_seq (gs_forW (gi_list (gk_sortSx2 (fun i hi x => ?_) (gi_tup (gk_tup (ga_cons (gk_var rfl (ga_cons (gk_var rfl (ga_nil ⟨by show 2 ≤ 100000; decide, _, rfl, (fun d => match d with | .dct es => es.map fun kv => keyD kv.1 | _ => []), a.map (·.1) ++ b.map (·.1), fun x hx => ?_, setS_two, ?_, _, rfl, fun i δ' n' => δ' = [.d (cntD a), .d (cntD b), .own (((setS (a.map (·.1) ++ b.map (·.1))).take i).flatMap (boxD a b) |>.map Dd.D), .un, .un] ∧ n' = ⟨0, m00⟩, ⟨_, by walk_at "wk", rfl, rfl⟩, ?_, ?_⟩))))))))))
    · rcases List.mem_cons.mp hi with rfl | hi
      · exact fun h => nomatch (show some Slot.un = some _ from h)
      · cases List.mem_singleton.mp hi
        exact fun h => nomatch (show some Slot.un = some _ from h)
    · obtain ⟨c, rfl⟩ : ∃ c : Cont, x = cntD c := by
        rcases List.mem_cons.mp hx with rfl | hx
        · exact ⟨a, rfl⟩
        · exact ⟨b, List.mem_singleton.mp hx⟩
      refine clx_name (by decide) (gt_yes ⟨rfl, fun _ => ⟨fun i hi x => ?_, gi_keysL (gk_var rfl ⟨cntE c, rfl, rfl, fun y => [y], ?_, fun y hy => clx_name (by decide) (gt_yes ⟨rfl, fun _ => ?_, fun z => nomatch z⟩)⟩)⟩, fun z => nomatch z⟩)
      · cases List.mem_singleton.mp hi
        exact fun h => nomatch (show some Slot.un = some _ from h)
      · rw [flatMap_one (f := fun y => y), List.map_id']
        rfl
      · obtain ⟨kv, hkv, rfl⟩ := List.mem_map.mp hy
        obtain ⟨bb, _, rfl⟩ := List.mem_map.mp hkv
        exact gk_var rfl ⟨rfl, ⟨_, rfl⟩, rfl⟩
    · rw [List.length_append, List.length_map, List.length_map]
      omega
    · rintro i x δ' n' hx ⟨rfl, rfl⟩
      rw [List.getElem?_map] at hx
      obtain ⟨y, hy, rfl⟩ := Option.map_eq_some_iff.mp hx
      refine ⟨_, [3], gg_name (by decide), ?_⟩
      have hsn : (setS (a.map (·.1) ++ b.map (·.1))).take (i + 1) = (setS (a.map (·.1) ++ b.map (·.1))).take i ++ [y] := by rw [List.take_add_one, hy]; rfl
      refine gs_augL rfl (gk_call (ga_cons (gk_var rfl (ga_cons (gk_var rfl (ga_cons (gk_var rfl (ga_nil (c_box_way wa wb (by omega) (by omega) ⟨_, rfl, ?_, ?_⟩)))))))))
      · rw [List.length_map, List.length_map]
        have := flat_len wa wb ha hb ((setS (a.map (·.1) ++ b.map (·.1))).take i)
        have := boxD_len1 wa wb ha hb y
        have : ((setS (a.map (·.1) ++ b.map (·.1))).take i).length ≤ 200 := by
          rw [List.length_take]
          omega
        omega
      · refine ⟨[.d (cntD a), .d (cntD b), .own ((((setS (a.map (·.1) ++ b.map (·.1))).take i).flatMap (boxD a b)).map Dd.D ++ (boxD a b y).map Dd.D), .un, .un], by walk_at "wk", ?_, rfl⟩
        rw [hsn, List.flatMap_append, List.map_append, show [y].flatMap (boxD a b) = boxD a b y from List.append_nil _]
    · rintro δ' n' ⟨rfl, rfl⟩
      rw [List.length_map, List.take_length]
      exact gs_retOwn rfl fun p hp => ⟨p, _, rfl, Sto.put_same, k⟩
theorem c_way {δ : List Slot} {n : Sto} {Φ : D → Sto → Prop} {a b : Cont} (h1 : WfC a) (h2 : WfC b) (h3 : a.length ≤ 100) (h4 : b.length ≤ 100) (h5 : rowsN a ≤ 100) (h6 : rowsN b ≤ 100) (k : Φ (.lst ((wayD a b).map Dd.D)) n) : SC K Z (sp_way_between K) [cntD a, cntD b] δ n Φ := sc_Rf ⟨a, b, rfl, h1, h2, h3, h4, h5, h6, _, rfl, k⟩
theorem lk_held {B : Option Addr} {δ : List Slot} {n : Sto} {N Bk Ct : List Slot → Sto → Prop} {R : D → Sto → Prop} {p : Addr} {c : Cont} {i : Nat} (hi : δ[i]? = some (.d (.ptr p))) (hp : n.μ p = some (.dic (cntE c))) (k : R (cntD c) ⟨n.n, m00⟩) : GS K Z B (tLockS (tRet (tVar i))) δ n N R Bk Ct := by
  have hil : i < δ.length := (List.getElem?_eq_some_iff.mp hi).1
  refine gs_lockS [p] (gs_lk1 (r := []) hp (δ.set i (.d (cntD c))) ⟨n.n, m00⟩ (by rw [List.length_set]) (fun j s' hs => ?_) rfl (fun a o' ha => by cases ha) (gs_ret (gk_var (List.getElem?_set_self hil) k)))
  by_cases e : i = j
  · subst e
    rw [List.getElem?_set_self hil] at hs
    cases hs
    exact ⟨_, hi, .inr ⟨_, _, rfl, rfl, .inr ⟨rfl, rfl⟩⟩⟩
  · rw [List.getElem?_set_ne e] at hs
    exact ⟨s', hs, .inl rfl⟩
theorem cardsN_nil : cardsN [] = 0 := by
  unfold cardsN rowsN longL setS nubS
  simp [srtS]
theorem sto_put3 {m : Nat} {p : Addr} {o o' : MO} : ({ n := (((⟨m, m00⟩ : Sto).put p o).off p).n + 1, μ := ((⟨m, m00⟩ : Sto).put p o).μ } : Sto).put p o' = (⟨m + 1, m00⟩ : Sto).put p o' := by
  show Sto.mk _ _ = Sto.mk _ _
  congr 1
  funext b
  by_cases e : b = p
  · simp [e]
  · simp [e, Sto.put]
theorem rowsN_filter {f : Str × List (Str × Str) → Bool} : ∀ {c : Cont}, rowsN (c.filter f) ≤ rowsN c
  | [] => Nat.le_refl _
  | b :: c => by
    have ih := rowsN_filter (f := f) (c := c)
    rw [List.filter_cons]
    split
    · show b.2.length + rowsN (c.filter f) ≤ b.2.length + rowsN c
      omega
    · show rowsN (c.filter f) ≤ b.2.length + rowsN c
      omega
theorem WfC.filter {f : Str × List (Str × Str) → Bool} {c : Cont} (h : WfC c) : WfC (c.filter f) :=
  ⟨h.1.sublist (List.filter_sublist.map _), fun b hb => h.2 b (List.mem_filter.mp hb).1⟩
theorem put_nd {m : Nat} {p : Addr} {o : MO} {Pr : MO → Prop} : ∀ a u, ((⟨m, m00⟩ : Sto).put p o).μ a = some u → a ≠ p → Pr u := fun a u h ne => by
  rw [Sto.put_ne ne] at h
  cases h
def sp_law_held (K : PySem.W.Frag) : Sp := spB K fun n ds Φ => ∃ cap : Int, ds = [.int cap] ∧ 1 ≤ cap ∧ cap ≤ 97 ∧ n ≤ 2 ^ 38 ∧ ∀ c m, WfC c → c.length ≤ 97 → rowsN c ≤ 97 → ((cardsN c : Int) ≤ 96 ∧ (cardsN c : Int) ≤ cap) → m ≤ n + 20000 → Φ (cntD c) m
theorem ok_law_held (T : Txt K mg) : FnOk P w K mg base CX0 3 T.f_law_held T.fd_law_held ["_law_bag_here", "_law_cap"] (sp_law_held K) := by
  refine fn_B T.F_law_held sc_law_held (fun n ds Φ h => ?_) (fun cdv A outer s H E hr => ⟨_, (pss_cons (ps_set (i := 2) sc_law_held.nd rfl (Or.inl rfl) pe_dnewK)
      (pss_cons (ps_setLc (i := 3) (own := [("_law_spot", 4)]) (g := gName 4) (by rfl) sc_law_held.nd rfl rfl (sw_true rfl rfl rfl (by decide +kernel)) (pi_range1 (by rfl) T.z_range (pa_cons (pe_op op_add pe_int (pe_call (ok_law_take T) (hr.mono (by decide)) (by rfl) T.m_law_take T.F_law_take.kp T.b_law_take .nil pass0 (pa_cons (pv 0) (pa_cons pe_int pa_nil)))) pa_nil)) (blkOk_by (own := [("_law_spot", 4)]) (N := ["_law_bag_here", "_law_cap", "_law_held_here", "_law_crates", "_law_spot", "_law_pool", "_law_crate", "_law_kind"]) (sc := defScope s_law_held) (by decide +kernel)) (fun _ _ _ _ _ => (pg_name (i := 4) sc_law_held.nd rfl (Or.inl rfl))) (fun _ _ _ _ _ => pts_nil) (fun _ _ _ _ _ => (pe_call (ok_law_name T) (hr.mono (by decide)) (by rfl) T.m_law_name T.F_law_name.kp T.b_law_name .nil pass0 (pa_cons (pv 0) pa_nil))))
      (pss_cons (ps_setLc (i := 5) (own := [("_law_spot", 4)]) (g := gName 4) (by rfl) sc_law_held.nd rfl rfl (sw_true rfl rfl rfl (by decide +kernel)) (pi_range1 (by rfl) T.z_range (pa_cons (pe_op op_add pe_int (pe_call (ok_law_take T) (hr.mono (by decide)) (by rfl) T.m_law_take T.F_law_take.kp T.b_law_take .nil pass0 (pa_cons (pv 0) (pa_cons pe_int pa_nil)))) pa_nil)) (blkOk_by (own := [("_law_spot", 4)]) (N := ["_law_bag_here", "_law_cap", "_law_held_here", "_law_crates", "_law_spot", "_law_pool", "_law_crate", "_law_kind"]) (sc := defScope s_law_held) (by decide +kernel)) (fun _ _ _ _ _ => (pg_name (i := 4) sc_law_held.nd rfl (Or.inl rfl))) (fun _ _ _ _ _ => pts_nil) (fun _ _ _ _ _ => (pe_call (ok_law_words T) (hr.mono (by decide)) (by rfl) T.m_law_words T.F_law_words.kp T.b_law_words .nil pass0 (pa_cons (pv 0) pa_nil))))
      (pss_cons (ps_for PassesOwn.never (by rfl) (pi_range1 (by rfl) T.z_range (pa_cons (pe_call (ok_law_take T) (hr.mono (by decide)) (by rfl) T.m_law_take T.F_law_take.kp T.b_law_take .nil pass0 (pa_cons (pv 0) (pa_cons (pv 1) pa_nil))) pa_nil)) (pg_name (i := 4) sc_law_held.nd rfl (Or.inl rfl))
        (pss_cons (ps_set (i := 6) sc_law_held.nd rfl (Or.inl rfl) (pe_ix ix_list (pv 3) (pe_call (ok_law_take T) (hr.mono (by decide)) (by rfl) T.m_law_take T.F_law_take.kp T.b_law_take .nil pass0 (pa_cons (pv 0) (pa_cons (pe_callB call_len_seq (by rfl) T.z_len (by decide +kernel) (pa_cons (pv 3) pa_nil)) pa_nil))) (fun _ _ => rfl)))
        (pss_cons (ps_expr (pe_dsetd (pv 2) (pv 6) pe_dnewK ⟨rfl, rfl, rfl, rfl⟩))
        (pss_cons (ps_set (i := 7) sc_law_held.nd rfl (Or.inl rfl) (pe_call (ok_law_take T) (hr.mono (by decide)) (by rfl) T.m_law_take T.F_law_take.kp T.b_law_take .nil pass0 (pa_cons (pv 0) (pa_cons pe_int pa_nil))))
        (pss_one (ps_if (pt_cmpR op_gt (pv 7) pe_int (nomark _))
          (pss_one (ps_dput (hu_by hr) (pe_dget (hu_by hr) (pv 2) (pv 6) (fun _ _ => rfl)) (pe_call (ok_law_name T) (hr.mono (by decide)) (by rfl) T.m_law_name T.F_law_name.kp T.b_law_name .nil pass0 (pa_cons (pv 0) pa_nil)) (pe_ix ix_list (pe_lst (pa_cons (pe_call (ok_law_words T) (hr.mono (by decide)) (by rfl) T.m_law_words T.F_law_words.kp T.b_law_words .nil pass0 (pa_cons (pv 0) pa_nil)) (pa_cons (pe_ix ix_list (pv 5) (pe_call (ok_law_take T) (hr.mono (by decide)) (by rfl) T.m_law_take T.F_law_take.kp T.b_law_take .nil pass0 (pa_cons (pv 0) (pa_cons (pe_callB call_len_seq (by rfl) T.z_len (by decide +kernel) (pa_cons (pv 5) pa_nil)) pa_nil))) (fun _ _ => rfl)) pa_nil))) (pe_callTy call_int1 (by rfl) T.z_int (by decide +kernel) (pa_cons (pe_cmpR op_lt (pv 7) pe_int (nomark _)) pa_nil)) (fun _ _ => rfl)) rfl))
          pss_nil))))))
      (pss_cons (ps_lockS (ps_while PassesOwn.never (pt_cmpR op_gt (pe_lock (pe_call (ok_law_cards_in T) (hr.mono (by decide)) (by rfl) T.m_law_cards_in T.F_law_cards_in.kp T.b_law_cards_in .nil pass0 (pa_cons (pv 2) pa_nil))) (pe_callB (call_min2 rfl) (by rfl) T.z_min (by decide +kernel) (pa_cons (pv 1) (pa_cons pe_int pa_nil))) (nomark _))
        (pss_one (ps_expr (pe_dpop1 (pv 2) (pe_ix ix_list (pe_callB (cr_sortDk rfl hr.units) (by rfl) T.z_sorted (by decide +kernel) (pa_cons (pv 2) pa_nil)) (pe_call (ok_law_take T) (hr.mono (by decide)) (by rfl) T.m_law_take T.F_law_take.kp T.b_law_take .nil pass0 (pa_cons (pv 0) (pa_cons (pe_callB cr_lenRd (by rfl) T.z_len (by decide +kernel) (pa_cons (pv 2) pa_nil)) pa_nil))) (fun _ _ => rfl)) ⟨rfl, rfl, rfl, rfl⟩)))))
      (pss_one (ps_lockS (ps_ret (pv 2))))))))), fun pb n ds Φ h => ?_⟩)
  · obtain ⟨cap, rfl, _⟩ := h
    rfl
  · obtain ⟨cap, rfl, c0, c1, hn, k⟩ := h
    walk_at "k"
    refine gs_seq (gs_asg (gk_newD fun p hp => ?_))
    obtain ⟨μ0, hμ0, hp0⟩ : ∃ μ0, (⟨n, m00⟩ : Sto).put p (.dic []) = ⟨n, μ0⟩ ∧ μ0 p = some (.dic []) := ⟨_, rfl, Sto.put_same⟩
    rw [hμ0]
    clear hμ0 hp
    refine gs_seq (gs_asg (gk_draw1 (Pd := fun y => ∃ z, Nmz z ∧ y = .str z) 20 (by intro _ h; cases h) ?_))
    walk_at "e"
    refine sb_take (by omega) (by decide) (by decide) fun q q0 q1 => ?_
    walk_at "e"
    refine ⟨by omega, by omega, ?_⟩
    refine ⟨_, _, rfl, by rw [rangeD_len]; omega, fun i x m hx hm => ?_, fun ys m hl hy hm => ?_⟩
    · obtain ⟨hi, rfl⟩ := rangeD_at hx
      walk_at "g"
      refine sb_name (by omega) fun z m2 hz hm2 => ?_
      exact ⟨_, rfl, ⟨z, hz, rfl⟩, by omega⟩
    obtain ⟨cs, rfl, hcs, hcl⟩ := strs_ofD hy
    rw [rangeD_len] at hl hm
    have hm : m ≤ n + 200 := by omega
    have hc1 : 1 ≤ cs.length := by omega
    have hc2 : cs.length ≤ 6 := by omega
    clear hy hl
    refine gs_seq (gs_asg (gk_draw1 (Pd := fun y => ∃ z, Wt z ∧ y = .str z) 50 (by intro _ h; cases h) ?_))
    walk_at "e"
    refine sb_take (by omega) (by decide) (by decide) fun q2 q20 q21 => ?_
    walk_at "e"
    refine ⟨by omega, by omega, ?_⟩
    refine ⟨_, _, rfl, by rw [rangeD_len]; omega, fun i x m hx hm => ?_, fun ys m2 hl hy hm2 => ?_⟩
    · obtain ⟨hi, rfl⟩ := rangeD_at hx
      walk_at "g"
      refine sb_words (by omega) fun z m2 hz hm2 => ?_
      exact ⟨_, rfl, ⟨z, hz, rfl⟩, by omega⟩
    obtain ⟨ws, rfl, hws, hwl⟩ := strs_ofD hy
    rw [rangeD_len] at hl hm2
    have hm2 : m2 ≤ n + 600 := by omega
    have hw1 : 1 ≤ ws.length := by omega
    have hw2 : ws.length ≤ 60 := by omega
    clear hy hl
    refine gs_seq (gs_forW ?_)
    walk_at "e"
    refine sb_take (by omega) (by omega) (by omega) fun q3 q30 q31 => ?_
    walk_at "e"
    refine ⟨by omega, by omega, fun i δ' n' => ∃ (qs : List Addr) (c : Cont), δ' = [.bag, .d (.int cap), .d (.ptr p), .d (.lst (cs.map D.str)), .un, .d (.lst (ws.map D.str)), .un, .un] ∧ n'.n ≤ n + 601 + 130 * i ∧ n'.μ p = some (.dic (ptE qs c)) ∧ Rws n' qs c ∧ (p :: qs).Nodup ∧ WfC c ∧ c.length ≤ i ∧ rowsN c ≤ i, ⟨_, by walk_at "wk", [], [], rfl, by show m2 + 1 ≤ _; omega, hp0, .nil, by simp, ⟨List.nodup_nil, fun _ h => nomatch h⟩, Nat.le_refl 0, Nat.le_refl 0⟩, ?_, ?_⟩
    · rintro i x δ' ⟨n1, μ1⟩ hx ⟨qs, c, rfl, hn1, h1, h2, h3, h4, h5, h6⟩
      obtain ⟨hi, rfl⟩ := rangeD_at hx
      have hi : i < 97 := by omega
      have hn1 : n1 ≤ n + 601 + 130 * i := hn1
      refine ⟨_, [4], gg_name (by decide), ?_⟩
      walk_at "g"
      rw [List.length_map]
      refine sb_take (by omega) (by omega) (by omega) fun r r0 r1 => ?_
      obtain ⟨cr, ecr, mcr⟩ := at_strs (zs := cs) r0 r1
      refine rk_ixL ecr ?_
      have ncr := hcs cr mcr
      have hlq := h2.len
      refine gs_seq (gs_monoN (N' := fun δ' n' => δ' = [.bag, .d (.int cap), .d (.ptr p), .d (.lst (cs.map D.str)), .d (.int (0 + (i : Int))), .d (.lst (ws.map D.str)), .d (.str cr), .un] ∧ n'.n = n1 + 1 ∧ ∃ (qs : List Addr) (c : Cont), n'.μ p = some (.dic (ptE qs c)) ∧ Rws n' qs c ∧ (p :: qs).Nodup ∧ WfC c ∧ c.length ≤ i + 1 ∧ rowsN c ≤ i ∧ cr ∈ c.map (·.1)) ?_ ?_)
      · refine gs_drop (gk_setdP (gk_var rfl ⟨p, _, rfl, h1, gk_var rfl (gk_newD fun q' hq' => ?_)⟩))
        have np : p ≠ q' := fun z => by rw [← z, h1] at hq'; cases hq'
        have nq : q' ∉ qs := fun m => by
          have : ∀ {qs : List Addr} {c : Cont}, Rws ⟨n1 + 1, μ1⟩ qs c → q' ∈ qs → False := fun {qs c} h => by
            clear h1 h2 h3 h4 h5 h6 hlq m
            induction h with
            | nil => intro m; cases m
            | cons h _ ih =>
              intro m
              rcases List.mem_cons.mp m with rfl | m
              · rw [hq'] at h
                cases h
              · exact ih m
          exact this (h2.keep fun _ _ => rfl) m
        have hkl : (ptE qs c).length ≤ 97 := by
          have := congrArg List.length (ptE_keys hlq)
          rw [List.length_map, List.length_map] at this
          omega
        refine ⟨_, .inr cr, (Sto.put_ne np).trans h1, rfl, by omega, fun d hd => ?_, fun hn => ?_⟩
        · refine ⟨rfl, rfl, qs, c, (Sto.put_ne np).trans h1, h2.keep fun x hx => Sto.put_ne fun z => nq (z ▸ hx), h3, h4, by omega, h6, Classical.byContradiction fun z => ?_⟩
          have : getD' (ptE qs c) (Sum.inr cr) = none := by
            unfold getD'
            rw [Option.map_eq_none_iff, List.find?_eq_none]
            intro kv hkv e
            have m2 : kv.1 ∈ (ptE qs c).map (·.1) := List.mem_map.mpr ⟨kv, hkv, rfl⟩
            rw [ptE_keys hlq, of_decide_eq_true e] at m2
            obtain ⟨b, hb, e2⟩ := List.mem_map.mp m2
            exact z (List.mem_map.mpr ⟨b, hb, Sum.inr.inj e2⟩)
          rw [hd] at this
          cases this
        · have nk := ptE_none hlq hn
          refine ⟨rfl, rfl, qs ++ [q'], c ++ [(cr, [])], ?_, ?_, ?_, ⟨?_, ?_⟩, by rw [List.length_append]; simp; omega, by rw [rowsN_app]; exact h6, by simp⟩
          · rw [Sto.put_same, putD_new (getD_none hn), ptE_app hlq]
            rfl
          · refine Rws.app (h2.keep fun x hx => ?_) (.cons ?_ .nil)
            · have e1 : x ≠ p := fun z => (List.nodup_cons.mp h3).1 (z ▸ hx)
              have e2 : x ≠ q' := fun z => nq (z ▸ hx)
              exact (Sto.put_ne e1).trans (Sto.put_ne e2)
            · exact (Sto.put_ne (Ne.symm np)).trans Sto.put_same
          · rw [← List.cons_append, List.nodup_append]
            refine ⟨h3, by simp, fun a ha b hb => ?_⟩
            rw [List.mem_singleton.mp hb]
            rcases List.mem_cons.mp ha with rfl | ha
            · exact np
            · exact fun z => nq (z ▸ ha)
          · rw [List.map_append, List.nodup_append]
            refine ⟨h4.1, by simp, fun a ha b hb => ?_⟩
            have : b = cr := by simpa using hb
            exact fun z => nk (this ▸ z ▸ ha)
          · intro b hb
            rcases List.mem_append.mp hb with hb | hb
            · exact h4.2 b hb
            · rw [List.mem_singleton.mp hb]
              exact ⟨ncr, List.nodup_nil, fun _ h => nomatch h⟩
      · clear h1 h2 h3 h4 h5 h6 hlq
        clear qs c
        rintro δ' ⟨n2, μ2⟩ ⟨rfl, hn2, qs, c, h1, h2, h3, h4, h5, h6, h7⟩
        have hn2 : n2 = n1 + 1 := hn2
        subst hn2
        walk_at "g"
        refine sb_take (by omega) (by omega) (by omega) fun kd k0 k1 => ?_
        walk_at "g"
        refine ⟨fun hk => ?_, fun hk => ?_⟩
        · refine gs_putP (gk_op (gk_lst ?_))
          walk_at "e"
          refine sb_words (by omega) fun w1 m3 hw1' hm3 => ?_
          walk_at "e"
          rw [List.length_map]
          refine sb_take (by omega) (by omega) (by omega) fun r2 r20 r21 => ?_
          obtain ⟨w2, ew2, mw2⟩ := at_strs (zs := ws) r20 r21
          refine rk_ixL ew2 ?_
          walk_at "e"
          obtain ⟨d, ed, hd⟩ := at_2 (a := .str w1) (b := .str w2) (r := if decide (kd < 4) = true then 1 else 0) (by split <;> omega) (by split <;> omega)
          refine rk_ixL ed ?_
          obtain ⟨w3, rfl, hw3⟩ : ∃ w3, d = .str w3 ∧ Wt w3 := by
            rcases hd with rfl | rfl
            · exact ⟨_, rfl, hw1'⟩
            · exact ⟨_, rfl, hws w2 mw2⟩
          clear ed hd
          have nq := (List.nodup_cons.mp h3).2
          obtain ⟨q, rs, mq, mrs, gq, eq, up⟩ := Rws.find (n := ⟨m3 + 1, μ2⟩) (h2.keep fun _ _ => rfl) nq h4.1 h7
          refine gk_dgetP (gk_var rfl ⟨p, rfl, gk_var rfl ⟨_, .inr cr, _, h1, rfl, gq, q, rfl, ?_⟩⟩)
          refine gk_callB rfl (ga_nil (sb_name (by omega) fun nm m4 hnm hm4 => ?_))
          have hrl : rs.length ≤ 97 := by
            have := rows_le mrs
            have : rs.length ≤ rowsN c := this
            omega
          refine ⟨_, .inr nm, eq, rfl, by unfold rowE; rw [List.length_map]; omega, ?_⟩
          rw [rowE_put]
          have np : q ≠ p := fun z => (List.nodup_cons.mp h3).1 (z ▸ mq)
          obtain ⟨u1, u2⟩ := up (fun rs => putR rs nm w3) ((⟨m4, μ2⟩ : Sto).put q (.dic (rowE (putR rs nm w3)))) Sto.put_same fun a _ ne => Sto.put_ne ne
          refine ⟨_, by walk_at "wk", qs, updC c cr fun rs => putR rs nm w3, rfl, by show m4 ≤ _; omega, ?_, u1, h3, h4.upd fun rs hrs => hrs.put hnm hw3, ?_, ?_⟩
          · rw [u2]
            exact (Sto.put_ne (Ne.symm np)).trans h1
          · have := congrArg List.length (updC_keys (c := c) (x := cr) (f := fun rs => putR rs nm w3))
            rw [List.length_map, List.length_map] at this
            omega
          · have := updC_rows (c := c) (x := cr) (f := fun rs => putR rs nm w3) h4.1 fun rs => putR_len.2
            omega
        · refine gs_next ⟨_, by walk_at "wk", qs, c, rfl, by show n1 + 1 + 1 ≤ _; omega, h1, h2.keep fun _ _ => rfl, h3, h4, h5, by omega⟩
    · rintro δ' ⟨n1, μ1⟩ ⟨qs, c, rfl, hn1, h1, h2, h3, h4, h5, h6⟩
      rw [rangeD_len] at hn1 h5 h6
      have hn1 : n1 ≤ n + 601 + 130 * q3.toNat := hn1
      have hn1 : n1 ≤ n + 19000 := by omega
      refine gs_seq (gs_lockS (qs ++ []) (gs_lockI (r := []) qs c [] _ (by simpa [cntE] using h1) h2 h3 ?_))
      show GS K .calm (some pb) _ _ ((⟨n1, m00⟩ : Sto).put p (.dic (cntE c))) _ _ _ _
      refine gs_whileW (fun m δ' n' => ∃ (c : Cont) (m1 : Nat), δ' = [.bag, .d (.int cap), .d (.ptr p), .d (.lst (cs.map D.str)), .un, .d (.lst (ws.map D.str)), .un, .un] ∧ n' = (⟨m1, m00⟩ : Sto).put p (.dic (cntE c)) ∧ m = c.length ∧ m1 + c.length ≤ n + 19200 ∧ WfC c ∧ c.length ≤ 97 ∧ rowsN c ≤ 97) _ ⟨_, by walk_at "wk", c, n1, rfl, rfl, rfl, by omega, h4, by omega, by omega⟩ ?_
      clear h1 h2 h3 h4 h5 h6
      clear c
      rintro m δ' n' ⟨c, m1, rfl, rfl, rfl, hm1, wf, g1, g2⟩
      refine gt_test (gk_op (gk_lockB (i := 2) (p := p) rfl Sto.put_same put_nd (noOw_of rfl) (gk_call (ga_cons (gk_var rfl (ga_nil (c_law_cards_in wf (by omega) (by omega) ⟨rfl, rfl, ?_⟩)))))))
      walk_at "e"
      refine ⟨fun hgt => ?_, fun hle => ?_⟩
      · have hgt := of_decide_eq_true hgt
        have hc0 : 0 < c.length := by
          cases c with
          | nil =>
            have e0 : cardsN [] = 0 := cardsN_nil
            rw [e0] at hgt
            split at hgt <;> omega
          | cons b c => simp
        refine gs_drop (gk_dpopP (gk_var rfl ⟨p, _, rfl, Sto.put_same, gk_op (gk_cb (ga_cons (gk_var rfl (ga_nil (rc_sortDA (ks := c.map (·.1)) (.inl ⟨p, rfl, Sto.put_same⟩) (by unfold cntE; rw [List.map_map, List.map_map]; rfl) ?_)))))⟩))
        refine gk_callB rfl (ga_cons (gk_cb (ga_cons (gk_var rfl (ga_nil (rc_lenDA (.inl ⟨p, rfl, Sto.put_same⟩) (ga_nil ?_)))))))
        rw [show (cntE c).length = c.length from List.length_map _]
        refine sb_take (by show m1 < 2 ^ 40; omega) (by omega) (by omega) fun r r0 r1 => ?_
        have sl : (srtS (c.map (·.1))).length = c.length := by rw [srtS_perm.length_eq, List.length_map]
        obtain ⟨x, ex, mx⟩ := at_strs (zs := srtS (c.map (·.1))) r0 (by rw [sl]; exact r1)
        refine rk_ixL ex ?_
        have mx := srtS_perm.mem_iff.mp mx
        obtain ⟨⟨x', rs⟩, hb, rfl⟩ := List.mem_map.mp mx
        refine ⟨_, .inr x', rowD rs, Sto.put_same, rfl, getD_cnt wf.1 hb, ?_⟩
        rw [dropD_cntE]
        have lf : (c.filter fun b => decide (b.1 ≠ x')).length < c.length := by
          rcases Nat.lt_or_ge (c.filter fun b => decide (b.1 ≠ x')).length c.length with g | g
          · exact g
          · have e := (List.filter_sublist (p := fun b : Str × List (Str × Str) => decide (b.1 ≠ x')) (l := c)).eq_of_length_le g
            have hb2 := hb
            rw [← e, List.mem_filter] at hb2
            exact absurd rfl (of_decide_eq_true hb2.2)
        refine ⟨_, _, lf, by walk_at "wk", c.filter fun b => decide (b.1 ≠ x'), m1 + 1, rfl, ?_, rfl, by omega, wf.filter, by omega, Nat.le_trans rowsN_filter g2⟩
        exact sto_put3
      · refine lk_held (p := p) (c := c) (i := 2) rfl Sto.put_same (dN.mk (k c m1 wf g1 g2 ?_ (by omega)))
        have hle := of_decide_eq_false hle
        constructor <;> (split at hle <;> omega)
def sp_law_done (K : PySem.W.Frag) : Sp := spP K fun ds Φ => ∃ (c : Cont) (d : Dd), ds = [cntD c, d.D] ∧ WfC c ∧ d.Wf ∧ c.length ≤ 400 ∧ rowsN c ≤ 400 ∧ Φ (.tup [cntD (doneC c d).1, (doneC c d).2])
theorem ok_law_done (T : Txt K mg) : FnOk P w K mg base CX0 3 T.f_law_done T.fd_law_done ["_law_held_here", "_law_deed"] (sp_law_done K) := by
  refine fn_P T.F_law_done sc_law_done (fun ds Φ h => ?_) (fun cdv A outer s H E hr => ⟨_, (pss_cons (ps_set (i := 2) sc_law_done.nd rfl (Or.inl rfl) (pe_callTy (call_dictP rfl) (by rfl) T.z_dict (by decide +kernel) (pa_cons (pe_lc (own := [("_law_crate", 3)]) (g := gName 3) (by rfl) sc_law_done.nd (pi_keys (pv 0)) (blkOk_by (own := [("_law_crate", 3)]) (N := ["_law_held_here", "_law_deed", "_law_found", "_law_crate", "_law_word", "_law_many"]) (sc := defScope s_law_done) (by decide +kernel)) (fun _ _ _ _ _ => (pg_name (i := 3) sc_law_done.nd rfl (Or.inl rfl))) (fun _ _ _ _ _ => pts_nil) (fun _ _ _ _ _ => (pe_tup (pa_cons (pv 3) (pa_cons (pe_callTy call_dictD (by rfl) T.z_dict (by decide +kernel) (pa_cons (pe_dget (hu_by hr) (pv 0) (pv 3) (fun _ _ => rfl)) pa_nil)) pa_nil))))) pa_nil)))
      (pss_cons (ps_par (i := 4) (j := 3) (by rfl) sc_law_done.nd rfl rfl (by decide) rfl rfl (pa_cons (pe_ix ix_tup (pv 1) pe_int (fun _ _ => rfl)) (pa_cons (pe_ix ix_tup (pv 1) pe_int (fun _ _ => rfl)) pa_nil)) (by rfl))
      (pss_cons (ps_if (PW.pt (pw_and (pt_cmpR op_eq (pv 4) pe_str (nomark _)) (pw_and1 (pt_cmp (pc_din (hu_by hr) (pv 3) (pv 0))))))
        (pss_one (ps_ret (pe_tup (pa_cons (pv 0) (pa_cons (pe_tup (pa_cons pe_str (pa_cons (pv 3) pa_nil))) pa_nil)))))
        pss_nil)
      (pss_cons (ps_if (pt_cmpR op_eq (pv 4) pe_str (nomark _))
        (pss_one (ps_dput (hu_by hr) (pv 2) (pv 3) pe_dnewK rfl))
        (pss_one (ps_if (pt_cmp (pc_dnotin (hu_by hr) (pv 3) (pv 0)))
          (pss_one (ps_ret (pe_tup (pa_cons (pv 0) (pa_cons (pe_tup (pa_cons pe_str (pa_cons (pv 3) pa_nil))) pa_nil)))))
          (pss_one (ps_if (pt_cmpR op_eq (pv 4) pe_str (nomark _))
            (pss_one (ps_dput (hu_by hr) (pe_dget (hu_by hr) (pv 2) (pv 3) (fun _ _ => rfl)) (pe_ix ix_tup (pv 1) pe_int (fun _ _ => rfl)) (pe_ix ix_tup (pv 1) pe_int (fun _ _ => rfl)) rfl))
            (pss_one (ps_if (PW.pt (pw_and (pt_cmpR op_eq (pv 4) pe_str (nomark _)) (pw_and1 (pt_cmp (pc_dnotin (hu_by hr) (pe_ix ix_tup (pv 1) pe_int (fun _ _ => rfl)) (pe_dget (hu_by hr) (pv 0) (pv 3) (fun _ _ => rfl)))))))
              (pss_one (ps_ret (pe_tup (pa_cons (pv 0) (pa_cons (pe_tup (pa_cons pe_str (pa_cons (pv 3) (pa_cons (pe_ix ix_tup (pv 1) pe_int (fun _ _ => rfl)) pa_nil)))) pa_nil)))))
              (pss_one (ps_if (PW.pt (pw_and (pt_cmpR op_eq (pv 4) pe_str (nomark _)) (pw_and1 (pt_cmp (pc_din (hu_by hr) (pe_ix ix_tup (pv 1) pe_int (fun _ _ => rfl)) (pv 0))))))
                (pss_one (ps_ret (pe_tup (pa_cons (pv 0) (pa_cons (pe_tup (pa_cons pe_str (pa_cons (pe_ix ix_tup (pv 1) pe_int (fun _ _ => rfl)) pa_nil))) pa_nil)))))
                (pss_one (ps_if (pt_cmpR op_eq (pv 4) pe_str (nomark _))
                  (pss_one (ps_expr (pe_dpop1 (pe_dget (hu_by hr) (pv 2) (pv 3) (fun _ _ => rfl)) (pe_ix ix_tup (pv 1) pe_int (fun _ _ => rfl)) ⟨rfl, rfl, rfl, rfl⟩)))
                  (pss_one (ps_if (pt_cmpR op_eq (pv 4) pe_str (nomark _))
                    (pss_one (ps_dput (hu_by hr) (pv 2) (pe_ix ix_tup (pv 1) pe_int (fun _ _ => rfl)) (pe_callTy call_dictD (by rfl) T.z_dict (by decide +kernel) (pa_cons (pe_dget (hu_by hr) (pv 0) (pv 3) (fun _ _ => rfl)) pa_nil)) rfl))
                    (pss_one (ps_expr (pe_dpop1 (pv 2) (pv 3) ⟨rfl, rfl, rfl, rfl⟩))))))))))))))))
      (pss_cons (ps_lockS (ps_set (i := 5) sc_law_done.nd rfl (Or.inl rfl) (pe_call (ok_law_cards_in T) (hr.mono (by decide)) (by rfl) T.m_law_cards_in T.F_law_cards_in.kp T.b_law_cards_in .nil pass0 (pa_cons (pv 2) pa_nil))))
      (pss_one (ps_ret (pe_ifExp (pt_cmpR op_lt (pv 5) pe_int (nomark _)) (pe_tup (pa_cons (pv 2) (pa_cons (pe_tup pa_nil) pa_nil))) (pe_tup (pa_cons (pv 0) (pa_cons (pe_tup (pa_cons pe_str (pa_cons (pv 5) pa_nil))) pa_nil))))))))))), fun ds Φ h => ?_⟩)
  · obtain ⟨c, d, rfl, _⟩ := h
    rfl
  · obtain ⟨c, d, rfl, wf, wd, lc, lr, k⟩ := h
    walk_at "k"
    have knd : (c.map fun b => (Sum.inr b.1 : Key)).Nodup := by
      have q := List.Pairwise.map (S := fun a b : Key => a ≠ b) Sum.inr (fun a b h e => h (Sum.inr.inj e)) wf.1
      rw [List.map_map] at q
      exact q
    refine gs_seq (gs_asg (gk_cb (ga_cons (gk_lc (fun i hi x => ?_) (gi_keysL (gk_var rfl ⟨cntE c, rfl, ?_, fun i acc n' => ∃ qs, acc = (ptE qs (c.take i)).map (fun kv => .tup [keyD kv.1, kv.2]) ∧ Rws n' qs (c.take i) ∧ qs.Nodup, ⟨[], rfl, .nil, List.nodup_nil⟩, ?_, ?_⟩))))))
    · cases List.mem_singleton.mp hi
      exact fun h => nomatch (show some Slot.un = some _ from h)
    · unfold cntE
      rw [List.length_map, List.length_map]
      omega
    · rintro i x acc n' hx ⟨qs, rfl, h1, h2⟩ _
      rw [List.getElem?_map] at hx
      obtain ⟨kv, hkv, rfl⟩ := Option.map_eq_some_iff.mp hx
      unfold cntE at hkv
      rw [List.getElem?_map] at hkv
      obtain ⟨b, hb, rfl⟩ := Option.map_eq_some_iff.mp hkv
      have mb := List.mem_of_getElem? hb
      have tk : c.take (i + 1) = c.take i ++ [b] := by rw [List.take_add_one, hb]; rfl
      refine ⟨_, gg_name (List.mem_singleton.mpr rfl), OffD.wipe.set (List.mem_singleton.mpr rfl), gt_yes ⟨fun _ => ?_, fun z => nomatch z⟩⟩
      refine gk_tup (ga_cons (gk_var rfl (ga_cons (gk_cb (ga_cons (gk_dgetL (gk_var rfl ⟨cntE c, rfl, gk_var rfl ⟨.inr b.1, rowD b.2, rfl, getD_cnt wf.1 mb, ga_nil (rc_dictDA (.inr (.inl rfl)) fun q hq => ga_nil ⟨by show 2 ≤ 100000; decide, qs ++ [q], ?_, ?_, ?_⟩)⟩⟩)))))))
      · rw [tk, ptE_app h1.len, List.map_append]
        rfl
      · rw [tk]
        exact (h1.keep fun a ha => Sto.put_ne fun z => h1.someC a ha (z ▸ hq)).app (.cons Sto.put_same .nil)
      · rw [List.nodup_append]
        exact ⟨h2, by simp, fun a ha b hb z => by
          rw [List.mem_singleton.mp hb] at z
          exact h1.someC a ha (z ▸ hq)⟩
    rintro acc n' ⟨qs, rfl, h1, h2⟩ _
    rw [List.length_map, show (cntE c).length = c.length from List.length_map _, List.take_length] at h1
    rw [List.length_map, show (cntE c).length = c.length from List.length_map _, List.take_length]
    have kq : (ptE qs c).map (·.1) = c.map fun b => (Sum.inr b.1 : Key) := ptE_keys h1.len
    refine ga_nil (rc_dictP (kvs := ptE qs c) rfl fun p hp => ?_)
    rw [mergeC (es := []) (by rw [List.nil_append]; show ((ptE qs c).map (·.1)).Nodup; rw [kq]; exact knd), List.nil_append]
    obtain ⟨n1, hn1, g1, g2, g3⟩ : ∃ n1, n'.put p (.dic (ptE qs c)) = n1 ∧ n1.μ p = some (.dic (ptE qs c)) ∧ Rws n1 qs c ∧ (p :: qs).Nodup :=
      ⟨_, rfl, Sto.put_same, h1.keep fun a ha => Sto.put_ne fun z => h1.someC a ha (z ▸ hp), List.nodup_cons.mpr ⟨fun z => h1.someC p z hp, h2⟩⟩
    rw [hn1]
    clear hn1 hp h1 h2
    obtain ⟨xs, ed, x0, x1⟩ := deedD_at d
    rw [ed]
    refine gs_seq (gs_par (ga_cons (gk_op (gk_var rfl (gk_i (rk_ixT (atI_nat (j := 0) x0) (ga_cons (gk_op (gk_var rfl (gk_i (rk_ixT (atI_nat (j := 1) x1) (ga_nil ⟨_, _, rfl, ?_⟩))))))))))))
    refine gs_seq (gs_monoN (N' := fun δ' n2 => δ' = [.d (cntD c), .d (.tup xs), .d (.ptr p), .d (.str (crD d)), .d (.str (wdD d)), .un] ∧ n2 = n1 ∧ (wdD d = "make" → ¬ inC c (crD d))) ?_ ?_)
    · have tak : decide (wdD d = "make") = true → inC c (crD d) → Φ (.tup [cntD c, .tup [.str "Taken", .str (crD d)]]) := fun h1 h2 => by
        cases d with
        | make x =>
          have e : doneC c (.make x) = (c, .tup [.str "Taken", .str x]) := by
            unfold doneC
            rw [show whyC c (.make x) = some (.tup [.str "Taken", .str x]) from if_pos h2]
          rw [e] at k
          exact k
        | put x k z => exact absurd (of_decide_eq_true h1) (show ¬ ("put" : Str) = "make" by decide +kernel)
        | take x k => exact absurd (of_decide_eq_true h1) (show ¬ ("take" : Str) = "make" by decide +kernel)
        | copy x y => exact absurd (of_decide_eq_true h1) (show ¬ ("copy" : Str) = "make" by decide +kernel)
        | drop x => exact absurd (of_decide_eq_true h1) (show ¬ ("drop" : Str) = "make" by decide +kernel)
      refine gs_if (gt_and (gt_word _ rfl rfl ⟨fun h1 => gt_test (gk_inA (gk_var rfl (gk_var rfl ⟨cntE c, .inr (crD d), .inr (.inl rfl), rfl, _, rfl, fun h2 => ?_, fun h2 => gs_next ⟨rfl, rfl, fun _ hi => ?_⟩⟩))), fun h1 => ⟨(fun z => nomatch z), fun _ => gs_next ⟨rfl, rfl, fun e => absurd e (of_decide_eq_false h1)⟩⟩⟩))
      · rw [getC_is] at h2
        exact gs_ret (gk_tup (ga_cons (gk_var rfl (ga_cons (gk_tup (ga_cons (gk_s (ga_cons (gk_var rfl (ga_nil ⟨by show 2 ≤ 100000; decide, ga_nil ⟨by show 2 ≤ 100000; decide, tak h1 (of_decide_eq_true h2)⟩⟩))))))))))
      · rw [getC_is] at h2
        exact of_decide_eq_false h2 hi
    rintro δ' n2 ⟨rfl, rfl, nm⟩
    refine gs_seq (gs_monoN (N' := fun δ' n2 => ∃ (p : Addr) (qs : List Addr), δ' = [.d (cntD c), .d (.tup xs), .d (.ptr p), .d (.str (crD d)), .d (.str (wdD d)), .un] ∧ whyC c d = none ∧ n2.μ p = some (.dic (ptE qs (doC c d))) ∧ Rws n2 qs (doC c d) ∧ (p :: qs).Nodup) ?_ ?_)
    · have el : (ptE qs c).length = c.length := by
        have := congrArg List.length kq
        rwa [List.length_map, List.length_map] at this
      have npq := (List.nodup_cons.mp g3).1
      have nobox : ∀ x, whyC c d = some (.tup [.str "NoBox", .str x]) → Φ (.tup [cntD c, .tup [.str "NoBox", .str x]]) := fun x e => by
        unfold doneC at k
        rw [e] at k
        exact k
      have newk : ∀ {y : Str}, ¬ inC c y → ∀ {q : Addr} {rs : List (Str × Str)}, putD (ptE qs c) (Sum.inr y) (.ptr q) = ptE (qs ++ [q]) (c ++ [(y, rs)]) := fun {y} hn {q rs} => by
        rw [ptE_app g2.len]
        refine putD_new fun kv hkv e => hn ?_
        have : kv.1 ∈ (ptE qs c).map (·.1) := List.mem_map.mpr ⟨kv, hkv, rfl⟩
        rw [kq, e] at this
        obtain ⟨b, hb, e2⟩ := List.mem_map.mp this
        exact List.mem_map.mpr ⟨b, hb, Sum.inr.inj e2⟩
      cases d with
      | make x =>
        have hn : ¬ inC c x := nm rfl
        refine gs_if (gt_word (a := "make") true rfl (by decide +kernel) ⟨fun _ => ?_, fun z => nomatch z⟩)
        refine gs_putP (gk_newD fun q hq => gk_var rfl ⟨p, rfl, gk_var rfl ⟨ptE qs c, .inr x, ?_, rfl, by omega, ?_⟩⟩)
        · exact (Sto.put_ne fun z => by rw [← z, g1] at hq; cases hq).trans g1
        have qp : q ≠ p := fun z => by rw [z, g1] at hq; cases hq
        have qq : q ∉ qs := fun z => g2.someC q z hq
        refine ⟨p, qs ++ [q], rfl, why_make hn, ?_, ?_, ?_⟩
        · rw [newk hn (rs := [])]
          exact Sto.put_same
        · refine (g2.keep fun a ha => (Sto.put_ne (ne_in ha npq)).trans (Sto.put_ne (ne_in ha qq))).app (.cons ?_ .nil)
          exact (Sto.put_ne qp).trans Sto.put_same
        · rw [← List.cons_append, List.nodup_append]
          exact ⟨g3, by simp, fun a ha b hb z => by
            rw [List.mem_singleton.mp hb] at z
            rcases List.mem_cons.mp ha with rfl | ha
            · exact qp z.symm
            · exact qq (z ▸ ha)⟩
      | put x k2 z =>
        cases (show D.tup [.str "put", .str x, .str k2, .str z] = .tup xs from ed)
        refine gs_if (gt_word (a := "put") false rfl (by decide +kernel) ⟨(fun z => nomatch z), fun _ => gs_if (gt_notbox (x := x) rfl rfl (fun hn => ⟨fun _ => ?_, fun z => nomatch z⟩) fun hi => ⟨(fun z => nomatch z), fun _ => ?_⟩)⟩)
        · exact gs_ret (gk_tup (ga_cons (gk_var rfl (ga_cons (gk_tup (ga_cons (gk_s (ga_cons (gk_var rfl (ga_nil ⟨by show 2 ≤ 100000; decide, ga_nil ⟨by show 2 ≤ 100000; decide, nobox x (if_neg hn)⟩⟩))))))))))
        refine gs_if (gt_word (a := "put") true rfl (by decide +kernel) ⟨fun _ => ?_, fun z => nomatch z⟩)
        obtain ⟨q, rs, mq, mrs, gq, eq, up⟩ := Rws.find g2 (List.nodup_cons.mp g3).2 wf.1 hi
        have hrl : rs.length ≤ 400 := Nat.le_trans (rows_le mrs) lr
        refine gs_putP (gk_op (gk_var rfl (gk_i (rk_ixT (d := .str z) rfl (gk_dgetP (gk_var rfl ⟨p, rfl, gk_var rfl ⟨_, .inr x, _, g1, rfl, gq, q, rfl, gk_op (gk_var rfl (gk_i (rk_ixT (d := .str k2) rfl ⟨_, .inr k2, eq, rfl, by unfold rowE; rw [List.length_map]; omega, ?_⟩)))⟩⟩))))))
        rw [rowE_put]
        obtain ⟨u1, u2⟩ := up (fun rs => putR rs k2 z) (n2.put q (.dic (rowE (putR rs k2 z)))) Sto.put_same fun a _ ne => Sto.put_ne ne
        refine ⟨p, qs, rfl, why_put hi, ?_, u1, g3⟩
        show _ = some (MO.dic (ptE qs (updC c x fun rs => putR rs k2 z)))
        rw [u2]
        exact (Sto.put_ne (Ne.symm (ne_in mq npq))).trans g1
      | take x k2 =>
        cases (show D.tup [.str "take", .str x, .str k2] = .tup xs from ed)
        refine gs_if (gt_word (a := "take") false rfl (by decide +kernel) ⟨(fun z => nomatch z), fun _ => gs_if (gt_notbox (x := x) rfl rfl (fun hn => ⟨fun _ => ?_, fun z => nomatch z⟩) fun hi => ⟨(fun z => nomatch z), fun _ => ?_⟩)⟩)
        · exact gs_ret (gk_tup (ga_cons (gk_var rfl (ga_cons (gk_tup (ga_cons (gk_s (ga_cons (gk_var rfl (ga_nil ⟨by show 2 ≤ 100000; decide, ga_nil ⟨by show 2 ≤ 100000; decide, nobox x (if_neg hn)⟩⟩))))))))))
        refine gs_if (gt_word (a := "take") false rfl (by decide +kernel) ⟨(fun z => nomatch z), fun _ => ?_⟩)
        refine gs_if (gt_and (gt_word (a := "take") true rfl (by decide +kernel) ⟨fun _ => gt_test (gk_notinA (gk_op (gk_var rfl (gk_i (rk_ixT (d := .str k2) rfl (gk_dgetL (gk_var rfl ⟨cntE c, rfl, gk_var rfl ⟨.inr x, _, rfl, getC_at wf hi, rowE (rowsAt c x), .inr k2, .inr (.inl rfl), rfl, _, rfl, fun h => ?_, fun h => ?_⟩⟩))))))), fun z => nomatch z⟩))
        · rw [getR_is] at h
          have nk : k2 ∉ (rowsAt c x).map (·.1) := of_decide_eq_false (by simpa using h)
          have e : whyC c (.take x k2) = some (.tup [.str "NoKey", .str x, .str k2]) := by
            simp only [whyC]
            rw [if_pos hi, if_neg nk]
          unfold doneC at k
          rw [e] at k
          exact gs_ret (gk_tup (ga_cons (gk_var rfl (ga_cons (gk_tup (ga_cons (gk_s (ga_cons (gk_var rfl (ga_cons (gk_op (gk_var rfl (gk_i (rk_ixT (d := .str k2) rfl (ga_nil ⟨by show 3 ≤ 100000; decide, ga_nil ⟨by show 2 ≤ 100000; decide, k⟩⟩)))))))))))))))
        rw [getR_is] at h
        have ik : k2 ∈ (rowsAt c x).map (·.1) := of_decide_eq_true (by simpa using h)
        refine gs_if (gt_and (gt_word (a := "take") false rfl (by decide +kernel) ⟨(fun z => nomatch z), fun _ => ⟨(fun z => nomatch z), fun _ => ?_⟩⟩))
        refine gs_if (gt_word (a := "take") true rfl (by decide +kernel) ⟨fun _ => ?_, fun z => nomatch z⟩)
        obtain ⟨q, rs, mq, mrs, gq, eq, up⟩ := Rws.find g2 (List.nodup_cons.mp g3).2 wf.1 hi
        have ers : rowsAt c x = rs := rowsAt_mem wf.1 mrs
        rw [ers] at ik
        have wr := (wf.2 _ mrs).2
        refine gs_drop (gk_dpopP (gk_dgetP (gk_var rfl ⟨p, rfl, gk_var rfl ⟨_, .inr x, _, g1, rfl, gq, q, _, rfl, eq, gk_op (gk_var rfl (gk_i (rk_ixT (d := .str k2) rfl ⟨_, .inr k2, _, eq, rfl, rowE_get wr.1 (valR_in wr.1 ik), ?_⟩)))⟩⟩)))
        rw [dropD_rowE]
        obtain ⟨u1, u2⟩ := up (fun rs => delR rs k2) (n2.put q (.dic (rowE (delR rs k2)))) Sto.put_same fun a _ ne => Sto.put_ne ne
        refine ⟨p, qs, rfl, ?_, ?_, u1, g3⟩
        · simp only [whyC]
          rw [if_pos hi, ers, if_pos ik]
        · show _ = some (MO.dic (ptE qs (updC c x fun rs => delR rs k2)))
          rw [u2]
          exact (Sto.put_ne (Ne.symm (ne_in mq npq))).trans g1
      | copy x y =>
        cases (show D.tup [.str "copy", .str x, .str y] = .tup xs from ed)
        refine gs_if (gt_word (a := "copy") false rfl (by decide +kernel) ⟨(fun z => nomatch z), fun _ => gs_if (gt_notbox (x := x) rfl rfl (fun hn => ⟨fun _ => ?_, fun z => nomatch z⟩) fun hi => ⟨(fun z => nomatch z), fun _ => ?_⟩)⟩)
        · exact gs_ret (gk_tup (ga_cons (gk_var rfl (ga_cons (gk_tup (ga_cons (gk_s (ga_cons (gk_var rfl (ga_nil ⟨by show 2 ≤ 100000; decide, ga_nil ⟨by show 2 ≤ 100000; decide, nobox x (if_neg hn)⟩⟩))))))))))
        refine gs_if (gt_word (a := "copy") false rfl (by decide +kernel) ⟨(fun z => nomatch z), fun _ => ?_⟩)
        refine gs_if (gt_and (gt_word (a := "copy") false rfl (by decide +kernel) ⟨(fun z => nomatch z), fun _ => ⟨(fun z => nomatch z), fun _ => ?_⟩⟩))
        refine gs_if (gt_and (gt_word (a := "copy") true rfl (by decide +kernel) ⟨fun _ => gt_test (gk_inA (gk_op (gk_var rfl (gk_i (rk_ixT (d := .str y) rfl (gk_var rfl ⟨cntE c, .inr y, .inr (.inl rfl), rfl, _, rfl, fun h => ?_, fun h => ?_⟩)))))), fun z => nomatch z⟩))
        · rw [getC_is] at h
          have iy : inC c y := of_decide_eq_true h
          have e : whyC c (.copy x y) = some (.tup [.str "Taken", .str y]) := by
            simp only [whyC]
            rw [if_pos hi, if_pos iy]
          unfold doneC at k
          rw [e] at k
          exact gs_ret (gk_tup (ga_cons (gk_var rfl (ga_cons (gk_tup (ga_cons (gk_s (ga_cons (gk_op (gk_var rfl (gk_i (rk_ixT (d := .str y) rfl (ga_nil ⟨by show 2 ≤ 100000; decide, ga_nil ⟨by show 2 ≤ 100000; decide, k⟩⟩)))))))))))))
        rw [getC_is] at h
        have ny : ¬ inC c y := of_decide_eq_false h
        refine gs_if (gt_word (a := "copy") false rfl (by decide +kernel) ⟨(fun z => nomatch z), fun _ => ?_⟩)
        refine gs_if (gt_word (a := "copy") true rfl (by decide +kernel) ⟨fun _ => ?_, fun z => nomatch z⟩)
        refine gs_putP (gk_cb (ga_cons (gk_dgetL (gk_var rfl ⟨cntE c, rfl, gk_var rfl ⟨.inr x, _, rfl, getC_at wf hi, ga_nil (rc_dictDA (.inr (.inl rfl)) fun q hq => gk_var rfl ⟨p, rfl, gk_op (gk_var rfl (gk_i (rk_ixT (d := .str y) rfl ⟨ptE qs c, .inr y, ?_, rfl, by omega, ?_⟩)))⟩)⟩⟩))))
        · exact (Sto.put_ne fun z => by rw [← z, g1] at hq; cases hq).trans g1
        have qp : q ≠ p := fun z => by rw [z, g1] at hq; cases hq
        have qq : q ∉ qs := fun z => g2.someC q z hq
        refine ⟨p, qs ++ [q], rfl, ?_, ?_, ?_, ?_⟩
        · simp only [whyC]
          rw [if_pos hi, if_neg ny]
        · rw [newk ny (rs := rowsAt c x)]
          exact Sto.put_same
        · refine (g2.keep fun a ha => (Sto.put_ne (ne_in ha npq)).trans (Sto.put_ne (ne_in ha qq))).app (.cons ?_ .nil)
          exact (Sto.put_ne qp).trans Sto.put_same
        · rw [← List.cons_append, List.nodup_append]
          exact ⟨g3, by simp, fun a ha b hb z => by
            rw [List.mem_singleton.mp hb] at z
            rcases List.mem_cons.mp ha with rfl | ha
            · exact qp z.symm
            · exact qq (z ▸ ha)⟩
      | drop x =>
        cases (show D.tup [.str "drop", .str x] = .tup xs from ed)
        refine gs_if (gt_word (a := "drop") false rfl (by decide +kernel) ⟨(fun z => nomatch z), fun _ => gs_if (gt_notbox (x := x) rfl rfl (fun hn => ⟨fun _ => ?_, fun z => nomatch z⟩) fun hi => ⟨(fun z => nomatch z), fun _ => ?_⟩)⟩)
        · exact gs_ret (gk_tup (ga_cons (gk_var rfl (ga_cons (gk_tup (ga_cons (gk_s (ga_cons (gk_var rfl (ga_nil ⟨by show 2 ≤ 100000; decide, ga_nil ⟨by show 2 ≤ 100000; decide, nobox x (if_neg hn)⟩⟩))))))))))
        refine gs_if (gt_word (a := "drop") false rfl (by decide +kernel) ⟨(fun z => nomatch z), fun _ => ?_⟩)
        refine gs_if (gt_and (gt_word (a := "drop") false rfl (by decide +kernel) ⟨(fun z => nomatch z), fun _ => ⟨(fun z => nomatch z), fun _ => ?_⟩⟩))
        refine gs_if (gt_and (gt_word (a := "drop") false rfl (by decide +kernel) ⟨(fun z => nomatch z), fun _ => ⟨(fun z => nomatch z), fun _ => ?_⟩⟩))
        refine gs_if (gt_word (a := "drop") false rfl (by decide +kernel) ⟨(fun z => nomatch z), fun _ => ?_⟩)
        refine gs_if (gt_word (a := "drop") false rfl (by decide +kernel) ⟨(fun z => nomatch z), fun _ => ?_⟩)
        obtain ⟨q, rs, mq, mrs, gq, eq, up⟩ := Rws.find g2 (List.nodup_cons.mp g3).2 wf.1 hi
        obtain ⟨qs', sub, r', ed'⟩ := g2.dropC (x := x)
        refine gs_drop (gk_dpopP (gk_var rfl ⟨p, _, rfl, g1, gk_var rfl ⟨_, .inr x, _, g1, rfl, gq, ?_⟩⟩))
        rw [ed']
        refine ⟨p, qs', rfl, why_drop hi, Sto.put_same, r'.keep fun a ha => Sto.put_ne (ne_in (sub.subset ha) npq), List.nodup_cons.mpr ⟨fun z => npq (sub.subset z), (List.nodup_cons.mp g3).2.sublist sub⟩⟩
    rintro δ' n2 ⟨p, qs, rfl, hw, g1, g2, g3⟩
    have wf' := doC_wf wf wd hw
    obtain ⟨l1, l2⟩ := doC_len wf hw
    unfold doneC at k
    rw [hw] at k
    refine gs_seq (gs_lockAll (i := 2) rfl g1 g2 g3 (gs_asg (gk_call (ga_cons (gk_var rfl (ga_nil (c_law_cards_in wf' (by omega) (by omega) ?_)))))))
    refine gs_ret (gk_ifE (gt_test (gk_op (gk_var rfl (gk_i (rk_lt ⟨_, rfl, fun h => ?_, fun h => ?_⟩))))))
    · have h : cardsN (doC c d) < 97 := by
        have := of_decide_eq_true h
        omega
      simp only [if_pos h] at k
      exact gk_tup (ga_cons (gk_var rfl (ga_cons (gk_tup (ga_nil ⟨by show 0 ≤ 100000; decide, ga_nil ⟨by show 2 ≤ 100000; decide, k⟩⟩)))))
    · have h : ¬ cardsN (doC c d) < 97 := by
        have := of_decide_eq_false h
        omega
      simp only [if_neg h] at k
      exact gk_tup (ga_cons (gk_var rfl (ga_cons (gk_tup (ga_cons (gk_s (ga_cons (gk_var rfl (ga_nil ⟨by show 2 ≤ 100000; decide, ga_nil ⟨by show 2 ≤ 100000; decide, k⟩⟩)))))))))
theorem c_law_done {δ : List Slot} {n : Sto} {Φ : D → Sto → Prop} {c : Cont} {d : Dd} (h1 : WfC c) (h2 : d.Wf) (h3 : c.length ≤ 400) (h4 : rowsN c ≤ 400) (k : Φ (.tup [cntD (doneC c d).1, (doneC c d).2]) n) : SC K Z (sp_law_done K) [cntD c, d.D] δ n Φ := sc_P ⟨c, d, rfl, h1, h2, h3, h4, k⟩
def sp_steps (K : PySem.W.Frag) : Sp := spP K fun ds Φ => ∃ a b : Cont, ds = [cntD a, cntD b] ∧ WfC a ∧ WfC b ∧ a.length ≤ 100 ∧ b.length ≤ 100 ∧ rowsN a ≤ 100 ∧ rowsN b ≤ 100 ∧ Φ (.int (wayD a b).length)
theorem ok_steps (T : Txt K mg) : FnOk P w K mg base CX0 4 T.f_steps T.fd_steps ["content", "other"] (sp_steps K) := by
  refine fn_P T.F_steps sc_steps (fun ds Φ h => ?_) (fun cdv A outer s H E hr => ⟨_, (pss_one (ps_ret (pe_callB call_len_seq (by rfl) T.z_len (by decide +kernel) (pa_cons (pe_call (ok_way_between T) (hr.mono (by decide)) (by rfl) T.m_way_between T.F_way_between.kp T.b_way_between .nil pass0 (pa_cons (pv 0) (pa_cons (pv 1) pa_nil))) pa_nil)))), fun ds Φ h => ?_⟩)
  · obtain ⟨a, b, rfl, _⟩ := h
    rfl
  · obtain ⟨a, b, rfl, wa, wb, la, lb, ha, hb, k⟩ := h
    walk_at "k"
    refine gs_ret (gk_cb (ga_cons (gk_call (ga_cons (gk_var rfl (ga_cons (gk_var rfl (ga_nil (c_way wa wb la lb ha hb (ga_nil (rc_lenL (xs := (wayD a b).map Dd.D) ?_)))))))))))
    rw [List.length_map]
    exact k
theorem c_steps {δ : List Slot} {n : Sto} {Φ : D → Sto → Prop} {a b : Cont} (h1 : WfC a) (h2 : WfC b) (h3 : a.length ≤ 100) (h4 : b.length ≤ 100) (h5 : rowsN a ≤ 100) (h6 : rowsN b ≤ 100) (k : Φ (.int (wayD a b).length) n) : SC K Z (sp_steps K) [cntD a, cntD b] δ n Φ := sc_P ⟨a, b, rfl, h1, h2, h3, h4, h5, h6, k⟩
theorem ent_nd : ∀ {F : List (Nat × Cont)}, (cods F).Nodup → (∀ e ∈ F, Sm e.2) → ((entF F).map Prod.fst).Nodup
  | [], _, _ => List.nodup_nil
  | x :: F, nd, h => by
    have nd : cod x.2 ∉ cods F ∧ (cods F).Nodup := List.nodup_cons.mp nd
    refine List.nodup_cons.mpr ⟨fun m => nd.1 ?_, ent_nd nd.2 fun e me => h e (List.mem_cons_of_mem _ me)⟩
    obtain ⟨kv, hkv, e⟩ := List.mem_map.mp m
    obtain ⟨y, hy, rfl⟩ := List.mem_map.mp hkv
    have e : sgT y.2 = sgT x.2 := Sum.inr.inj e
    exact List.mem_map.mpr ⟨y, hy, (sg_cod (h y (List.mem_cons_of_mem _ hy)) (h x List.mem_cons_self)).mp e⟩
def sp_law_reach (K : PySem.W.Frag) : Sp := spP K fun ds Φ => ∃ s : Cont, ds = [cntD s] ∧ Sm s ∧ ∀ F : List (Nat × Cont), F.length = 100 → (∀ e ∈ F, Sm e.2 ∧ e.1 = dC s e.2) → ((entF F).map Prod.fst).Nodup → Φ (.dct (entF F))
theorem ok_law_reach (T : Txt K mg) : FnG P w K mg base 4 T.f_law_reach T.fd_law_reach ["_law_start"] (sp_law_reach K) := by
  refine fn_PG T.F_law_reach sc_law_reach (fun ds Φ h => ?_) (fun cdv A outer s H E hgd hr => ⟨_, (pss_cons (ps_set (i := 1) sc_law_reach.nd rfl (Or.inl rfl) (pe_disp (pps_cons (pe_callG (ok_law_sign T) hgd (hr.mono (by decide)) (by rfl) T.m_law_sign T.F_law_sign.kp T.b_law_sign .nil pass0 (pa_cons (pv 0) pa_nil)) (pe_tup (pa_cons pe_int (pa_cons (pv 0) pa_nil))) pps_nil) rfl rfl (by simp) (by decide)))
      (pss_cons (ps_set (i := 2) sc_law_reach.nd rfl (Or.inl rfl) (pe_lst (pa_cons (pv 0) pa_nil)))
      (pss_cons (ps_while PassesOwn.never (pt_cmpR (op_neNil (K := K) rfl hr.units) (pv 2) (pe_lst pa_nil) (nomark _))
        (pss_cons (ps_par (i := 3) (j := 4) (by rfl) sc_law_reach.nd rfl rfl (by decide) rfl rfl (pa_cons (pv 2) (pa_cons (pe_lst pa_nil) pa_nil)) (by rfl))
        (pss_cons (ps_for PassesOwn.never (by rfl) (pi_list (pv 3)) (pg_name (i := 5) sc_law_reach.nd rfl (Or.inl rfl))
          (pss_one (ps_for PassesOwn.never (by rfl) (pi_list (pe_call0 (ok_law_deeds T) (hr.mono (by decide)) (by rfl) T.m_law_deeds T.F_law_deeds.kp T.b_law_deeds .nil pass0)) (pg_name (i := 6) sc_law_reach.nd rfl (Or.inl rfl))
            (pss_cons (ps_asg (pe_call (ok_law_done T) (hr.mono (by decide)) (by rfl) T.m_law_done T.F_law_done.kp T.b_law_done .nil pass0 (pa_cons (pv 5) (pa_cons (pv 6) pa_nil))) (pg_tup (by rfl) (pgs_cons (pg_name (i := 7) sc_law_reach.nd rfl (Or.inl rfl)) (pgs_cons (pg_name (i := 8) sc_law_reach.nd rfl (Or.inl rfl)) pgs_nil))))
            (pss_one (ps_if (pt_cmp (pc_dnotin (hu_by hr) (pe_callG (ok_law_sign T) hgd (hr.mono (by decide)) (by rfl) T.m_law_sign T.F_law_sign.kp T.b_law_sign .nil pass0 (pa_cons (pv 7) pa_nil)) (pv 1)))
              (pss_cons (ps_dput (hu_by hr) (pv 1) (pe_callG (ok_law_sign T) hgd (hr.mono (by decide)) (by rfl) T.m_law_sign T.F_law_sign.kp T.b_law_sign .nil pass0 (pa_cons (pv 7) pa_nil)) (pe_tup (pa_cons (pe_op op_add (pe_ix ix_tup (pe_dget (hu_by hr) (pv 1) (pe_callG (ok_law_sign T) hgd (hr.mono (by decide)) (by rfl) T.m_law_sign T.F_law_sign.kp T.b_law_sign .nil pass0 (pa_cons (pv 5) pa_nil)) (fun _ _ => rfl)) pe_int (fun _ _ => rfl)) pe_int) (pa_cons (pv 7) pa_nil))) rfl)
              (pss_one (ps_expr (pe_bm PySem.F.plainAttrs_list PySem.F.slot_list_append PySem.F.type_list_append mt_append (pv 4) (pa_cons (pv 7) pa_nil)))))
              pss_nil))))))
        (pss_one (ps_set (i := 2) sc_law_reach.nd rfl (Or.inl rfl) (pv 4))))))
      (pss_one (ps_lockS (ps_ret (pv 1))))))), fun ds Φ h => ?_⟩)
  · obtain ⟨s, rfl, _⟩ := h
    rfl
  · obtain ⟨s, rfl, hs, kk⟩ := h
    walk_at "k"
    refine gs_seq (gs_asg (gk_disp1 (gk_call (ga_cons (gk_var rfl (ga_nil (c_law_sign hs ⟨.inr (sgT s), rfl, gk_tup (ga_cons (gk_i (ga_cons (gk_var rfl (ga_nil ⟨by show 2 ≤ 100000; decide, fun p hp => ?_⟩)))))⟩)))))))
    refine gs_seq (gs_asg (gk_newL (ga_cons (gk_var rfl (ga_nil ⟨by show 1 ≤ 100000; decide, fun q hq => ?_⟩)))))
    have pq : p ≠ q := fun z => by rw [← z, Sto.put_same] at hq; cases hq
    refine gs_seq (gs_whileW (fun m δ' n' => ∃ (k : Nat) (F : List (Nat × Cont)) (E : List Cont) (q : Addr), m = 9 - k ∧ k ≤ 9 ∧ RHd s k F E ∧ δ' = [.d (cntD s), .d (.ptr p), .d (.ptr q), .un, .un, .un, .un, .un, .un] ∧ n'.μ p = some (.dic (entF F)) ∧ n'.μ q = some (.lst (E.map cntD)) ∧ p ≠ q) 9 ⟨_, by walk_at "wk", 0, [(0, s)], [s], q, rfl, by decide, rhd_start hs, rfl, (Sto.put_ne pq).trans Sto.put_same, Sto.put_same, pq⟩ ?_)
    rintro m δ' n1 ⟨k, F, E, q, rfl, hk, hd, rfl, hp1, hq1, pq⟩
    refine gt_test (gk_op (gk_var rfl (gk_lst (ga_nil ⟨by show 0 ≤ 100000; decide, rk_neNil (.inr ⟨q, rfl, hq1⟩) ⟨_, rfl, fun h => ?_, fun h => ?_⟩⟩))))
    · have hE : k ≤ 8 := by
        cases E with
        | nil => cases h
        | cons c E => exact hd.low
      refine gs_seq (gs_par (ga_cons (gk_var rfl (ga_cons (gk_newL (ga_nil ⟨by show 0 ≤ 100000; decide, fun r hr => ga_nil ⟨_, _, rfl, ?_⟩⟩))))))
      have pr : p ≠ r := fun z => by rw [← z, hp1] at hr; cases hr
      have qr : q ≠ r := fun z => by rw [← z, hq1] at hr; cases hr
      refine gs_seq (gs_forP (gk_var rfl ⟨q, E.map cntD, rfl, (Sto.put_ne qr).trans hq1, fun i δ' n' => ∃ (F' : List (Nat × Cont)) (L : List Cont), δ' = [.d (cntD s), .d (.ptr p), .d (.ptr q), .d (.ptr q), .d (.ptr r), .un, .un, .un, .un] ∧ n'.μ p = some (.dic (entF F')) ∧ n'.μ q = some (.lst (E.map cntD)) ∧ n'.μ r = some (.lst (L.map cntD)) ∧ RIn s k F' L ∧ ∀ c ∈ E.take i, ∀ d ∈ dls, cod (doneC c d).1 ∈ cods F',
        ⟨_, by walk_at "wk", F, [], rfl, (Sto.put_ne pr).trans hp1, (Sto.put_ne qr).trans hq1, Sto.put_same, hd.inn, fun c hc => by simp at hc⟩, ?_, ?_, ?_⟩))
      · rintro i δ' n' ⟨F', L, rfl, _, g, _⟩
        exact g
      · rintro i x δ' n2 hx ⟨F0, L0, rfl, hp2, hq2, hr2, ri0, pd0⟩
        rw [List.getElem?_map] at hx
        obtain ⟨c, hc, rfl⟩ := Option.map_eq_some_iff.mp hx
        have mc := List.mem_of_getElem? hc
        obtain ⟨sc, dc⟩ := hd.edge c mc
        have tk : E.take (i + 1) = E.take i ++ [c] := by rw [List.take_add_one, hc]; rfl
        refine ⟨_, [5], gg_name (by decide), ?_⟩
        refine gs_forW (gi_list (gk_call (ga_nil (c_law_deeds ⟨_, rfl, fun j δ' n' => ∃ (F' : List (Nat × Cont)) (L : List Cont), δ' = [.d (cntD s), .d (.ptr p), .d (.ptr q), .d (.ptr q), .d (.ptr r), .d (cntD c), .un, .un, .un] ∧ n'.μ p = some (.dic (entF F')) ∧ n'.μ q = some (.lst (E.map cntD)) ∧ n'.μ r = some (.lst (L.map cntD)) ∧ RIn s k F' L ∧ (∀ c ∈ E.take i, ∀ d ∈ dls, cod (doneC c d).1 ∈ cods F') ∧ ∀ d ∈ dls.take j, cod (doneC c d).1 ∈ cods F',
          ⟨_, by walk_at "wk", F0, L0, rfl, hp2, hq2, hr2, ri0, pd0, fun d hd => by simp at hd⟩, ?_, ?_⟩))))
        · clear hp2 hq2 hr2 ri0 pd0
          rintro j x δ' n3 hx ⟨F', L, rfl, hp2, hq2, hr2, ri, pd, pe⟩
          rw [List.getElem?_map] at hx
          obtain ⟨d, hdj, rfl⟩ := Option.map_eq_some_iff.mp hx
          have md := List.mem_of_getElem? hdj
          have tkd : dls.take (j + 1) = dls.take j ++ [d] := by rw [List.take_add_one, hdj]; rfl
          have cl := sm_cards sc
          obtain ⟨s2, _⟩ := done_sm sc md
          have smF : ∀ e ∈ F', Sm e.2 := fun e he => (ri.ok e he).1
          refine ⟨_, [6], gg_name (by decide), ?_⟩
          refine gs_seq (gs_unp2 rfl (gk_call (ga_cons (gk_var rfl (ga_cons (gk_var rfl (ga_nil (c_law_done sc.1 (smd_wf (dls_ok md).1) (by omega) (by omega) ⟨_, _, rfl, ?_⟩))))))))
          refine gs_if (gt_test (gk_notinA (gk_call (ga_cons (gk_var rfl (ga_nil (c_law_sign s2 (gk_var rfl ⟨entF F', .inr (sgT (doneC c d).1), .inl ⟨p, rfl, hp2⟩, rfl, _, rfl, fun h => ?_, fun h => ?_⟩))))))))
          · have hn : cod (doneC c d).1 ∉ cods F' := fun z => by
              obtain ⟨e, _, _, g⟩ := ent_some smF s2 z
              rw [g] at h
              cases h
            obtain ⟨e, me, ec, ge⟩ := ent_some smF sc (ri.all _ (cod_lt c) (Nat.le_of_eq dc))
            have e1 : e.1 = k := by
              rw [(ri.ok e me).2.1, ← dc]
              unfold dC
              rw [ec]
            have nx := ri.step hs sc dc md hn
            have ln := nx.lens
            have ln2 := nx.len
            rw [List.length_append] at ln
            rw [List.length_append, List.length_append] at ln2
            refine gs_seq (gs_putP (gk_tup (ga_cons (gk_op (gk_op (gk_dgetP (gk_var rfl ⟨p, rfl, gk_call (ga_cons (gk_var rfl (ga_nil (c_law_sign sc ⟨entF F', .inr (sgT c), _, hp2, rfl, ge, ?_⟩))))⟩)))))))
            refine gk_i (rk_ixT (d := .int (e.1 : Nat)) rfl (gk_i (rk_add (ga_cons (gk_var rfl (ga_nil ⟨by show 2 ≤ 100000; decide, gk_var rfl ⟨p, rfl, gk_call (ga_cons (gk_var rfl (ga_nil (c_law_sign s2 ⟨entF F', .inr (sgT (doneC c d).1), hp2, rfl, ?_, ?_⟩))))⟩⟩))))))
            · unfold entF
              rw [List.length_map]
              simp at ln
              omega
            rw [show ((e.1 : Nat) : Int) + 1 = ((k + 1 : Nat) : Int) by rw [e1]; rfl, ent_new smF s2 hn]
            refine gs_appP (gk_var rfl ⟨r, _, rfl, (Sto.put_ne pr.symm).trans hr2, gk_var rfl ⟨_, (Sto.put_ne pr.symm).trans hr2, ?_, ?_⟩⟩)
            · rw [List.length_map]
              simp at ln ln2
              omega
            refine ⟨_, by walk_at "wk", _, _, rfl, (Sto.put_ne pr).trans Sto.put_same, (Sto.put_ne qr).trans ((Sto.put_ne pq.symm).trans hq2), by rw [List.map_append]; exact Sto.put_same, nx, fun c' hc' d' hd' => ?_, fun d' hd' => ?_⟩
            · unfold cods
              rw [List.map_append]
              exact List.mem_append_left _ (pd c' hc' d' hd')
            · unfold cods
              rw [List.map_append]
              rw [tkd] at hd'
              rcases List.mem_append.mp hd' with hd' | hd'
              · exact List.mem_append_left _ (pe d' hd')
              · rw [List.mem_singleton.mp hd']
                exact List.mem_append_right _ (List.mem_singleton.mpr rfl)
          · have hy : cod (doneC c d).1 ∈ cods F' := Classical.byContradiction fun z => by
              rw [ent_none smF s2 z] at h
              cases h
            refine gs_next ⟨_, by walk_at "wk", F', L, rfl, hp2, hq2, hr2, ri, pd, fun d' hd' => ?_⟩
            rw [tkd] at hd'
            rcases List.mem_append.mp hd' with hd' | hd'
            · exact pe d' hd'
            · rw [List.mem_singleton.mp hd']
              exact hy
        · rintro δ' n3 ⟨F', L, rfl, hp2, hq2, hr2, ri, pd, pe⟩
          refine ⟨_, by walk_at "wk", F', L, rfl, hp2, hq2, hr2, ri, fun c' hc' d' hd' => ?_⟩
          rw [tk] at hc'
          rcases List.mem_append.mp hc' with hc' | hc'
          · exact pd c' hc' d' hd'
          · rw [List.mem_singleton.mp hc']
            exact pe d' (by rw [List.length_map, List.take_length]; exact hd')
      · rintro δ' n2 ⟨F', L, rfl, hp2, hq2, hr2, ri, pd⟩
        rw [List.length_map, List.take_length] at pd
        refine gs_asg (gk_var rfl ⟨9 - (k + 1), _, by omega, by walk_at "wk", k + 1, F', L, r, rfl, by omega, ri.next hd pd, rfl, hp2, hr2, pr⟩)
    · have hE : E = [] := by
        cases E with
        | nil => rfl
        | cons c E => cases h
      subst hE
      exact lk_dct rfl hp1 (kk F hd.fin (fun e he => ⟨(hd.ok e he).1, (hd.ok e he).2.1⟩) (ent_nd hd.nd fun e he => (hd.ok e he).1))
theorem c_law_reach {δ : List Slot} {n : Sto} {Φ : D → Sto → Prop} {s : Cont} (h : Sm s) (k : ∀ F : List (Nat × Cont), F.length = 100 → (∀ e ∈ F, Sm e.2 ∧ e.1 = dC s e.2) → ((entF F).map Prod.fst).Nodup → Φ (.dct (entF F)) n) : SC K Z (sp_law_reach K) [cntD s] δ n Φ := sc_P ⟨s, rfl, h, k⟩
theorem same_len {α : Type} {l m : List α} (h1 : l.Nodup) (h2 : m.Nodup) (h : ∀ x, x ∈ l ↔ x ∈ m) : l.length = m.length :=
  Nat.le_antisymm (len_sub h1 fun x hx => (h x).mp hx) (len_sub h2 fun x hx => (h x).mpr hx)
theorem same_eq {e b : Cont} (we : WfC e) (wb : WfC b) (h : SameC e b) : (cntE e).length = (cntE b).length ∧ ∀ kv ∈ cntE e, ∃ es' fs', kv.2 = .dct es' ∧ getD' (cntE b) kv.1 = some (.dct fs') ∧ es'.length = fs'.length ∧ (∀ kv ∈ es', Shp 1 kv.2) ∧ (∀ kv ∈ fs', Shp 1 kv.2) ∧ eqKv fs' es' = true := by
  refine ⟨?_, fun kv hkv => ?_⟩
  · have := same_len we.1 wb.1 h.1
    rw [List.length_map, List.length_map] at this
    unfold cntE
    rw [List.length_map, List.length_map]
    exact this
  · obtain ⟨⟨x, rs⟩, hb, rfl⟩ := List.mem_map.mp hkv
    have ix : inC e x := List.mem_map.mpr ⟨(x, rs), hb, rfl⟩
    have ib := (h.1 x).mp ix
    have wr := we.2 _ hb
    have wr' := wb.2 _ (rowsAt_in wb ib)
    have hm : ∀ k z, (k, z) ∈ rs ↔ (k, z) ∈ rowsAt b x := fun k z => by
      have h1 : (k, z) ∈ rs ↔ Has e x k z := by
        rw [has_at we, rowsAt_mem we.1 hb]
        exact ⟨fun g => ⟨ix, g⟩, (·.2)⟩
      have h2 : (k, z) ∈ rowsAt b x ↔ Has b x k z := by
        rw [has_at wb]
        exact ⟨fun g => ⟨ib, g⟩, (·.2)⟩
      rw [h1, h2]
      exact h.2 x k z
    have shp : ∀ {rs : List (Str × Str)}, WfR rs → ∀ kv ∈ rowE rs, Shp 1 kv.2 := fun {rs} w kv hkv => by
      obtain ⟨p, hp, rfl⟩ := List.mem_map.mp hkv
      exact .str fun c m => Nat.lt_of_le_of_lt ((w.2 p hp).2.2 c m).2.1 (by decide)
    refine ⟨rowE rs, rowE (rowsAt b x), rfl, getC_at wb ib, ?_, shp wr.2, shp wr'.2, ?_⟩
    · unfold rowE
      rw [List.length_map, List.length_map]
      have := same_len (l := rs.map (·.1)) (m := (rowsAt b x).map (·.1)) wr.2.1 wr'.2.1 fun k => by
        constructor
        · intro hk
          obtain ⟨p, hp, rfl⟩ := List.mem_map.mp hk
          exact List.mem_map.mpr ⟨p, (hm p.1 p.2).mp hp, rfl⟩
        · intro hk
          obtain ⟨p, hp, rfl⟩ := List.mem_map.mp hk
          exact List.mem_map.mpr ⟨p, (hm p.1 p.2).mpr hp, rfl⟩
      rw [List.length_map, List.length_map] at this
      exact this
    · unfold eqKv
      rw [List.all_eq_true]
      intro kv hkv
      have sh := shp wr.2 kv hkv
      obtain ⟨p, hp, rfl⟩ := List.mem_map.mp hkv
      show (match getD' (rowE (rowsAt b x)) (Sum.inr p.1) with | none => false | some d => eqD (.str p.2) d) = true
      rw [rowE_get wr'.2.1 ((hm p.1 p.2).mp hp)]
      exact eqD_self sh
theorem wayD_len {a b : Cont} (wa : WfC a) (wb : WfC b) (ha : cardsN a ≤ 96) (hb : cardsN b ≤ 96) : (wayD a b).length ≤ 40000 := by
  obtain ⟨a1, a2⟩ := cards_parts ha
  obtain ⟨b1, b2⟩ := cards_parts hb
  have h := flat_len wa wb (by omega) (by omega) (setS (a.map (·.1) ++ b.map (·.1)))
  have l := setS_len (a.map (·.1) ++ b.map (·.1))
  rw [List.length_append, List.length_map, List.length_map] at l
  show ((setS (a.map (·.1) ++ b.map (·.1))).flatMap (boxD a b)).length ≤ _
  omega
def sp_law (K : PySem.W.Frag) : Sp := spL K
theorem ok_law (T : Txt K mg) : FnG P w K mg base 5 T.f_law T.fd_law ["_law_script"] (sp_law K) := by
  refine fn_LG T.F_law sc_law rfl (fun cdv A outer s H E hgd hr => ⟨_, (pss_cons (ps_for PassesOwn.never (by rfl) (pi_range1 (by rfl) T.z_range (pa_cons (pe_callB (call_max2 rfl) (by rfl) T.z_max (by decide +kernel) (pa_cons pe_int (pa_cons (pe_callB (call_min2 rfl) (by rfl) T.z_min (by decide +kernel) (pa_cons pe_int (pa_cons (pe_callB call_len_seq (by rfl) T.z_len (by decide +kernel) (pa_cons (pv 0) pa_nil)) pa_nil))) pa_nil))) pa_nil)) (pg_name (i := 1) sc_law.nd rfl (Or.inl rfl))
        (pss_cons (ps_set (i := 2) sc_law.nd rfl (Or.inl rfl) (pe_call (ok_law_bag T) (hr.mono (by decide)) (by rfl) T.m_law_bag T.F_law_bag.kp T.b_law_bag .nil pass0 (pa_cons (pv 0) (pa_cons (pv 1) pa_nil))))
        (pss_cons (ps_set (i := 3) sc_law.nd rfl (Or.inl rfl) (pe_call (ok_law_put_by T) (hr.mono (by decide)) (by rfl) T.m_law_put_by T.F_law_put_by.kp T.b_law_put_by .nil pass0 (pa_cons (pe_tup (pa_cons (pe_call (ok_law_take T) (hr.mono (by decide)) (by rfl) T.m_law_take T.F_law_take.kp T.b_law_take .nil pass0 (pa_cons (pv 2) (pa_cons pe_int pa_nil))) (pa_cons (pe_call (ok_law_take T) (hr.mono (by decide)) (by rfl) T.m_law_take T.F_law_take.kp T.b_law_take .nil pass0 (pa_cons (pv 2) (pa_cons pe_int pa_nil))) pa_nil))) pa_nil)))
        (pss_cons (ps_set (i := 4) sc_law.nd rfl (Or.inl rfl) (pe_callG (ok_law_reach T) hgd (hr.mono (by decide)) (by rfl) T.m_law_reach T.F_law_reach.kp T.b_law_reach .nil pass0 (pa_cons (pv 3) pa_nil)))
        (pss_cons (ps_if (pt_cmpR op_ne (pe_callB cr_lenRd (by rfl) T.z_len (by decide +kernel) (pa_cons (pv 4) pa_nil)) pe_int (nomark _))
          (pss_one (ps_ret pe_bl))
          pss_nil)
        (pss_cons (ps_for PassesOwn.never (by rfl) (pi_keys (pv 4)) (pg_name (i := 5) sc_law.nd rfl (Or.inl rfl))
          (pss_cons (ps_asg (pe_dget (hu_by hr) (pv 4) (pv 5) (fun _ _ => rfl)) (pg_tup (by rfl) (pgs_cons (pg_name (i := 6) sc_law.nd rfl (Or.inl rfl)) (pgs_cons (pg_name (i := 7) sc_law.nd rfl (Or.inl rfl)) pgs_nil))))
          (pss_one (ps_if (PW.pt (pw_or (pt_cmpR op_ne (pe_call (ok_steps T) (hr.mono (by decide)) (by rfl) T.m_steps T.F_steps.kp T.b_steps .nil pass0 (pa_cons (pv 3) (pa_cons (pv 7) pa_nil))) (pv 6) (nomark _)) (pw_or1 (pt_cmpR op_ne (pe_callB call_len_seq (by rfl) T.z_len (by decide +kernel) (pa_cons (pe_call (ok_way_between T) (hr.mono (by decide)) (by rfl) T.m_way_between T.F_way_between.kp T.b_way_between .nil pass0 (pa_cons (pv 3) (pa_cons (pv 7) pa_nil))) pa_nil)) (pv 6) (nomark _)))))
            (pss_one (ps_ret pe_bl))
            pss_nil))))
        (pss_cons (ps_set (i := 8) sc_law.nd rfl (Or.inl rfl) (pe_ix ix_list (pe_lst (pa_cons pe_int (pa_cons pe_int pa_nil))) (pe_call (ok_law_take T) (hr.mono (by decide)) (by rfl) T.m_law_take T.F_law_take.kp T.b_law_take .nil pass0 (pa_cons (pv 2) (pa_cons pe_int pa_nil))) (fun _ _ => rfl)))
        (pss_cons (ps_par (i := 9) (j := 10) (by rfl) sc_law.nd rfl rfl (by decide) rfl rfl (pa_cons (pe_call (ok_law_held T) (hr.mono (by decide)) (by rfl) T.m_law_held T.F_law_held.kp T.b_law_held .nil pass0 (pa_cons (pv 2) (pa_cons (pv 8) pa_nil))) (pa_cons (pe_call (ok_law_held T) (hr.mono (by decide)) (by rfl) T.m_law_held T.F_law_held.kp T.b_law_held .nil pass0 (pa_cons (pv 2) (pa_cons (pv 8) pa_nil))) pa_nil)) (by rfl))
        (pss_one (ps_for PassesOwn.never (by rfl) (pi_tup (pe_tup (pa_cons (pe_tup (pa_cons (pv 9) (pa_cons (pv 10) pa_nil))) (pa_cons (pe_tup (pa_cons (pv 10) (pa_cons (pv 9) pa_nil))) pa_nil)))) (pg_tup (by rfl) (pgs_cons (pg_name (i := 11) sc_law.nd rfl (Or.inl rfl)) (pgs_cons (pg_name (i := 7) sc_law.nd rfl (Or.inl rfl)) pgs_nil)))
          (pss_cons (ps_set (i := 12) sc_law.nd rfl (Or.inl rfl) (pe_call (ok_way_between T) (hr.mono (by decide)) (by rfl) T.m_way_between T.F_way_between.kp T.b_way_between .nil pass0 (pa_cons (pv 11) (pa_cons (pv 7) pa_nil))))
          (pss_cons (ps_if (PW.pt (pw_or (pt_cmpR op_ne (pe_call (ok_steps T) (hr.mono (by decide)) (by rfl) T.m_steps T.F_steps.kp T.b_steps .nil pass0 (pa_cons (pv 11) (pa_cons (pv 7) pa_nil))) (pe_call (ok_law_fewest T) (hr.mono (by decide)) (by rfl) T.m_law_fewest T.F_law_fewest.kp T.b_law_fewest .nil pass0 (pa_cons (pv 11) (pa_cons (pv 7) pa_nil))) (nomark _)) (pw_or1 (pt_cmpR op_ne (pe_callB call_len_seq (by rfl) T.z_len (by decide +kernel) (pa_cons (pv 12) pa_nil)) (pe_call (ok_steps T) (hr.mono (by decide)) (by rfl) T.m_steps T.F_steps.kp T.b_steps .nil pass0 (pa_cons (pv 11) (pa_cons (pv 7) pa_nil))) (nomark _)))))
            (pss_one (ps_ret pe_bl))
            pss_nil)
          (pss_one (ps_if (pt_cmpR (op_neDD (K := K) rfl hr.units) (pe_call (ok_law_led T) (hr.mono (by decide)) (by rfl) T.m_law_led T.F_law_led.kp T.b_law_led .nil pass0 (pa_cons (pv 11) (pa_cons (pv 12) pa_nil))) (pv 7) (nomark _))
            (pss_one (ps_ret pe_bl))
            pss_nil))))))))))))))
      (pss_one (ps_ret pe_bl))), fun ns hns => ?_⟩)
  walk_at "k"
  refine gs_seq (gs_forW ?_)
  walk_at "g"
  have mb := mm_b ns.length 3 (by decide)
  refine ⟨by omega, by omega, fun i δ' n' => δ' = [.scr ns, .un, .un, .un, .un, .un, .un, .un, .un, .un, .un, .un, .un], ⟨_, Wk.refl _, rfl⟩, ?_, ?_⟩
  · rintro i x δ' ⟨n0, μ0⟩ hx rfl
    obtain ⟨hi, rfl⟩ := rangeD_at hx
    refine ⟨_, [1], gg_name (by decide), ?_⟩
    refine gs_lawbag rfl (fun _ h => nomatch (show some Slot.un = some _ from h)) ?_
    walk_at "g"
    refine ⟨by omega, by omega, fun p => ?_⟩
    clear hx hi mb
    walk_at "g"
    refine sb_take (by omega) (by omega) (by omega) fun r1 r10 r11 => ?_
    walk_at "e"
    refine sb_take (by omega) (by omega) (by omega) fun r2 r20 r21 => ?_
    walk_at "e"
    obtain ⟨i1, rfl⟩ := Int.eq_ofNat_of_zero_le r10
    obtain ⟨i2, rfl⟩ := Int.eq_ofNat_of_zero_le r20
    refine c_law_put_by (by omega) (by omega) ?_
    have sm := ct_sm (i := i1) (j := i2)
    generalize ctN i1 i2 = c0 at sm ⊢
    clear r10 r11 r20 r21
    refine gs_seq (gs_asg (gk_call (ga_cons (gk_var rfl (ga_nil (c_law_reach sm fun F lF okF ndF => ?_))))))
    have lE : (entF F).length = 100 := by
      unfold entF
      rw [List.length_map, lF]
    refine gs_seq (gs_if (gt_test (gk_op (gk_cb (ga_cons (gk_var rfl (ga_nil (rc_lenDA (.inr (.inl rfl)) (gk_i (rk_neI ⟨false, ?_, (fun h => nomatch h), fun _ => gs_next ?_⟩))))))))))
    · rw [lE]
      exact congrArg D.bl (show (!decide ((((100 : Nat) : Int)) = 100)) = false by decide +kernel)
    refine gs_seq (gs_forW (gi_keysL (gk_var rfl ⟨entF F, rfl, fun j δ' n' => δ' = [.scr ns, .un, .bag, .d (cntD c0), .d (.dct (entF F)), .un, .un, .un, .un, .un, .un, .un, .un] ∧ ∃ m, n' = ⟨m, μ0⟩ ∧ m ≤ 10, ⟨_, by walk_at "wk", rfl, _, rfl, by omega⟩, ?_, ?_⟩)))
    · rintro j x δ' n1 hx ⟨rfl, m, rfl, hm⟩
      rw [List.getElem?_map] at hx
      obtain ⟨kv, hkv, rfl⟩ := Option.map_eq_some_iff.mp hx
      have mkv := List.mem_of_getElem? hkv
      obtain ⟨e, me, rfl⟩ := List.mem_map.mp mkv
      have ge := getD_memT ndF mkv
      obtain ⟨se, de⟩ := okF e me
      have wd := way_dist sm se
      obtain ⟨a1, a2, _⟩ := sm_cards sm
      obtain ⟨b1, b2, _⟩ := sm_cards se
      refine ⟨_, [5], gg_name (by decide), ?_⟩
      refine gs_seq (gs_unp2 rfl (gk_dgetL (gk_var rfl ⟨entF F, rfl, gk_var rfl ⟨.inr (sgT e.2), _, rfl, ge, _, _, rfl, ?_⟩⟩)))
      refine gs_if (gt_or (gt_test (gk_op (gk_call (ga_cons (gk_var rfl (ga_cons (gk_var rfl (ga_nil (c_steps sm.1 se.1 (by omega) (by omega) (by omega) (by omega) (gk_var rfl (rk_neI ⟨false, ?_, (fun h => nomatch h), fun _ => ?_⟩))))))))))))
      · rw [wd, de]
        simp
      refine gt_test (gk_op (gk_cb (ga_cons (gk_call (ga_cons (gk_var rfl (ga_cons (gk_var rfl (ga_nil (c_way sm.1 se.1 (by omega) (by omega) (by omega) (by omega) (ga_nil (rc_lenL (xs := (wayD c0 e.2).map Dd.D) (gk_var rfl (rk_neI ⟨false, ?_, (fun h => nomatch h), fun _ => gs_next ⟨_, by walk_at "wk", rfl, _, rfl, hm⟩⟩))))))))))))))
      rw [List.length_map, wd, de]
      simp
    · clear sm
      rintro δ' n1 ⟨rfl, m, rfl, hm⟩
      refine gs_seq ?_
      walk_at "g"
      refine sb_take (by omega) (by omega) (by omega) fun r3 r30 r31 => ?_
      obtain ⟨d, ed, hd⟩ := at_2 (a := .int 40) (b := .int 97) r30 r31
      refine rk_ixL ed ?_
      obtain ⟨mo, rfl, mo1, mo2⟩ : ∃ mo : Int, d = .int mo ∧ 1 ≤ mo ∧ mo ≤ 97 := by
        rcases hd with rfl | rfl
        · exact ⟨40, rfl, by decide, by decide⟩
        · exact ⟨97, rfl, by decide, by decide⟩
      clear ed hd
      refine gs_seq (gs_par (ga_cons (gk_callB rfl (ga_cons (gk_var rfl (ga_nil (sb_P ⟨mo, rfl, mo1, mo2, by omega, fun a m2 wa _ _ ha hm2 => ?_⟩)))))))
      refine ga_cons (gk_callB rfl (ga_cons (gk_var rfl (ga_nil (sb_P ⟨mo, rfl, mo1, mo2, by omega, fun b m3 wb _ _ hb hm3 => ga_nil ⟨_, _, rfl, ?_⟩⟩)))))
      have ha : cardsN a ≤ 96 := by omega
      have hb : cardsN b ≤ 96 := by omega
      refine gs_forW (gi_tup (gk_tup ?_))
      walk_at "e"
      refine ⟨fun j δ' n' => δ' = [.scr ns, .un, .bag, .d (cntD c0), .d (.dct (entF F)), .un, .un, .un, .d (.int mo), .d (cntD a), .d (cntD b), .un, .un], ⟨_, by walk_at "wk", rfl⟩, ?_, ?_⟩
      · rintro j x δ' n4 hx rfl
        obtain ⟨u, v, rfl, wu, wv, lu, lv⟩ : ∃ u v : Cont, x = .tup [cntD u, cntD v] ∧ WfC u ∧ WfC v ∧ cardsN u ≤ 96 ∧ cardsN v ≤ 96 := by
          have := List.mem_of_getElem? hx
          simp only [List.mem_cons, List.not_mem_nil, or_false] at this
          rcases this with rfl | rfl
          · exact ⟨a, b, rfl, wa, wb, ha, hb⟩
          · exact ⟨b, a, rfl, wb, wa, hb, ha⟩
        clear hx
        refine ⟨_, [11, 7], gg_tup rfl (ggs_cons (gg_name (by decide)) (ggs_cons (gg_name (by decide)) ggs_nil)), ?_⟩
        obtain ⟨u1, u2⟩ := cards_parts lu
        obtain ⟨v1, v2⟩ := cards_parts lv
        obtain ⟨e, le, we, se⟩ := way_leads wu wv
        have dl := wayD_len wu wv lu lv
        obtain ⟨q1, q2⟩ := same_eq we wv se
        refine gs_seq (gs_asg (gk_call (ga_cons (gk_var rfl (ga_cons (gk_var rfl (ga_nil (c_way wu wv (by omega) (by omega) (by omega) (by omega) ?_))))))))
        refine gs_seq (gs_if (gt_or (gt_test (gk_op (gk_call (ga_cons (gk_var rfl (ga_cons (gk_var rfl (ga_nil (c_steps wu wv (by omega) (by omega) (by omega) (by omega) (gk_call (ga_cons (gk_var rfl (ga_cons (gk_var rfl (ga_nil (c_law_fewest wu wv (by omega) (by omega) (by omega) (by omega) (rk_neI ⟨false, by simp, (fun h => nomatch h), fun _ => ?_⟩)))))))))))))))))))
        refine gt_test (gk_op (gk_cb (ga_cons (gk_var rfl (ga_nil (rc_lenL (xs := (wayD u v).map Dd.D) (gk_call (ga_cons (gk_var rfl (ga_cons (gk_var rfl (ga_nil (c_steps wu wv (by omega) (by omega) (by omega) (by omega) (rk_neI ⟨false, by rw [List.length_map]; simp, (fun h => nomatch h), fun _ => gs_next ?_⟩))))))))))))))
        refine gs_if (gt_test (gk_op (gk_call (ga_cons (gk_var rfl (ga_cons (gk_var rfl (ga_nil (c_law_led wu wayD_nc le (by omega) (by omega) (gk_var rfl (rk_cmpDD (by decide) (.inr (.inl rfl)) (.inr (.inl rfl)) q1 q2 ⟨false, rfl, (fun h => nomatch h), fun _ => gs_next ⟨_, by walk_at "wk", rfl⟩⟩)))))))))))
      · rintro δ' n4 rfl
        exact ⟨_, by walk_at "wk", rfl⟩
  · rintro δ' n' rfl
    walk_at "g"
    exact rfl
end
theorem law_at {l : PySem.W.OpenLaw} {w : World} {K : PySem.W.Frag} {h : Heap} {mg : Str → Option Value} {fa : Addr} (X : K.In h) (G : h.Ns mainGlobals mg) (hfa0 : mg "law" = some (.ref fa)) (c : SaysQ hfa hfn htf hexs h K) :
    LawAtG l w K 5 63 "_law_script" mg fa h := by
  have e := hfa0.symm.trans (He.glo_ok X G (c.d.fact 19 (f := .glo "law") rfl))
  have e : fa = (He.fAd K ("law", none)) := by injection (Option.some.inj e)
  rw [e]
  obtain ⟨T, e1, e2⟩ := mkT X G c
  letI tI : Tabl := ⟨[]⟩
  have cs2 : ∀ p ∈ ([] : List (Addr × Addr)), PySem.W.CodeHd h p.1 p.2 ∧ h.get? p.2 = some (PySem.W.tabObj #[]) ∧ K.lookup p.2 = none := by
    intro p hp
    exact absurd hp List.not_mem_nil
  refine ⟨(fdOf K ("law", none)), [], spL K, fun p hp => (cs2 p hp).2.1, fun p hp => (cs2 p hp).2.2, fun p hp => (cs2 p hp).1, fun s v => ?bind, fun H a ns hl _ hH hS => ⟨a, ns, rfl, tabs_empty hH ?_, hS, hl, fun _ => rfl⟩, fun base _ _ tB => ?_⟩
  case bind => exact FunD.bindsA (ps := ["_law_script"]) (hD_law c) (fun _ _ _ _ _ _ us hl => match us, hl with | [_], _ => rfl) s [v] rfl
  · intro p hp
    exact absurd hp List.not_mem_nil
  · exact e1 ▸ e2 ▸ ok_law T
end Tl
open PySem PySem.W PySem.Calls PyProof.Rows
set_option maxRecDepth 100000 in
set_option maxHeartbeats 0 in
theorem PySem.Challenge.cw_taleless_k55_whole_ways_are_shortest_holds : PySem.Challenge.rw_taleless_k55_whole_ways_are_shortest.Holds := by
  w_on; o_law
  refine HandSHeadRun.head_any (r := Tl.hR) (q := view Tl.hR.prog [21]) (H := Tl.hH) (ob := Tl.hob) (M := 60000) (loose := Tl.hnames) (d := HandSHeadRun.topDef Tl.hR.prog 21) (kwd := []) Tl.hob_eq (by kernel_rfl) (fun s => by kernel_rfl) Tl.hrun (by kernel_rfl) (by kernel_rfl) (by kernel_rfl) (by rfl) (by first | assumption | decide +kernel) (by decide +kernel) ⟨rfl, rfl, rfl, rfl, rfl, by decide +kernel⟩ ?hw ?hc
  case hw => w_witness2
  case hc =>
    refine Tl.walkQ_G (l := PySem.Challenge.rw_taleless_k55_whole_ways_are_shortest) (n := 63) (k := 5) (x := "_law_script") rfl (by decide) (by kernel_rfl) ⟨rfl, by decide, by decide⟩ ?F
    intro w mg fa h Y G hmg0
    obtain ⟨K, KX, c⟩ := Y
    have hmg : mg ("law" : PySem.Str) = some (.ref fa) := by
      have e : (HandSHeadRun.topDef Tl.hR.prog 21).name = ("law" : PySem.Str) := by kernel_rfl
      rw [← e]
      exact hmg0
    exact ⟨K, KX, Tl.law_at KX G hmg c⟩
#print axioms PySem.Challenge.cw_taleless_k55_whole_ways_are_shortest_holds
