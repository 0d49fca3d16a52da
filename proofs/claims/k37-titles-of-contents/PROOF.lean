import PyProof.Rows.All
import Wide.All
import OpenK.AllK
import Wide.FinOn
import HandS.ForMost
import HandS.Defaults
import HandS.IsInst
import HandS.Wide
import HandS.Walk
import HandS.Style
import HandS.TupAny
import HandS.List
import HandS.MakeKwOnly
import HandS.Lambda
import HandS.EndTab
import KE.SortKeyHeap
import HandS.SortInts
import HandS.ForExc
import HandS.ExcInit
import HandS.ExcField
import HandS.FStr
import HandS.ExcIs
import KE.KExcInit
import KE.KExcIs
import HandS.CallSlots
import HandS.Comp
import HandS.DeepEq
import HandS.Dict
import HandS.Iter
import HandS.MakeKw
import HandS.Text
import HandS.TupLe
import HandS.TupMul
import KE.DataAny
import KE.DataCmp
import KE.DataMinKey
import KE.GoesEnum
import KE.KEqDict
import KE.KExcLine
import KE.KLam
import KE.KNestM
import KE.RegKIsAll
import KE.RegKTryMore
import OpenK.KOps
import PyProof.Rows.Range3
import HandS.SetFor
import HandS.Set
import HandS.Strs
import HandS.SetKeys
import KE.SortCalls
import HandS.WordsDict
import HandS.More
import HandS.SetBool
import HandS.Small
import PySem.Challenge.RW_taleless_k37_titles_of_contents
set_option Elab.async false
set_option maxRecDepth 100000
set_option maxHeartbeats 4000000
set_option autoImplicit false
set_option linter.unusedVariables false
set_option linter.unusedSectionVars false
namespace Tl
open PySem L2 TL
/-! frames: all that was tracked stays, but what stands at p -/
def Fr (p : Addr) (H H' : Hp) : Prop := ∀ b o, b ≠ p → H b = some o → H' b = some o
theorem Fr.refl {p : Addr} {H : Hp} : Fr p H H := fun _ _ _ e => e
theorem Fr.trans {p : Addr} {H H1 H2 : Hp} (a : Fr p H H1) (b : Fr p H1 H2) : Fr p H H2 := fun c o n e => b c o n (a c o n e)
theorem Fr.new {p q : Addr} {H H1 : Hp} {o : HO} (a : Fr p H H1) (h : H1 q = none) : Fr p H (upd H1 q o) := fun c u n e => by
  have e1 := a c u n e
  rw [upd_ne (ne_of_none e1 h)]
  exact e1
theorem Fr.at {p : Addr} {H H1 : Hp} {o : HO} (a : Fr p H H1) : Fr p H (upd H1 p o) := fun c u n e => by
  rw [upd_ne n]
  exact a c u n e
theorem Fr.of {p : Addr} {H H1 : Hp} (a : Same H H1) : Fr p H H1 := fun c u _ e => a c u e
theorem Fr.seq {K : PySem.W.Frag} {p a : Addr} {H H' : Hp} {xs : List V} (e : Fr p H H') (n : a ≠ p) (h : SqL K H a xs) : SqL K H' a xs := by
  rcases h with (h | ⟨o, h⟩) | h
  · exact .inl (.inl (e _ _ n h))
  · exact .inl (.inr ⟨o, e _ _ n h⟩)
  · exact .inr h
theorem Fr.tup {K : PySem.W.Frag} {p a : Addr} {H H' : Hp} {xs : List V} (e : Fr p H H') (n : a ≠ p) (h : SqT K H a xs) : SqT K H' a xs := by
  rcases h with (h | ⟨o, h⟩) | h
  · exact .inl (.inl (e _ _ n h))
  · exact .inl (.inr ⟨o, e _ _ n h⟩)
  · exact .inr h
theorem Fr.same {p : Addr} {H H1 : Hp} (a : Fr p H H1) (h : H p = none) : Same H H1 := fun b o e => a b o (ne_of_none e h) e
theorem Same.new {q : Addr} {H H1 : Hp} {o : HO} (a : Same H H1) (h : H1 q = none) : Same H (upd H1 q o) := fun c u e => by
  have e1 := a c u e
  rw [upd_ne (ne_of_none e1 h)]
  exact e1
theorem Fr.free {p q : Addr} {H H1 : Hp} (a : Fr p H H1) (h : H1 q = none) (n : q ≠ p) : H q = none := by
  cases e : H q with
  | none => rfl
  | some o =>
    rw [a q o n e] at h
    cases h
/-- an object that H does not know may change -/
theorem Fr.mut {p q : Addr} {H H1 : Hp} {o : HO} (a : Fr p H H1) (h : H q = none) : Fr p H (upd H1 q o) := fun c u n e => by
  rw [upd_ne (ne_of_none e h)]
  exact a c u n e
theorem Same.mut {q : Addr} {H H1 : Hp} {o : HO} (a : Same H H1) (h : H q = none) : Same H (upd H1 q o) := fun c u e => by
  rw [upd_ne (ne_of_none e h)]
  exact a c u e
/-- the law's bag of draws: three ints, at most n draws so far -/
def Bag (H : Hp) (p : Addr) (n : Nat) : Prop := ∃ a b c : Int, H p = some (.lst [.int a, .int b, .int c]) ∧ 0 ≤ a ∧ 0 ≤ b ∧ b < 2 ^ 62 ∧ 0 ≤ c ∧ c ≤ n
theorem Bag.up {H : Hp} {p : Addr} {n m : Nat} (b : Bag H p n) (h : n ≤ m) : Bag H p m := by
  obtain ⟨a, b, c, e, h1, h2, h3, h4, h5⟩ := b
  exact ⟨a, b, c, e, h1, h2, h3, h4, by omega⟩
theorem Bag.tr {H H' : Hp} {p : Addr} {n : Nat} (b : Bag H p n) (s : Same H H') : Bag H' p n := by
  obtain ⟨a, b, c, e, h⟩ := b
  exact ⟨a, b, c, s _ _ e, h⟩
theorem Bag.new {H : Hp} {p q : Addr} {n : Nat} {o : HO} (b : Bag H p n) (h : H q = none) : Bag (upd H q o) p n := b.tr (Same.new (Same.refl H) h)
theorem Bag.mut {H : Hp} {p q : Addr} {n : Nat} {o : HO} (b : Bag H p n) (h : q ≠ p) : Bag (upd H q o) p n := by
  obtain ⟨a, b, c, e, r⟩ := b
  exact ⟨a, b, c, by rw [upd_ne h.symm]; exact e, r⟩
theorem Bag.ne {H : Hp} {p q : Addr} {n : Nat} (b : Bag H p n) (h : H q = none) : q ≠ p := by
  obtain ⟨a, b, c, e, _⟩ := b
  exact (ne_of_none e h).symm
/-! lists by places -/
theorem take_snoc {α : Type} {l : List α} {i : Nat} {x : α} (h : l[i]? = some x) : l.take (i + 1) = l.take i ++ [x] := by
  rw [List.take_add_one, h]
  rfl
theorem fold_snoc {α β : Type} {f : β → α → β} {a : β} {l : List α} {i : Nat} {x : α} (h : l[i]? = some x) : (l.take (i + 1)).foldl f a = f ((l.take i).foldl f a) x := by
  rw [take_snoc h, List.foldl_append]
  rfl
theorem fold_all {α β : Type} {f : β → α → β} {a : β} {l : List α} {i : Nat} (h : i = l.length) : (l.take i).foldl f a = l.foldl f a := by
  rw [h, List.take_length]
/-- a for over a text: Pv by how many signs are gone -/
theorem for_str {z : Str} {j : Nat} {tb : TS} {D : Ends} {σ : St} {H : Hp} (Pv : Nat → St → Hp → Prop) (h0 : Pv 0 σ H)
    (hs : ∀ i c σ H, z.cps.toList[i]? = some c → Pv i σ H → tb { D with nx := Pv (i + 1), ct := Pv (i + 1), bk := D.nx } (σ.set j (some (.str ⟨#[c]⟩))) H) (hd : ∀ σ H, Pv z.cps.toList.length σ H → D.nx σ H) :
    ∃ W : Nat → Nat → St → Hp → Prop, (∃ m, W 0 m σ H) ∧ ∀ i m σ H, W i m σ H →
      ((Its z).stop i H ∧ D.nx σ H) ∨ ((Its z).go i H ∧ ∃ N : St → Hp → Prop, (∀ σ' H', N σ' H' → ∃ m', m' < m ∧ W (i + 1) m' σ' H') ∧ ∀ x H', (Its z).yld i H x H' → (gName j) x σ H' fun σ2 H2 => tb { D with nx := N, ct := N, bk := D.nx } σ2 H2) :=
  for_it walk_str Pv h0 (fun _ _ _ _ _ => True.intro) (fun i x σ H H' hi p y => by
    obtain ⟨rfl, c, hc, rfl⟩ := y
    exact hs i c σ H' (by rw [Array.getElem?_toList]; exact hc) p) (fun σ H p => hd σ H (by rw [Array.length_toList]; exact p))
/-- one sign of a text at a place within -/
theorem sign_at {z : Str} {r : Int} (h0 : 0 ≤ r) (h1 : r < (z.cps.toList.length : Int)) : ∃ c, atI z.cps.toList r = some c ∧ c ∈ z.cps.toList := by
  obtain ⟨j, rfl⟩ : ∃ j : Nat, r = (j : Int) := ⟨r.toNat, by omega⟩
  have hj : j < z.cps.toList.length := by omega
  exact ⟨z.cps.toList[j], atI_nat (List.getElem?_eq_getElem hj), List.getElem_mem hj⟩
/-- a text by its codes -/
def S (cs : List Nat) : Str := ⟨cs.toArray⟩
theorem tl_S (cs : List Nat) : tl (S cs) = cs := rfl
theorem S_tl (z : Str) : S (tl z) = z := ext_tl (tl_S _)
theorem S_inj {a b : List Nat} (h : S a = S b) : a = b := by rw [← tl_S a, ← tl_S b, h]
theorem S_len (cs : List Nat) : (S cs).length = cs.length := by rw [len_tl, tl_S]
theorem S_app (a b : List Nat) : S a ++ S b = S (a ++ b) := ext_tl (by rw [tl_append, tl_S, tl_S, tl_S])
theorem S_one (c : Nat) : (⟨#[c]⟩ : Str) = S [c] := rfl
theorem joinL_nil : ∀ ps : List (List Nat), joinL [] ps = ps.flatten
  | [] => rfl
  | [p] => by simp [joinL]
  | p :: q :: r => by
    show p ++ ([] ++ joinL [] (q :: r)) = _
    rw [joinL_nil (q :: r)]
    simp
theorem join_S (ps : List (List Nat)) : Txt.join (S []) (ps.map S) = S ps.flatten := ext_tl (by
  rw [join_eq, tl_join, tl_S, tl_S, List.map_map]
  rw [show (tl ∘ S) = id from rfl, List.map_id, joinL_nil])
theorem flat_ones : ∀ cs : List Nat, (cs.map fun c => [c]).flatten = cs
  | [] => rfl
  | c :: r => by
    rw [List.map_cons, List.flatten_cons, flat_ones r]
    rfl
theorem join_ones (cs : List Nat) : Txt.join (S []) (cs.map fun c => S [c]) = S cs := by
  have e := join_S (cs.map fun c => [c])
  rw [List.map_map, flat_ones] at e
  exact e
/-- texts of one sign each -/
def ones (cs : List Nat) : List V := (cs.map fun c => S [c]).map V.str
theorem ones_snoc (cs : List Nat) (c : Nat) : ones cs ++ [V.str ⟨#[c]⟩] = ones (cs ++ [c]) := by
  unfold ones
  rw [List.map_append, List.map_append]
  rfl
theorem ones_len (cs : List Nat) : (ones cs).length = cs.length := by
  unfold ones
  rw [List.length_map, List.length_map]
theorem ones_sum (cs : List Nat) (k : Nat) : ((cs.map fun c => S [c]).map (·.length)).sum + (cs.map fun c => S [c]).length * k = cs.length * (k + 1) := by
  rw [List.map_map, List.length_map]
  have e : (List.map ((fun x => x.length) ∘ fun c => S [c]) cs).sum = cs.length := by
    induction cs with
    | nil => rfl
    | cons c r ih => rw [List.map_cons, List.sum_cons, ih, List.length_cons]; show 1 + _ = _; omega
  rw [e, Nat.mul_succ]
  omega
theorem tYes_go {σ : St} {H : Hp} {F G : Hp → Prop} (h : F H) : tYes σ H (fun b H3 => if b = true then F H3 else G H3) := by
  show if true = true then F H else G H
  rw [if_pos rfl]
  exact h
/-- max(1, min(m, len)) -/
theorem mm_b (L : Nat) (m : Int) (h : 1 ≤ m) : 1 ≤ (if (if (L : Int) < m then (L : Int) else m) > 1 then (if (L : Int) < m then (L : Int) else m) else 1) ∧ (if (if (L : Int) < m then (L : Int) else m) > 1 then (if (L : Int) < m then (L : Int) else m) else 1) ≤ m := by
  split
  · split <;> omega
  · omega
theorem mul01 {i : Int} {c : Prop} [Decidable c] : CMul i (if c then 1 else 0) := .inr (by split <;> exact ⟨by decide, by decide⟩)
theorem sz_ {n : Nat} (h : n ≤ 100000 := by decide) : n ≤ sizeLine := Nat.le_trans h (by decide)
theorem sz_lt {n : Nat} (h : n < 100000) : n < sizeLine := Nat.lt_of_lt_of_le h (by decide)
theorem sz3 {a b c : V} : [a, b, c].length ≤ sizeLine := by show 3 ≤ sizeLine; decide
theorem sz2 {a b : V} : [a, b].length ≤ sizeLine := by show 2 ≤ sizeLine; decide
theorem sz1 {a : V} : [a].length ≤ sizeLine := by show 1 ≤ sizeLine; decide
theorem sz4 {a b c d : V} : [a, b, c, d].length ≤ sizeLine := by show 4 ≤ sizeLine; decide
theorem pos_ {n : Int} (h : 0 < n := by decide) : (0 : Int) < n := h
theorem str_empty_app (z : Str) : Str.empty ++ z = z := ext_tl (by rw [tl_append]; rfl)
theorem int_text_room {a : Int} (h : a.natAbs.log2 < 1920) {z : Str} (hz : z.length ≤ 1000) : (Str.ofString (toString a) ++ z).length ≤ sizeLine := by
  have e : (Str.ofString (toString a) ++ z).length = (Str.ofString (toString a)).length + z.length := by rw [len_tl, tl_append, List.length_append, ← len_tl, ← len_tl]
  have e2 := int_text_length_le (k := 1920) (by decide) h
  rw [e, ofString_length, sizeLine_eq]
  omega
section
variable {X : Cx}
def CPowW (i j : Int) : Prop := 0 ≤ j ∧ (Builtin.Int.intBits i : Int) * j ≤ 2 ^ 27
theorem op_powW : OpR X (binaryOp .Pow) (rI CPowW fun i j => .int (i ^ j.toNat)) := opI fun _ _ _ _ _ _ _ hc q => PyProof.Rows.pow_int hc.1 hc.2 q
/-- a text so many times -/
def mulS (x : Str) (n : Int) : Str := if n < 1 then Str.empty else if (n == 1 || x.length == 0) = true then x else ⟨(List.replicate n.toNat x.cps).foldl (· ++ ·) #[]⟩
theorem rep_size (a : Array Nat) : ∀ (m : Nat) (acc : Array Nat), (List.foldl (fun x1 x2 => x1 ++ x2) acc (List.replicate m a)).size = acc.size + m * a.size
  | 0, acc => by simp
  | m + 1, acc => by
    rw [List.replicate_succ, List.foldl_cons, rep_size a m, Array.size_append, Nat.succ_mul]
    omega
theorem mulS_len (x : Str) (n : Int) (h : 0 ≤ n) : (mulS x n).length = x.length * n.toNat := by
  unfold mulS
  split
  · have e : n.toNat = 0 := by omega
    rw [e]
    rfl
  · split
    · rename_i h1 h2
      rcases Bool.or_eq_true _ _ ▸ h2 with h3 | h3
      · have e : n = 1 := by simpa using h3
        subst e
        simp
      · have e : x.length = 0 := by simpa using h3
        rw [e, Nat.zero_mul]
    · show (List.foldl (fun x1 x2 => x1 ++ x2) #[] (List.replicate n.toNat x.cps)).size = _
      rw [rep_size]
      show 0 + n.toNat * x.length = _
      rw [Nat.zero_add, Nat.mul_comm]
theorem op_mul_str : OpR X (binaryOp .Mult) (fun x y H Q => ∃ (i : Str) (n : Int), x = .str i ∧ y = .int n ∧ n < 2 ^ 30 ∧ -(2 ^ 30) < n ∧ i.length * n.toNat ≤ sizeLine ∧ Q (.str (mulS i n)) H) := by
  intro pins s σ H x y v u Q I rx ry h
  obtain ⟨i, n, rfl, rfl, h1, h2, h3, q⟩ := h
  obtain ⟨t, rfl⟩ := rx
  obtain ⟨t', rfl⟩ := ry
  have hs : sizeLine = 16777216 := by decide
  refine PySem.P.mul_str (by
    rw [decide_eq_false (by omega), decide_eq_false (by omega)]
    rfl) (fun a b => ?_) (fun a b => ?_) ?_
  · have e1 : (i.length : Int) * n ≤ 2 ^ 63 - 1 := by
      have e2 : ((i.length * n.toNat : Nat) : Int) = (i.length : Int) * n := by
        rw [Int.natCast_mul, Int.toNat_of_nonneg (by omega)]
      omega
    have e3 : (i.length : Int) ≤ (2 ^ 63 - 1) / n := (Int.le_ediv_iff_mul_le (by omega)).mpr e1
    omega
  · unfold Builtin.Str.tooLong
    exact decide_eq_false (by omega)
  · show Made.post _ _ _
    unfold mulS at q
    by_cases c1 : n < 1
    · rw [if_pos c1] at q ⊢
      exact ⟨by decide, ⟨.str Str.empty, H, I.tok _, ⟨_, rfl⟩, q⟩⟩
    · rw [if_neg c1] at q ⊢
      by_cases c2 : (n == 1 || i.length == 0) = true
      · rw [if_pos c2] at q ⊢
        exact ⟨.str i, H, I, ⟨_, rfl⟩, q⟩
      · rw [if_neg c2] at q ⊢
        exact ⟨by
          show (List.foldl (fun x1 x2 => x1 ++ x2) #[] (List.replicate n.toNat i.cps)).size ≤ sizeLine
          rw [rep_size]
          show 0 + n.toNat * i.length ≤ sizeLine
          rw [Nat.zero_add, Nat.mul_comm]
          exact h3, ⟨.str _, H, I.tok _, ⟨_, rfl⟩, q⟩⟩
end
section
variable {X : Cx} {CX : CXT} {k n : Nat} {f : Addr} {fd : FuncData} {ps ks : List Str} {sp : Sp} {E : XK} {x : Str} {p pos : Pos} {kws : List Keyword} {tk : TA} {g : List Value → List Value → List Value} {gV : List V → List V → List V}
/-- f(k = v, ..), no positional value -/
theorem pe_callN0 (F : FnOk X.prog X.w X.K X.mg X.base CX k f fd ps sp) (hr : Room k X.A) (hg : Gl X x) (hm : X.mg x = some (.ref f)) (hk : PySem.W.keepIn X.K (.ref f) = true) (hb : KBn X.K fd ps 0 ks g gV) (hx : Passes CX X E)
    (hkw : PK X kws tk) (hall : (backToKw pos (keywordEach kws X.env)).all (·.1.isSome) = true := by rfl) (hks : (backToKw pos (keywordEach kws X.env)).filterMap (·.1) = ks := by rfl)
    (hdb : (x == ("__debug__" : Str)) = false := by decide)
    (hpl : ((backTo pos (starEach [] X.env)).any (·.1) || (backToKw pos (keywordEach kws X.env)).any (·.1.isNone)) = false := by rfl) :
    PE X (.Call (.Name x p) [] kws pos) (tCallN 0 ks.length sp gV E tNil tk) := by
  refine ⟨fun pins s σ H Q I h => ?_⟩
  refine wpAny_Call_Name_kw (ld_glob I hg hm ?_ hdb)
  refine PySem.W.callWith_KW0 (h₀ := X.base) I.ok.mod.kin hk hall ?_ hpl
  refine thn (hkw.run pos pins s σ H _ I h) fun ws s2 ⟨zs, H2, I2, rz, l1, l2, q2⟩ => ⟨I2.kIn, ?_⟩
  rw [hks]
  exact run_fnN F hr hb hx I2 .nil rz rfl l2 q2
end
end Tl

namespace Tl
open PySem L2 TL PySem.Spec PyProof.Rows
/-! own exception classes over any built-in base: made by their own __init__, which calls the base's and stores fields -/
structure ExK (K : PySem.W.Frag) (C : Addr) (bmB : List Value) (newId : String) : Prop where
  made : PySem.W.excInitIn K C bmB newId = true
  over : PySem.W.excOver K C bmB = true
  hdct : PySem.W.hasDictIn K C = true
  seta : PySem.W.findIn K (.ref C) "__setattr__" = some (some (.builtin "object.__setattr__"))
  base : PySem.W.subIn K (.ref C) (.type "BaseException") = some true
  tyC : PySem.W.typeIn K (.ref C) = some (.type "type")
  keep : PySem.W.keepIn K (.ref C) = true
section
open PySem.Builtin PySem.Builtin.ObjectAttr
variable {prog : Program} {w : World} {A : Around} {E : Value → Shared → Prop} {R : Result → Shared → Prop} {hp : Heap} {g : Array GenState} {d : Drawn} {t : Nat} {os : OsState} {B : String} {bmB : List Value}
theorem taker_none {K : PySem.W.Frag} {C : Addr} {f : Str} (h : PySem.W.findIn K (.ref C) f = some none) : PySem.W.takerIn K C f = some none := by
  unfold PySem.W.takerIn
  rw [h]
  rfl
/-- the first field: the dict is laid -/
theorem osa_first {K : PySem.W.Frag} {name : Str} {tk : Tok} {v : Value} {x C : Addr} {fv : Array Value} (SF : StoreFacts B bmB "object.__setattr__" "object") (X : K.In hp) (hx : hp.get? x = some { cls := .ref C, data := .fields fv })
    (ov : PySem.W.excOver K C bmB = true) (hh : PySem.W.hasDictIn K C = true) (ha : PySem.W.findIn K (.ref C) name = some none)
    (hq : ∀ h' tk' dx, (∀ b o, b ≠ x → hp.get? b = some o → h'.get? b = some o) → hp.objs.size ≤ dx → dx ≠ x → h'.get? x = some { cls := .ref C, dict := some dx, data := .fields fv } →
      h'.Ns1 dx (fun y => if y = name then some v else none) → R (.ok (.ret .none)) ⟨h', g, d, tk', os⟩) :
    codeAny (model prog w) A (.call (.builtin "object.__setattr__") ⟨[.ref x, .str name tk, v], []⟩) R ⟨hp, g, d, t, os⟩ := by
  have hxs : x ≠ hp.objs.size := Nat.ne_of_lt (Heap.lt_size hx)
  obtain ⟨cd, hc, hd'⟩ := PySem.W.any_some hh
  have hcls : PySem.W.Looks (model prog w) hp (classData C) cd := PySem.W.looks_clsIn X hc
  refine PySem.W.osa_openX (od := none) SF X ⟨hx, rfl, rfl, trivial⟩ ov (taker_none ha) fun b => ?_
  show wpAny _ _ (storeInOwnDict (.ref x) (.ref C) (.str name tk) name v b) _ _ _
  obtain ⟨nm, bs, mro, ns, qn, hd, sn, sb, ab, col, del⟩ := cd
  dsimp only at hd'
  subst hd'
  unfold storeInOwnDict ownDictForStores
  cases b
  all_goals
    repeat (first | with_reducible refine HandSPX.store_in_new ?_ ?_ | with_reducible refine wpAny_loadPart_at hx ?_ | with_reducible refine hcls.at ?_ | wp_step)
    · exact ⟨_, #[], _, (Heap.get?_update_ne _ _ _ _ hxs.symm).trans (Heap.get?_push_at rfl rfl), rfl, fun e he => absurd he (by simp), fun _ => rfl⟩
    · intro h' tk' hn' hs
      have hx1 : (hp.push { cls := .type "dict", data := .dict #[] }).get? x = some { cls := .ref C, data := .fields fv } := Heap.get?_push_of_some _ hx
      refine hq h' tk' hp.objs.size (fun b o hb ho => ?_) (Nat.le_refl _) hxs.symm ?_ hn'
      · exact (hs.2 b (Nat.ne_of_lt (Heap.lt_size ho))).trans ((Heap.get?_update_ne _ _ _ _ hb).trans (Heap.get?_push_of_some _ ho))
      · exact (hs.2 x hxs).trans (Heap.get?_update_self _ hx1 rfl)
/-- a further field -/
theorem osa_later {K : PySem.W.Frag} {name : Str} {tk : Tok} {v : Value} {x C dx : Addr} {fv : Array Value} {m0 : Str → Option Value} {nl : List Str} (SF : StoreFacts B bmB "object.__setattr__" "object")
    (X : K.In hp) (hx : hp.get? x = some { cls := .ref C, dict := some dx, data := .fields fv }) (hns : hp.Ns1 dx m0) (hw : Within m0 nl) (hz : nl.length ≤ 1000) (ov : PySem.W.excOver K C bmB = true) (hh : PySem.W.hasDictIn K C = true)
    (ha : PySem.W.findIn K (.ref C) name = some none)
    (hq : ∀ h' tk', (∀ b o, b ≠ dx → hp.get? b = some o → h'.get? b = some o) → h'.Ns1 dx (fun y => if y = name then some v else m0 y) → R (.ok (.ret .none)) ⟨h', g, d, tk', os⟩) :
    codeAny (model prog w) A (.call (.builtin "object.__setattr__") ⟨[.ref x, .str name tk, v], []⟩) R ⟨hp, g, d, t, os⟩ := by
  obtain ⟨oD, esD, epD, hoD, hdD, _⟩ := hns.count hw
  obtain ⟨cd, hc, hd'⟩ := PySem.W.any_some hh
  have hcls : PySem.W.Looks (model prog w) hp (classData C) cd := PySem.W.looks_clsIn X hc
  refine PySem.W.osa_openX (od := some oD) SF X ⟨hx, rfl, rfl, hoD⟩ ov (taker_none ha) fun b => ?_
  show wpAny _ _ (storeInOwnDict (.ref x) (.ref C) (.str name tk) name v b) _ _ _
  obtain ⟨nm, bs, mro, ns, qn, hd, sn, sb, ab, col, del⟩ := cd
  dsimp only at hd'
  subst hd'
  unfold storeInOwnDict ownDictForStores
  cases b
  all_goals
    repeat (first | with_reducible refine PySem.OEX.store_in_old hns hw hz ?_ | with_reducible refine wpAny_loadPart_at hx ?_ | with_reducible refine hcls.at ?_ | wp_step)
    intro h' tk' hn' hs
    exact hq h' tk' (fun b o hb ho => (hs.2 b hb).trans ho) hn'
end
section
variable {X : Cx} {pins : List (Addr × Obj)} {σ : L2.St} {H : Hp} {s : Shared} {a C dx : Addr} {f : Str} {y : V} {u : Value} {fs : List (Str × V)} {Q : Unit → Shared → Prop} {E : Value → Shared → Prop} {A : Around} {B newId initId : String} {bmB : List Value}
theorem exs_first (SF : StoreFacts B bmB "object.__setattr__" "object") (T : ExK X.K C bmB newId) (I : L2.Inv X pins σ H s) (e : H a = some (exo a C none)) (hno : PySem.W.findIn X.K (.ref C) f = some none) (ry : RelV y u)
    (h : ∀ dx s', H dx = none → dx ≠ a → L2.Inv X pins σ (upd (upd H dx (exd dx [(f, y)])) a (exo a C (some dx))) s' → Q () s') : wpAny (model X.prog X.w) A (setAttr (.ref a) f u) Q E s := by
  obtain ⟨t1, ho⟩ := exo_at I.hok e
  obtain ⟨hp, g, d, t, os⟩ := s
  refine PySem.W.set_plain I.kIn (ox := { cls := .ref C, dict := none, data := .fields #[.ref t1, .none, .none, .none, .bool false, .none] }) (od := none) ⟨ho, rfl, rfl, trivial⟩ T.seta ?_
  refine osa_first SF I.kIn ho T.over T.hdct hno (fun h' tk' dx k dn dne hx hn => ?_)
  have hnd : H dx = none := I.hok.fresh dn
  have nd : ∀ {b : Addr} {o : Obj}, hp.get? b = some o → b ≠ dx := fun {b o} q => Nat.ne_of_lt (Nat.lt_of_lt_of_le (Heap.lt_size q) dn)
  have na : ∀ {b : Addr}, H b = none → b ≠ a := fun {b} n z => by
    rw [z, e] at n
    cases n
  have U1 : Un X.fs [] H (upd (upd H dx (exd dx [(f, y)])) a (exo a C (some dx))) hp h' := {
    keep := fun b o q n _ _ => k b o (na n) q
    slot := fun b o q n _ _ => ⟨o.slots, k b o (na n) q⟩
    free := fun b o q n _ => by rw [upd_ne (na n), upd_ne (nd q)]; exact n
    there := fun b o q _ => by
      by_cases hb : b = a
      · exact ⟨_, by rw [hb]; exact hx⟩
      · exact ⟨o, k b o hb q⟩
    tups := fun b xs q => by rw [upd_ne (at_ne e q exo_tup), upd_ne (ne_of_none q hnd)]; exact q
    frzs := fun b o v q => by rw [upd_ne (at_ne e q exo_frz), upd_ne (ne_of_none q hnd)]; exact q
    tbls := fun b ps q => ⟨#[], by rw [upd_ne (at_ne e q exo_tbl), upd_ne (ne_of_none q hnd), q]; simp⟩ }
  refine h dx _ hnd dne (I.un (t' := tk') U1 fun b o q => ?_)
  by_cases hb : b = a
  · subst hb
    rw [upd_same] at q
    cases q
    exact exo_ok hx
  · rw [upd_ne hb] at q
    by_cases hd : b = dx
    · subst hd
      rw [upd_same] at q
      cases q
      exact exd_ok hn (relO_put (fs := []) ry fun g => True.intro)
    · rw [upd_ne hd] at q
      refine (I.hok b o q).stay (fun c v hc z => k c v ?_ z) (fun c hc => ?_) (fun c xs hc => ?_)
      · rcases hc with hc | hc
        · rw [hc]
          exact hb
        · exact at_ne e hc exo_own
      · rw [upd_ne (at_ne e hc exo_own), upd_ne (ne_of_none hc hnd)]
        exact hc
      · rw [upd_ne (at_ne e hc exo_tup), upd_ne (ne_of_none hc hnd)]
        exact hc
theorem exs_later (SF : StoreFacts B bmB "object.__setattr__" "object") (T : ExK X.K C bmB newId) (I : L2.Inv X pins σ H s) (e : H a = some (exo a C (some dx))) (ed : H dx = some (exd dx fs)) (hl : fs.length ≤ 900) (hno : PySem.W.findIn X.K (.ref C) f = some none) (ry : RelV y u)
    (h : ∀ s', L2.Inv X pins σ (upd H dx (exd dx ((f, y) :: fs))) s' → Q () s') : wpAny (model X.prog X.w) A (setAttr (.ref a) f u) Q E s := by
  obtain ⟨t1, ho⟩ := exo_at I.hok e
  obtain ⟨mA, hns, rel⟩ := exd_at I.hok ed
  have hw := within_of rel
  obtain ⟨hp, g, d, t, os⟩ := s
  obtain ⟨oD, _, _, hoD, _, _⟩ := hns.count hw
  refine PySem.W.set_plain I.kIn (ox := { cls := .ref C, dict := some dx, data := .fields #[.ref t1, .none, .none, .none, .bool false, .none] }) (od := some oD) ⟨ho, rfl, rfl, hoD⟩ T.seta ?_
  refine osa_later SF I.kIn ho hns hw (by rw [List.length_map]; omega) T.over T.hdct hno (fun h' tk' k hn => ?_)
  have hd : ∃ o, h'.get? dx = some o := by
    obtain ⟨o, _, _, e', _⟩ := hn
    exact ⟨o, e'⟩
  exact h _ (I.write (t' := tk') (x := dx) (e := dx) (o := exd dx ((f, y) :: fs)) (by rw [ed]; exact True.intro) (.inl rfl) k hd (exd_ok hn (relO_put ry rel)))
/-- the base's own __init__: nothing of it is told -/
theorem binit_ok {us : List Value} {Q : Value → Shared → Prop} (FB : ExcBaseFacts B newId initId bmB) (T : ExK X.K C bmB newId) (I : L2.Inv X pins σ H s) (e : H a = some (exo a C none)) (hl : us.length ≤ sizeLine) (h : ∀ s', L2.Inv X pins σ H s' → Q .none s') :
    wpAny (model X.prog X.w) A (call (.builtin initId) (.ref a :: us)) Q E s := by
  obtain ⟨nm, N, q, bs, bm, hdct, sn, sub, ab, col, dd, k0, k1, k2, k3, k5, hC, hT⟩ := PySem.W.excInit_of I.kIn T.made
  obtain ⟨t1, ho⟩ := exo_at I.hok e
  obtain ⟨hp, g, d, t, os⟩ := s
  refine wpAny_call (PySem.HandSPX.init_base FB hT hC ho hl fun h' t2 k hx => ?_)
  have J := I.write (t' := t) (x := a) (e := a) (o := exo a C none) (by rw [e]; exact True.intro) (.inl rfl) k ⟨_, hx⟩ (exo_ok hx)
  have eu : upd H a (exo a C none) = H := by
    funext b
    by_cases hb : b = a
    · rw [hb, upd_same, e]
    · rw [upd_ne hb]
  rw [eu] at J
  exact h _ J
end
/-- B.__init__(self, ..) -/
def tBaseI (K : PySem.W.Frag) (bmB : List Value) (newId : String) (ta : TA) : TE := fun σ H Q => ta σ H fun vs H1 => ∃ (a C : Addr) (ws : List V), vs = .ref a :: ws ∧ ws.length ≤ 1000 ∧ ExK K C bmB newId ∧ H1 a = some (exo a C none) ∧ Q .non H1
/-- self.f = e, self an exception that is being made -/
def tExSet (K : PySem.W.Frag) (bmB : List Value) (newId : String) (f : Str) (to te : TE) : TS := fun D σ H => te σ H fun y H1 => to σ H1 fun x H2 => ∃ a C : Addr, x = .ref a ∧ ExK K C bmB newId ∧ PySem.W.findIn K (.ref C) f = some none ∧
  ((H2 a = some (exo a C none) ∧ ∀ dx, H2 dx = none → dx ≠ a → D.nx σ (upd (upd H2 dx (exd dx [(f, y)])) a (exo a C (some dx)))) ∨
    ∃ (dx : Addr) (fs : List (Str × V)), H2 a = some (exo a C (some dx)) ∧ H2 dx = some (exd dx fs) ∧ fs.length ≤ 900 ∧ D.nx σ (upd H2 dx (exd dx ((f, y) :: fs))))
/-- what is left of a made exception: its dict, if it has one; the exception itself is let go -/
def ExEnd (H1 H2 : Hp) (a C : Addr) (Q : XK) : Prop :=
  (∃ (d : Addr) (fs : List (Str × V)), H2 a = some (exo a C (some d)) ∧ H2 d = some (exd d fs) ∧ H1 d = none ∧ Q (.ref C) (some d) (upd (del H2 a) d (.xd fs))) ∨ (H2 a = some (exo a C none) ∧ Q (.ref C) none (del H2 a))
/-- C(e, ..), its own __init__ keeping sp -/
def tExMk (C : Addr) (sp : Sp) (ta : TA) : L2.St → Hp → XK → Prop := fun σ H Q => ta σ H fun vs H1 => vs.length ≤ 1000 ∧ ∀ a, H1 a = none → sp (.ref a :: vs) (upd H1 a (exo a C none)) (fun v H2 => v = .non ∧ ExEnd H1 H2 a C Q) (fun _ _ _ => False)
section
variable {X : Cx} {o e : Expr} {es : List Expr} {to te : TE} {ta : TA} {f : Str} {p p' p1 p2 pos : Pos} {B newId initId : String} {bmB : List Value}
theorem pe_binit {pl : Sem Bool} {bn : Str} (FB : ExcBaseFacts B newId initId bmB) (hg : Gl X bn) (hm : X.mg bn = none) (hbt : bootBuiltins bn = some (.type B)) (ht : typeOf (.type B) = pure (.type "type")) (hsb : Manifest.isStub B = false)
    (vV : PySem.W.findCls X.K (.type B) (.type "type") "__init__" = some (.val (.builtin initId))) (ha : PA X (e :: es) ta) (hnn : bn ≠ "__name__" := by decide) (hdb : (bn == ("__debug__" : Str)) = false := by decide) (hhd : PySem.W.handedIn (.builtin initId) = true := by decide +kernel)
    (hc : eval (.Call (.Attribute (.Name bn p1) "__init__" p2) (e :: es) [] pos) X.env = (do
      let ov ← eval (.Name bn p1) X.env
      standAt p2.atName
      let (f, first) ← holding [ov] (getMethod ov "__init__" pl)
      callWith pos f first (backTo pos (starEach (e :: es) X.env)) (backToKw pos (keywordEach [] X.env))) := by rfl)
    (he : starEach (e :: es) X.env = (false, eval e X.env) :: starEach es X.env := by rfl) (hpl : (backTo pos (starEach es X.env)).any (·.1) = false := by rfl) :
    PE X (.Call (.Attribute (.Name bn p1) "__init__" p2) (e :: es) [] pos) (tBaseI X.K bmB newId ta) := by
  refine ⟨fun pins s σ H Q I h => ?_⟩
  refine PySem.W.methodCall_KW (ld_blt I hg hm hbt ?_ hnn hdb) hc
  obtain ⟨m, fr⟩ := I.fr
  refine PySem.W.method_type fr I.ok.mod.kin ht hsb vV hhd ?_
  show wpAny _ _ (callWith pos (Value.builtin initId) [] (backTo pos (starEach (e :: es) X.env)) []) _ _ _
  refine PyProof.Rows.callWith_method1 (thn (ha.run pos pins _ σ H _ (I.tok _) h) fun us s1 ⟨vs, H1, I1, r1, a, C, ws, ev, hl, T, ea, q⟩ => ?_) he hpl
  subst ev
  cases r1 with
  | @cons _ u0 _ ur ra rw' =>
    obtain rfl : u0 = Value.ref a := ra
    have hlen : ur.length ≤ sizeLine := by
      rw [← Paired.length rw', sizeLine_eq]
      omega
    exact binit_ok FB T I1 ea hlen fun s' J => ⟨.non, H1, J, rfl, q⟩
theorem ps_exset (SF : StoreFacts B bmB "object.__setattr__" "object") (ho : PE X o to) (he : PE X e te) (hs : swapsWith e (some (.Attribute o f p')) pos.line X.env = pure false := by rfl) : PS X (.Assign [.Attribute o f p'] e pos) (tExSet X.K bmB newId f to te) := by
  refine ⟨fun pins s σ H D I h => ?_⟩
  refine plainObj_wpAny_Assign_Attribute (thn (he.run pins s σ H _ I h) fun v s1 ⟨y, H1, I1, r1, q1⟩ => thn (ho.run pins s1 σ H1 _ I1 q1) fun u s2 ⟨x, H2, I2, r2, a, C, ex, T, hno, q⟩ => ?_) hs
  subst ex
  obtain rfl : u = Value.ref a := r2
  rcases q with ⟨ea, q⟩ | ⟨dx, fs, ea, ed, hl, q⟩
  · exact exs_first SF T I2 ea hno r1 fun dx s' n ne J => ⟨σ, _, J, q dx n ne⟩
  · exact exs_later SF T I2 ea ed hl hno r1 fun s' J => ⟨σ, _, J, q⟩
/-- an exception without fields is let go -/
theorem mk_bare {pins : List (Addr × Obj)} {σ : L2.St} {H1 H2 : Hp} {Q : XK} {hp hp2 h2 : Heap} {g1 g2 : Array GenState} {d1 d2 : Drawn} {t1 t2 : Nat} {os1 os2 : OsState} {a C : Addr} (T : Raises X (.ref C)) (I1 : L2.Inv X pins σ H1 ⟨hp, g1, d1, t1, os1⟩)
    (ha : hp.objs.size ≤ a) (k : ∀ b o, hp.get? b = some o → hp2.get? b = some o) (un : Un (frs X.stack) [] (upd H1 a (exo a C none)) H2 hp2 h2) (hok : HOk X.prog X.w H2 h2) (ho : os2 = os1) (hb : AllBare g2)
    (ea : H2 a = some (exo a C none)) (q : Q (.ref C) none (del H2 a)) : MkP X pins σ Q (.ref a) ⟨h2, g2, d2, t2, os2⟩ := by
  obtain ⟨t0, hoe⟩ := exo_at hok ea
  have hn : H1 a = none := I1.hok.fresh ha
  obtain ⟨G, g1', g2'⟩ := restrict h2 fun b => decide (b ≠ a)
  have gk : ∀ b, b ≠ a → G.get? b = h2.get? b := fun b hb => g1' b (decide_eq_true hb)
  have ge : G.get? a = none := g2' a (by simp)
  have nha : ∀ {b : Addr} {o : Obj}, hp.get? b = some o → b ≠ a := fun {b o} z => Nat.ne_of_lt (Nat.lt_of_lt_of_le (Heap.lt_size z) ha)
  have up : ∀ {b : Addr}, b ≠ a → H1 b = none → upd H1 a (exo a C none) b = none := fun {b} hb n => by rw [upd_ne hb]; exact n
  have U : Un (frs X.stack) [] H1 (del H2 a) hp G := {
    keep := fun b o z n hf hx => by
      rw [gk b (nha z)]
      exact un.keep b o (k b o z) (up (nha z) n) hf hx
    slot := fun b o z n hf hx => by
      rw [gk b (nha z)]
      exact un.slot b o (k b o z) (up (nha z) n) hf hx
    free := fun b o z n hx => by
      rw [del_ne (nha z)]
      exact un.free b o (k b o z) (up (nha z) n) hx
    there := fun b o z hx => by
      rw [gk b (nha z)]
      exact un.there b o (k b o z) hx
    tups := fun b xs z => by
      rw [del_ne (ne_of_none z hn)]
      exact un.tups b xs (by rw [upd_ne (ne_of_none z hn)]; exact z)
    frzs := fun b o v z => by
      rw [del_ne (ne_of_none z hn)]
      exact un.frzs b o v (by rw [upd_ne (ne_of_none z hn)]; exact z)
    tbls := fun b ps z => by
      rw [del_ne (ne_of_none z hn)]
      exact un.tbls b ps (by rw [upd_ne (ne_of_none z hn)]; exact z) }
  have hok3 : HOk X.prog X.w (del H2 a) G := fun b o z => by
    have hba : b ≠ a := fun e => by
      rw [e, del_same] at z
      cases z
    rw [del_ne hba] at z
    have noa : ∀ {c : Addr}, H2 c = some (.own b) → c ≠ a := fun {c} hc => at_ne ea hc exo_own
    refine (hok b o z).stay (fun c v hc y => ?_) (fun c hc => ?_) (fun c xs hc => ?_)
    · have hca : c ≠ a := by
        rcases hc with hc | hc
        · rw [hc]
          exact hba
        · exact noa hc
      rw [gk c hca]
      exact y
    · rw [del_ne (noa hc)]
      exact hc
    · rw [del_ne (at_ne ea hc exo_tup)]
      exact hc
  have J : L2.Inv X pins σ (del H2 a) ⟨G, g2, d2, t2, os2⟩ := I1.call' (ch := []) ho U hok3 hb (fun b z => absurd z (by simp))
  refine ⟨a, _, _, ⟨G, g2, d2, t2, os2⟩, _, .ref C, none, rfl, J, fun b o z => ?_, ge, hoe, ⟨rfl, rfl⟩, rfl, rfl, del_same, rfl, hb, T, q⟩
  by_cases hba : b = a
  · have z : G.get? b = some o := z
    rw [hba, ge] at z
    cases z
  · exact (gk b hba).symm.trans z
theorem ex_end {CX : CXT} {C fI : Addr} {k : Nat} {fd : FuncData} {ps : List Str} {sp : Sp} {pins : List (Addr × Obj)} {σ : L2.St} {H1 : Hp} {Q : XK} {s1 : Shared} {us : List Value} {vs : List V} (FB : ExcBaseFacts B newId initId bmB) (T : ExK X.K C bmB newId) (iC : PySem.W.findIn X.K (.ref C) "__init__" = some (some (.ref fI))) (tI : PySem.W.typeIn X.K (.ref fI) = some (.type "function"))
    (F1 : FnOk X.prog X.w X.K X.mg X.base CX k fI fd ps sp) (hr : Room (k + 1) X.A) (hb : Binds X.K fd ps []) (hx : Passes CX X (fun _ _ _ => False)) (I1 : L2.Inv X pins σ H1 s1) (r1 : Vals vs us) (hz : vs.length ≤ 1000)
    (q1 : ∀ a, H1 a = none → sp (.ref a :: vs) (upd H1 a (exo a C none)) (fun v H2 => v = .non ∧ ExEnd H1 H2 a C Q) (fun _ _ _ => False)) :
    wpAny (model X.prog X.w) X.A (call (.ref C) us) (MkP X pins σ Q) X.xe s1 := by
  obtain ⟨nm, N, q, bs, bm, hdct, sn, sub, ab, col, dd, k0, k1, k2, k3, k5, hC, hT⟩ := PySem.W.excInit_of I1.kIn T.made
  obtain ⟨hp, g, dr, tk, os⟩ := s1
  have hsz : hp.objs.size ≤ hp.objs.size + 1 := Nat.le_succ _
  have hn : H1 (hp.objs.size + 1) = none := I1.hok.fresh hsz
  have hq := q1 (hp.objs.size + 1) hn
  have kk : ∀ b o, hp.get? b = some o → ((hp.push (PySem.W.kdv_tup us)).push (PySem.HandSPX.excO C hp.objs.size)).get? b = some o := fun b o e => Heap.get?_push_of_some _ (Heap.get?_push_of_some _ e)
  have hget : ((hp.push (PySem.W.kdv_tup us)).push (PySem.HandSPX.excO C hp.objs.size)).get? (hp.objs.size + 1) = some (PySem.HandSPX.excO C hp.objs.size) := by heap_get
  have I2 : L2.Inv X pins σ (upd H1 (hp.objs.size + 1) (exo (hp.objs.size + 1) C none)) ⟨(hp.push (PySem.W.kdv_tup us)).push (PySem.HandSPX.excO C hp.objs.size), g, dr, tk, os⟩ :=
    I1.laid (t' := tk) (a := hp.objs.size + 1) (o := exo (hp.objs.size + 1) C none) (h' := (hp.push (PySem.W.kdv_tup us)).push (PySem.HandSPX.excO C hp.objs.size)) kk hsz (exo_ok hget)
  have r2 : Vals (V.ref (hp.objs.size + 1) :: vs) (Value.ref (hp.objs.size + 1) :: us) := .cons rfl r1
  have hl : (Value.ref (hp.objs.size + 1) :: us).length = ps.length := by
    rw [← r2.length]
    exact F1.len _ _ _ _ hq
  have hus : us.length ≤ sizeLine := by
    rw [← Paired.length r1, sizeLine_eq]
    omega
  have bd := hb ⟨(hp.push (PySem.W.kdv_tup us)).push (PySem.HandSPX.excO C hp.objs.size), g, dr, tk, os⟩ (Value.ref (hp.objs.size + 1) :: us) I2.kIn (by rw [List.append_nil]; exact hl)
  rw [List.append_nil] at bd
  refine wpAny_call (PySem.HandSPX.call_own FB hT hC (PySem.W.looks_findIn I1.kIn iC) (fun self => PySem.W.bind_fn I1.kIn self tI) hus
    (codeAny_mono (F1.run _ X.stack _ _ ⟨Value.ref (hp.objs.size + 1) :: us, []⟩ (Value.ref (hp.objs.size + 1) :: us) _ _ (fun _ _ _ => False) (hr.make C us []) (I2.env0.make C us []) bd r2 hq) fun r s' hq' => ?_))
  cases r with
  | error er => exact hx pins σ _ _ er s' I2 hq'
  | ok fl =>
    cases fl with
    | ret u =>
      obtain ⟨v, H2, os2, bare2, un2, hok2, rv, ev, hend⟩ := hq'
      subst ev
      obtain ⟨h2, g2, d2, t2, os'⟩ := s'
      refine ⟨rv, ?_⟩
      rcases hend with ⟨d, fs, ea, ed, hd1, q2⟩ | ⟨ea, q2⟩
      · exact mk_end (raises_own T.base T.tyC) I1 hsz kk un2 hok2 os2 bare2 ea ed hd1 q2
      · exact mk_bare (raises_own T.base T.tyC) I1 hsz kk un2 hok2 os2 bare2 ea q2
    | next => exact False.elim hq'
    | brk => exact False.elim hq'
    | cont => exact False.elim hq'
theorem pmk_ex {CX : CXT} {x : Str} {C fI : Addr} {k : Nat} {fd : FuncData} {ps : List Str} {sp : Sp} (FB : ExcBaseFacts B newId initId bmB) (T : ExK X.K C bmB newId) (iC : PySem.W.findIn X.K (.ref C) "__init__" = some (some (.ref fI))) (tI : PySem.W.typeIn X.K (.ref fI) = some (.type "function"))
    (F1 : FnOk X.prog X.w X.K X.mg X.base CX k fI fd ps sp) (hr : Room (k + 1) X.A) (hb : Binds X.K fd ps []) (hx : Passes CX X (fun _ _ _ => False)) (hg : Gl X x) (hm : X.mg x = some (.ref C)) (ha : PA X (e :: es) ta)
    (hdb : (x == ("__debug__" : Str)) = false := by decide) (he : starEach (e :: es) X.env = (false, eval e X.env) :: starEach es X.env := by rfl) (hpl : (backTo pos (starEach es X.env)).any (·.1) = false := by rfl) :
    PMk X (.Call (.Name x p) (e :: es) [] pos) (tExMk C sp ta) := by
  intro pins s σ H Q I h
  refine wpAny_Call_Name_kw (ld_glob I hg hm ?_ hdb)
  refine PySem.W.callWith_K (h₀ := X.base) I.ok.mod.kin T.keep (thn (ha.run pos pins s σ H _ I h) fun us s1 ⟨vs, H1, I1, r1, hz, q1⟩ => ⟨I1.kIn, ?_⟩) he hpl
  exact ex_end FB T iC tI F1 hr hb hx I1 r1 hz q1
end
end Tl
namespace Tl
open PySem L2 TL PySem.Spec PyProof.Rows
/-! isinstance of a caught exception -/
/-- its own dict, where it has one, stands -/
def XdAt (H : Hp) (d : Option Addr) : Prop := d = none ∨ ∃ (dd : Addr) (fs : List (Str × V)), d = some dd ∧ H dd = some (.xd fs)
def rIsX (K : PySem.W.Frag) (D a : Addr) (cls : Value) (d : Option Addr) : List V → Hp → VK → Prop := fun xs H Q => ∃ (c : V) (cv : Value) (b : Bool), cls = .ref D ∧ xs = [.ref a, c] ∧ ClsV c cv ∧ PySem.W.kitOne K (.ref D) cv = some b ∧ XdAt H d ∧ Q (.bl b) H
def rIsXT (K : PySem.W.Frag) (D a : Addr) (cls : Value) (d : Option Addr) : List V → Hp → VK → Prop := fun xs H Q => ∃ (tp : Addr) (cs : List V) (us : List Value) (b : Bool), cls = .ref D ∧ xs = [.ref a, .ref tp] ∧ H tp = some (.tup cs) ∧ Paired ClsV cs us ∧ PySem.W.kitAny K (.ref D) us = some b ∧ XdAt H d ∧ Q (.bl b) H
section
variable {X : Cx} {a D : Addr} {d : Option Addr} {oe : Obj} {pn : List (Addr × Obj)}
theorem inst_of {pins : List (Addr × Obj)} {σ : L2.St} {H : Hp} {s : Shared} (hz : Zc (.ref D) d oe) (hf : ∃ vs, oe.data = .fields vs) (I : L2.Inv (X.suite a ((a, oe) :: pn)) pins σ H s) (hd : XdAt H d) : ∃ od, PySem.W.InstAt s.heap a oe D od := by
  obtain ⟨hget, _⟩ := I.pin (a, oe) (List.mem_append.mpr (.inl List.mem_cons_self))
  obtain ⟨vs, hv⟩ := hf
  have nc : PySem.W.notCls oe = true := by
    unfold PySem.W.notCls
    rw [hv] <;> rfl
  rcases hd with rfl | ⟨dd, fs, rfl, hdd⟩
  · exact ⟨none, hget, hz.1, nc, by rw [hz.2]; trivial⟩
  · have hx : ObjOk X.prog X.w H s.heap dd (.xd fs) := I.hok dd _ hdd
    obtain ⟨mA, hns, _⟩ := hx
    obtain ⟨od, ho, _⟩ := lookIn_ns hns
    exact ⟨some od, hget, hz.1, nc, by rw [hz.2]; exact ho⟩
theorem call_isX {cls : Value} (C : ExcC X.K D) (hz : Zc cls d oe) (hf : ∃ vs, oe.data = .fields vs) : CallR (X.suite a ((a, oe) :: pn)) (.builtin "isinstance") (rIsX X.K D a cls d) := by
  intro pins s σ H xs us Q I r h
  obtain ⟨c, cv, b, rfl, rfl, hcv, e, hd, q⟩ := h
  obtain ⟨u1, u2, rfl, r1, r2⟩ := vals2 r
  cases (show u1 = Value.ref a from r1)
  have e2 := hcv.eq r2
  subst e2
  obtain ⟨od, J⟩ := inst_of hz hf I hd
  have hcl : (PySem.W.clsIn X.K D).isSome = true := by
    obtain ⟨cd, hc, _⟩ := PySem.W.any_some C.hd
    rw [hc]
    rfl
  exact PySem.W.kia_one (PySem.W.kitx_exc hcl C.hg C.hk C.hs C.ha C.hn C.ht C.hm) I.kIn J e (fun z => nomatch z) fun tk => ⟨.bl b, H, I.kept (t' := tk) fun _ _ z => z, rfl, q⟩
theorem call_isXT {cls : Value} (C : ExcC X.K D) (hz : Zc cls d oe) (hf : ∃ vs, oe.data = .fields vs) : CallR (X.suite a ((a, oe) :: pn)) (.builtin "isinstance") (rIsXT X.K D a cls d) := by
  intro pins s σ H xs us Q I r h
  obtain ⟨tp, cs, ws, b, rfl, rfl, hT, k, e, hd, q⟩ := h
  obtain ⟨u1, u2, rfl, r1, r2⟩ := vals2 r
  cases (show u1 = Value.ref a from r1)
  cases (show u2 = Value.ref tp from r2)
  obtain ⟨od, J⟩ := inst_of hz hf I hd
  have hcl : (PySem.W.clsIn X.K D).isSome = true := by
    obtain ⟨cd, hc, _⟩ := PySem.W.any_some C.hd
    rw [hc]
    rfl
  obtain ⟨_, its, rv, o, h1, h2, n, h3⟩ := (show ObjOk X.prog X.w H s.heap tp (.tup cs) from I.hok tp _ hT)
  have e3 := ClsV.all k rv
  subst e3
  obtain ⟨oc, od2, dt, sl⟩ := o
  simp only at h2 h3
  subst h2 h3
  exact PySem.W.kia_tup (PySem.W.kitx_exc hcl C.hg C.hk C.hs C.ha C.hn C.ht C.hm) I.kIn J h1 e (fun z => nomatch z) fun tk => ⟨.bl b, H, I.kept (t' := tk) fun _ _ z => z, rfl, q⟩
end
/-- behind a made and let go exception all that stood stands -/
theorem ex_same {H : Hp} {a dx : Addr} {o1 o2 o3 o4 : HO} (ha : H a = none) (hd : H dx = none) : Same H (upd (del (upd (upd (upd H a o1) dx o2) a o3) a) dx o4) := fun b o e => by
  have n1 := ne_of_none e ha
  have n2 := ne_of_none e hd
  rw [upd_ne n2, del_ne n1, upd_ne n1, upd_ne n2, upd_ne n1]
  exact e
/-- a class with one field, stored behind the base's __init__ -/
def spEx1 (C : Addr) (f : Str) (ok : V → Prop) : Sp := fun vs H Q _ => ∃ (a : Addr) (v : V), vs = [.ref a, v] ∧ ok v ∧ H a = some (exo a C none) ∧
  ∀ dx, H dx = none → dx ≠ a → Q .non (upd (upd H dx (exd dx [(f, v)])) a (exo a C (some dx)))
/-- raise C(v): what is wished of the error -/
theorem ex1_go {C : Addr} {f : Str} {ok : V → Prop} {H : Hp} {v : V} {Q : XK} (hok : ok v) (k : ∀ d H', Same H H' → H d = none → H' d = some (.xd [(f, v)]) → Q (.ref C) (some d) H') :
    [v].length ≤ 1000 ∧ ∀ a, H a = none → spEx1 C f ok (.ref a :: [v]) (upd H a (exo a C none)) (fun v H2 => v = .non ∧ ExEnd H H2 a C Q) (fun _ _ _ => False) := by
  refine ⟨by show 1 ≤ 1000; decide, fun a ha => ⟨a, v, rfl, hok, upd_same, fun dx hdx ne => ⟨rfl, .inl ⟨dx, [(f, v)], upd_same, ?_, ?_, ?_⟩⟩⟩⟩
  · rw [upd_ne ne, upd_same]
  · rw [upd_ne ne] at hdx
    exact hdx
  · rw [upd_ne ne] at hdx
    exact k dx _ (ex_same ha hdx) hdx upd_same
theorem log_of {i : Int} {b : Nat} (h : i.natAbs < 2 ^ b) (h0 : 0 < b) (h9 : b ≤ 1920) : i.natAbs.log2 < 1920 := Nat.lt_of_lt_of_le (PySem.Flt.log2_lt_of h0 h) h9
end Tl

namespace Tl
open PySem L2 TL LamX
/-- the tables of code objects that a law's lambdas fill -/
class Tabl where
  T : List (Addr × Str)
/-! ### a logic over data: the heap is hidden -/
inductive D where
  | non | bl (b : Bool) | int (i : Int) | str (x : Str) | lst (xs : List D) | tup (xs : List D) | dic (kvs : List (Key × D)) | ptr (a : Addr) | dct (kvs : List (Key × D))
/-- scalars -/
def scl : V → Bool
  | .non => true | .bl _ => true | .int _ => true | .str _ => true | _ => false
def ofV : V → D
  | .bl b => .bl b | .int i => .int i | .str x => .str x | _ => .non
def Sub (G H : Hp) : Prop := ∀ b o, G b = some o → H b = some o
theorem Sub.refl (G : Hp) : Sub G G := fun _ _ h => h
theorem Sub.trans {G H I : Hp} (a : Sub G H) (b : Sub H I) : Sub G I := fun x o h => b x o (a x o h)
theorem Sub.new {G : Hp} {p : Addr} {o : HO} (h : G p = none) : Sub G (upd G p o) := fun b u e => by
  rw [upd_ne (ne_of_none e h)]
  exact e
theorem Sub.up {G H : Hp} {p : Addr} {o : HO} (s : Sub G H) : Sub (upd G p o) (upd H p o) := fun b u e => by
  by_cases h : b = p
  · subst h
    rw [upd_same] at e ⊢
    exact e
  · rw [upd_ne h] at e ⊢
    exact s b u e
theorem Sub.off {G H : Hp} {p : Addr} {o : HO} (s : Sub G H) (h : G p = none) : Sub G (upd H p o) := fun b u e => by
  rw [upd_ne (ne_of_none e h)]
  exact s b u e
theorem Sub.none {G H : Hp} {p : Addr} (s : Sub G H) (h : H p = none) : G p = none := by
  cases e : G p with
  | none => rfl
  | some o =>
    rw [s p o e] at h
    cases h
theorem Sub.seq {K : PySem.W.Frag} {G H : Hp} {a : Addr} {xs : List V} (e : Sub G H) (h : SqT K G a xs) : SqT K H a xs := by
  rcases h with (h | ⟨o, h⟩) | h
  · exact .inl (.inl (e _ _ h))
  · exact .inl (.inr ⟨o, e _ _ h⟩)
  · exact .inr h
theorem Sub.seqL {K : PySem.W.Frag} {G H : Hp} {a : Addr} {xs : List V} (e : Sub G H) (h : SqL K G a xs) : SqL K H a xs := by
  rcases h with (h | ⟨o, h⟩) | h
  · exact .inl (.inl (e _ _ h))
  · exact .inl (.inr ⟨o, e _ _ h⟩)
  · exact .inr h
theorem Sub.rd {G H : Hp} {a : Addr} {u : HO} (e : Sub G H) (h : Rd G a u) : Rd H a u := by
  rcases h with h | ⟨o, h⟩
  · exact .inl (e _ _ h)
  · exact .inr ⟨o, e _ _ h⟩
mutual
/-- the value v stands for the data d in G -/
inductive Is (K : PySem.W.Frag) (G : Hp) : V → D → Prop where
  | non : Is K G .non .non
  | bl (b : Bool) : Is K G (.bl b) (.bl b)
  | int (i : Int) : Is K G (.int i) (.int i)
  | str (x : Str) : Is K G (.str x) (.str x)
  | lst {p : Addr} {xs : List V} {ds : List D} (h : G p = some (.lst xs)) (a : IsAll K G xs ds) : Is K G (.ref p) (.lst ds)
  | tup {p : Addr} {xs : List V} {ds : List D} (h : SqT K G p xs) (a : IsAll K G xs ds) : Is K G (.ref p) (.tup ds)
  | dic {p : Addr} {kvs : List (Key × V)} {es : List (Key × D)} (h : Rd G p (.dK kvs)) (a : IsKv K G kvs es) : Is K G (.ref p) (.dic es)
  | ptr (a : Addr) : Is K G (.ref a) (.ptr a)
  | dct {p : Addr} {o : Obj} {kvs : List (Key × V)} {es : List (Key × D)} (h : G p = some (.frz o (.dK kvs))) (a : IsKv K G kvs es) : Is K G (.ref p) (.dct es)
inductive IsAll (K : PySem.W.Frag) (G : Hp) : List V → List D → Prop where
  | nil : IsAll K G [] []
  | cons {x : V} {xs : List V} {d : D} {ds : List D} (h : Is K G x d) (r : IsAll K G xs ds) : IsAll K G (x :: xs) (d :: ds)
inductive IsKv (K : PySem.W.Frag) (G : Hp) : List (Key × V) → List (Key × D) → Prop where
  | nil : IsKv K G [] []
  | cons {k : Key} {x : V} {xs : List (Key × V)} {d : D} {ds : List (Key × D)} (h : Is K G x d) (r : IsKv K G xs ds) : IsKv K G ((k, x) :: xs) ((k, d) :: ds)
end
section
variable {K : PySem.W.Frag} {G G' : Hp}
mutual
theorem Is.mono (s : Sub G G') : ∀ {v : V} {d : D}, Is K G v d → Is K G' v d
  | _, _, .non => .non
  | _, _, .bl b => .bl b
  | _, _, .int i => .int i
  | _, _, .str x => .str x
  | _, _, .lst h a => .lst (s _ _ h) (IsAll.mono s a)
  | _, _, .tup h a => .tup (s.seq h) (IsAll.mono s a)
  | _, _, .dic h a => .dic (s.rd h) (IsKv.mono s a)
  | _, _, .ptr a => .ptr a
  | _, _, .dct h a => .dct (s _ _ h) (IsKv.mono s a)
theorem IsAll.mono (s : Sub G G') : ∀ {vs : List V} {ds : List D}, IsAll K G vs ds → IsAll K G' vs ds
  | _, _, .nil => .nil
  | _, _, .cons h r => .cons (Is.mono s h) (IsAll.mono s r)
theorem IsKv.mono (s : Sub G G') : ∀ {vs : List (Key × V)} {ds : List (Key × D)}, IsKv K G vs ds → IsKv K G' vs ds
  | _, _, .nil => .nil
  | _, _, .cons h r => .cons (Is.mono s h) (IsKv.mono s r)
end
theorem Is.scl : ∀ {v : V}, scl v = true → Is K G v (ofV v)
  | .non, _ => .non
  | .bl _, _ => .bl _
  | .int _, _ => .int _
  | .str _, _ => .str _
theorem IsAll.len {vs : List V} {ds : List D} (h : IsAll K G vs ds) : vs.length = ds.length := by
  induction vs generalizing ds with
  | nil => cases h; rfl
  | cons x xs ih =>
    cases h with
    | cons a r => rw [List.length_cons, List.length_cons, ih r]
theorem IsAll.get : ∀ {vs : List V} {ds : List D} {i : Nat} {v : V}, IsAll K G vs ds → vs[i]? = some v → ∃ d, ds[i]? = some d ∧ Is K G v d
  | _, _, _, _, .nil, e => by simp at e
  | _, _, 0, _, .cons h _, e => by
    have e := Option.some.inj e
    subst e
    exact ⟨_, rfl, h⟩
  | _, _, i + 1, v, .cons _ r, e => by
    obtain ⟨d, h1, h2⟩ := IsAll.get (i := i) (v := v) r (by simpa using e)
    exact ⟨d, by simpa using h1, h2⟩
theorem IsAll.at : ∀ {vs : List V} {ds : List D} {i : Nat} {d : D}, IsAll K G vs ds → ds[i]? = some d → ∃ v, vs[i]? = some v ∧ Is K G v d
  | _, _, _, _, .nil, e => by simp at e
  | _, _, 0, _, .cons h _, e => by
    have e := Option.some.inj e
    subst e
    exact ⟨_, rfl, h⟩
  | _, _, i + 1, v, .cons _ r, e => by
    obtain ⟨d, h1, h2⟩ := IsAll.at (i := i) (d := v) r (by simpa using e)
    exact ⟨d, by simpa using h1, h2⟩
theorem IsAll.app : ∀ {vs ws : List V} {ds es : List D}, IsAll K G vs ds → IsAll K G ws es → IsAll K G (vs ++ ws) (ds ++ es)
  | _, _, _, _, .nil, b => b
  | _, _, _, _, .cons h r, b => .cons h (IsAll.app r b)
theorem IsAll.set {v : V} {d : D} (h : Is K G v d) : ∀ {vs : List V} {ds : List D} (i : Nat), IsAll K G vs ds → IsAll K G (vs.set i v) (ds.set i d)
  | _, _, _, .nil => .nil
  | _, _, 0, .cons _ r => .cons h r
  | _, _, i + 1, .cons a r => .cons a (IsAll.set h i r)
theorem IsAll.take : ∀ {vs : List V} {ds : List D} (n : Nat), IsAll K G vs ds → IsAll K G (vs.take n) (ds.take n)
  | _, _, 0, _ => .nil
  | _, _, _ + 1, .nil => .nil
  | _, _, n + 1, .cons h r => .cons h (IsAll.take n r)
theorem IsAll.drop : ∀ {vs : List V} {ds : List D} (n : Nat), IsAll K G vs ds → IsAll K G (vs.drop n) (ds.drop n)
  | _, _, 0, r => r
  | _, _, _ + 1, .nil => .nil
  | _, _, n + 1, .cons _ r => IsAll.drop n r
theorem IsAll.rep {v : V} {d : D} (h : Is K G v d) : ∀ n : Nat, IsAll K G (List.replicate n v) (List.replicate n d)
  | 0 => .nil
  | n + 1 => .cons h (IsAll.rep h n)
theorem IsAll.ints : ∀ ns : List Int, IsAll K G (ns.map V.int) (ns.map D.int)
  | [] => .nil
  | n :: r => .cons (.int n) (IsAll.ints r)
theorem IsAll.erase : ∀ {vs : List V} {ds : List D} (n : Nat), IsAll K G vs ds → IsAll K G (vs.eraseIdx n) (ds.eraseIdx n)
  | _, _, _, .nil => .nil
  | _, _, 0, .cons _ r => r
  | _, _, n + 1, .cons h r => .cons h (IsAll.erase n r)
end
/-! ### what may change -/
inductive IsFs (K : PySem.W.Frag) (G : Hp) : List (Str × V) → List (Str × D) → Prop where
  | nil : IsFs K G [] []
  | cons {f : Str} {x : V} {xs : List (Str × V)} {d : D} {ds : List (Str × D)} (h : Is K G x d) (r : IsFs K G xs ds) : IsFs K G ((f, x) :: xs) ((f, d) :: ds)
theorem IsFs.mono {K : PySem.W.Frag} {G G' : Hp} (s : Sub G G') : ∀ {xs : List (Str × V)} {ds : List (Str × D)}, IsFs K G xs ds → IsFs K G' xs ds
  | _, _, .nil => .nil
  | _, _, .cons h r => .cons (h.mono s) (IsFs.mono s r)
/-- a thing that may change: a list, a dict, an object -/
inductive MO where
  | lst (xs : List D) | dic (kvs : List (Key × D)) | ins (C dx : Addr) (fs : List (Str × D))
def MOk (K : PySem.W.Frag) (G H : Hp) (p : Addr) : MO → Prop
  | .lst xs => ∃ vs, H p = some (.lst vs) ∧ IsAll K G vs xs
  | .dic kvs => ∃ vs, H p = some (.dK vs) ∧ IsKv K G vs kvs
  | .ins C dx fs => ∃ vs, H p = some (.ins C dx vs) ∧ IsFs K G vs fs
/-- what no table of code is -/
def Plain : HO → Prop
  | .lst _ => True | .tup _ => True | .dK _ => True | .ins _ _ _ => True | _ => False
theorem Plain.notab {o : HO} (h : Plain o) : ∀ ps, o ≠ .tbl ps := fun ps z => by
  rw [z] at h
  exact h
theorem Plain.nocode {o : HO} (h : Plain o) (a : Addr) (q : Str) : o ≠ CodeO a q := fun z => by
  rw [z] at h
  unfold CodeO at h
  exact h
theorem MOk.get {K : PySem.W.Frag} {G H : Hp} {p : Addr} {o : MO} (h : MOk K G H p o) : ∃ u, H p = some u ∧ Plain u := by
  cases o with
  | lst xs => exact ⟨_, h.choose_spec.1, trivial⟩
  | dic kvs => exact ⟨_, h.choose_spec.1, trivial⟩
  | ins C dx fs => exact ⟨_, h.choose_spec.1, trivial⟩
theorem MOk.some {K : PySem.W.Frag} {G H : Hp} {p : Addr} {o : MO} (h : MOk K G H p o) : H p ≠ none := by
  obtain ⟨u, e, _⟩ := h.get
  rw [e]
  exact fun z => nomatch z
theorem MOk.notab {K : PySem.W.Frag} {G H : Hp} {p : Addr} {o : MO} (h : MOk K G H p o) : ∀ ps, H p ≠ Option.some (.tbl ps) := fun ps z => by
  obtain ⟨u, e, hu⟩ := h.get
  rw [e] at z
  exact hu.notab ps (Option.some.inj z)
theorem MOk.mono {K : PySem.W.Frag} {G G' H H' : Hp} {p : Addr} {o : MO} (s : Sub G G') (e : H' p = H p) (h : MOk K G H p o) : MOk K G' H' p o := by
  cases o with
  | lst xs =>
    obtain ⟨vs, a, b⟩ := h
    exact ⟨vs, e.trans a, b.mono s⟩
  | dic kvs =>
    obtain ⟨vs, a, b⟩ := h
    exact ⟨vs, e.trans a, b.mono s⟩
  | ins C dx fs =>
    obtain ⟨vs, a, b⟩ := h
    exact ⟨vs, e.trans a, b.mono s⟩
/-- the store: how many draws, what may change by places -/
structure Sto where
  n : Nat
  μ : Addr → Option MO
def Sto.at (s : Sto) (m : Nat) : Sto := ⟨m, s.μ⟩
def Sto.put (s : Sto) (a : Addr) (o : MO) : Sto := ⟨s.n, fun b => if b = a then some o else s.μ b⟩
def Sto.off (s : Sto) (a : Addr) : Sto := ⟨s.n, fun b => if b = a then none else s.μ b⟩
theorem Sto.at_n (s : Sto) (m : Nat) : (s.at m).n = m := rfl
theorem Sto.at_μ (s : Sto) (m : Nat) : (s.at m).μ = s.μ := rfl
theorem Sto.at_at (s : Sto) (m k : Nat) : (s.at m).at k = s.at k := rfl
theorem Sto.at_self (s : Sto) : s.at s.n = s := rfl
theorem Sto.put_n (s : Sto) (a : Addr) (o : MO) : (s.put a o).n = s.n := rfl
theorem Sto.put_same {s : Sto} {a : Addr} {o : MO} : (s.put a o).μ a = some o := if_pos rfl
theorem Sto.put_ne {s : Sto} {a b : Addr} {o : MO} (h : b ≠ a) : (s.put a o).μ b = s.μ b := if_neg h
theorem Sto.off_same {s : Sto} {a : Addr} : (s.off a).μ a = none := if_pos rfl
theorem Sto.off_ne {s : Sto} {a b : Addr} (h : b ≠ a) : (s.off a).μ b = s.μ b := if_neg h
def XIs (K : PySem.W.Frag) (G : Hp) (d : Option Addr) (fs : List (Str × D)) : Prop := (d = none ∧ fs = []) ∨ ∃ dd vs, d = some dd ∧ G dd = some (.xd vs) ∧ IsFs K G vs fs
theorem XIs.mono {K : PySem.W.Frag} {G G' : Hp} {d : Option Addr} {fs : List (Str × D)} (s : Sub G G') (h : XIs K G d fs) : XIs K G' d fs := by
  rcases h with h | ⟨dd, vs, h1, h2, h3⟩
  · exact .inl h
  · exact .inr ⟨dd, vs, h1, s _ _ h2, h3.mono s⟩
/-! ### the environment -/
inductive Slot where
  | un | d (x : D) | ow (o : MO) | raw (v : V) | bag | scr (ns : List Int) | exn (a : Addr) (d : Option Addr) (fs : List (Str × D))
abbrev Slot.own (xs : List D) : Slot := .ow (.lst xs)
abbrev Slot.ownD (xs : List (Key × D)) : Slot := .ow (.dic xs)
def SlotOk (K : PySem.W.Frag) (B : Option Addr) (M : Addr → Prop) (G H : Hp) : Option V → Slot → Prop
  | _, .un => True
  | o, .d x => ∃ v, o = some v ∧ Is K G v x
  | o, .ow u => ∃ p : Addr, o = some (.ref p) ∧ MOk K G H p u ∧ G p = none ∧ M p ∧ B ≠ some p
  | o, .raw v => o = some v
  | o, .bag => ∃ p, o = some (.ref p) ∧ B = some p
  | o, .scr ns => ∃ a, o = some (.ref a) ∧ SqL K G a (ns.map V.int)
  | o, .exn a d fs => o = some (.ref a) ∧ XIs K G d fs
/-- G: what never changes any more; owned things, the store and the bag stand in H alone; G0, H0: at the start; M: what may be changed -/
structure En [Tabl] (K : PySem.W.Frag) (B : Option Addr) (M : Addr → Prop) (n : Sto) (G0 H0 G H : Hp) (σ : L2.St) (δ : List Slot) : Prop where
  sub0 : Sub G0 G
  sub : Sub G H
  same : ∀ b o, H0 b = some o → ¬ M b → H b = some o
  free : ∀ b, H b = none → M b
  fresh : ∀ b, ¬ M b → G0 b = none → G b = none
  bagged : ∀ p, B = some p → Bag H p n.n ∧ G p = none ∧ M p
  tabs : Tabs Tabl.T H
  tin : ∀ b ps, H b = some (.tbl ps) → M b
  gnt : ∀ b ps, G b ≠ some (.tbl ps)
  len : σ.length = δ.length
  slot : ∀ (i : Nat) (s : Slot), δ[i]? = some s → SlotOk K B M G H (σ[i]?.getD none) s
  dis : ∀ (i j : Nat) (p : Addr) (x y : MO), δ[i]? = some (.ow x) → δ[j]? = some (.ow y) → σ[i]? = some (some (.ref p)) → σ[j]? = some (some (.ref p)) → i = j
  mob : ∀ a o, n.μ a = some o → MOk K G H a o ∧ G a = none ∧ M a ∧ B ≠ some a
  mow : ∀ (i : Nat) (x : MO) (a : Addr), δ[i]? = some (.ow x) → σ[i]? = some (some (.ref a)) → n.μ a = none
/-- what a caller is told; m0: the store at the start -/
structure Eo [Tabl] (K : PySem.W.Frag) (B : Option Addr) (m0 : Addr → Option MO) (n : Sto) (G0 H0 G H : Hp) : Prop where
  sub0 : Sub G0 G
  sub : Sub G H
  same : ∀ b o, H0 b = some o → B ≠ some b → m0 b = none → (∀ ps, o ≠ .tbl ps) → H b = some o
  fresh : ∀ b, H0 b ≠ none → B ≠ some b → m0 b = none → (∀ ps, H0 b ≠ some (.tbl ps)) → G0 b = none → G b = none
  bagged : ∀ p, B = some p → Bag H p n.n ∧ G p = none
  tabs : Tabs Tabl.T H
  gnt : ∀ b ps, G b ≠ some (.tbl ps)
  mob : ∀ a o, n.μ a = some o → MOk K G H a o ∧ G a = none ∧ B ≠ some a ∧ (H0 a = none ∨ m0 a ≠ none ∨ ∃ ps, H0 a = some (.tbl ps))
/-- what a def may change: what is new, and the bag, and the store's -/
def MOf (B : Option Addr) (m0 : Addr → Option MO) (H0 : Hp) : Addr → Prop := fun b => H0 b = none ∨ B = some b ∨ (∃ ps, H0 b = some (.tbl ps)) ∨ m0 b ≠ none
theorem MOf.not {B : Option Addr} {m0 : Addr → Option MO} {H0 : Hp} {b : Addr} {o : HO} (e : H0 b = some o) (nb : B ≠ some b) (nm : m0 b = none) (nt : ∀ ps, o ≠ .tbl ps) : ¬ MOf B m0 H0 b := fun z => by
  rcases z with z | z | ⟨ps, z⟩ | z
  · rw [e] at z
    cases z
  · exact nb z
  · rw [e] at z
    exact nt ps (Option.some.inj z)
  · exact z nm
/-- a plain cell (or a free one) is changed -/
theorem tabs_but {T : List (Addr × Str)} {H : Hp} {c : Addr} {o : HO} (t : Tabs T H) (h : H c = none ∨ ∃ u, H c = some u ∧ Plain u) : Tabs T (upd H c o) := fun p hp => by
  obtain ⟨ps, h1, h2, h3⟩ := t p hp
  have ne : ∀ b u, H b = some u → (¬ Plain u) → b ≠ c := fun b u e nu z => by
    rw [z] at e
    rcases h with h | ⟨u', h, hp⟩
    · rw [h] at e
      cases e
    · rw [h] at e
      cases e
      exact nu hp
  refine ⟨ps, by rw [upd_ne (ne _ _ h1 fun z => z)]; exact h1, h2, fun pos cv hc => ?_⟩
  obtain ⟨c0, e1, e2⟩ := h3 pos cv hc
  exact ⟨c0, e1, by rw [upd_ne (ne _ _ e2 fun z => z.nocode _ _ rfl)]; exact e2⟩
theorem tabs_fr {T : List (Addr × Str)} {H H' : Hp} {p : Addr} {n : Nat} (t : Tabs T H) (b : Bag H p n) (f : Fr p H H') : Tabs T H' := fun q hq => by
  obtain ⟨ps, h1, h2, h3⟩ := t q hq
  obtain ⟨x, y, z, e, _⟩ := b
  refine ⟨ps, f _ _ (fun z => by rw [z, e] at h1; cases h1) h1, h2, fun pos cv hc => ?_⟩
  obtain ⟨c0, e1, e2⟩ := h3 pos cv hc
  exact ⟨c0, e1, f _ _ (fun z => by rw [z, e] at e2; unfold CodeO at e2; cases e2) e2⟩
theorem ne_M {M : Addr → Prop} {p b : Addr} (mp : M p) (h : ¬ M b) : b ≠ p := fun z => h (by rw [z]; exact mp)
theorem not_none {α : Type} {x : Option α} {y : α} (h : x = some y) : x ≠ none := by
  rw [h]
  exact fun z => nomatch z
theorem some_of {α : Type} {x : Option α} (h : x ≠ none) : ∃ y, x = some y := by
  cases x with
  | none => exact absurd rfl h
  | some y => exact ⟨y, rfl⟩
section
variable [Tabl] {K : PySem.W.Frag} {B : Option Addr} {M : Addr → Prop} {n : Sto} {G0 H0 G H : Hp} {σ : L2.St} {δ : List Slot}
omit [Tabl] in
theorem Bag.some {H : Hp} {p : Addr} {n : Nat} (b : Bag H p n) : H p ≠ none := by
  obtain ⟨a, b, c, e, _⟩ := b
  exact not_none e
omit [Tabl] in
theorem Bag.notab {H : Hp} {p : Addr} {n : Nat} (b : Bag H p n) : ∀ ps, H p ≠ Option.some (.tbl ps) := fun ps z => by
  obtain ⟨a, b, c, e, _⟩ := b
  rw [e] at z
  cases z
theorem En.out {m0 : Addr → Option MO} (E : En K B (MOf B m0 H0) n G0 H0 G H σ δ) : Eo K B m0 n G0 H0 G H :=
  ⟨E.sub0, E.sub, fun b o e nb nm nt => E.same b o e (MOf.not e nb nm nt), fun b h0 nb nm nt g0 => E.fresh b (fun z => by
    rcases z with z | z | ⟨ps, z⟩ | z
    · exact h0 z
    · exact nb z
    · exact nt ps z
    · exact z nm) g0, fun p hp => ⟨(E.bagged p hp).1, (E.bagged p hp).2.1⟩, E.tabs, E.gnt, fun a o h => by
    obtain ⟨h1, h2, h3, h4⟩ := E.mob a o h
    refine ⟨h1, h2, h4, ?_⟩
    rcases h3 with z | z | z | z
    · exact .inl z
    · exact absurd z h4
    · exact .inr (.inr z)
    · exact .inr (.inl z)⟩
omit [Tabl] in
theorem look_some {i : Nat} {o : V} (h : σ[i]?.getD none = some o) : σ[i]? = some (some o) := by
  cases q : σ[i]? with
  | none =>
    rw [q] at h
    cases h
  | some u =>
    rw [q] at h
    exact congrArg Option.some h
theorem En.var (E : En K B M n G0 H0 G H σ δ) {i : Nat} {x : D} (h : δ[i]? = some (.d x)) : ∃ v, σ[i]? = some (some v) ∧ Is K G v x := by
  obtain ⟨v, e, a⟩ := E.slot i _ h
  exact ⟨v, look_some e, a⟩
theorem En.owo (E : En K B M n G0 H0 G H σ δ) {i : Nat} {o : MO} (h : δ[i]? = some (.ow o)) : ∃ p, σ[i]? = some (some (.ref p)) ∧ MOk K G H p o ∧ G p = none ∧ M p ∧ B ≠ some p ∧ n.μ p = none := by
  obtain ⟨p, e, a, b, c, d⟩ := E.slot i _ h
  exact ⟨p, look_some e, a, b, c, d, E.mow i o p h (look_some e)⟩
theorem En.ownd (E : En K B M n G0 H0 G H σ δ) {i : Nat} {xs : List D} (h : δ[i]? = some (.own xs)) : ∃ p vs, σ[i]? = some (some (.ref p)) ∧ H p = some (.lst vs) ∧ IsAll K G vs xs ∧ G p = none ∧ M p ∧ B ≠ some p := by
  obtain ⟨p, e, ⟨vs, h1, h2⟩, b, c, d, _⟩ := E.owo h
  exact ⟨p, vs, e, h1, h2, b, c, d⟩
theorem En.rawd (E : En K B M n G0 H0 G H σ δ) {i : Nat} {v : V} (h : δ[i]? = some (.raw v)) : σ[i]? = some (some v) := look_some (E.slot i _ h)
theorem En.bagd (E : En K B M n G0 H0 G H σ δ) {i : Nat} (h : δ[i]? = some .bag) : ∃ p, σ[i]? = some (some (.ref p)) ∧ B = some p := by
  obtain ⟨p, e, a⟩ := E.slot i _ h
  exact ⟨p, look_some e, a⟩
/-- the persistent part and the heap grow; what the store keeps may be other things -/
theorem En.growM {n' : Sto} {G' H' : Hp} (E : En K B M n G0 H0 G H σ δ) (sg : Sub G G') (s : Sub G' H') (k : ∀ b o, H b = some o → B ≠ some b → n.μ b = none → (∀ ps, o ≠ .tbl ps) → H' b = some o) (fr : ∀ b, H b ≠ none → (∀ ps, H b ≠ some (.tbl ps)) → n.μ b = none → G b = none → G' b = none) (bg : ∀ p, B = some p → Bag H' p n'.n) (tb : Tabs Tabl.T H') (gn : ∀ b ps, G' b ≠ some (.tbl ps))
    (mb : ∀ a o, n'.μ a = some o → MOk K G' H' a o ∧ G' a = none ∧ B ≠ some a ∧ (H a = none ∨ n.μ a ≠ none ∨ ∃ ps, H a = some (.tbl ps))) : En K B M n' G0 H0 G' H' σ δ := by
  have nB : ∀ p, B = some p → n.μ p = none := fun p hp => by
    cases e : n.μ p with
    | none => rfl
    | some o => exact absurd hp (E.mob p o e).2.2.2
  have mM : ∀ b, n.μ b ≠ none → M b := fun b hb => by
    obtain ⟨o, e⟩ := some_of hb
    exact (E.mob b o e).2.2.1
  have nM : ∀ b, ¬ M b → n.μ b = none := fun b hb => Classical.byContradiction fun z => hb (mM b z)
  have key : ∀ b, (H' b = none ∨ ∃ ps, H' b = some (.tbl ps)) → M b := fun b hb => by
    by_cases z : B = some b
    · exact (E.bagged b z).2.2
    · cases e : H b with
      | none => exact E.free b e
      | some o =>
        by_cases nm : n.μ b = none
        · by_cases nt : ∀ ps, o ≠ .tbl ps
          · have := k b o e z nm nt
            rcases hb with hb | ⟨ps, hb⟩
            · rw [this] at hb
              cases hb
            · rw [this] at hb
              exact absurd (Option.some.inj hb) (nt ps)
          · obtain ⟨ps, nt⟩ := Classical.not_forall.mp nt
            exact E.tin b ps (by rw [e, Classical.not_not.mp nt])
        · exact mM b nm
  refine ⟨E.sub0.trans sg, s, fun b o e nm => k b o (E.same b o e nm) (fun z => nm (E.bagged b z).2.2) (nM b nm) fun ps z => nm (E.tin b ps (by rw [E.same b o e nm, z])), fun b hb => key b (.inl hb),
    fun b nm g0 => fr b (fun z => nm (E.free b z)) (fun ps z => nm (E.tin b ps z)) (nM b nm) (E.fresh b nm g0), fun p hp => ?_, tb, fun b ps hb => key b (.inr ⟨ps, hb⟩), gn, E.len, fun i s hs => ?_, E.dis, fun a o h => ?_, fun i x a hi hs => ?_⟩
  · obtain ⟨b1, b2, b3⟩ := E.bagged p hp
    exact ⟨bg p hp, fr p b1.some b1.notab (nB p hp) b2, b3⟩
  · have h := E.slot i s hs
    cases s with
    | un => trivial
    | d x =>
      obtain ⟨v, e, a⟩ := h
      exact ⟨v, e, a.mono sg⟩
    | ow o =>
      obtain ⟨p, e, a, gp, mp, np⟩ := h
      have nm := E.mow i o p hs (look_some e)
      obtain ⟨u, hu, pu⟩ := a.get
      exact ⟨p, e, a.mono sg ((k p u hu np nm pu.notab).trans hu.symm), fr p a.some a.notab nm gp, mp, np⟩
    | raw v => exact h
    | bag => exact h
    | scr ns => exact ⟨_, h.choose_spec.1, sg.seqL h.choose_spec.2⟩
    | exn a d fs => exact ⟨h.1, h.2.mono sg⟩
  · obtain ⟨h1, h2, h3, h4⟩ := mb a o h
    refine ⟨h1, h2, ?_, h3⟩
    rcases h4 with z | z | ⟨ps, z⟩
    · exact E.free a z
    · exact mM a z
    · exact E.tin a ps z
  · obtain ⟨p, e, mo, _, _, _, nm⟩ := E.owo hi
    rw [hs] at e
    have e : a = p := by injection (Option.some.inj (Option.some.inj e))
    subst e
    cases q : n'.μ a with
    | none => rfl
    | some o =>
      rcases (mb a o q).2.2.2 with z | z | ⟨ps, z⟩
      · exact absurd z mo.some
      · exact absurd nm z
      · exact absurd z (mo.notab ps)
/-- the persistent part and the heap grow, owned things, the store and the bag as they were (the bag may have been drawn from) -/
theorem En.grow {n' : Sto} {G' H' : Hp} (E : En K B M n G0 H0 G H σ δ) (sg : Sub G G') (s : Sub G' H') (k : ∀ b o, H b = some o → B ≠ some b → (∀ ps, o ≠ .tbl ps) → H' b = some o) (fr : ∀ b, H b ≠ none → (∀ ps, H b ≠ some (.tbl ps)) → G b = none → G' b = none) (bg : ∀ p, B = some p → Bag H' p n'.n) (tb : Tabs Tabl.T H') (gn : ∀ b ps, G' b ≠ some (.tbl ps)) (hm : n'.μ = n.μ := by rfl) : En K B M n' G0 H0 G' H' σ δ :=
  E.growM sg s (fun b o e nb _ nt => k b o e nb nt) (fun b hb nt _ gb => fr b hb nt gb) bg tb gn fun a o h => by
    rw [hm] at h
    obtain ⟨h1, h2, h3, h4⟩ := E.mob a o h
    obtain ⟨u, hu, pu⟩ := h1.get
    exact ⟨h1.mono sg ((k a u hu h4 pu.notab).trans hu.symm), fr a h1.some h1.notab h2, h4, .inr (.inl (not_none h))⟩
theorem En.set {i : Nat} {o : Option V} {s : Slot} (E : En K B M n G0 H0 G H σ δ) (h : SlotOk K B M G H o s) (hd : ∀ x, s ≠ .ow x) : En K B M n G0 H0 G H (σ.set i o) (δ.set i s) := by
  have key : ∀ (m : Nat) (z : MO), (δ.set i s)[m]? = some (.ow z) → m ≠ i := fun m zs hm z => by
    subst z
    have hi : m < δ.length := by
      have := (List.getElem?_eq_some_iff.mp hm).1
      rw [List.length_set] at this
      exact this
    rw [List.getElem?_set_self hi] at hm
    exact absurd (Option.some.inj hm) (hd zs)
  refine ⟨E.sub0, E.sub, E.same, E.free, E.fresh, E.bagged, E.tabs, E.tin, E.gnt, by rw [List.length_set, List.length_set, E.len], fun j t ht => ?_, fun j k p xs ys hj hk sj sk => ?_, E.mob, fun j x a hj sj => ?_⟩
  · by_cases hj : i = j
    · subst hj
      have hi : i < δ.length := by
        have := (List.getElem?_eq_some_iff.mp ht).1
        rw [List.length_set] at this
        exact this
      rw [List.getElem?_set_self hi] at ht
      rw [List.getElem?_set_self (by rw [E.len]; exact hi)]
      cases ht
      exact h
    · rw [List.getElem?_set_ne hj] at ht
      rw [List.getElem?_set_ne hj]
      exact E.slot j t ht
  · have e1 := (key j xs hj).symm
    have e2 := (key k ys hk).symm
    rw [List.getElem?_set_ne e1] at hj sj
    rw [List.getElem?_set_ne e2] at hk sk
    exact E.dis j k p xs ys hj hk sj sk
  · have e1 := (key j x hj).symm
    rw [List.getElem?_set_ne e1] at hj sj
    exact E.mow j x a hj sj
/-- a new object, tracked for good -/
theorem gnt_upd {G : Hp} {p : Addr} {o : HO} (g : ∀ b ps, G b ≠ some (.tbl ps)) (ho : ∀ ps, o ≠ .tbl ps) : ∀ b ps, upd G p o b ≠ some (.tbl ps) := fun b ps z => by
  by_cases hb : b = p
  · subst hb
    rw [upd_same] at z
    exact ho ps (Option.some.inj z)
  · rw [upd_ne hb] at z
    exact g b ps z
theorem En.laid {p : Addr} {o : HO} (E : En K B M n G0 H0 G H σ δ) (hp : H p = none) (ho : ∀ ps, o ≠ .tbl ps := by intro _ z; cases z) : En K B M n G0 H0 (upd G p o) (upd H p o) σ δ :=
  E.grow (Sub.new (E.sub.none hp)) E.sub.up (fun b u e _ _ => by rw [upd_ne (ne_of_none e hp)]; exact e)
    (fun b hb _ gb => by
      have : b ≠ p := fun z => hb (by rw [z]; exact hp)
      rw [upd_ne this]
      exact gb) (fun q hq => (E.bagged q hq).1.new hp) (tabs_but E.tabs (.inl hp)) (gnt_upd E.gnt ho)
/-- a new cell beside all -/
theorem En.newc {p : Addr} {o : HO} (E : En K B M n G0 H0 G H σ δ) (hp : H p = none) : En K B M n G0 H0 G (upd H p o) σ δ :=
  E.grow (Sub.refl G) (E.sub.off (E.sub.none hp)) (fun b u e _ _ => by rw [upd_ne (ne_of_none e hp)]; exact e) (fun b _ _ g => g) (fun q hq => (E.bagged q hq).1.new hp) (tabs_but E.tabs (.inl hp)) E.gnt
theorem En.nomob {p : Addr} (E : En K B M n G0 H0 G H σ δ) (hp : H p = none) : n.μ p = none := by
  cases e : n.μ p with
  | none => rfl
  | some o => exact absurd hp (E.mob p o e).1.some
/-- a new thing, owned by the slot i -/
theorem En.ownO {i : Nat} {p : Addr} {u : HO} {o : MO} (E : En K B M n G0 H0 G H σ δ) (hp : H p = none) (a : MOk K G (upd H p u) p o) : En K B M n G0 H0 G (upd H p u) (σ.set i (some (.ref p))) (δ.set i (.ow o)) := by
  have gp := E.sub.none hp
  have nb : B ≠ some p := fun z => (E.bagged p z).1.some hp
  have E1 : En K B M n G0 H0 G (upd H p u) σ δ := E.newc hp
  have np := E.nomob hp
  have at_ : ∀ (j : Nat) (z : MO) (q : Addr), i = j → (δ.set i (.ow o))[j]? = some (.ow z) → (σ.set i (some (.ref p)))[j]? = some (some (.ref q)) → p = q := fun j z q hj hm sm => by
    subst hj
    have hi : i < δ.length := by
      have := (List.getElem?_eq_some_iff.mp hm).1
      rw [List.length_set] at this
      exact this
    rw [List.getElem?_set_self (by rw [E.len]; exact hi)] at sm
    injection (Option.some.inj (Option.some.inj sm))
  refine ⟨E1.sub0, E1.sub, E1.same, E1.free, E1.fresh, E1.bagged, E1.tabs, E1.tin, E1.gnt, by rw [List.length_set, List.length_set, E.len], fun j t ht => ?_, fun j k q xs' ys' hj hk sj sk => ?_, E1.mob, fun j x b hj sj => ?_⟩
  · by_cases hj : i = j
    · subst hj
      have hi : i < δ.length := by
        have := (List.getElem?_eq_some_iff.mp ht).1
        rw [List.length_set] at this
        exact this
      rw [List.getElem?_set_self hi] at ht
      rw [List.getElem?_set_self (by rw [E.len]; exact hi)]
      cases ht
      exact ⟨p, rfl, a, gp, E.free p hp, nb⟩
    · rw [List.getElem?_set_ne hj] at ht
      rw [List.getElem?_set_ne hj]
      exact E1.slot j t ht
  · have key : ∀ (m : Nat) (zs : MO), δ[m]? = some (.ow zs) → σ[m]? = some (some (.ref p)) → False := fun m zs hm sm => by
      obtain ⟨q, e1, e2, _⟩ := E.owo hm
      rw [sm] at e1
      have e1 : p = q := by injection (Option.some.inj (Option.some.inj e1))
      rw [← e1] at e2
      exact e2.some hp
    by_cases e1 : i = j
    · by_cases e2 : i = k
      · rw [← e1, ← e2]
      · have sj := at_ j xs' q e1 hj sj
        rw [List.getElem?_set_ne e2] at hk sk
        exact (key k ys' hk (by rw [sj]; exact sk)).elim
    · by_cases e2 : i = k
      · have sk := at_ k ys' q e2 hk sk
        rw [List.getElem?_set_ne e1] at hj sj
        exact (key j xs' hj (by rw [sk]; exact sj)).elim
      · rw [List.getElem?_set_ne e1] at hj sj
        rw [List.getElem?_set_ne e2] at hk sk
        exact E.dis j k q xs' ys' hj hk sj sk
  · by_cases e1 : i = j
    · rw [← at_ j x b e1 hj sj]
      exact np
    · rw [List.getElem?_set_ne e1] at hj sj
      exact E.mow j x b hj sj
theorem En.own {i : Nat} {p : Addr} {vs : List V} {xs : List D} (E : En K B M n G0 H0 G H σ δ) (hp : H p = none) (a : IsAll K G vs xs) : En K B M n G0 H0 G (upd H p (.lst vs)) (σ.set i (some (.ref p))) (δ.set i (.own xs)) :=
  E.ownO hp ⟨vs, upd_same, a⟩
/-- an owned thing is changed -/
theorem En.chgO {i : Nat} {p : Addr} {u : HO} {o o' : MO} (E : En K B M n G0 H0 G H σ δ) (hi : δ[i]? = some (.ow o)) (hs : σ[i]? = some (some (.ref p))) (a : MOk K G (upd H p u) p o') : En K B M n G0 H0 G (upd H p u) σ (δ.set i (.ow o')) := by
  obtain ⟨q, e1, mo, gp, mp, nb, nm⟩ := E.owo hi
  rw [hs] at e1
  have e1 : p = q := by injection (Option.some.inj (Option.some.inj e1))
  subst e1
  have hil : i < δ.length := (List.getElem?_eq_some_iff.mp hi).1
  have pu : Plain u := by
    obtain ⟨w, hw, pw⟩ := a.get
    rw [upd_same] at hw
    cases hw
    exact pw
  have hj' : ∀ (m : Nat) (zs : MO), (δ.set i (.ow o'))[m]? = some (.ow zs) → ∃ zs, δ[m]? = some (.ow zs) := fun m zs hm => by
    by_cases e1 : i = m
    · exact ⟨o, e1 ▸ hi⟩
    · rw [List.getElem?_set_ne e1] at hm
      exact ⟨zs, hm⟩
  refine ⟨E.sub0, E.sub.off gp, fun b o e hb => ?_, fun b hb => ?_, E.fresh, fun r hr => ?_, tabs_but E.tabs (.inr mo.get), fun b ps hb => ?_, E.gnt, by rw [List.length_set, E.len], fun j t ht => ?_, fun j k r zs ys hj hk sj sk => ?_, fun b z hb => ?_, fun j x b hj sj => ?_⟩
  · rw [upd_ne (ne_M mp hb)]
    exact E.same b o e hb
  · by_cases z : b = p
    · rw [z]
      exact mp
    · rw [upd_ne z] at hb
      exact E.free b hb
  · obtain ⟨b1, b2, b3⟩ := E.bagged r hr
    exact ⟨b1.mut fun z => nb (by rw [z]; exact hr), b2, b3⟩
  · by_cases z : b = p
    · rw [z]
      exact mp
    · rw [upd_ne z] at hb
      exact E.tin b ps hb
  · by_cases hj : i = j
    · subst hj
      rw [List.getElem?_set_self hil] at ht
      cases ht
      rw [hs]
      exact ⟨p, rfl, a, gp, mp, nb⟩
    · rw [List.getElem?_set_ne hj] at ht
      have h := E.slot j t ht
      cases t with
      | un => trivial
      | d x => exact h
      | ow zs =>
        obtain ⟨r, f1, f2, f3⟩ := h
        refine ⟨r, f1, f2.mono (Sub.refl G) ?_, f3⟩
        rw [upd_ne]
        intro z
        subst z
        exact hj (E.dis i j r o zs hi ht hs (look_some f1))
      | raw v => exact h
      | bag => exact h
      | scr ns => exact h
      | exn a d fs => exact h
  · obtain ⟨_, g1⟩ := hj' j zs hj
    obtain ⟨_, g2⟩ := hj' k ys hk
    exact E.dis j k r _ _ g1 g2 sj sk
  · obtain ⟨h1, h2⟩ := E.mob b z hb
    have : b ≠ p := fun y => by
      rw [y, nm] at hb
      cases hb
    exact ⟨h1.mono (Sub.refl G) (upd_ne this), h2⟩
  · obtain ⟨_, g1⟩ := hj' j x hj
    exact E.mow j _ b g1 sj
theorem En.chg {i : Nat} {p : Addr} {vs vs' : List V} {xs xs' : List D} (E : En K B M n G0 H0 G H σ δ) (hi : δ[i]? = some (.own xs)) (hs : σ[i]? = some (some (.ref p))) (hp : H p = some (.lst vs)) (a : IsAll K G vs' xs') : En K B M n G0 H0 G (upd H p (.lst vs')) σ (δ.set i (.own xs')) :=
  E.chgO hi hs ⟨vs', upd_same, a⟩
/-- as data that never change -/
def MO.frz : MO → Option D
  | .lst xs => some (.lst xs) | .dic kvs => some (.dic kvs) | _ => none
theorem MOk.is {G H : Hp} {p : Addr} {o : MO} {d : D} {u : HO} (h : MOk K G H p o) (hu : H p = Option.some u) (hd : o.frz = Option.some d) (s : Sub G (upd G p u)) : Is K (upd G p u) (.ref p) d := by
  cases o with
  | lst xs =>
    cases hd
    obtain ⟨vs, a, b⟩ := h
    rw [a] at hu
    cases hu
    exact .lst upd_same (b.mono s)
  | dic xs =>
    cases hd
    obtain ⟨vs, a, b⟩ := h
    rw [a] at hu
    cases hu
    exact .dic (.inl upd_same) (b.mono s)
  | ins C dx fs => cases hd
/-- an owned thing becomes one that never changes -/
theorem En.frzO {i : Nat} {o : MO} {d : D} (E : En K B M n G0 H0 G H σ δ) (hi : δ[i]? = some (.ow o)) (hd : o.frz = some d) : ∃ G', Sub G G' ∧ En K B M n G0 H0 G' H σ (δ.set i (.d d)) := by
  obtain ⟨p, e1, mo, gp, mp, nb, nm⟩ := E.owo hi
  obtain ⟨u, hu, pu⟩ := mo.get
  have hil : i < δ.length := (List.getElem?_eq_some_iff.mp hi).1
  have sg : Sub G (upd G p u) := Sub.new gp
  have hj' : ∀ (m : Nat) (zs : MO), (δ.set i (.d d))[m]? = some (.ow zs) → δ[m]? = some (.ow zs) := fun m zs hm => by
    by_cases e : i = m
    · subst e
      rw [List.getElem?_set_self hil] at hm
      cases hm
    · rw [List.getElem?_set_ne e] at hm
      exact hm
  refine ⟨upd G p u, sg, E.sub0.trans sg, fun b o e => ?_, E.same, E.free, fun b hb gb => ?_, fun r hr => ?_, E.tabs, E.tin, gnt_upd E.gnt pu.notab, by rw [List.length_set, E.len], fun j t ht => ?_, fun j k r zs ys hj hk sj sk => ?_, fun b z hb => ?_, fun j x b hj sj => ?_⟩
  · by_cases hb : b = p
    · subst hb
      rw [upd_same] at e
      cases e
      exact hu
    · rw [upd_ne hb] at e
      exact E.sub b o e
  · rw [upd_ne (ne_M mp hb)]
    exact E.fresh b hb gb
  · obtain ⟨b1, b2, b3⟩ := E.bagged r hr
    exact ⟨b1, by rw [upd_ne fun z => nb (by rw [← z]; exact hr)]; exact b2, b3⟩
  · by_cases hj : i = j
    · subst hj
      rw [List.getElem?_set_self hil] at ht
      cases ht
      rw [e1]
      exact ⟨_, rfl, mo.is hu hd sg⟩
    · rw [List.getElem?_set_ne hj] at ht
      have h := E.slot j t ht
      cases t with
      | un => trivial
      | d x =>
        obtain ⟨v, f1, f2⟩ := h
        exact ⟨v, f1, f2.mono sg⟩
      | ow zs =>
        obtain ⟨r, f1, f2, f4, f5⟩ := h
        refine ⟨r, f1, f2.mono sg rfl, ?_, f5⟩
        rw [upd_ne]
        · exact f4
        · intro z
          subst z
          exact hj (E.dis i j r o zs hi ht e1 (look_some f1))
      | raw v => exact h
      | bag => exact h
      | scr ns => exact ⟨_, h.choose_spec.1, sg.seqL h.choose_spec.2⟩
      | exn a d fs => exact ⟨h.1, h.2.mono sg⟩
  · exact E.dis j k r zs ys (hj' j zs hj) (hj' k ys hk) sj sk
  · obtain ⟨h1, h2, h3, h4⟩ := E.mob b z hb
    have : b ≠ p := fun y => by
      rw [y, nm] at hb
      cases hb
    exact ⟨h1.mono sg rfl, by rw [upd_ne this]; exact h2, h3, h4⟩
  · exact E.mow j x b (hj' j x hj) sj
theorem En.frz {i : Nat} {xs : List D} (E : En K B M n G0 H0 G H σ δ) (hi : δ[i]? = some (.own xs)) : ∃ G', Sub G G' ∧ En K B M n G0 H0 G' H σ (δ.set i (.d (.lst xs))) := E.frzO hi rfl
/-- the start is put anew: all that stands now stays, but what M says less c -/
theorem En.rebase {c : Addr} (E : En K B M n G0 H0 G H σ δ) (hc : B ≠ some c) (hm : n.μ c = none) (ho : ∀ (i : Nat) (x : MO), δ[i]? = some (.ow x) → σ[i]? ≠ some (some (.ref c))) (hs : ∃ o, H c = some o ∧ ∀ ps, o ≠ .tbl ps) : En K B (fun b => M b ∧ b ≠ c) n G H G H σ δ where
  sub0 := Sub.refl G
  sub := E.sub
  same := fun b o e _ => e
  free := fun b hb => ⟨E.free b hb, fun z => by
    obtain ⟨xs, hs, _⟩ := hs
    rw [z, hs] at hb
    cases hb⟩
  tabs := E.tabs
  gnt := E.gnt
  tin := fun b ps hb => ⟨E.tin b ps hb, fun z => by
    obtain ⟨xs, hs, nt⟩ := hs
    rw [z, hs] at hb
    exact nt ps (Option.some.inj hb)⟩
  fresh := fun b _ g => g
  bagged := fun p hp => ⟨(E.bagged p hp).1, (E.bagged p hp).2.1, (E.bagged p hp).2.2, fun z => hc (z ▸ hp)⟩
  len := E.len
  slot := fun i s hs => by
    have h := E.slot i s hs
    cases s with
    | un => trivial
    | d x => exact h
    | ow x =>
      obtain ⟨p, e, hp, gp, mp, np⟩ := h
      exact ⟨p, e, hp, gp, ⟨mp, fun z => ho i x hs (z ▸ look_some e)⟩, np⟩
    | raw v => exact h
    | bag => exact h
    | scr ns => exact h
    | exn a d fs => exact h
  dis := E.dis
  mob := fun a o h => by
    obtain ⟨h1, h2, h3, h4⟩ := E.mob a o h
    exact ⟨h1, h2, ⟨h3, fun z => by rw [z, hm] at h; cases h⟩, h4⟩
  mow := E.mow
/-- and back -/
theorem En.back {n' : Sto} {c : Addr} {G' H' : Hp} {σ' : L2.St} {δ' : List Slot} (E : En K B M n G0 H0 G H σ δ) (E' : En K B (fun b => M b ∧ b ≠ c) n' G H G' H' σ' δ') : En K B M n' G0 H0 G' H' σ' δ' where
  sub0 := E.sub0.trans E'.sub0
  sub := E'.sub
  same := fun b o e nm => E'.same b o (E.same b o e nm) fun z => nm z.1
  free := fun b hb => (E'.free b hb).1
  fresh := fun b nm g0 => E'.fresh b (fun z => nm z.1) (E.fresh b nm g0)
  bagged := fun p hp => ⟨(E'.bagged p hp).1, (E'.bagged p hp).2.1, (E'.bagged p hp).2.2.1⟩
  tabs := E'.tabs
  gnt := E'.gnt
  tin := fun b ps hb => (E'.tin b ps hb).1
  len := E'.len
  slot := fun i s hs => by
    have h := E'.slot i s hs
    cases s with
    | un => trivial
    | d x => exact h
    | ow x =>
      obtain ⟨p, e, hp, gp, mp, np⟩ := h
      exact ⟨p, e, hp, gp, mp.1, np⟩
    | raw v => exact h
    | bag => exact h
    | scr ns => exact h
    | exn a d fs => exact h
  dis := E'.dis
  mob := fun a o h => by
    obtain ⟨h1, h2, h3, h4⟩ := E'.mob a o h
    exact ⟨h1, h2, h3.1, h4⟩
  mow := E'.mow
/-- the same heap and slots, the changed cell c beside them -/
theorem En.beside {c : Addr} {u : HO} (E : En K B M n G0 H0 G H σ δ) (hl : H c = none ∨ ∃ u, H c = some u ∧ Plain u) (hu : ∀ ps, u ≠ .tbl ps) (hc : B ≠ some c) (hm : n.μ c = none) (gc : G c = none) (mc : M c) (ho : ∀ (i : Nat) (x : MO), δ[i]? = some (.ow x) → σ[i]? ≠ some (some (.ref c))) : En K B M n G0 H0 G (upd H c u) σ δ where
  sub0 := E.sub0
  sub := E.sub.off gc
  same := fun b u e nm => by
    rw [upd_ne (ne_M mc nm)]
    exact E.same b u e nm
  free := fun b hb => by
    by_cases z : b = c
    · rw [z]
      exact mc
    · rw [upd_ne z] at hb
      exact E.free b hb
  fresh := E.fresh
  bagged := fun p hp => ⟨(E.bagged p hp).1.mut fun z => hc (z ▸ hp), (E.bagged p hp).2⟩
  tabs := tabs_but E.tabs hl
  gnt := E.gnt
  tin := fun b ps hb => by
    by_cases z : b = c
    · rw [z]
      exact mc
    · rw [upd_ne z] at hb
      exact E.tin b ps hb
  len := E.len
  slot := fun i s hs => by
    have h := E.slot i s hs
    cases s with
    | un => trivial
    | d x => exact h
    | ow x =>
      obtain ⟨p, e, hp, r⟩ := h
      exact ⟨p, e, hp.mono (Sub.refl G) (upd_ne (fun (z : p = c) => ho i x hs (by rw [← z]; exact look_some e))), r⟩
    | raw v => exact h
    | bag => exact h
    | scr ns => exact h
    | exn a d fs => exact h
  dis := E.dis
  mob := fun a o h => by
    obtain ⟨h1, h2⟩ := E.mob a o h
    exact ⟨h1.mono (Sub.refl G) (upd_ne fun z => by rw [z, hm] at h; cases h), h2⟩
  mow := E.mow
/-! ### the store -/
/-- a new thing comes into the store -/
theorem En.mnew {p : Addr} {u : HO} {o : MO} (E : En K B M n G0 H0 G H σ δ) (hp : H p = none) (a : MOk K G (upd H p u) p o) : En K B M (n.put p o) G0 H0 G (upd H p u) σ δ := by
  have E1 : En K B M n G0 H0 G (upd H p u) σ δ := E.newc hp
  refine ⟨E1.sub0, E1.sub, E1.same, E1.free, E1.fresh, E1.bagged, E1.tabs, E1.tin, E1.gnt, E1.len, E1.slot, E1.dis, fun b z hb => ?_, fun i x b hi hs => ?_⟩
  · by_cases e : b = p
    · subst e
      rw [Sto.put_same] at hb
      cases hb
      exact ⟨a, E.sub.none hp, E.free b hp, fun z => (E.bagged b z).1.some hp⟩
    · rw [Sto.put_ne e] at hb
      exact E1.mob b z hb
  · obtain ⟨q, e1, mo, _⟩ := E.owo hi
    rw [hs] at e1
    have e1 : b = q := by injection (Option.some.inj (Option.some.inj e1))
    subst e1
    rw [Sto.put_ne (fun z => mo.some (by rw [z]; exact hp))]
    exact E1.mow i x b hi hs
/-- a thing of the store is changed -/
theorem En.mchg {p : Addr} {u : HO} {o o' : MO} (E : En K B M n G0 H0 G H σ δ) (hp : n.μ p = some o) (a : MOk K G (upd H p u) p o') : En K B M (n.put p o') G0 H0 G (upd H p u) σ δ := by
  obtain ⟨mo, gp, mp, nb⟩ := E.mob p o hp
  have np : ∀ (i : Nat) (x : MO) (b : Addr), δ[i]? = some (.ow x) → σ[i]? = some (some (.ref b)) → b ≠ p := fun i x b hi hs z => by
    have := E.mow i x b hi hs
    rw [z, hp] at this
    cases this
  refine ⟨E.sub0, E.sub.off gp, fun b o e hb => ?_, fun b hb => ?_, E.fresh, fun r hr => ?_, tabs_but E.tabs (.inr mo.get), fun b ps hb => ?_, E.gnt, E.len, fun j t ht => ?_, E.dis, fun b z hb => ?_, fun j x b hj sj => ?_⟩
  · rw [upd_ne (ne_M mp hb)]
    exact E.same b o e hb
  · by_cases z : b = p
    · rw [z]
      exact mp
    · rw [upd_ne z] at hb
      exact E.free b hb
  · obtain ⟨b1, b2, b3⟩ := E.bagged r hr
    exact ⟨b1.mut fun z => nb (by rw [z]; exact hr), b2, b3⟩
  · by_cases z : b = p
    · rw [z]
      exact mp
    · rw [upd_ne z] at hb
      exact E.tin b ps hb
  · have h := E.slot j t ht
    cases t with
    | un => trivial
    | d x => exact h
    | ow x =>
      obtain ⟨r, f1, f2, f3⟩ := h
      exact ⟨r, f1, f2.mono (Sub.refl G) (upd_ne (np j x r ht (look_some f1))), f3⟩
    | raw v => exact h
    | bag => exact h
    | scr ns => exact h
    | exn a d fs => exact h
  · by_cases e : b = p
    · subst e
      rw [Sto.put_same] at hb
      cases hb
      exact ⟨a, gp, mp, nb⟩
    · rw [Sto.put_ne e] at hb
      obtain ⟨h1, h2⟩ := E.mob b z hb
      exact ⟨h1.mono (Sub.refl G) (upd_ne e), h2⟩
  · rw [Sto.put_ne (np j x b hj sj)]
    exact E.mow j x b hj sj
/-- a thing of the store becomes one that never changes -/
theorem En.mfrz {p : Addr} {o : MO} {d : D} (E : En K B M n G0 H0 G H σ δ) (hp : n.μ p = some o) (hd : o.frz = some d) : ∃ G', Sub G G' ∧ En K B M (n.off p) G0 H0 G' H σ δ ∧ Is K G' (.ref p) d := by
  obtain ⟨mo, gp, mp, nb⟩ := E.mob p o hp
  obtain ⟨u, hu, pu⟩ := mo.get
  have sg : Sub G (upd G p u) := Sub.new gp
  have np : ∀ (i : Nat) (x : MO) (b : Addr), δ[i]? = some (.ow x) → σ[i]? = some (some (.ref b)) → b ≠ p := fun i x b hi hs z => by
    have := E.mow i x b hi hs
    rw [z, hp] at this
    cases this
  refine ⟨upd G p u, sg, ⟨E.sub0.trans sg, fun b o e => ?_, E.same, E.free, fun b hb gb => ?_, fun r hr => ?_, E.tabs, E.tin, gnt_upd E.gnt pu.notab, E.len, fun j t ht => ?_, E.dis, fun b z hb => ?_, fun j x b hj sj => ?_⟩, mo.is hu hd sg⟩
  · by_cases hb : b = p
    · subst hb
      rw [upd_same] at e
      cases e
      exact hu
    · rw [upd_ne hb] at e
      exact E.sub b o e
  · rw [upd_ne (ne_M mp hb)]
    exact E.fresh b hb gb
  · obtain ⟨b1, b2, b3⟩ := E.bagged r hr
    exact ⟨b1, by rw [upd_ne fun z => nb (by rw [← z]; exact hr)]; exact b2, b3⟩
  · have h := E.slot j t ht
    cases t with
    | un => trivial
    | d x =>
      obtain ⟨v, f1, f2⟩ := h
      exact ⟨v, f1, f2.mono sg⟩
    | ow x =>
      obtain ⟨r, f1, f2, f4, f5⟩ := h
      exact ⟨r, f1, f2.mono sg rfl, by rw [upd_ne (np j x r ht (look_some f1))]; exact f4, f5⟩
    | raw v => exact h
    | bag => exact h
    | scr ns => exact ⟨_, h.choose_spec.1, sg.seqL h.choose_spec.2⟩
    | exn a d fs => exact ⟨h.1, h.2.mono sg⟩
  · have e : b ≠ p := fun z => by
      rw [z, Sto.off_same] at hb
      cases hb
    rw [Sto.off_ne e] at hb
    obtain ⟨h1, h2, h3, h4⟩ := E.mob b z hb
    exact ⟨h1.mono sg rfl, by rw [upd_ne e]; exact h2, h3, h4⟩
  · rw [Sto.off_ne (np j x b hj sj)]
    exact E.mow j x b hj sj
end
end Tl

namespace Tl
open PySem L2 TL LamX
/-! ### exceptions: where they go -/
/-- an exception: its class, its attributes -/
structure Exn where
  cls : Value
  fs : List (Str × D)
/-- what is asked where one is raised; when that is known to hold -/
structure XZ where
  W : WX
  X : Exn → List Slot → Sto → Prop
def WOk [Tabl] (K : PySem.W.Frag) (Z : XZ) (B : Option Addr) (M : Addr → Prop) (G0 H0 : Hp) : Prop :=
  ∀ (e : Exn) (d : Option Addr) (σ : L2.St) (δ : List Slot) (G H : Hp) (n : Sto), Z.X e δ n → En K B M n G0 H0 G H σ δ → XIs K G d e.fs → Z.W e.cls d σ H
def XZ.calm : XZ := ⟨fun _ _ _ _ => False, fun _ _ _ => False⟩
theorem WOk.calm [Tabl] {K : PySem.W.Frag} {B : Option Addr} {M : Addr → Prop} {G0 H0 : Hp} : WOk K .calm B M G0 H0 := fun _ _ _ _ _ _ _ z => z.elim
/-! ### judgements over data -/
section
variable [Tabl] (K : PySem.W.Frag) (Z : XZ)
def GK (te : TE) (δ : List Slot) (n : Sto) (Φ : D → Sto → Prop) : Prop :=
  ∀ (B : Option Addr) (M : Addr → Prop) (G0 H0 : Hp), WOk K Z B M G0 H0 → ∀ (G H : Hp) (σ : L2.St), En K B M n G0 H0 G H σ δ → ∀ Q : VK, (∀ (v : V) (d : D) (G' H' : Hp) (n' : Sto), Φ d n' → En K B M n' G0 H0 G' H' σ δ → Sub G G' → Is K G' v d → Q v H') → te σ H Q
def GA (ta : TA) (δ : List Slot) (n : Sto) (Φ : List D → Sto → Prop) : Prop :=
  ∀ (B : Option Addr) (M : Addr → Prop) (G0 H0 : Hp), WOk K Z B M G0 H0 → ∀ (G H : Hp) (σ : L2.St), En K B M n G0 H0 G H σ δ → ∀ Q : List V → Hp → Prop, (∀ (vs : List V) (ds : List D) (G' H' : Hp) (n' : Sto), Φ ds n' → En K B M n' G0 H0 G' H' σ δ → Sub G G' → IsAll K G' vs ds → Q vs H') → ta σ H Q
def GT (tt : TT) (δ : List Slot) (n : Sto) (Φ : Bool → Sto → Prop) : Prop :=
  ∀ (B : Option Addr) (M : Addr → Prop) (G0 H0 : Hp), WOk K Z B M G0 H0 → ∀ (G H : Hp) (σ : L2.St), En K B M n G0 H0 G H σ δ → ∀ Q : Bool → Hp → Prop, (∀ (b : Bool) (G' H' : Hp) (n' : Sto), Φ b n' → En K B M n' G0 H0 G' H' σ δ → Sub G G' → Q b H') → tt σ H Q
def GO (to : TO) (δ : List Slot) (n : Sto) (Φ : Option Int → Sto → Prop) : Prop :=
  ∀ (B : Option Addr) (M : Addr → Prop) (G0 H0 : Hp), WOk K Z B M G0 H0 → ∀ (G H : Hp) (σ : L2.St), En K B M n G0 H0 G H σ δ → ∀ Q : Option Int → Hp → Prop, (∀ (b : Option Int) (G' H' : Hp) (n' : Sto), Φ b n' → En K B M n' G0 H0 G' H' σ δ → Sub G G' → Q b H') → to σ H Q
/-- a two-place operation, a one-place one, a call, on data -/
def RK (r : R2) (x y : D) (δ : List Slot) (n : Sto) (Φ : D → Sto → Prop) : Prop :=
  ∀ (B : Option Addr) (M : Addr → Prop) (G0 H0 : Hp), WOk K Z B M G0 H0 → ∀ (G H : Hp) (σ : L2.St), En K B M n G0 H0 G H σ δ → ∀ (v w : V), Is K G v x → Is K G w y → ∀ Q : VK, (∀ (v : V) (d : D) (G' H' : Hp) (n' : Sto), Φ d n' → En K B M n' G0 H0 G' H' σ δ → Sub G G' → Is K G' v d → Q v H') → r v w H Q
def RU (r : V → Hp → VK → Prop) (x : D) (δ : List Slot) (n : Sto) (Φ : D → Sto → Prop) : Prop :=
  ∀ (B : Option Addr) (M : Addr → Prop) (G0 H0 : Hp), WOk K Z B M G0 H0 → ∀ (G H : Hp) (σ : L2.St), En K B M n G0 H0 G H σ δ → ∀ (v : V), Is K G v x → ∀ Q : VK, (∀ (v : V) (d : D) (G' H' : Hp) (n' : Sto), Φ d n' → En K B M n' G0 H0 G' H' σ δ → Sub G G' → Is K G' v d → Q v H') → r v H Q
def RC (r : List V → Hp → VK → Prop) (xs : List D) (δ : List Slot) (n : Sto) (Φ : D → Sto → Prop) : Prop :=
  ∀ (B : Option Addr) (M : Addr → Prop) (G0 H0 : Hp), WOk K Z B M G0 H0 → ∀ (G H : Hp) (σ : L2.St), En K B M n G0 H0 G H σ δ → ∀ (vs : List V), IsAll K G vs xs → ∀ Q : VK, (∀ (v : V) (d : D) (G' H' : Hp) (n' : Sto), Φ d n' → En K B M n' G0 H0 G' H' σ δ → Sub G G' → Is K G' v d → Q v H') → r vs H Q
def RS (r : V → Option Int → Option Int → Hp → VK → Prop) (x : D) (lo hi : Option Int) (δ : List Slot) (n : Sto) (Φ : D → Sto → Prop) : Prop :=
  ∀ (B : Option Addr) (M : Addr → Prop) (G0 H0 : Hp), WOk K Z B M G0 H0 → ∀ (G H : Hp) (σ : L2.St), En K B M n G0 H0 G H σ δ → ∀ (v : V), Is K G v x → ∀ Q : VK, (∀ (v : V) (d : D) (G' H' : Hp) (n' : Sto), Φ d n' → En K B M n' G0 H0 G' H' σ δ → Sub G G' → Is K G' v d → Q v H') → r v lo hi H Q
/-- a def's promise, on data: nothing is raised -/
def SC (sp : Sp) (xs : List D) (δ : List Slot) (n : Sto) (Φ : D → Sto → Prop) : Prop :=
  ∀ (B : Option Addr) (M : Addr → Prop) (G0 H0 : Hp), WOk K Z B M G0 H0 → ∀ (G H : Hp) (σ : L2.St), En K B M n G0 H0 G H σ δ → ∀ (vs : List V), IsAll K G vs xs → ∀ (Q : VK) (E : XK), (∀ (v : V) (d : D) (G' H' : Hp) (n' : Sto), Φ d n' → En K B M n' G0 H0 G' H' σ δ → Sub G G' → Is K G' v d → Q v H') → sp vs H Q E
def SB (sp : Sp) (xs : List D) (δ : List Slot) (n : Sto) (Φ : D → Sto → Prop) : Prop :=
  ∀ (p : Addr) (M : Addr → Prop) (G0 H0 : Hp), WOk K Z (some p) M G0 H0 → ∀ (G H : Hp) (σ : L2.St), En K (some p) M n G0 H0 G H σ δ → ∀ (vs : List V), IsAll K G vs xs → ∀ (Q : VK) (E : XK), (∀ (v : V) (d : D) (G' H' : Hp) (n' : Sto), Φ d n' → En K (some p) M n' G0 H0 G' H' σ δ → Sub G G' → Is K G' v d → Q v H') → sp (.ref p :: vs) H Q E
/-- the same where something may be raised; E: where that goes -/
def XTo (σ : L2.St) (E : XK) : Prop := ∀ cls d H, Z.W cls d σ H → E cls d H
def SX (sp : Sp) (xs : List D) (δ : List Slot) (n : Sto) (Φ : D → Sto → Prop) : Prop :=
  ∀ (B : Option Addr) (M : Addr → Prop) (G0 H0 : Hp), WOk K Z B M G0 H0 → ∀ (G H : Hp) (σ : L2.St), En K B M n G0 H0 G H σ δ → ∀ (vs : List V), IsAll K G vs xs → ∀ (Q : VK) (E : XK), XTo Z σ E → (∀ (v : V) (d : D) (G' H' : Hp) (n' : Sto), Φ d n' → En K B M n' G0 H0 G' H' σ δ → Sub G G' → Is K G' v d → Q v H') → sp vs H Q E
def GS (B : Option Addr) (ts : TS) (δ : List Slot) (n : Sto) (N : List Slot → Sto → Prop) (R : D → Sto → Prop) (Bk Ct : List Slot → Sto → Prop) : Prop :=
  ∀ (m0 : Addr → Option MO) (G0 H0 : Hp), WOk K Z B (MOf B m0 H0) G0 H0 → ∀ (G H : Hp) (σ : L2.St) (E : Ends), En K B (MOf B m0 H0) n G0 H0 G H σ δ → (∀ σ' δ' G' H' n', N δ' n' → En K B (MOf B m0 H0) n' G0 H0 G' H' σ' δ' → Sub G G' → E.nx σ' H') →
    (∀ v d G' H' n', R d n' → Eo K B m0 n' G0 H0 G' H' → Is K G' v d → E.rt v H') → (∀ σ' δ' G' H' n', Bk δ' n' → En K B (MOf B m0 H0) n' G0 H0 G' H' σ' δ' → Sub G G' → E.bk σ' H') → (∀ σ' δ' G' H' n', Ct δ' n' → En K B (MOf B m0 H0) n' G0 H0 G' H' σ' δ' → Sub G G' → E.ct σ' H') → ts E σ H
end
section
variable [Tabl] {K : PySem.W.Frag} {Z : XZ} {B : Option Addr} {δ : List Slot} {n : Sto} {Φ : D → Sto → Prop} {ta tb te : TE} {aa ab : TA} {tt tu : TT} {N Bk Ct : List Slot → Sto → Prop} {R : D → Sto → Prop} {ts tz : TS}
/-! expressions -/
theorem gk_var {i : Nat} {x : D} (h : δ[i]? = some (.d x)) (k : Φ x n) : GK K Z (tVar i) δ n Φ := fun B M G0 H0 xw G H σ E Q q => by
  obtain ⟨v, e, a⟩ := E.var h
  exact ⟨v, e, q v x G H n k E (Sub.refl G) a⟩
theorem gk_c {v : V} (h : scl v = true) (k : Φ (ofV v) n) : GK K Z (tC v) δ n Φ := fun B M G0 H0 xw G H σ E Q q => q v _ G H n k E (Sub.refl G) (Is.scl h)
theorem gk_ct {a : Addr} {xs : List V} {ds : List D} (h : ∀ H, SqT K H a xs) (hx : ∀ G, IsAll K G xs ds) (k : Φ (.tup ds) n) : GK K Z (tC (.ref a)) δ n Φ := fun B M G0 H0 xw G H σ E Q q => q _ _ G H n k E (Sub.refl G) (.tup (h G) (hx G))
theorem gk_op {r : R2} (h : GK K Z ta δ n fun x n1 => GK K Z tb δ n1 fun y n2 => RK K Z r x y δ n2 Φ) : GK K Z (tOp r ta tb) δ n Φ := fun B M G0 H0 xw G H σ E Q q =>
  h B M G0 H0 xw G H σ E _ fun v x G1 H1 n1 f1 E1 s1 a1 => f1 B M G0 H0 xw G1 H1 σ E1 _ fun w y G2 H2 n2 f2 E2 s2 a2 => f2 B M G0 H0 xw G2 H2 σ E2 v w (a1.mono s2) a2 Q fun u d G3 H3 n3 f3 E3 s3 a3 => q u d G3 H3 n3 f3 E3 ((s1.trans s2).trans s3) a3
theorem gk_un {r : V → Hp → VK → Prop} (h : GK K Z ta δ n fun x n1 => RU K Z r x δ n1 Φ) : GK K Z (tUn r ta) δ n Φ := fun B M G0 H0 xw G H σ E Q q =>
  h B M G0 H0 xw G H σ E _ fun v x G1 H1 n1 f1 E1 s1 a1 => f1 B M G0 H0 xw G1 H1 σ E1 v a1 Q fun u d G3 H3 n3 f3 E3 s3 a3 => q u d G3 H3 n3 f3 E3 (s1.trans s3) a3
theorem ga_nil {Φ : List D → Sto → Prop} (k : Φ [] n) : GA K Z tNil δ n Φ := fun B M G0 H0 xw G H σ E Q q => q [] [] G H n k E (Sub.refl G) .nil
theorem ga_cons {Φ : List D → Sto → Prop} (h : GK K Z ta δ n fun x n1 => GA K Z aa δ n1 fun xs n2 => Φ (x :: xs) n2) : GA K Z (tCons ta aa) δ n Φ := fun B M G0 H0 xw G H σ E Q q =>
  h B M G0 H0 xw G H σ E _ fun v x G1 H1 n1 f1 E1 s1 a1 => f1 B M G0 H0 xw G1 H1 σ E1 _ fun vs xs G2 H2 n2 f2 E2 s2 a2 => q (v :: vs) (x :: xs) G2 H2 n2 f2 E2 (s1.trans s2) (.cons (a1.mono s2) a2)
theorem gk_tup (h : GA K Z aa δ n fun xs n1 => xs.length ≤ 100000 ∧ Φ (.tup xs) n1) : GK K Z (tTup aa) δ n Φ := fun B M G0 H0 xw G H σ E Q q =>
  h B M G0 H0 xw G H σ E _ fun vs xs G1 H1 n1 f1 E1 s1 a1 => ⟨by rw [a1.len]; exact sz_ f1.1, fun p hp =>
    have s2 := Sub.new (o := .tup vs) (E1.sub.none hp)
    q _ _ _ _ n1 f1.2 (E1.laid hp) (s1.trans s2) (.tup (SqT.of upd_same) (a1.mono s2))⟩
theorem gk_lst (h : GA K Z aa δ n fun xs n1 => xs.length ≤ 100000 ∧ Φ (.lst xs) n1) : GK K Z (tLst aa) δ n Φ := fun B M G0 H0 xw G H σ E Q q =>
  h B M G0 H0 xw G H σ E _ fun vs xs G1 H1 n1 f1 E1 s1 a1 => ⟨by rw [a1.len]; exact sz_ f1.1, fun p hp =>
    have s2 := Sub.new (o := .lst vs) (E1.sub.none hp)
    q _ _ _ _ n1 f1.2 (E1.laid hp) (s1.trans s2) (.lst upd_same (a1.mono s2))⟩
theorem gk_cb {r : List V → Hp → VK → Prop} (h : GA K Z aa δ n fun xs n1 => RC K Z r xs δ n1 Φ) : GK K Z (tCB r aa) δ n Φ := fun B M G0 H0 xw G H σ E Q q =>
  h B M G0 H0 xw G H σ E _ fun vs xs G1 H1 n1 f1 E1 s1 a1 => f1 B M G0 H0 xw G1 H1 σ E1 vs a1 Q fun u d G3 H3 n3 f3 E3 s3 a3 => q u d G3 H3 n3 f3 E3 (s1.trans s3) a3
theorem gk_call {sp : Sp} {E : XK} (h : GA K Z aa δ n fun xs n1 => SC K Z sp xs δ n1 Φ) : GK K Z (tCall sp [] E aa) δ n Φ := fun B M G0 H0 xw G H σ E Q q =>
  h B M G0 H0 xw G H σ E _ fun vs xs G1 H1 n1 f1 E1 s1 a1 => by
    show sp (vs ++ []) _ _ _
    rw [List.append_nil]
    exact f1 B M G0 H0 xw G1 H1 σ E1 vs a1 Q _ fun u d G3 H3 n3 f3 E3 s3 a3 => q u d G3 H3 n3 f3 E3 (s1.trans s3) a3
/-- the bag stands first -/
theorem gk_callB {sp : Sp} {E : XK} {i : Nat} (hi : δ[i]? = some .bag) (h : GA K Z aa δ n fun xs n1 => SB K Z sp xs δ n1 Φ) : GK K Z (tCall sp [] E (tCons (tVar i) aa)) δ n Φ := fun B M G0 H0 xw G H σ E Q q => by
  obtain ⟨p, e, rfl⟩ := E.bagd hi
  refine ⟨.ref p, e, ?_⟩
  refine h (some p) M G0 H0 xw G H σ E _ fun vs xs G1 H1 n1 f1 E1 s1 a1 => ?_
  show sp ((.ref p :: vs) ++ []) _ _ _
  rw [List.append_nil]
  exact f1 p M G0 H0 xw G1 H1 σ E1 vs a1 Q _ fun u d G3 H3 n3 f3 E3 s3 a3 => q u d G3 H3 n3 f3 E3 (s1.trans s3) a3
theorem gk_callN {sp : Sp} {E : XK} {k m : Nat} {gV : List V → List V → List V} {gD : List D → List D → List D} (hg : ∀ {G : Hp} {vs zs : List V} {xs ys : List D}, IsAll K G vs xs → IsAll K G zs ys → IsAll K G (gV vs zs) (gD xs ys))
    (h : GA K Z aa δ n fun xs n1 => GA K Z ab δ n1 fun ys n2 => xs.length = k ∧ ys.length = m ∧ SC K Z sp (gD xs ys) δ n2 Φ) : GK K Z (tCallN k m sp gV E aa ab) δ n Φ := fun B M G0 H0 xw G H σ E Q q =>
  h B M G0 H0 xw G H σ E _ fun vs xs G1 H1 n1 f1 E1 s1 a1 => f1 B M G0 H0 xw G1 H1 σ E1 _ fun zs ys G2 H2 n2 f2 E2 s2 a2 =>
    ⟨(a1.len).trans f2.1, (a2.len).trans f2.2.1, f2.2.2 B M G0 H0 xw G2 H2 σ E2 _ (hg (a1.mono s2) a2) Q _ fun u d G3 H3 n3 f3 E3 s3 a3 => q u d G3 H3 n3 f3 E3 ((s1.trans s2).trans s3) a3⟩
theorem gk_ifE (h : GT K Z tt δ n fun b n1 => (b = true → GK K Z ta δ n1 Φ) ∧ (b = false → GK K Z tb δ n1 Φ)) : GK K Z (tIf tt ta tb) δ n Φ := fun B M G0 H0 xw G H σ E Q q =>
  h B M G0 H0 xw G H σ E _ fun b G1 H1 n1 f1 E1 s1 => by
    cases b with
    | true =>
      show ta σ H1 Q
      exact f1.1 rfl B M G0 H0 xw G1 H1 σ E1 Q fun u d G3 H3 n3 f3 E3 s3 a3 => q u d G3 H3 n3 f3 E3 (s1.trans s3) a3
    | false =>
      show tb σ H1 Q
      exact f1.2 rfl B M G0 H0 xw G1 H1 σ E1 Q fun u d G3 H3 n3 f3 E3 s3 a3 => q u d G3 H3 n3 f3 E3 (s1.trans s3) a3
theorem gk_andV (h : GK K Z ta δ n fun x n1 => ∃ b, x = .bl b ∧ (b = true → GK K Z tb δ n1 Φ) ∧ (b = false → Φ (.bl false) n1)) : GK K Z (tAndV ta tb) δ n Φ := fun B M G0 H0 xw G H σ E Q q =>
  h B M G0 H0 xw G H σ E _ fun v x G1 H1 n1 f1 E1 s1 a1 => by
    obtain ⟨b, rfl, h1, h2⟩ := f1
    cases a1
    refine ⟨b, rfl, ?_⟩
    cases b with
    | true =>
      show tb σ H1 Q
      exact h1 rfl B M G0 H0 xw G1 H1 σ E1 Q fun u d G3 H3 n3 f3 E3 s3 a3 => q u d G3 H3 n3 f3 E3 (s1.trans s3) a3
    | false => exact q _ _ G1 H1 n1 (h2 rfl) E1 s1 (.bl false)
theorem gk_orV (h : GK K Z ta δ n fun x n1 => ∃ b, x = .bl b ∧ (b = true → Φ (.bl true) n1) ∧ (b = false → GK K Z tb δ n1 Φ)) : GK K Z (tOrV ta tb) δ n Φ := fun B M G0 H0 xw G H σ E Q q =>
  h B M G0 H0 xw G H σ E _ fun v x G1 H1 n1 f1 E1 s1 a1 => by
    obtain ⟨b, rfl, h1, h2⟩ := f1
    cases a1
    refine ⟨b, rfl, ?_⟩
    cases b with
    | true => exact q _ _ G1 H1 n1 (h1 rfl) E1 s1 (.bl true)
    | false =>
      show tb σ H1 Q
      exact h2 rfl B M G0 H0 xw G1 H1 σ E1 Q fun u d G3 H3 n3 f3 E3 s3 a3 => q u d G3 H3 n3 f3 E3 (s1.trans s3) a3
theorem gk_notV (h : GK K Z ta δ n fun x n1 => ∃ b, x = .bl b ∧ Φ (.bl (!b)) n1) : GK K Z (tNotV ta) δ n Φ := fun B M G0 H0 xw G H σ E Q q =>
  h B M G0 H0 xw G H σ E _ fun v x G1 H1 n1 f1 E1 s1 a1 => by
    obtain ⟨b, rfl, h1⟩ := f1
    cases a1
    exact ⟨b, rfl, q _ _ G1 H1 n1 h1 E1 s1 (.bl _)⟩
theorem go_none {Φ : Option Int → Sto → Prop} (k : Φ none n) : GO K Z tNoPart δ n Φ := fun B M G0 H0 xw G H σ E Q q => q none G H n k E (Sub.refl G)
theorem go_some {Φ : Option Int → Sto → Prop} (h : GK K Z ta δ n fun x n1 => ∃ i, x = .int i ∧ Φ (some i) n1) : GO K Z (tPart ta) δ n Φ := fun B M G0 H0 xw G H σ E Q q =>
  h B M G0 H0 xw G H σ E _ fun v x G1 H1 n1 f1 E1 s1 a1 => by
    obtain ⟨i, rfl, h1⟩ := f1
    cases a1
    exact ⟨i, rfl, q _ G1 H1 n1 h1 E1 s1⟩
theorem gk_sl {r : V → Option Int → Option Int → Hp → VK → Prop} {tl th : TO} (h : GK K Z te δ n fun x n1 => GO K Z tl δ n1 fun lo n2 => GO K Z th δ n2 fun hi n3 => RS K Z r x lo hi δ n3 Φ) : GK K Z (tSl r te tl th) δ n Φ := fun B M G0 H0 xw G H σ E Q q =>
  h B M G0 H0 xw G H σ E _ fun v x G1 H1 n1 f1 E1 s1 a1 => f1 B M G0 H0 xw G1 H1 σ E1 _ fun lo G2 H2 n2 f2 E2 s2 => f2 B M G0 H0 xw G2 H2 σ E2 _ fun hi G3 H3 n3 f3 E3 s3 =>
    f3 B M G0 H0 xw G3 H3 σ E3 v ((a1.mono s2).mono s3) Q fun u d G4 H4 n4 f4 E4 s4 a4 => q u d G4 H4 n4 f4 E4 (((s1.trans s2).trans s3).trans s4) a4
/-- o.join(list of texts) -/
theorem gk_m1 {r : V → List V → Hp → VK → Prop} (h : GK K Z ta δ n fun x n1 => ∃ z, x = .str z ∧ GK K Z tb δ n1 fun y n2 => RU K Z (fun w H Q => r (.str z) [w] H Q) y δ n2 Φ) : GK K Z (tM1 r ta tb) δ n Φ := fun B M G0 H0 xw G H σ E Q q =>
  h B M G0 H0 xw G H σ E _ fun v x G1 H1 n1 f1 E1 s1 a1 => by
    obtain ⟨z, rfl, h1⟩ := f1
    cases a1
    exact ⟨⟨z, rfl⟩, h1 B M G0 H0 xw G1 H1 σ E1 _ fun w y G2 H2 n2 f2 E2 s2 a2 => f2 B M G0 H0 xw G2 H2 σ E2 w a2 Q fun u d G4 H4 n4 f4 E4 s4 a4 => q u d G4 H4 n4 f4 E4 ((s1.trans s2).trans s4) a4⟩
/-! tests -/
section
variable {Φ : Bool → Sto → Prop}
theorem gt_test (h : GK K Z te δ n fun x n1 => ∃ b, x = .bl b ∧ Φ b n1) : GT K Z (tTest te) δ n Φ := fun B M G0 H0 xw G H σ E Q q =>
  h B M G0 H0 xw G H σ E _ fun v x G1 H1 n1 f1 E1 s1 a1 => by
    obtain ⟨b, rfl, h1⟩ := f1
    cases a1
    exact ⟨b, rfl, q b G1 H1 n1 h1 E1 s1⟩
theorem gt_B (h : GK K Z te δ n fun x n1 => ∃ b, x = .bl b ∧ Φ b n1) : GT K Z (tB te) δ n Φ := gt_test h
theorem gt_not (h : GT K Z tt δ n fun b n1 => Φ (!b) n1) : GT K Z (tNot tt) δ n Φ := fun B M G0 H0 xw G H σ E Q q => h B M G0 H0 xw G H σ E _ fun b G1 H1 n1 f1 E1 s1 => q _ G1 H1 n1 f1 E1 s1
theorem gt_and (h : GT K Z tt δ n fun b n1 => (b = true → GT K Z tu δ n1 Φ) ∧ (b = false → Φ false n1)) : GT K Z (tAnd tt tu) δ n Φ := fun B M G0 H0 xw G H σ E Q q =>
  h B M G0 H0 xw G H σ E _ fun b G1 H1 n1 f1 E1 s1 => by
    cases b with
    | true =>
      show tu σ H1 Q
      exact f1.1 rfl B M G0 H0 xw G1 H1 σ E1 Q fun c G2 H2 n2 f2 E2 s2 => q c G2 H2 n2 f2 E2 (s1.trans s2)
    | false => exact q false G1 H1 n1 (f1.2 rfl) E1 s1
theorem gt_or (h : GT K Z tt δ n fun b n1 => (b = true → Φ true n1) ∧ (b = false → GT K Z tu δ n1 Φ)) : GT K Z (tOr tt tu) δ n Φ := fun B M G0 H0 xw G H σ E Q q =>
  h B M G0 H0 xw G H σ E _ fun b G1 H1 n1 f1 E1 s1 => by
    cases b with
    | true => exact q true G1 H1 n1 (f1.1 rfl) E1 s1
    | false =>
      show tu σ H1 Q
      exact f1.2 rfl B M G0 H0 xw G1 H1 σ E1 Q fun c G2 H2 n2 f2 E2 s2 => q c G2 H2 n2 f2 E2 (s1.trans s2)
theorem gt_yes (k : Φ true n) : GT K Z tYes δ n Φ := fun B M G0 H0 xw G H σ E Q q => q true G H n k E (Sub.refl G)
end
/-! operators on data -/
theorem rk_I0 {g : Int → Int → V} {i j : Int} (h : scl (g i j) = true) (k : Φ (ofV (g i j)) n) : RK K Z (rI0 g) (.int i) (.int j) δ n Φ := fun B M G0 H0 xw G H σ E v w a b Q q => by
  cases a
  cases b
  exact ⟨i, j, rfl, rfl, q _ _ G H n k E (Sub.refl G) (Is.scl h)⟩
theorem rk_I {C : Int → Int → Prop} {g : Int → Int → V} {i j : Int} (h : scl (g i j) = true) (hc : C i j) (k : Φ (ofV (g i j)) n) : RK K Z (rI C g) (.int i) (.int j) δ n Φ := fun B M G0 H0 xw G H σ E v w a b Q q => by
  cases a
  cases b
  exact ⟨i, j, rfl, rfl, hc, q _ _ G H n k E (Sub.refl G) (Is.scl h)⟩
theorem ru_U {g : Int → V} {i : Int} (h : scl (g i) = true) (k : Φ (ofV (g i)) n) : RU K Z (rU g) (.int i) δ n Φ := fun B M G0 H0 xw G H σ E v a Q q => by
  cases a
  exact ⟨i, rfl, q _ _ G H n k E (Sub.refl G) (Is.scl h)⟩
/-- a scalar's value -/
def toV : D → Option V
  | .non => some .non | .bl b => some (.bl b) | .int i => some (.int i) | .str x => some (.str x) | _ => none
theorem Is.val {G : Hp} {v u : V} {d : D} (a : Is K G v d) (h : toV d = some u) : v = u := by
  cases a <;> first | exact Option.some.inj h | (cases h)
theorem rk_eq {x y : D} {u w : V} (hx : toV x = some u) (hy : toV y = some w) (hs : scal u w = true) (k : Φ (.bl (decide (u = w))) n) : RK K Z rEq x y δ n Φ := fun B M G0 H0 xw G H σ E v v' a b Q q => by
  cases a.val hx
  cases b.val hy
  exact ⟨hs, q _ _ G H n k E (Sub.refl G) (.bl _)⟩
theorem rk_ne {x y : D} {u w : V} (hx : toV x = some u) (hy : toV y = some w) (hs : scal u w = true) (k : Φ (.bl (!decide (u = w))) n) : RK K Z rNe x y δ n Φ := fun B M G0 H0 xw G H σ E v v' a b Q q => by
  cases a.val hx
  cases b.val hy
  exact ⟨hs, q _ _ G H n k E (Sub.refl G) (.bl _)⟩
def isNonD : D → Bool
  | .non => true | _ => false
theorem Is.non_iff {G : Hp} {v : V} {d : D} (a : Is K G v d) : decide (v = .non) = isNonD d := by
  cases a <;> first | rfl | (simp [isNonD])
theorem rk_isN {x : D} (k : Φ (.bl (isNonD x)) n) : RK K Z (fun x y H Q => y = .non ∧ Q (.bl (decide (x = .non))) H) x .non δ n Φ := fun B M G0 H0 xw G H σ E v v' a b Q q => by
  cases b
  exact ⟨rfl, by rw [a.non_iff]; exact q _ _ G H n k E (Sub.refl G) (.bl _)⟩
theorem rk_notN {x : D} (k : Φ (.bl (!isNonD x)) n) : RK K Z (fun x y H Q => y = .non ∧ Q (.bl (!decide (x = .non))) H) x .non δ n Φ := fun B M G0 H0 xw G H σ E v v' a b Q q => by
  cases b
  exact ⟨rfl, by rw [a.non_iff]; exact q _ _ G H n k E (Sub.refl G) (.bl _)⟩
theorem rk_addS {x y : Str} (h : x.length + y.length ≤ sizeLine) (k : Φ (.str (x ++ y)) n) : RK K Z (fun x y H Q => ∃ i j, x = .str i ∧ y = .str j ∧ i.length + j.length ≤ sizeLine ∧ Q (.str (i ++ j)) H) (.str x) (.str y) δ n Φ := fun B M G0 H0 xw G H σ E v w a b Q q => by
  cases a
  cases b
  exact ⟨x, y, rfl, rfl, h, q _ _ G H n k E (Sub.refl G) (.str _)⟩
theorem rk_mulS {x : Str} {m : Int} (h1 : m < 2 ^ 30) (h2 : -(2 ^ 30) < m) (h : x.length * m.toNat ≤ sizeLine) (k : Φ (.str (mulS x m)) n) : RK K Z (fun x y H Q => ∃ (i : Str) (n : Int), x = .str i ∧ y = .int n ∧ n < 2 ^ 30 ∧ -(2 ^ 30) < n ∧ i.length * n.toNat ≤ sizeLine ∧ Q (.str (mulS i n)) H) (.str x) (.int m) δ n Φ := fun B M G0 H0 xw G H σ E v w a b Q q => by
  cases a
  cases b
  exact ⟨x, m, rfl, rfl, h1, h2, h, q _ _ G H n k E (Sub.refl G) (.str _)⟩
theorem rk_ltS {x y : Str} (k : Φ (.bl (decide (tl x < tl y))) n) : RK K Z (fun x y H Q => ∃ i j, x = .str i ∧ y = .str j ∧ Q (.bl (decide (i.cps.toList < j.cps.toList))) H) (.str x) (.str y) δ n Φ := fun B M G0 H0 xw G H σ E v w a b Q q => by
  cases a
  cases b
  exact ⟨x, y, rfl, rfl, q _ _ G H n k E (Sub.refl G) (.bl _)⟩
theorem rk_cat {xs ys : List D} (h : xs.length + ys.length ≤ 100000) (k : Φ (.lst (xs ++ ys)) n) : RK K Z rCat (.lst xs) (.lst ys) δ n Φ := fun B M G0 H0 xw G H σ E v w a b Q q => by
  cases a with
  | lst h1 a1 =>
    cases b with
    | lst h2 a2 =>
      refine ⟨_, _, _, _, rfl, rfl, E.sub _ _ h1, E.sub _ _ h2, by rw [a1.len, a2.len]; exact sz_ h, fun p hp => ?_⟩
      have s2 : ∀ o, Sub G (upd G p o) := fun o => Sub.new (E.sub.none hp)
      exact q _ _ _ _ n k (E.laid hp) (s2 _) (.lst upd_same ((a1.app a2).mono (s2 _)))
theorem IsAll.repF {G : Hp} {vs : List V} {ds : List D} (a : IsAll K G vs ds) : ∀ m : Nat, IsAll K G (List.replicate m vs).flatten (List.replicate m ds).flatten
  | 0 => .nil
  | m + 1 => by
    rw [List.replicate_succ, List.replicate_succ, List.flatten_cons, List.flatten_cons]
    exact a.app (IsAll.repF a m)
theorem rk_rep {xs : List D} {m : Int} (h1 : m < 2 ^ 30) (h2 : -(2 ^ 30) < m) (h : xs.length * m.toNat ≤ 100000) (k : Φ (.lst (List.replicate m.toNat xs).flatten) n) : RK K Z rRep (.lst xs) (.int m) δ n Φ := fun B M G0 H0 xw G H σ E v w a b Q q => by
  cases a with
  | lst h1' a1 =>
    cases b
    refine ⟨_, m, _, rfl, rfl, E.sub _ _ h1', by omega, by omega, by rw [a1.len]; exact sz_ h, fun p hp => ?_⟩
    have s2 : ∀ o, Sub G (upd G p o) := fun o => Sub.new (E.sub.none hp)
    exact q _ _ _ _ n k (E.laid hp) (s2 _) (.lst upd_same ((a1.repF _).mono (s2 _)))
theorem atI_lt {α : Type} {xs : List α} {i : Int} {v : α} (h : atI xs i = some v) : ∃ j : Nat, ixN xs.length i = some j ∧ xs[j]? = some v := by
  unfold atI at h
  cases e : ixN xs.length i with
  | none =>
    rw [e] at h
    cases h
  | some j =>
    rw [e] at h
    exact ⟨j, rfl, h⟩
theorem IsAll.atI {G : Hp} {vs : List V} {ds : List D} {i : Int} {d : D} (a : IsAll K G vs ds) (h : L2.atI ds i = some d) : ∃ v, L2.atI vs i = some v ∧ Is K G v d := by
  obtain ⟨j, e1, e2⟩ := atI_lt h
  obtain ⟨v, e3, e4⟩ := a.at e2
  refine ⟨v, ?_, e4⟩
  unfold L2.atI
  rw [a.len, e1]
  exact e3
theorem rk_ixL {xs : List D} {i : Int} {d : D} (h : L2.atI xs i = some d) (k : Φ d n) : RK K Z (rIxL K) (.lst xs) (.int i) δ n Φ := fun B M G0 H0 xw G H σ E v w a b Q q => by
  cases a with
  | lst h1 a1 =>
    cases b
    obtain ⟨v, e1, e2⟩ := a1.atI h
    exact ⟨_, _, i, v, rfl, rfl, SqL.of (E.sub _ _ h1), e1, q _ _ G H n k E (Sub.refl G) e2⟩
theorem rk_ixT {xs : List D} {i : Int} {d : D} (h : L2.atI xs i = some d) (k : Φ d n) : RK K Z (rIxT K) (.tup xs) (.int i) δ n Φ := fun B M G0 H0 xw G H σ E v w a b Q q => by
  cases a with
  | tup h1 a1 =>
    cases b
    obtain ⟨v, e1, e2⟩ := a1.atI h
    exact ⟨_, _, i, v, rfl, rfl, E.sub.seq h1, e1, q _ _ G H n k E (Sub.refl G) e2⟩
theorem rk_ixS {z : Str} {i : Int} {c : Nat} (hz : z.length ≤ 100000) (h : L2.atI (tl z) i = some c) (k : Φ (.str (S [c])) n) : RK K Z rIxS (.str z) (.int i) δ n Φ := fun B M G0 H0 xw G H σ E v w a b Q q => by
  cases a
  cases b
  exact ⟨z, i, c, rfl, rfl, sz_ hz, h, q _ _ G H n k E (Sub.refl G) (.str _)⟩
theorem rs_str {z : Str} {lo hi : Option Int} (hz : z.length ≤ 100000) (k : Φ (.str (cutS z lo hi)) n) : RS K Z rSlS (.str z) lo hi δ n Φ := fun B M G0 H0 xw G H σ E v a Q q => by
  cases a
  exact ⟨z, rfl, sz_ hz, q _ _ G H n k E (Sub.refl G) (.str _)⟩
def cutD (xs : List D) (lo hi : Option Int) : List D := (xs.drop (HT.sIx xs.length 0 lo)).take (HT.sIx xs.length xs.length hi - HT.sIx xs.length 0 lo)
theorem IsAll.cut {G : Hp} {vs : List V} {ds : List D} (a : IsAll K G vs ds) (lo hi : Option Int) : IsAll K G (cutV vs lo hi) (cutD ds lo hi) := by
  unfold cutV cutD
  rw [a.len]
  exact (a.drop _).take _
theorem rs_lst {xs : List D} {lo hi : Option Int} (k : Φ (.lst (cutD xs lo hi)) n) : RS K Z (rSlL K) (.lst xs) lo hi δ n Φ := fun B M G0 H0 xw G H σ E v a Q q => by
  cases a with
  | lst h1 a1 =>
    refine ⟨_, _, rfl, SqL.of (E.sub _ _ h1), fun p hp => ?_⟩
    have s2 : ∀ o, Sub G (upd G p o) := fun o => Sub.new (E.sub.none hp)
    exact q _ _ _ _ n k (E.laid hp) (s2 _) (.lst upd_same ((a1.cut lo hi).mono (s2 _)))
/-! built-ins on data -/
theorem rc_lenS {z : Str} (h : z.length ≤ 100000) (k : Φ (.int z.length) n) : RC K Z (fun xs H Q => ∃ z, xs = [.str z] ∧ z.length ≤ sizeLine ∧ Q (.int z.length) H) [.str z] δ n Φ := fun B M G0 H0 xw G H σ E vs a Q q => by
  cases a with
  | cons a r =>
    cases r
    cases a
    exact ⟨z, rfl, sz_ h, q _ _ G H n k E (Sub.refl G) (.int _)⟩
theorem rc_lenL {xs : List D} (k : Φ (.int xs.length) n) : RC K Z (fun xs H Q => ∃ p ys, xs = [.ref p] ∧ (SqL K H p ys ∨ SqT K H p ys) ∧ Q (.int ys.length) H) [.lst xs] δ n Φ := fun B M G0 H0 xw G H σ E vs a Q q => by
  cases a with
  | cons a r =>
    cases r
    cases a with
    | lst h1 a1 => exact ⟨_, _, rfl, .inl (SqL.of (E.sub _ _ h1)), by rw [a1.len]; exact q _ _ G H n k E (Sub.refl G) (.int _)⟩
theorem rc_lenT {xs : List D} (k : Φ (.int xs.length) n) : RC K Z (fun xs H Q => ∃ p ys, xs = [.ref p] ∧ (SqL K H p ys ∨ SqT K H p ys) ∧ Q (.int ys.length) H) [.tup xs] δ n Φ := fun B M G0 H0 xw G H σ E vs a Q q => by
  cases a with
  | cons a r =>
    cases r
    cases a with
    | tup h1 a1 => exact ⟨_, _, rfl, .inr (E.sub.seq h1), by rw [a1.len]; exact q _ _ G H n k E (Sub.refl G) (.int _)⟩
theorem rc_ord {c : Nat} (k : Φ (.int c) n) : RC K Z (fun xs H Q => ∃ x, xs = [.str x] ∧ x.length = 1 ∧ Q (.int (x.cps.getD 0 0 : Nat)) H) [.str (S [c])] δ n Φ := fun B M G0 H0 xw G H σ E vs a Q q => by
  cases a with
  | cons a r =>
    cases r
    cases a
    exact ⟨S [c], rfl, rfl, q _ _ G H n k E (Sub.refl G) (.int _)⟩
theorem rc_abs {i : Int} (k : Φ (.int (if i < 0 then -i else i)) n) : RC K Z (fun xs H Q => ∃ i, xs = [.int i] ∧ Q (.int (if i < 0 then -i else i)) H) [.int i] δ n Φ := fun B M G0 H0 xw G H σ E vs a Q q => by
  cases a with
  | cons a r =>
    cases r
    cases a
    exact ⟨i, rfl, q _ _ G H n k E (Sub.refl G) (.int _)⟩
theorem rc_int1 {i : Int} (k : Φ (.int i) n) : RC K Z (fun xs H Q => (∃ i, xs = [.int i] ∧ Q (.int i) H) ∨ ∃ k, xs = [.bl k] ∧ Q (.int (if k then 1 else 0)) H) [.int i] δ n Φ := fun B M G0 H0 xw G H σ E vs a Q q => by
  cases a with
  | cons a r =>
    cases r
    cases a
    exact .inl ⟨i, rfl, q _ _ G H n k E (Sub.refl G) (.int _)⟩
theorem rc_intB {b : Bool} (k : Φ (.int (if b then 1 else 0)) n) : RC K Z (fun xs H Q => (∃ i, xs = [.int i] ∧ Q (.int i) H) ∨ ∃ k, xs = [.bl k] ∧ Q (.int (if k then 1 else 0)) H) [.bl b] δ n Φ := fun B M G0 H0 xw G H σ E vs a Q q => by
  cases a with
  | cons a r =>
    cases r
    cases a
    exact .inr ⟨b, rfl, q _ _ G H n k E (Sub.refl G) (.int _)⟩
theorem rc_max2 {i j : Int} (k : Φ (.int (if j > i then j else i)) n) : RC K Z (fun xs H Q => ∃ i j, xs = [.int i, .int j] ∧ Q (.int (if j > i then j else i)) H) [.int i, .int j] δ n Φ := fun B M G0 H0 xw G H σ E vs a Q q => by
  cases a with
  | cons a r =>
    cases r with
    | cons b r =>
      cases r
      cases a
      cases b
      exact ⟨i, j, rfl, q _ _ G H n k E (Sub.refl G) (.int _)⟩
theorem rc_min2 {i j : Int} (k : Φ (.int (if j < i then j else i)) n) : RC K Z (fun xs H Q => ∃ i j, xs = [.int i, .int j] ∧ Q (.int (if j < i then j else i)) H) [.int i, .int j] δ n Φ := fun B M G0 H0 xw G H σ E vs a Q q => by
  cases a with
  | cons a r =>
    cases r with
    | cons b r =>
      cases r
      cases a
      cases b
      exact ⟨i, j, rfl, q _ _ G H n k E (Sub.refl G) (.int _)⟩
/-- ''.join(list of texts) -/
theorem ru_join {z : Str} {ys : List Str} (h : (ys.map (·.length)).sum + ys.length * z.length ≤ 16777216) (k : Φ (.str (Txt.join z ys)) n) :
    RU K Z (fun w H Q => (fun x xs H Q => ∃ a p, ∃ ys : List Str, x = .str a ∧ xs = [.ref p] ∧ (SqL K H p (ys.map V.str) ∨ SqT K H p (ys.map V.str)) ∧ (ys.map (·.length)).sum + ys.length * a.length ≤ 16777216 ∧ Q (.str (Txt.join a ys)) H) (V.str z) [w] H Q) (.lst (ys.map D.str)) δ n Φ := fun B M G0 H0 xw G H σ E v a Q q => by
  cases a with
  | @lst p xs _ h1 a1 =>
    have e : ∀ (ys : List Str) (xs : List V), IsAll K G xs (ys.map D.str) → xs = ys.map V.str := by
      intro ys
      induction ys with
      | nil => intro xs a; cases a; rfl
      | cons y r ih =>
        intro xs a
        cases a with
        | cons a b =>
          cases a
          rw [ih _ b]
          rfl
    have e := e ys xs a1
    subst e
    exact ⟨z, p, ys, rfl, rfl, .inl (SqL.of (E.sub _ _ h1)), h, q _ _ G H n k E (Sub.refl G) (.str _)⟩
theorem rc_listL {xs : List D} (k : Φ (.lst xs) n) : RC K Z (fun ws H Q => ∃ p ys, ws = [.ref p] ∧ (SqL K H p ys ∨ SqT K H p ys) ∧ ∀ l, H l = none → Q (.ref l) (upd H l (.lst ys))) [.lst xs] δ n Φ := fun B M G0 H0 xw G H σ E vs a Q q => by
  cases a with
  | cons a r =>
    cases r
    cases a with
    | lst h1 a1 =>
      refine ⟨_, _, rfl, .inl (SqL.of (E.sub _ _ h1)), fun p hp => ?_⟩
      have s2 : ∀ o, Sub G (upd G p o) := fun o => Sub.new (E.sub.none hp)
      exact q _ _ _ _ n k (E.laid hp) (s2 _) (.lst upd_same (a1.mono (s2 _)))
/-! statements -/
theorem gs_seq (h : GS K Z B ts δ n (fun δ' n' => GS K Z B tz δ' n' N R Bk Ct) R Bk Ct) : GS K Z B (tSeq ts tz) δ n N R Bk Ct := fun m0 G0 H0 xw G H σ E e hn hr hb hc =>
  h m0 G0 H0 xw G H σ { E with nx := tz E } e (fun σ' δ' G' H' n' q e' s' => q m0 G0 H0 xw G' H' σ' E e' (fun σ2 δ2 G2 H2 n2 x y z => hn σ2 δ2 G2 H2 n2 x y (s'.trans z)) hr (fun σ2 δ2 G2 H2 n2 x y z => hb σ2 δ2 G2 H2 n2 x y (s'.trans z)) (fun σ2 δ2 G2 H2 n2 x y z => hc σ2 δ2 G2 H2 n2 x y (s'.trans z))) hr hb hc
theorem gs_next (k : N δ n) : GS K Z B tNext δ n N R Bk Ct := fun m0 G0 H0 xw G H σ E e hn hr hb hc => hn σ δ G H n k e (Sub.refl G)
theorem gs_brk (k : Bk δ n) : GS K Z B tBreak δ n N R Bk Ct := fun m0 G0 H0 xw G H σ E e hn hr hb hc => hb σ δ G H n k e (Sub.refl G)
theorem gs_cont (k : Ct δ n) : GS K Z B tCont δ n N R Bk Ct := fun m0 G0 H0 xw G H σ E e hn hr hb hc => hc σ δ G H n k e (Sub.refl G)
theorem gs_asg {i : Nat} (h : GK K Z te δ n fun d n' => N (δ.set i (.d d)) n') : GS K Z B (tAsg te (gName i)) δ n N R Bk Ct := fun m0 G0 H0 xw G H σ E e hn hr hb hc =>
  h B (MOf B m0 H0) G0 H0 xw G H σ e _ fun v d G1 H1 n1 f1 E1 s1 a1 => hn _ _ G1 H1 n1 f1 (E1.set (s := .d d) ⟨v, rfl, a1⟩ fun _ z => nomatch z) s1
theorem gs_ret (h : GK K Z te δ n R) : GS K Z B (tRet te) δ n N R Bk Ct := fun m0 G0 H0 xw G H σ E e hn hr hb hc => h B (MOf B m0 H0) G0 H0 xw G H σ e _ fun v d G1 H1 n1 f1 E1 s1 a1 => hr v d G1 H1 n1 f1 E1.out a1
theorem gs_drop (h : GK K Z te δ n fun _ n' => N δ n') : GS K Z B (tDrop te) δ n N R Bk Ct := fun m0 G0 H0 xw G H σ E e hn hr hb hc => h B (MOf B m0 H0) G0 H0 xw G H σ e _ fun v d G1 H1 n1 f1 E1 s1 a1 => hn σ δ G1 H1 n1 f1 E1 s1
theorem gs_if (h : GT K Z tt δ n fun b n1 => (b = true → GS K Z B ts δ n1 N R Bk Ct) ∧ (b = false → GS K Z B tz δ n1 N R Bk Ct)) : GS K Z B (tIfS tt ts tz) δ n N R Bk Ct := fun m0 G0 H0 xw G H σ E e hn hr hb hc =>
  h B (MOf B m0 H0) G0 H0 xw G H σ e _ fun b G1 H1 n1 f1 E1 s1 => by
    cases b with
    | true =>
      show ts E σ H1
      exact f1.1 rfl m0 G0 H0 xw G1 H1 σ E E1 (fun σ2 δ2 G2 H2 n2 x y z => hn σ2 δ2 G2 H2 n2 x y (s1.trans z)) hr (fun σ2 δ2 G2 H2 n2 x y z => hb σ2 δ2 G2 H2 n2 x y (s1.trans z)) (fun σ2 δ2 G2 H2 n2 x y z => hc σ2 δ2 G2 H2 n2 x y (s1.trans z))
    | false =>
      show tz E σ H1
      exact f1.2 rfl m0 G0 H0 xw G1 H1 σ E E1 (fun σ2 δ2 G2 H2 n2 x y z => hn σ2 δ2 G2 H2 n2 x y (s1.trans z)) hr (fun σ2 δ2 G2 H2 n2 x y z => hb σ2 δ2 G2 H2 n2 x y (s1.trans z)) (fun σ2 δ2 G2 H2 n2 x y z => hc σ2 δ2 G2 H2 n2 x y (s1.trans z))
theorem gs_par {i j : Nat} (h : GA K Z aa δ n fun ds n' => ∃ x y, ds = [x, y] ∧ N ((δ.set i (.d x)).set j (.d y)) n') : GS K Z B (tPar i j aa) δ n N R Bk Ct := fun m0 G0 H0 xw G H σ E e hn hr hb hc =>
  h B (MOf B m0 H0) G0 H0 xw G H σ e _ fun vs ds G1 H1 n1 f1 E1 s1 a1 => by
    obtain ⟨x, y, rfl, f1⟩ := f1
    cases a1 with
    | cons ha r =>
      cases r with
      | cons hb' r =>
        cases r
        exact ⟨_, _, rfl, hn _ _ G1 H1 n1 f1 ((E1.set (s := .d x) ⟨_, rfl, ha⟩ fun _ z => nomatch z).set (s := .d y) ⟨_, rfl, hb'⟩ fun _ z => nomatch z) s1⟩
/-- x = [..]: a list of one's own -/
theorem gs_own {i : Nat} (h : GA K Z aa δ n fun ds n' => ds.length ≤ 100000 ∧ N (δ.set i (.own ds)) n') : GS K Z B (tAsg (tLst aa) (gName i)) δ n N R Bk Ct := fun m0 G0 H0 xw G H σ E e hn hr hb hc =>
  h B (MOf B m0 H0) G0 H0 xw G H σ e _ fun vs ds G1 H1 n1 f1 E1 s1 a1 => ⟨by rw [a1.len]; exact sz_ f1.1, fun p hp => hn _ _ G1 _ n1 f1.2 (E1.own hp a1) s1⟩
/-- x = list(y) -/
theorem gs_ownL {i : Nat} (h : GA K Z aa δ n fun ds n' => ∃ xs, ds = [.lst xs] ∧ N (δ.set i (.own xs)) n') : GS K Z B (tAsg (tCB (fun ws H Q => ∃ p ys, ws = [.ref p] ∧ (SqL K H p ys ∨ SqT K H p ys) ∧ ∀ l, H l = none → Q (.ref l) (upd H l (.lst ys))) aa) (gName i)) δ n N R Bk Ct := fun m0 G0 H0 xw G H σ E e hn hr hb hc =>
  h B (MOf B m0 H0) G0 H0 xw G H σ e _ fun vs ds G1 H1 n1 f1 E1 s1 a1 => by
    obtain ⟨xs, rfl, f1⟩ := f1
    cases a1 with
    | cons ha r =>
      cases r
      cases ha with
      | lst h1 a1 => exact ⟨_, _, rfl, .inl (SqL.of (E1.sub _ _ h1)), fun p hp => hn _ _ G1 _ n1 f1 (E1.own hp a1) s1⟩
/-- an owned list turns into one that stays -/
theorem gs_frz {i : Nat} {xs : List D} (hi : δ[i]? = some (.own xs)) (h : GS K Z B ts (δ.set i (.d (.lst xs))) n N R Bk Ct) : GS K Z B ts δ n N R Bk Ct := fun m0 G0 H0 xw G H σ E e hn hr hb hc => by
  obtain ⟨G', s, e'⟩ := e.frz hi
  exact h m0 G0 H0 xw G' H σ E e' (fun σ2 δ2 G2 H2 n2 x y z => hn σ2 δ2 G2 H2 n2 x y (s.trans z)) hr (fun σ2 δ2 G2 H2 n2 x y z => hb σ2 δ2 G2 H2 n2 x y (s.trans z)) (fun σ2 δ2 G2 H2 n2 x y z => hc σ2 δ2 G2 H2 n2 x y (s.trans z))
/-- x.append(e), x owned -/
theorem gs_app {i : Nat} {xs : List D} (hi : δ[i]? = some (.own xs)) (hl : xs.length < 100000) (h : GK K Z te δ n fun d n' => N (δ.set i (.own (xs ++ [d]))) n') : GS K Z B (tDrop (tBM K "list" rAppend (tVar i) (tCons te tNil))) δ n N R Bk Ct := fun m0 G0 H0 xw G H σ E e hn hr hb hc => by
  obtain ⟨p, vs, e1, e2, a, gp, h0⟩ := e.ownd hi
  refine ⟨_, e1, .inl ⟨rfl, _, SqL.of e2⟩, ?_⟩
  refine h B (MOf B m0 H0) G0 H0 xw G H σ e _ fun v d G1 H1 n1 f1 E1 s1 a1 => ?_
  obtain ⟨q, ws, g1, g2, b, _⟩ := E1.ownd hi
  rw [e1] at g1
  have g1 : p = q := by injection (Option.some.inj (Option.some.inj g1))
  subst g1
  exact ⟨p, ws, v, rfl, rfl, g2, by rw [b.len]; exact sz_lt hl, hn _ _ G1 _ n1 f1 (E1.chg hi e1 g2 (b.app (.cons a1 .nil))) s1⟩
/-- x[j] = e, x owned -/
theorem gs_setL {i : Nat} {xs : List D} (hi : δ[i]? = some (.own xs)) (h : GK K Z te δ n fun d n1 => GK K Z ta δ n1 fun y n2 => ∃ j : Nat, y = .int j ∧ j < xs.length ∧ N (δ.set i (.own (xs.set j d))) n2) : GS K Z B (tAsg te (gSub (tVar i) ta rSetL)) δ n N R Bk Ct := fun m0 G0 H0 xw G H σ E e hn hr hb hc => by
  refine h B (MOf B m0 H0) G0 H0 xw G H σ e _ fun v d G1 H1 n1 f1 E1 s1 a1 => ?_
  obtain ⟨p, vs, e1, e2, a, gp, h0⟩ := E1.ownd hi
  refine ⟨_, e1, ?_⟩
  refine f1 B (MOf B m0 H0) G0 H0 xw G1 H1 σ E1 _ fun w y G2 H2 n2 f2 E2 s2 a2 => ?_
  obtain ⟨j, rfl, hj, f2⟩ := f2
  obtain ⟨q, ws, g1, g2, b, _⟩ := E2.ownd hi
  rw [e1] at g1
  have g1 : p = q := by injection (Option.some.inj (Option.some.inj g1))
  subst g1
  cases a2
  refine ⟨p, ws, (j : Int), j, rfl, rfl, g2, ?_, hn _ _ G2 _ n2 f2 (E2.chg hi e1 g2 (b.set (a1.mono s2) j)) (s1.trans s2)⟩
  unfold ixN
  rw [if_pos (by omega), if_pos (by rw [b.len]; omega)]
  rfl
/-- x[i], len(x), x owned -/
theorem gk_ownIx {i : Nat} {xs : List D} (hi : δ[i]? = some (.own xs)) (h : GK K Z ta δ n fun y n1 => ∃ j d, y = .int j ∧ L2.atI xs j = some d ∧ Φ d n1) : GK K Z (tOp (rIxL K) (tVar i) ta) δ n Φ := fun B M G0 H0 xw G H σ E Q q => by
  obtain ⟨p, vs, e1, e2, a, gp, h0⟩ := E.ownd hi
  refine ⟨_, e1, ?_⟩
  refine h B M G0 H0 xw G H σ E _ fun w y G2 H2 n2 f2 E2 s2 a2 => ?_
  obtain ⟨j, d, rfl, hj, f2⟩ := f2
  obtain ⟨r, ws, g1, g2, b, _⟩ := E2.ownd hi
  rw [e1] at g1
  have g1 : p = r := by injection (Option.some.inj (Option.some.inj g1))
  subst g1
  cases a2
  obtain ⟨v, w1, w2⟩ := b.atI hj
  exact ⟨p, ws, j, v, rfl, rfl, SqL.of g2, w1, q v d G2 H2 n2 f2 E2 s2 w2⟩
theorem gk_ownLen {i : Nat} {xs : List D} (hi : δ[i]? = some (.own xs)) (k : Φ (.int xs.length) n) : GK K Z (tCB (fun xs H Q => ∃ p ys, xs = [.ref p] ∧ (SqL K H p ys ∨ SqT K H p ys) ∧ Q (.int ys.length) H) (tCons (tVar i) tNil)) δ n Φ := fun B M G0 H0 xw G H σ E Q q => by
  obtain ⟨p, vs, e1, e2, a, gp, h0⟩ := E.ownd hi
  exact ⟨_, e1, p, vs, rfl, .inl (SqL.of e2), by rw [a.len]; exact q _ _ G H n k E (Sub.refl G) (.int _)⟩
end
end Tl

namespace Tl
open PySem L2 TL LamX
/-! ### a def by its body -/
def startD (N : List Str) (ds : List D) : List Slot := ds.map Slot.d ++ List.replicate (N.length - ds.length) .un
def startG (N : List Str) (ds : List D) : List Slot := .bag :: (ds.map Slot.d ++ List.replicate (N.length - (ds.length + 1)) .un)
/-- the store's things stand apart -/
def MobOk (K : PySem.W.Frag) (B : Option Addr) (n : Sto) (G H : Hp) : Prop := ∀ a o, n.μ a = some o → MOk K G H a o ∧ G a = none ∧ B ≠ some a
section
variable [Tabl] {K : PySem.W.Frag}
theorem slots_app {B : Option Addr} {M : Addr → Prop} {G H : Hp} {vs : List V} {ds : List D} (a : IsAll K G vs ds) (m : Nat) (i : Nat) (s : Slot) (h : (ds.map Slot.d ++ List.replicate m .un)[i]? = some s) :
    SlotOk K B M G H ((vs.map some ++ List.replicate m none)[i]?.getD none) s ∧ ∀ x, s ≠ .ow x := by
  by_cases hi : i < ds.length
  · rw [List.getElem?_append_left (by rw [List.length_map]; exact hi), List.getElem?_map] at h
    obtain ⟨d, hd, rfl⟩ := Option.map_eq_some_iff.mp h
    obtain ⟨v, hv, iv⟩ := a.at hd
    rw [List.getElem?_append_left (by rw [List.length_map, a.len]; exact hi), List.getElem?_map, hv]
    exact ⟨⟨v, rfl, iv⟩, fun _ z => nomatch z⟩
  · rw [List.getElem?_append_right (by rw [List.length_map]; omega)] at h
    have := List.mem_of_getElem? h
    rw [List.mem_replicate] at this
    rw [this.2]
    exact ⟨True.intro, fun _ z => nomatch z⟩
theorem En.start {G H : Hp} {vs : List V} {ds : List D} {N : List Str} {n : Sto} (mb : MobOk K none n G H) (tb : Tabs Tabl.T H) (gn : ∀ b ps, G b ≠ some (.tbl ps)) (s : Sub G H) (a : IsAll K G vs ds) : En K none (MOf none n.μ H) n G H G H (L2.start N vs) (startD N ds) where
  sub0 := Sub.refl G
  sub := s
  same := fun b o e _ => e
  free := fun b hb => .inl hb
  fresh := fun b _ g => g
  bagged := fun p z => nomatch z
  tabs := tb
  gnt := gn
  tin := fun b ps h => .inr (.inr (.inl ⟨ps, h⟩))
  mob := fun a o h => ⟨(mb a o h).1, (mb a o h).2.1, .inr (.inr (.inr (not_none h))), (mb a o h).2.2⟩
  len := by
    unfold L2.start startD
    rw [List.length_append, List.length_append, List.length_map, List.length_map, List.length_replicate, List.length_replicate, a.len]
  slot := fun i t ht => by
    unfold L2.start
    rw [a.len]
    exact (slots_app a _ i t ht).1
  dis := fun i j p xs ys hi hj si sj => absurd rfl ((slots_app (B := none) (M := MOf none n.μ H) (H := H) a _ i _ hi).2 xs)
  mow := fun i x b hi _ => absurd rfl ((slots_app (B := none) (M := MOf none n.μ H) (H := H) a _ i _ hi).2 x)
theorem En.startB {G H : Hp} {p : Addr} {n : Sto} {vs : List V} {ds : List D} {N : List Str} (mb : MobOk K (some p) n G H) (tb : Tabs Tabl.T H) (gn : ∀ b ps, G b ≠ some (.tbl ps)) (s : Sub G H) (gp : G p = none) (bg : Bag H p n.n) (a : IsAll K G vs ds) : En K (some p) (MOf (some p) n.μ H) n G H G H (L2.start N (.ref p :: vs)) (startG N ds) where
  sub0 := Sub.refl G
  sub := s
  same := fun b o e _ => e
  free := fun b hb => .inl hb
  fresh := fun b _ g => g
  bagged := fun q z => by
    cases z
    exact ⟨bg, gp, .inr (.inl rfl)⟩
  tabs := tb
  gnt := gn
  tin := fun b ps h => .inr (.inr (.inl ⟨ps, h⟩))
  mob := fun a o h => ⟨(mb a o h).1, (mb a o h).2.1, .inr (.inr (.inr (not_none h))), (mb a o h).2.2⟩
  len := by
    unfold L2.start startG
    simp only [List.length_append, List.length_map, List.length_replicate, List.length_cons, a.len]
    omega
  slot := fun i t ht => by
    unfold L2.start
    rw [List.length_cons, a.len]
    unfold startG at ht
    cases i with
    | zero =>
      cases ht
      exact ⟨p, rfl, rfl⟩
    | succ i => exact (slots_app a _ i t ht).1
  dis := fun i j q xs ys hi hj si sj => by
    unfold startG at hi
    cases i with
    | zero => cases hi
    | succ i => exact absurd rfl ((slots_app (B := none) (M := MOf none n.μ H) (H := H) a _ i _ hi).2 xs)
  mow := fun i x b hi _ => by
    unfold startG at hi
    cases i with
    | zero => cases hi
    | succ i => exact absurd rfl ((slots_app (B := none) (M := MOf none n.μ H) (H := H) a _ i _ hi).2 x)
end
/-! ### targets and iterators over data -/
def SameOff (vs : List Nat) (σ' σ : L2.St) : Prop := σ'.length = σ.length ∧ ∀ i, i ∉ vs → σ'[i]? = σ[i]?
/-- putting x into a target: the slots δ become δ' -/
def GG [Tabl] (K : PySem.W.Frag) (g : TG) (x : D) (δ δ' : List Slot) (vs : List Nat) : Prop :=
  ∀ (B : Option Addr) (M : Addr → Prop) (n : Sto) (G0 H0 G H : Hp) (σ : L2.St), En K B M n G0 H0 G H σ δ → ∀ v, Is K G v x → ∀ Q : L2.St → Hp → Prop, (∀ σ', En K B M n G0 H0 G H σ' δ' → SameOff vs σ' σ → Q σ' H) → g v σ H Q
def GGs [Tabl] (K : PySem.W.Frag) (g : TGs) (xs : List D) (δ δ' : List Slot) (vs : List Nat) : Prop :=
  ∀ (B : Option Addr) (M : Addr → Prop) (n : Sto) (G0 H0 G H : Hp) (σ : L2.St), En K B M n G0 H0 G H σ δ → ∀ us, IsAll K G us xs → ∀ Q : L2.St → Hp → Prop, (∀ σ', En K B M n G0 H0 G H σ' δ' → SameOff vs σ' σ → Q σ' H) → g us σ H Q
/-- the iterator gives the data xs, one by one -/
def IterD (K : PySem.W.Frag) (J : It) (G : Hp) (xs : List D) : Prop :=
  ∀ G' H', Sub G G' → Sub G' H' → ∀ i, (i = xs.length → J.stop i H') ∧ ∀ x, xs[i]? = some x → J.go i H' ∧ ∀ v H'', J.yld i H' v H'' → (H'' = H' ∧ Is K G' v x) ∨ ∃ p o, H' p = none ∧ H'' = upd H' p o ∧ (∀ ps, o ≠ .tbl ps) ∧ Is K (upd G' p o) v x
def GI [Tabl] (K : PySem.W.Frag) (Z : XZ) (wi : TI) (δ : List Slot) (n : Sto) (Ψ : List D → Sto → Prop) : Prop :=
  ∀ (B : Option Addr) (M : Addr → Prop) (G0 H0 : Hp), WOk K Z B M G0 H0 → ∀ (G H : Hp) (σ : L2.St), En K B M n G0 H0 G H σ δ → ∀ R : It → Hp → Prop, (∀ J xs G' H' n', Ψ xs n' → En K B M n' G0 H0 G' H' σ δ → Sub G G' → IterD K J G' xs → R J H') → wi σ H R
def wipeD (δ : List Slot) : List Nat → List Slot
  | [] => δ
  | v :: vs => (wipeD δ vs).set v .un
section
variable [Tabl] {K : PySem.W.Frag} {Z : XZ} {δ : List Slot} {n : Sto} {te : TE} {aa : TA}
theorem SameOff.refl {vs : List Nat} {σ : L2.St} : SameOff vs σ σ := ⟨rfl, fun _ _ => rfl⟩
theorem SameOff.set {vs : List Nat} {σ : L2.St} {j : Nat} {o : Option V} (h : j ∈ vs) : SameOff vs (σ.set j o) σ := ⟨by rw [List.length_set], fun i hi => by
  rw [List.getElem?_set_ne]
  intro z
  subst z
  exact hi h⟩
theorem SameOff.trans {vs : List Nat} {σ σ' σ2 : L2.St} (a : SameOff vs σ2 σ') (b : SameOff vs σ' σ) : SameOff vs σ2 σ := ⟨a.1.trans b.1, fun i hi => (a.2 i hi).trans (b.2 i hi)⟩
theorem wipe_at {σ : L2.St} {vs : List Nat} {i : Nat} (h : i ∉ vs) : (wipe σ vs)[i]? = σ[i]? := by
  induction vs with
  | nil => rfl
  | cons v vs ih =>
    unfold wipe
    rw [List.getElem?_set_ne (fun z => h (by rw [z]; exact List.mem_cons_self))]
    exact ih fun z => h (List.mem_cons_of_mem _ z)
theorem wipe_in {σ : L2.St} {vs : List Nat} {i : Nat} (h : i ∈ vs) (hi : i < σ.length) : (wipe σ vs)[i]? = some none := by
  induction vs with
  | nil => cases h
  | cons v vs ih =>
    unfold wipe
    by_cases z : v = i
    · subst z
      rw [List.getElem?_set_self (by rw [wipe_length]; exact hi)]
    · rw [List.getElem?_set_ne z]
      rcases List.mem_cons.mp h with y | y
      · exact absurd y.symm z
      · exact ih y
theorem SameOff.wipe {vs : List Nat} {σ' σ : L2.St} (h : SameOff vs σ' σ) : L2.wipe σ' vs = L2.wipe σ vs := by
  apply List.ext_getElem?
  intro i
  by_cases hi : i ∈ vs
  · by_cases hl : i < σ.length
    · rw [wipe_in hi hl, wipe_in hi (by rw [h.1]; exact hl)]
    · rw [List.getElem?_eq_none (by rw [wipe_length, h.1]; omega), List.getElem?_eq_none (by rw [wipe_length]; omega)]
  · rw [wipe_at hi, wipe_at hi]
    exact h.2 i hi
theorem SameOff.off {vs : List Nat} {σ : L2.St} : SameOff vs (L2.wipe σ vs) σ := ⟨wipe_length σ vs, fun _ hi => wipe_at hi⟩
theorem En.wipe {B : Option Addr} {M : Addr → Prop} {G0 H0 G H : Hp} {σ : L2.St} (E : En K B M n G0 H0 G H σ δ) : ∀ vs : List Nat, En K B M n G0 H0 G H (L2.wipe σ vs) (wipeD δ vs)
  | [] => E
  | v :: vs => (En.wipe E vs).set (i := v) (s := .un) (o := none) True.intro fun _ z => nomatch z
theorem gg_name {j : Nat} {x : D} {vs : List Nat} (h : j ∈ vs) : GG K (gName j) x δ (δ.set j (.d x)) vs := fun B M n G0 H0 G H σ E v a Q q => q _ (E.set (s := .d x) ⟨v, rfl, a⟩ fun _ z => nomatch z) (.set h)
theorem ggs_nil {vs : List Nat} : GGs K gNil [] δ δ vs := fun B M n G0 H0 G H σ E us a Q q => by
  cases a
  exact ⟨rfl, q σ E .refl⟩
theorem ggs_cons {g : TG} {gs : TGs} {x : D} {xs : List D} {δ1 δ2 : List Slot} {vs : List Nat} (h : GG K g x δ δ1 vs) (h2 : GGs K gs xs δ1 δ2 vs) : GGs K (gCons g gs) (x :: xs) δ δ2 vs := fun B M n G0 H0 G H σ E us a Q q => by
  cases a with
  | cons a r => exact ⟨_, _, rfl, h B M n G0 H0 G H σ E _ a _ fun σ1 E1 s1 => h2 B M n G0 H0 G H σ1 E1 _ r _ fun σ2 E2 s2 => q σ2 E2 (s2.trans s1)⟩
theorem gg_tup {m : Nat} {gs : TGs} {xs : List D} {δ1 : List Slot} {vs : List Nat} (hm : xs.length = m) (h : GGs K gs xs δ δ1 vs) : GG K (gTup K m gs) (.tup xs) δ δ1 vs := fun B M n G0 H0 G H σ E v a Q q => by
  cases a with
  | tup h1 a1 => exact ⟨_, _, rfl, E.sub.seq h1, (a1.len).trans hm, h B M n G0 H0 G H σ E _ a1 Q q⟩
/-! the iterators -/
theorem gi_list {Ψ : List D → Sto → Prop} (h : GK K Z te δ n fun d n1 => ∃ xs, d = .lst xs ∧ Ψ xs n1) : GI K Z (iList K te) δ n Ψ := fun B M G0 H0 xw G H σ E R r =>
  h B M G0 H0 xw G H σ E _ fun v d G1 H1 n1 f1 E1 s1 a1 => by
    obtain ⟨xs, rfl, f1⟩ := f1
    cases a1 with
    | @lst p vs _ h1 a1 =>
      refine ⟨p, rfl, ⟨vs, SqL.of (E1.sub _ _ h1)⟩, r _ xs G1 H1 n1 f1 E1 s1 fun G' H' s2 s3 i => ⟨fun hi => ⟨vs, SqL.of (s3 _ _ (s2 _ _ h1)), by rw [a1.len, hi]; exact Nat.le_refl _⟩, fun x hx => ?_⟩⟩
      obtain ⟨u, hu, iu⟩ := a1.at hx
      refine ⟨⟨vs, u, SqL.of (s3 _ _ (s2 _ _ h1)), hu⟩, fun v H'' y => .inl ⟨y.1, ?_⟩⟩
      have := y.2 vs (SqL.of (s3 _ _ (s2 _ _ h1)))
      rw [hu] at this
      cases this
      exact iu.mono s2
theorem gi_tup {Ψ : List D → Sto → Prop} (h : GK K Z te δ n fun d n1 => ∃ xs, d = .tup xs ∧ Ψ xs n1) : GI K Z (iTup K te) δ n Ψ := fun B M G0 H0 xw G H σ E R r =>
  h B M G0 H0 xw G H σ E _ fun v d G1 H1 n1 f1 E1 s1 a1 => by
    obtain ⟨xs, rfl, f1⟩ := f1
    cases a1 with
    | @tup p vs _ h1 a1 =>
      refine ⟨p, rfl, ⟨vs, E1.sub.seq h1⟩, r _ xs G1 H1 n1 f1 E1 s1 fun G' H' s2 s3 i => ⟨fun hi => ⟨vs, s3.seq (s2.seq h1), by rw [a1.len, hi]; exact Nat.le_refl _⟩, fun x hx => ?_⟩⟩
      obtain ⟨u, hu, iu⟩ := a1.at hx
      refine ⟨⟨vs, u, s3.seq (s2.seq h1), hu⟩, fun v H'' y => .inl ⟨y.1, ?_⟩⟩
      have := y.2 vs (s3.seq (s2.seq h1))
      rw [hu] at this
      cases this
      exact iu.mono s2
def charsD (z : Str) : List D := (tl z).map fun c => D.str (S [c])
theorem gi_str {Ψ : List D → Sto → Prop} (h : GK K Z te δ n fun d n1 => ∃ z, d = .str z ∧ Ψ (charsD z) n1) : GI K Z (iStr te) δ n Ψ := fun B M G0 H0 xw G H σ E R r =>
  h B M G0 H0 xw G H σ E _ fun v d G1 H1 n1 f1 E1 s1 a1 => by
    obtain ⟨z, rfl, f1⟩ := f1
    cases a1
    have hl : (charsD z).length = z.cps.size := by
      unfold charsD
      rw [List.length_map]
      exact Array.length_toList
    refine ⟨z, rfl, r _ _ G1 H1 n1 f1 E1 s1 fun G' H' s2 s3 i => ⟨fun hi => ?_, fun x hx => ?_⟩⟩
    · show z.cps.size ≤ i
      omega
    · have hi : i < z.cps.size := hl ▸ (List.getElem?_eq_some_iff.mp hx).1
      refine ⟨hi, fun v H'' y => .inl ⟨y.1, ?_⟩⟩
      obtain ⟨c, hc, rfl⟩ := y.2
      unfold charsD at hx
      rw [List.getElem?_map] at hx
      have e : (tl z)[i]? = some c := by
        show z.cps.toList[i]? = some c
        rw [Array.getElem?_toList]
        exact hc
      rw [e] at hx
      cases hx
      exact .str _
def rangeD (lo : Int) (m : Nat) : List D := (List.range m).map fun i : Nat => D.int (lo + i)
theorem rangeD_at {lo : Int} {m i : Nat} {x : D} (h : (rangeD lo m)[i]? = some x) : i < m ∧ x = .int (lo + i) := by
  unfold rangeD at h
  rw [List.getElem?_map] at h
  by_cases hi : i < m
  · rw [List.getElem?_range hi] at h
    cases h
    exact ⟨hi, rfl⟩
  · rw [List.getElem?_eq_none (by rw [List.length_range]; omega)] at h
    cases h
theorem rangeD_len {lo : Int} {m : Nat} : (rangeD lo m).length = m := by
  unfold rangeD
  rw [List.length_map, List.length_range]
theorem iter_rng {G : Hp} {lo : Int} {m : Nat} : IterD K (Itr lo m) G (rangeD lo m) := fun G' H' s2 s3 i => ⟨fun hi => by
    rw [rangeD_len] at hi
    exact Nat.le_of_eq hi.symm, fun x hx => by
    obtain ⟨h1, rfl⟩ := rangeD_at hx
    refine ⟨h1, fun v H'' y => .inl ⟨y.1, ?_⟩⟩
    rw [y.2]
    exact .int _⟩
theorem gi_rng1 {Ψ : List D → Sto → Prop} (h : GA K Z aa δ n fun ds n1 => ∃ m : Int, ds = [.int m] ∧ -(2 ^ 62) ≤ m ∧ m < 2 ^ 62 ∧ Ψ (rangeD 0 m.toNat) n1) : GI K Z (iRng1 aa) δ n Ψ := fun B M G0 H0 xw G H σ E R r =>
  h B M G0 H0 xw G H σ E _ fun vs ds G1 H1 n1 f1 E1 s1 a1 => by
    obtain ⟨m, rfl, h1, h2, f1⟩ := f1
    cases a1 with
    | cons a b =>
      cases b
      cases a
      exact ⟨m, rfl, h1, h2, r _ _ G1 H1 n1 f1 E1 s1 iter_rng⟩
theorem gi_rng2 {Ψ : List D → Sto → Prop} (h : GA K Z aa δ n fun ds n1 => ∃ a b : Int, ds = [.int a, .int b] ∧ (-(2 ^ 62) ≤ a ∧ a < 2 ^ 62 ∧ -(2 ^ 62) ≤ b ∧ b < 2 ^ 62) ∧ Ψ (rangeD a (b - a).toNat) n1) : GI K Z (iRng2 aa) δ n Ψ := fun B M G0 H0 xw G H σ E R r =>
  h B M G0 H0 xw G H σ E _ fun vs ds G1 H1 n1 f1 E1 s1 a1 => by
    obtain ⟨i, j, rfl, h1, f1⟩ := f1
    cases a1 with
    | cons a b =>
      cases b with
      | cons b c =>
        cases c
        cases a
        cases b
        exact ⟨i, j, rfl, h1, r _ _ G1 H1 n1 f1 E1 s1 iter_rng⟩
def enumD (xs : List D) : List D := xs.mapIdx fun i x => D.tup [.int (i : Nat), x]
theorem gi_enum {Ψ : List D → Sto → Prop} (h : GA K Z aa δ n fun ds n1 => ∃ xs, ds = [.lst xs] ∧ Ψ (enumD xs) n1) : GI K Z (iEnum K aa) δ n Ψ := fun B M G0 H0 xw G H σ E R r =>
  h B M G0 H0 xw G H σ E _ fun vs ds G1 H1 n1 f1 E1 s1 a1 => by
    obtain ⟨xs, rfl, f1⟩ := f1
    cases a1 with
    | cons a b =>
      cases b
      cases a with
      | @lst p vs _ h1 a1 =>
        refine ⟨p, vs, rfl, SqL.of (E1.sub _ _ h1), r _ _ G1 H1 n1 f1 E1 s1 fun G' H' s2 s3 i => ⟨fun hi => ⟨vs, SqL.of (s3 _ _ (s2 _ _ h1)), ?_⟩, fun x hx => ?_⟩⟩
        · unfold enumD at hi
          rw [List.length_mapIdx] at hi
          rw [a1.len, hi]
          exact Nat.le_refl _
        · unfold enumD at hx
          rw [List.getElem?_mapIdx] at hx
          obtain ⟨d, hd, rfl⟩ := Option.map_eq_some_iff.mp hx
          obtain ⟨u, hu, iu⟩ := a1.at hd
          refine ⟨⟨vs, u, SqL.of (s3 _ _ (s2 _ _ h1)), hu⟩, fun v H'' y => .inr ?_⟩
          obtain ⟨T, u', rfl, y1, y2, y3⟩ := y
          have := y3 vs (SqL.of (s3 _ _ (s2 _ _ h1)))
          rw [hu] at this
          cases this
          have sn := Sub.new (o := .tup [.int (i : Nat), u]) (s3.none y1)
          exact ⟨T, _, y1, y2, (fun _ z => nomatch z), .tup (SqT.of upd_same) (.cons (.int _) (.cons ((iu.mono s2).mono sn) .nil))⟩
end
/-! ### loops -/
section
variable [Tabl] {K : PySem.W.Frag} {Z : XZ} {B : Option Addr} {δ : List Slot} {n : Sto} {Φ : D → Sto → Prop} {N Bk Ct : List Slot → Sto → Prop} {R : D → Sto → Prop} {tb : TS} {wi : TI} {g : TG}
theorem En.yld {B : Option Addr} {M : Addr → Prop} {G0 H0 G H H' : Hp} {σ : L2.St} {v : V} {x : D} (E : En K B M n G0 H0 G H σ δ) (y : (H' = H ∧ Is K G v x) ∨ ∃ p o, H p = none ∧ H' = upd H p o ∧ (∀ ps, o ≠ .tbl ps) ∧ Is K (upd G p o) v x) :
    ∃ G', Sub G G' ∧ En K B M n G0 H0 G' H' σ δ ∧ Is K G' v x ∧ ∀ c, H c ≠ none → H' c = H c ∧ G' c = G c := by
  rcases y with ⟨rfl, a⟩ | ⟨p, o, hp, rfl, ho, a⟩
  · exact ⟨G, Sub.refl G, E, a, fun c _ => ⟨rfl, rfl⟩⟩
  · refine ⟨_, Sub.new (E.sub.none hp), E.laid hp ho, a, fun c hc => ?_⟩
    have : c ≠ p := fun z => hc (by rw [z]; exact hp)
    exact ⟨upd_ne this, upd_ne this⟩
/-- a cell beside the slots becomes one that stays -/
theorem En.settle {B : Option Addr} {M : Addr → Prop} {G0 H0 G H : Hp} {σ : L2.St} {c : Addr} {o : HO} (E : En K B M n G0 H0 G H σ δ) (hc : H c = some o) (gc : G c = none) (mc : M c) (nb : B ≠ some c) (nm : n.μ c = none) (oc : ∀ (i : Nat) (x : MO), δ[i]? = some (.ow x) → σ[i]? ≠ some (some (.ref c))) (no : ∀ ps, o ≠ .tbl ps := by intro _ z; cases z) : En K B M n G0 H0 (upd G c o) H σ δ where
  sub0 := E.sub0.trans (Sub.new gc)
  sub := fun b u e => by
    by_cases hb : b = c
    · subst hb
      rw [upd_same] at e
      cases e
      exact hc
    · rw [upd_ne hb] at e
      exact E.sub b u e
  same := E.same
  free := E.free
  fresh := fun b nm g0 => by
    rw [upd_ne (ne_M mc nm)]
    exact E.fresh b nm g0
  bagged := fun p hp => by
    obtain ⟨b1, b2, b3⟩ := E.bagged p hp
    exact ⟨b1, by rw [upd_ne fun z => nb (by rw [← z]; exact hp)]; exact b2, b3⟩
  tabs := E.tabs
  tin := E.tin
  gnt := gnt_upd E.gnt no
  len := E.len
  slot := fun i s hs => by
    have h := E.slot i s hs
    cases s with
    | un => trivial
    | d x =>
      obtain ⟨v, e, a⟩ := h
      exact ⟨v, e, a.mono (Sub.new gc)⟩
    | ow x =>
      obtain ⟨p, e, hp, gp, r⟩ := h
      exact ⟨p, e, hp.mono (Sub.new gc) rfl, by rw [upd_ne fun (z : p = c) => oc i x hs (by rw [← z]; exact look_some e)]; exact gp, r⟩
    | raw v => exact h
    | bag => exact h
    | scr ns => exact ⟨_, h.choose_spec.1, (Sub.new gc).seqL h.choose_spec.2⟩
    | exn a d fs => exact ⟨h.1, h.2.mono (Sub.new gc)⟩
  dis := E.dis
  mob := fun a u h => by
    obtain ⟨h1, h2, h3⟩ := E.mob a u h
    exact ⟨h1.mono (Sub.new gc) rfl, by rw [upd_ne fun z => by rw [z, nm] at h; cases h]; exact h2, h3⟩
  mow := E.mow
theorem gs_for (h : GI K Z wi δ n fun xs n1 => ∃ Iv : Nat → List Slot → Sto → Prop, Iv 0 δ n1 ∧ (∀ i x δ' n', xs[i]? = some x → Iv i δ' n' → ∃ δ2 vs, GG K g x δ' δ2 vs ∧ GS K Z B tb δ2 n' (Iv (i + 1)) R N (Iv (i + 1))) ∧ ∀ δ' n', Iv xs.length δ' n' → N δ' n') :
    GS K Z B (tFor wi g tb) δ n N R Bk Ct := fun m0 G0 H0 xw G H σ E e hn hr hb hc =>
  h B (MOf B m0 H0) G0 H0 xw G H σ e _ fun J xs G1 H1 n1 f1 E1 s1 a1 => by
    obtain ⟨Iv, h0, hs, hd⟩ := f1
    refine ⟨fun i m σ' H' => m = xs.length - i ∧ i ≤ xs.length ∧ ∃ δ' n' G', Iv i δ' n' ∧ En K B (MOf B m0 H0) n' G0 H0 G' H' σ' δ' ∧ Sub G1 G', ⟨xs.length, by simp, Nat.zero_le _, δ, n1, G1, h0, E1, Sub.refl G1⟩, ?_⟩
    rintro i m σ' H' ⟨rfl, hi, δ', n', G', iv, e', s'⟩
    obtain ⟨j1, j2⟩ := a1 G' H' s' e'.sub i
    by_cases hlt : i < xs.length
    · obtain ⟨x, hx⟩ : ∃ x, xs[i]? = some x := ⟨xs[i], by simp [hlt]⟩
      obtain ⟨jg, jy⟩ := j2 x hx
      refine .inr ⟨jg, fun σ' H' => ∃ δ' n' G', Iv (i + 1) δ' n' ∧ En K B (MOf B m0 H0) n' G0 H0 G' H' σ' δ' ∧ Sub G1 G', fun σ2 H2 q => ⟨xs.length - (i + 1), by omega, rfl, hlt, q⟩, fun v H'' y => ?_⟩
      obtain ⟨G2, s2, e2, a2, _⟩ := e'.yld (jy v H'' y)
      obtain ⟨δ2, vs, gg, hb⟩ := hs i x δ' n' hx iv
      refine gg B _ n' G0 H0 G2 H'' σ' e2 v a2 _ fun σ3 e3 _ => ?_
      exact hb m0 G0 H0 xw G2 H'' σ3 _ e3 (fun σ4 δ4 G4 H4 n4 q e4 s4 => ⟨δ4, n4, G4, q, e4, (s'.trans s2).trans s4⟩) hr (fun σ4 δ4 G4 H4 n4 q e4 s4 => hn σ4 δ4 G4 H4 n4 q e4 ((s1.trans (s'.trans s2)).trans s4)) (fun σ4 δ4 G4 H4 n4 q e4 s4 => ⟨δ4, n4, G4, q, e4, (s'.trans s2).trans s4⟩)
    · have ei : i = xs.length := by omega
      subst ei
      exact .inl ⟨j1 rfl, hn σ' δ' G' H' n' (hd δ' n' iv) e' (s1.trans s')⟩
theorem gs_while {tc : TT} (Iv : Nat → List Slot → Sto → Prop) (mm : Nat) (h0 : Iv mm δ n)
    (hs : ∀ m δ' n', Iv m δ' n' → GT K Z tc δ' n' fun b n1 => (b = true → GS K Z B tb δ' n1 (fun δ2 n2 => ∃ m', m' < m ∧ Iv m' δ2 n2) R N (fun δ2 n2 => ∃ m', m' < m ∧ Iv m' δ2 n2)) ∧ (b = false → N δ' n1)) : GS K Z B (tWhile tc tb) δ n N R Bk Ct := fun m0 G0 H0 xw G H σ E e hn hr hb hc => by
  refine ⟨fun m σ' H' => ∃ δ' n' G', Iv m δ' n' ∧ En K B (MOf B m0 H0) n' G0 H0 G' H' σ' δ' ∧ Sub G G', ⟨mm, δ, n, G, h0, e, Sub.refl G⟩, ?_⟩
  rintro m σ' H' ⟨δ', n', G', iv, e', s'⟩
  refine hs m δ' n' iv B (MOf B m0 H0) G0 H0 xw G' H' σ' e' _ fun b G2 H2 n2 f2 E2 s2 => ?_
  cases b with
  | true =>
    refine ⟨fun σ3 H3 => ∃ m', m' < m ∧ ∃ δ' n' G', Iv m' δ' n' ∧ En K B (MOf B m0 H0) n' G0 H0 G' H3 σ3 δ' ∧ Sub G G', fun σ3 H3 h => h, ?_⟩
    exact f2.1 rfl m0 G0 H0 xw G2 H2 σ' _ E2 (fun σ3 δ3 G3 H3 n3 ⟨m', hm, q⟩ e3 s3 => ⟨m', hm, δ3, n3, G3, q, e3, (s'.trans s2).trans s3⟩) hr (fun σ3 δ3 G3 H3 n3 q e3 s3 => hn σ3 δ3 G3 H3 n3 q e3 ((s'.trans s2).trans s3))
      (fun σ3 δ3 G3 H3 n3 ⟨m', hm, q⟩ e3 s3 => ⟨m', hm, δ3, n3, G3, q, e3, (s'.trans s2).trans s3⟩)
  | false => exact hn σ' δ' G2 H2 n2 (f2.2 rfl) E2 (s'.trans s2)
end
/-! ### comprehensions -/
section
variable [Tabl] {K : PySem.W.Frag} {Z : XZ} {δ : List Slot} {n : Sto} {Φ : D → Sto → Prop} {te : TE} {tt : TT} {wi : TI} {g : TG} {vs : List Nat}
/-- what stands between two turns: the new list at c -/
def Lw [Tabl] (K : PySem.W.Frag) (B : Option Addr) (M : Addr → Prop) (G0 H0 G1 : Hp) (σ : L2.St) (δ : List Slot) (Iv : Nat → List D → Sto → Prop) (c : Addr) (i : Nat) (H : Hp) : Prop :=
  ∃ (acc : List D) (va : List V) (n' : Sto) (G' : Hp), Iv i acc n' ∧ acc.length ≤ i ∧ H c = some (.lst va) ∧ IsAll K G' va acc ∧ G' c = none ∧ n'.μ c = none ∧ En K B M n' G0 H0 G' H σ δ ∧ Sub G1 G'
theorem wipeD_at {i : Nat} (h : i ∉ vs) : (wipeD δ vs)[i]? = δ[i]? := by
  induction vs with
  | nil => rfl
  | cons v vs ih =>
    unfold wipeD
    rw [List.getElem?_set_ne (fun z => h (by rw [z]; exact List.mem_cons_self))]
    exact ih fun z => h (List.mem_cons_of_mem _ z)
/-- slots off vs the same -/
def OffD (vs : List Nat) (δ2 δ : List Slot) : Prop := ∀ i, i ∉ vs → δ2[i]? = δ[i]?
/-- back to the def's own slots -/
theorem En.home {B : Option Addr} {M : Addr → Prop} {G0 H0 G' H : Hp} {σ σ2 : L2.St} {δ2 : List Slot} {c : Addr} {n' n2 : Sto} {G2 H2 : Hp} (E : En K B M n' G0 H0 G' H σ δ) (e : En K B (fun b => M b ∧ b ≠ c) n2 G' H G2 H2 σ2 δ2) (so : SameOff vs σ2 σ) (sd : OffD vs δ2 δ) (ho : ∀ i ∈ vs, ∀ x, δ[i]? ≠ some (.ow x)) : En K B M n2 G0 H0 G2 H2 σ δ := by
  refine ⟨E.sub0.trans e.sub0, e.sub, fun b o h0 nm => e.same b o (E.same b o h0 nm) fun z => nm z.1, fun b hb => (e.free b hb).1, fun b nm g0 => e.fresh b (fun z => nm z.1) (E.fresh b nm g0), fun p hp => ⟨(e.bagged p hp).1, (e.bagged p hp).2.1, (e.bagged p hp).2.2.1⟩, e.tabs, fun b ps hb => (e.tin b ps hb).1, e.gnt, E.len, fun m t ht => ?_, E.dis, fun a o h => ?_, fun i x a hi hs => ?_⟩
  · have old := E.slot m t ht
    cases t with
    | un => trivial
    | d y =>
      obtain ⟨u, f1, f2⟩ := old
      exact ⟨u, f1, f2.mono e.sub0⟩
    | ow ys =>
      have hm : m ∉ vs := fun z => ho m z ys ht
      have h2 := e.slot m (.ow ys) ((sd m hm).trans ht)
      rw [so.2 m hm] at h2
      obtain ⟨p, f1, f3, f4, f5, f6⟩ := h2
      exact ⟨p, f1, f3, f4, f5.1, f6⟩
    | raw u => exact old
    | bag => exact old
    | scr ns => exact ⟨_, old.choose_spec.1, e.sub0.seqL old.choose_spec.2⟩
    | exn a d fs => exact ⟨old.1, old.2.mono e.sub0⟩
  · obtain ⟨h1, h2, h3, h4⟩ := e.mob a o h
    exact ⟨h1, h2, h3.1, h4⟩
  · have hm : i ∉ vs := fun z => ho i z x hi
    exact e.mow i x a ((sd i hm).trans hi) ((so.2 i hm).trans hs)
/-- c stands apart, behind a block -/
theorem En.apart {B : Option Addr} {M : Addr → Prop} {G0 H0 G H : Hp} {σ : L2.St} {c : Addr} (e : En K B (fun b => M b ∧ b ≠ c) n G0 H0 G H σ δ) : n.μ c = none := by
  cases q : n.μ c with
  | none => rfl
  | some o => exact absurd rfl (e.mob c o q).2.2.1.2
theorem gk_lc (ho : ∀ i ∈ vs, ∀ x, δ[i]? ≠ some (.ow x)) (h : GI K Z wi δ n fun xs n1 => xs.length ≤ 50000 ∧ ∃ Iv : Nat → List D → Sto → Prop, Iv 0 [] n1 ∧ (∀ i x acc n', xs[i]? = some x → Iv i acc n' → acc.length ≤ i → ∃ δ2, GG K g x (wipeD δ vs) δ2 vs ∧ OffD vs δ2 δ ∧
      GT K .calm tt δ2 n' fun b n2 => (b = true → GK K .calm te δ2 n2 fun y n3 => Iv (i + 1) (acc ++ [y]) n3) ∧ (b = false → Iv (i + 1) acc n2)) ∧ ∀ acc n', Iv xs.length acc n' → acc.length ≤ xs.length → Φ (.lst acc) n') :
    GK K Z (tLc wi g tt te vs) δ n Φ := fun B M G0 H0 xw G H σ E Q q =>
  h B M G0 H0 xw G H σ E _ fun J xs G1 H1 n1 f1 E1 s1 a1 => by
    obtain ⟨hx5, Iv, h0, hs, hd⟩ := f1
    intro c hc
    have nbc : B ≠ some c := fun z => (E1.bagged c z).1.some hc
    have gc := E1.sub.none hc
    have mc := E1.free c hc
    have oc : ∀ (i : Nat) (x : MO), δ[i]? = some (.ow x) → σ[i]? ≠ some (some (.ref c)) := fun i xs hi z => by
      obtain ⟨p, e1, e2, _⟩ := E1.owo hi
      rw [z] at e1
      cases e1
      exact e2.some hc
    refine ⟨fun i m H' => m = xs.length - i ∧ i ≤ xs.length ∧ Lw K B M G0 H0 G1 σ δ Iv c i H', ⟨xs.length, by simp, Nat.zero_le _, [], [], n1, G1, h0, Nat.le_refl _, upd_same, .nil, gc, E1.nomob hc, E1.newc hc, Sub.refl G1⟩, ?_⟩
    rintro i m H' ⟨rfl, hi, acc, va, n', G', iv, hl, hc', ia, gc', nm', e', s'⟩
    obtain ⟨j1, j2⟩ := a1 G' H' s' e'.sub i
    by_cases hlt : i < xs.length
    · obtain ⟨x, hx⟩ : ∃ x, xs[i]? = some x := ⟨xs[i], by simp [hlt]⟩
      obtain ⟨jg, jy⟩ := j2 x hx
      refine .inr ⟨jg, Lw K B M G0 H0 G1 σ δ Iv c (i + 1), fun H2 q => ⟨xs.length - (i + 1), by omega, rfl, hlt, q⟩, fun v H'' y => ?_⟩
      obtain ⟨G2, s2, e2, a2, kc⟩ := e'.yld (jy v H'' y)
      have hc2 : H'' c = some (.lst va) ∧ G2 c = none := by
        obtain ⟨k1, k2⟩ := kc c (not_none hc')
        exact ⟨k1.trans hc', k2.trans gc'⟩
      obtain ⟨hc2, gc2⟩ := hc2
      obtain ⟨δ2, gg, od, ht⟩ := hs i x acc n' hx iv hl
      have Eb := (e2.rebase (c := c) nbc nm' oc ⟨_, hc2, fun _ z => nomatch z⟩).wipe vs
      refine gg B _ n' G2 H'' G2 H'' _ Eb v a2 _ fun σ3 e3 s3 => ⟨?_, ?_⟩
      · rw [s3.wipe]
        exact SameOff.off.wipe
      · have so : SameOff vs σ3 σ := s3.trans SameOff.off
        refine ht B _ G2 H'' .calm G2 H'' σ3 e3 _ fun b G4 H4 n4 f4 e4 s4 => ?_
        have ncm : ¬ (M c ∧ c ≠ c) := fun z => z.2 rfl
        cases b with
        | false =>
          show Lw K B M G0 H0 G1 σ δ Iv c (i + 1) H4
          exact ⟨acc, va, n4, G4, f4.2 rfl, by omega, e4.same c _ hc2 ncm, (ia.mono s2).mono s4, e4.fresh c ncm gc2, e4.apart, e2.home e4 so od ho, (s'.trans s2).trans s4⟩
        | true =>
          show te σ3 H4 _
          refine f4.1 rfl B _ G2 H'' .calm G4 H4 σ3 e4 _ fun y d G5 H5 n5 f5 e5 s5 a5 => ?_
          have hc5 := e5.same c _ hc2 ncm
          have gc5 := e5.fresh c ncm gc2
          refine ⟨va, hc5, by rw [ia.len]; exact sz_lt (by omega), acc ++ [d], va ++ [y], n5, G5, f5, by rw [List.length_append, List.length_singleton]; omega, upd_same, (((ia.mono s2).mono s4).mono s5).app (.cons a5 .nil), gc5, e5.apart, (e2.home e5 so od ho).beside (.inr ⟨_, hc5, trivial⟩) (fun _ z => nomatch z) nbc e5.apart gc5 mc oc, ((s'.trans s2).trans s4).trans s5⟩
    · have ei : i = xs.length := by omega
      subst ei
      -- the new list becomes one that stays
      have sn := Sub.new (o := .lst va) gc'
      exact .inl ⟨j1 rfl, q _ (.lst acc) _ H' n' (hd acc n' iv hl) (e'.settle hc' gc' mc nbc nm' oc) ((s1.trans s').trans sn) (.lst upd_same (ia.mono sn))⟩
end
end Tl

namespace Tl
open PySem L2 TL LamX
/-! ### promises over data: by what they lead to -/
def m00 : Addr → Option MO := fun _ => none
def dN (Φ : D → Nat → Prop) : D → Sto → Prop := fun d n => Φ d n.n
theorem dN.mk {Φ : D → Nat → Prop} {d : D} {m : Nat} {μ : Addr → Option MO} (h : Φ d m) : dN Φ d ⟨m, μ⟩ := h
def spP [Tabl] (K : PySem.W.Frag) (Pc : List D → (D → Prop) → Prop) : Sp := fun vs H Q _ => ∃ (G : Hp) (ds : List D) (Φ : D → Prop), Tabs Tabl.T H ∧ (∀ b ps, G b ≠ some (.tbl ps)) ∧ Sub G H ∧ IsAll K G vs ds ∧ Pc ds Φ ∧
  ∀ (v : V) (d : D) (G' H' : Hp) (n' : Sto), Φ d → Eo K none m00 n' G H G' H' → Is K G' v d → Q v H'
def spB [Tabl] (K : PySem.W.Frag) (Pc : Nat → List D → (D → Nat → Prop) → Prop) : Sp := fun vs H Q _ => ∃ (G : Hp) (p : Addr) (n : Nat) (rest : List V) (ds : List D) (Φ : D → Nat → Prop), vs = .ref p :: rest ∧ Tabs Tabl.T H ∧ (∀ b ps, G b ≠ some (.tbl ps)) ∧ Sub G H ∧ G p = none ∧ Bag H p n ∧ IsAll K G rest ds ∧ Pc n ds Φ ∧
  ∀ (v : V) (d : D) (G' H' : Hp) (n' : Sto), Φ d n'.n → Eo K (some p) m00 n' G H G' H' → Is K G' v d → Q v H'
/-- with the store, and what is raised -/
def spM [Tabl] (K : PySem.W.Frag) (Pc : Sto → List D → (D → Sto → Prop) → (Exn → Sto → Prop) → Prop) : Sp := fun vs H Q E => ∃ (G : Hp) (n : Sto) (ds : List D) (Φ : D → Sto → Prop) (X : Exn → Sto → Prop), MobOk K none n G H ∧ Tabs Tabl.T H ∧ (∀ b ps, G b ≠ some (.tbl ps)) ∧ Sub G H ∧ IsAll K G vs ds ∧ Pc n ds Φ X ∧
  (∀ (v : V) (d : D) (G' H' : Hp) (n' : Sto), Φ d n' → Eo K none n.μ n' G H G' H' → Is K G' v d → Q v H') ∧
  ∀ (e : Exn) (dx : Option Addr) (G' H' : Hp) (n' : Sto), X e n' → Eo K none n.μ n' G H G' H' → XIs K G' dx e.fs → E e.cls dx H'
/-- the same, the bag first -/
def spN [Tabl] (K : PySem.W.Frag) (Pc : Sto → List D → (D → Sto → Prop) → (Exn → Sto → Prop) → Prop) : Sp := fun vs H Q E => ∃ (G : Hp) (p : Addr) (n : Sto) (rest : List V) (ds : List D) (Φ : D → Sto → Prop) (X : Exn → Sto → Prop), vs = .ref p :: rest ∧ MobOk K (some p) n G H ∧ Tabs Tabl.T H ∧ (∀ b ps, G b ≠ some (.tbl ps)) ∧ Sub G H ∧ G p = none ∧ Bag H p n.n ∧ IsAll K G rest ds ∧ Pc n ds Φ X ∧
  (∀ (v : V) (d : D) (G' H' : Hp) (n' : Sto), Φ d n' → Eo K (some p) n.μ n' G H G' H' → Is K G' v d → Q v H') ∧
  ∀ (e : Exn) (dx : Option Addr) (G' H' : Hp) (n' : Sto), X e n' → Eo K (some p) n.μ n' G H G' H' → XIs K G' dx e.fs → E e.cls dx H'
/-- the law's own -/
def spL [Tabl] (K : PySem.W.Frag) : Sp := fun vs H Q _ => ∃ (a : Addr) (ns : List Int), vs = [.ref a] ∧ Tabs Tabl.T H ∧ SqL K H a (ns.map V.int) ∧ ns.length ≤ 63 ∧ ∀ H', Q (.bl true) H'
theorem bag_kept {H H' : Hp} {p : Addr} {n : Nat} (b : Bag H p n) (k : ∀ xs, H p = some (.lst xs) → H' p = some (.lst xs)) : Bag H' p n := by
  obtain ⟨x, y, z, e, h⟩ := b
  exact ⟨x, y, z, k _ e, h⟩
theorem m00_ok {K : PySem.W.Frag} {B : Option Addr} {n : Nat} {G H : Hp} : MobOk K B ⟨n, m00⟩ G H := fun _ _ h => nomatch h
section
variable [Tabl] {K : PySem.W.Frag} {Z : XZ} {B : Option Addr} {δ : List Slot} {n : Sto} {Φ : D → Sto → Prop}
/-- behind a call that knows neither bag nor store -/
theorem En.afterP {M : Addr → Prop} {G0 H0 G H G' H' : Hp} {σ : L2.St} {n' : Sto} (E : En K B M n G0 H0 G H σ δ) (eo : Eo K none m00 n' G H G' H') : En K B M n G0 H0 G' H' σ δ :=
  E.grow eo.sub0 eo.sub (fun b o e _ nt => eo.same b o e (fun z => nomatch z) rfl nt) (fun b hb nt gb => eo.fresh b hb (fun z => nomatch z) rfl nt gb)
    (fun p hp => bag_kept (E.bagged p hp).1 fun xs e => eo.same p _ e (fun z => nomatch z) rfl (fun _ z => nomatch z)) eo.tabs eo.gnt
/-- behind a call that knows the bag alone -/
theorem En.afterB {p : Addr} {M : Addr → Prop} {G0 H0 G H G' H' : Hp} {σ : L2.St} {m : Nat} {μ : Addr → Option MO} {n' : Sto} (E : En K (some p) M ⟨m, μ⟩ G0 H0 G H σ δ) (eo : Eo K (some p) m00 n' G H G' H') : En K (some p) M ⟨n'.n, μ⟩ G0 H0 G' H' σ δ :=
  E.grow eo.sub0 eo.sub (fun b o e nb nt => eo.same b o e nb rfl nt)
    (fun b hb nt gb => by
      by_cases z : some p = some b
      · exact (eo.bagged b (by rw [← z])).2
      · exact eo.fresh b hb z rfl nt gb)
    (fun r hr => (eo.bagged r hr).1) eo.tabs eo.gnt
/-- behind a call that knows the store, not the bag -/
theorem En.afterM {M : Addr → Prop} {G0 H0 G H G' H' : Hp} {σ : L2.St} {m : Nat} {μ : Addr → Option MO} {n' : Sto} (E : En K B M ⟨m, μ⟩ G0 H0 G H σ δ) (eo : Eo K none μ n' G H G' H') : En K B M ⟨m, n'.μ⟩ G0 H0 G' H' σ δ := by
  have nB : ∀ p, B = some p → μ p = none := fun p hp => by
    cases e : μ p with
    | none => rfl
    | some o => exact absurd hp (E.mob p o e).2.2.2
  refine E.growM eo.sub0 eo.sub (fun b o e _ nm nt => eo.same b o e (fun z => nomatch z) nm nt) (fun b hb nt nm gb => eo.fresh b hb (fun z => nomatch z) nm nt gb)
    (fun p hp => bag_kept (E.bagged p hp).1 fun xs e => eo.same p _ e (fun z => nomatch z) (nB p hp) (fun _ z => nomatch z)) eo.tabs eo.gnt fun a o h => ?_
  obtain ⟨h1, h2, _, h3⟩ := eo.mob a o h
  refine ⟨h1, h2, fun z => ?_, h3⟩
  obtain ⟨b1, b2, b3⟩ := E.bagged a z
  rcases h3 with y | y | ⟨ps, y⟩
  · exact b1.some y
  · exact y (nB a z)
  · exact b1.notab ps y
/-- behind a call that knows both -/
theorem En.afterN {p : Addr} {M : Addr → Prop} {G0 H0 G H G' H' : Hp} {σ : L2.St} {n' : Sto} (E : En K (some p) M n G0 H0 G H σ δ) (eo : Eo K (some p) n.μ n' G H G' H') : En K (some p) M n' G0 H0 G' H' σ δ := by
  refine E.growM eo.sub0 eo.sub (fun b o e nb nm nt => eo.same b o e nb nm nt) (fun b hb nt nm gb => ?_) (fun r hr => (eo.bagged r hr).1) eo.tabs eo.gnt fun a o h => ?_
  · by_cases z : some p = some b
    · exact (eo.bagged b (by rw [← z])).2
    · exact eo.fresh b hb z nm nt gb
  · obtain ⟨h1, h2, h3, h4⟩ := eo.mob a o h
    exact ⟨h1, h2, h3, h4⟩
theorem En.mobOk {M : Addr → Prop} {G0 H0 G H : Hp} {σ : L2.St} (E : En K B M n G0 H0 G H σ δ) : MobOk K B n G H := fun a o h => ⟨(E.mob a o h).1, (E.mob a o h).2.1, (E.mob a o h).2.2.2⟩
theorem MobOk.nobag {G H : Hp} (h : MobOk K B n G H) : MobOk K none n G H := fun a o e => ⟨(h a o e).1, (h a o e).2.1, fun z => nomatch z⟩
theorem sc_P {Pc : List D → (D → Prop) → Prop} {xs : List D} (k : Pc xs fun d => Φ d n) : SC K Z (spP K Pc) xs δ n Φ := fun B M G0 H0 xw G H σ E vs h Q X q =>
  ⟨G, xs, _, E.tabs, E.gnt, E.sub, h, k, fun v d G' H' n' hd eo hv => q v d G' H' n hd (E.afterP eo) eo.sub0 hv⟩
theorem sb_P {Pc : Nat → List D → (D → Nat → Prop) → Prop} {xs : List D} {m : Nat} {μ : Addr → Option MO} (k : Pc m xs fun d m' => Φ d ⟨m', μ⟩) : SB K Z (spB K Pc) xs δ ⟨m, μ⟩ Φ := fun p M G0 H0 xw G H σ E vs h Q X q =>
  have b := E.bagged p rfl
  ⟨G, p, m, vs, xs, _, rfl, E.tabs, E.gnt, E.sub, b.2.1, b.1, h, k, fun v d G' H' n' hd eo hv => q v d G' H' _ hd (E.afterB eo) eo.sub0 hv⟩
/-- the store is handed on; nothing is raised -/
theorem sc_M {Pc : Sto → List D → (D → Sto → Prop) → (Exn → Sto → Prop) → Prop} {xs : List D} {m : Nat} {μ : Addr → Option MO} (k : Pc ⟨m, μ⟩ xs (fun d n' => Φ d ⟨m, n'.μ⟩) fun _ _ => False) : SC K Z (spM K Pc) xs δ ⟨m, μ⟩ Φ := fun B M G0 H0 xw G H σ E vs h Q X q =>
  ⟨G, ⟨m, μ⟩, xs, _, _, E.mobOk.nobag, E.tabs, E.gnt, E.sub, h, k, fun v d G' H' n' hd eo hv => q v d G' H' _ hd (E.afterM eo) eo.sub0 hv, fun _ _ _ _ _ z => z.elim⟩
theorem sx_M {Pc : Sto → List D → (D → Sto → Prop) → (Exn → Sto → Prop) → Prop} {xs : List D} {m : Nat} {μ : Addr → Option MO} (k : Pc ⟨m, μ⟩ xs (fun d n' => Φ d ⟨m, n'.μ⟩) fun e n' => Z.X e δ ⟨m, n'.μ⟩) : SX K Z (spM K Pc) xs δ ⟨m, μ⟩ Φ := fun B M G0 H0 xw G H σ E vs h Q X hX q =>
  ⟨G, ⟨m, μ⟩, xs, _, _, E.mobOk.nobag, E.tabs, E.gnt, E.sub, h, k, fun v d G' H' n' hd eo hv => q v d G' H' _ hd (E.afterM eo) eo.sub0 hv, fun e dx G' H' n' he eo xi => hX _ _ _ (xw e dx σ δ G' H' _ he (E.afterM eo) xi)⟩
theorem sb_N {Pc : Sto → List D → (D → Sto → Prop) → (Exn → Sto → Prop) → Prop} {xs : List D} (k : Pc n xs Φ fun _ _ => False) : SB K Z (spN K Pc) xs δ n Φ := fun p M G0 H0 xw G H σ E vs h Q X q =>
  have b := E.bagged p rfl
  ⟨G, p, n, vs, xs, _, _, rfl, E.mobOk, E.tabs, E.gnt, E.sub, b.2.1, b.1, h, k, fun v d G' H' n' hd eo hv => q v d G' H' _ hd (E.afterN eo) eo.sub0 hv, fun _ _ _ _ _ z => z.elim⟩
/-- the bag was drawn from -/
theorem En.drawn {p : Addr} {m n' : Nat} {μ : Addr → Option MO} {M : Addr → Prop} {G0 H0 G H H' : Hp} {σ : L2.St} (E : En K (some p) M ⟨m, μ⟩ G0 H0 G H σ δ) (bg : Bag H' p n') (fr : Fr p H H') : En K (some p) M ⟨n', μ⟩ G0 H0 G H' σ δ :=
  E.grow (Sub.refl G) (fun b o e => fr b o (fun z => by rw [z, (E.bagged p rfl).2.1] at e; cases e) (E.sub b o e)) (fun b o e nb _ => fr b o (fun z => nb (by rw [z])) e) (fun b _ _ g => g) (fun q hq => by cases hq; exact bg) (tabs_fr E.tabs (E.bagged p rfl).1 fr) E.gnt
end
/-- where a def's own exceptions go -/
def zOf (E : XK) (X : Exn → Sto → Prop) : XZ := ⟨fun cls d _ H => E cls d H, fun e _ n => X e n⟩
section
variable [Tabl] {P : Program} {w : World} {K : PySem.W.Frag} {mg : Str → Option Value} {base : Heap}
theorem fn_P {x qual : Str} {st : Stmt} {f : Addr} {fd : FuncData} {N ps : List Str} {k : Nat} {Pc : List D → (D → Prop) → Prop} (F : Fun K x qual st f fd) (S : FnScope N ps (defScope st)) (hl : ∀ ds Φ, Pc ds Φ → ds.length = ps.length)
    (hb : ∀ (cdv : Value) (A : Around) (outer : List Env) (s : Shared) (H : Hp) (E : XK), Room k (A.deeper (PyProof.Rows.envOfC qual (defScope st) s.heap.objs.size f cdv)) →
      ∃ t, PSs (cxOf CX0 P w K mg base N qual (defScope st) f cdv A outer s H E).nox (defBody st) t ∧ ∀ ds Φ, Pc ds Φ → GS K .calm none t (startD N ds) ⟨0, m00⟩ (fun _ _ => Φ .non) (fun d _ => Φ d) (fun _ _ => False) (fun _ _ => False)) :
    FnOk P w K mg base CX0 (k + 1) f fd ps (spP K Pc) := by
  refine F.ok S (fun vs H Q E h => ?_) (fun cdv A outer s H vs Q E hr h => ?_)
  · obtain ⟨G, ds, Φ, _, _, _, hv, hp, _⟩ := h
    rw [hv.len, hl ds Φ hp]
  · obtain ⟨G, ds, Φ, tb, gn, hs, hv, hp, q⟩ := h
    obtain ⟨t, h1, h2⟩ := hb cdv A outer s H E hr
    exact ⟨t, h1, h2 ds Φ hp m00 G H .calm G H _ _ (En.start m00_ok tb gn hs hv) (fun σ' δ' G' H' n' hd e _ => q .non .non G' H' n' hd e.out .non) (fun v d G' H' n' hd eo hv => q v d G' H' n' hd eo hv) (fun _ _ _ _ _ z => z.elim) (fun _ _ _ _ _ z => z.elim)⟩
theorem fn_B {x qual : Str} {st : Stmt} {f : Addr} {fd : FuncData} {N ps : List Str} {k : Nat} {Pc : Nat → List D → (D → Nat → Prop) → Prop} (F : Fun K x qual st f fd) (S : FnScope N ps (defScope st)) (hl : ∀ n ds Φ, Pc n ds Φ → ds.length + 1 = ps.length)
    (hb : ∀ (cdv : Value) (A : Around) (outer : List Env) (s : Shared) (H : Hp) (E : XK), Room k (A.deeper (PyProof.Rows.envOfC qual (defScope st) s.heap.objs.size f cdv)) →
      ∃ t, PSs (cxOf CX0 P w K mg base N qual (defScope st) f cdv A outer s H E).nox (defBody st) t ∧ ∀ p n ds Φ, Pc n ds Φ → GS K .calm (some p) t (startG N ds) ⟨n, m00⟩ (fun _ n' => dN Φ .non n') (dN Φ) (fun _ _ => False) (fun _ _ => False)) :
    FnOk P w K mg base CX0 (k + 1) f fd ps (spB K Pc) := by
  refine F.ok S (fun vs H Q E h => ?_) (fun cdv A outer s H vs Q E hr h => ?_)
  · obtain ⟨G, p, n, rest, ds, Φ, rfl, _, _, _, _, _, hv, hp, _⟩ := h
    rw [List.length_cons, hv.len, hl n ds Φ hp]
  · obtain ⟨G, p, n, rest, ds, Φ, rfl, tb, gn, hs, gp, bg, hv, hp, q⟩ := h
    obtain ⟨t, h1, h2⟩ := hb cdv A outer s H E hr
    exact ⟨t, h1, h2 p n ds Φ hp m00 G H .calm G H _ _ (En.startB m00_ok tb gn hs gp bg hv) (fun σ' δ' G' H' n' hd e _ => q .non .non G' H' n' hd e.out .non) (fun v d G' H' n' hd eo hv => q v d G' H' n' hd eo hv) (fun _ _ _ _ _ z => z.elim) (fun _ _ _ _ _ z => z.elim)⟩
/-- with the store, nothing raised -/
theorem fn_M {x qual : Str} {st : Stmt} {f : Addr} {fd : FuncData} {N ps : List Str} {k : Nat} {Pc : Sto → List D → (D → Sto → Prop) → (Exn → Sto → Prop) → Prop} (F : Fun K x qual st f fd) (S : FnScope N ps (defScope st)) (hl : ∀ n ds Φ X, Pc n ds Φ X → ds.length = ps.length)
    (hb : ∀ (cdv : Value) (A : Around) (outer : List Env) (s : Shared) (H : Hp) (E : XK), Room k (A.deeper (PyProof.Rows.envOfC qual (defScope st) s.heap.objs.size f cdv)) →
      ∃ t, PSs (cxOf CX0 P w K mg base N qual (defScope st) f cdv A outer s H E).nox (defBody st) t ∧ ∀ n ds Φ X, Pc n ds Φ X → GS K .calm none t (startD N ds) n (fun _ n' => Φ .non n') Φ (fun _ _ => False) (fun _ _ => False)) :
    FnOk P w K mg base CX0 (k + 1) f fd ps (spM K Pc) := by
  refine F.ok S (fun vs H Q E h => ?_) (fun cdv A outer s H vs Q E hr h => ?_)
  · obtain ⟨G, n, ds, Φ, X, _, _, _, _, hv, hp, _⟩ := h
    rw [hv.len, hl n ds Φ X hp]
  · obtain ⟨G, n, ds, Φ, X, mb, tb, gn, hs, hv, hp, q, _⟩ := h
    obtain ⟨t, h1, h2⟩ := hb cdv A outer s H E hr
    exact ⟨t, h1, h2 n ds Φ X hp n.μ G H .calm G H _ _ (En.start mb tb gn hs hv) (fun σ' δ' G' H' n' hd e _ => q .non .non G' H' n' hd e.out .non) (fun v d G' H' n' hd eo hv => q v d G' H' n' hd eo hv) (fun _ _ _ _ _ z => z.elim) (fun _ _ _ _ _ z => z.elim)⟩
/-- a def that may raise -/
theorem fn_X {x qual : Str} {st : Stmt} {f : Addr} {fd : FuncData} {N ps : List Str} {k : Nat} {Pc : Sto → List D → (D → Sto → Prop) → (Exn → Sto → Prop) → Prop} (F : Fun K x qual st f fd) (S : FnScope N ps (defScope st)) (hl : ∀ n ds Φ X, Pc n ds Φ X → ds.length = ps.length)
    (hb : ∀ (cdv : Value) (A : Around) (outer : List Env) (s : Shared) (H : Hp) (E : XK), Room k (A.deeper (PyProof.Rows.envOfC qual (defScope st) s.heap.objs.size f cdv)) →
      ∃ t, PSs (cxOf (L2.CX P w) P w K mg base N qual (defScope st) f cdv A outer s H E) (defBody st) t ∧ ∀ n ds Φ X, Pc n ds Φ X → GS K (zOf E X) none t (startD N ds) n (fun _ n' => Φ .non n') Φ (fun _ _ => False) (fun _ _ => False)) :
    FnOk P w K mg base (L2.CX P w) (k + 1) f fd ps (spM K Pc) := by
  refine F.okX S (fun vs H Q E h => ?_) (fun cdv A outer s H vs Q E hr h => ?_)
  · obtain ⟨G, n, ds, Φ, X, _, _, _, _, hv, hp, _⟩ := h
    rw [hv.len, hl n ds Φ X hp]
  · obtain ⟨G, n, ds, Φ, X, mb, tb, gn, hs, hv, hp, q, r⟩ := h
    obtain ⟨t, h1, h2⟩ := hb cdv A outer s H E hr
    exact ⟨t, h1, h2 n ds Φ X hp n.μ G H (fun e d σ' δ' G' H' n' he en xi => r e d G' H' n' he en.out xi) G H _ _ (En.start mb tb gn hs hv) (fun σ' δ' G' H' n' hd e _ => q .non .non G' H' n' hd e.out .non) (fun v d G' H' n' hd eo hv => q v d G' H' n' hd eo hv) (fun _ _ _ _ _ z => z.elim) (fun _ _ _ _ _ z => z.elim)⟩
/-- the bag and the store, nothing raised -/
theorem fn_N {x qual : Str} {st : Stmt} {f : Addr} {fd : FuncData} {N ps : List Str} {k : Nat} {Pc : Sto → List D → (D → Sto → Prop) → (Exn → Sto → Prop) → Prop} (F : Fun K x qual st f fd) (S : FnScope N ps (defScope st)) (hl : ∀ n ds Φ X, Pc n ds Φ X → ds.length + 1 = ps.length)
    (hb : ∀ (cdv : Value) (A : Around) (outer : List Env) (s : Shared) (H : Hp) (E : XK), Room k (A.deeper (PyProof.Rows.envOfC qual (defScope st) s.heap.objs.size f cdv)) →
      ∃ t, PSs (cxOf CX0 P w K mg base N qual (defScope st) f cdv A outer s H E).nox (defBody st) t ∧ ∀ p n ds Φ X, Pc n ds Φ X → GS K .calm (some p) t (startG N ds) n (fun _ n' => Φ .non n') Φ (fun _ _ => False) (fun _ _ => False)) :
    FnOk P w K mg base CX0 (k + 1) f fd ps (spN K Pc) := by
  refine F.ok S (fun vs H Q E h => ?_) (fun cdv A outer s H vs Q E hr h => ?_)
  · obtain ⟨G, p, n, rest, ds, Φ, X, rfl, _, _, _, _, _, _, hv, hp, _⟩ := h
    rw [List.length_cons, hv.len, hl n ds Φ X hp]
  · obtain ⟨G, p, n, rest, ds, Φ, X, rfl, mb, tb, gn, hs, gp, bg, hv, hp, q, _⟩ := h
    obtain ⟨t, h1, h2⟩ := hb cdv A outer s H E hr
    exact ⟨t, h1, h2 p n ds Φ X hp n.μ G H .calm G H _ _ (En.startB mb tb gn hs gp bg hv) (fun σ' δ' G' H' n' hd e _ => q .non .non G' H' n' hd e.out .non) (fun v d G' H' n' hd eo hv => q v d G' H' n' hd eo hv) (fun _ _ _ _ _ z => z.elim) (fun _ _ _ _ _ z => z.elim)⟩
theorem En.startS {H : Hp} {a : Addr} {ns : List Int} {N : List Str} (tb : Tabs Tabl.T H) (h : SqL K H a (ns.map V.int)) : ∃ G, En K none (MOf none m00 H) ⟨0, m00⟩ G H G H (L2.start N [.ref a]) (.scr ns :: List.replicate (N.length - 1) .un) := by
  have key : ∃ G : Hp, Sub G H ∧ (∀ b ps, G b ≠ some (.tbl ps)) ∧ SqL K G a (ns.map V.int) := by
    rcases h with h | h
    · refine ⟨fun b => if b = a then H b else none, fun b o e => ?_, fun b ps z => ?_, .inl ?_⟩
      · by_cases z : b = a
        · simpa [z] using e
        · simp [z] at e
      · by_cases hb : b = a
        · have z : H b = some (.tbl ps) := by simpa [hb] using z
          rw [hb] at z
          rcases h with h | ⟨o, h⟩
          · rw [h] at z
            cases z
          · rw [h] at z
            cases z
        · simp [hb] at z
      · rcases h with h | ⟨o, h⟩
        · exact .inl (by simp [h])
        · exact .inr ⟨o, by simp [h]⟩
    · exact ⟨fun _ => none, (fun b o e => nomatch e), (fun b ps z => nomatch z), .inr h⟩
  obtain ⟨G, sg, gn, hG⟩ := key
  refine ⟨G, Sub.refl _, sg, fun b o e _ => e, fun b hb => .inl hb, fun b _ g => g, fun p z => (nomatch z), tb, fun b ps h => .inr (.inr (.inl ⟨ps, h⟩)), gn, ?_, fun i s hs => ?_, fun i j p xs ys hi hj si sj => ?_, fun _ _ h => (nomatch h), fun _ _ _ _ _ => rfl⟩
  · unfold L2.start
    simp
  · cases i with
    | zero =>
      cases hs
      exact ⟨a, rfl, hG⟩
    | succ i =>
      have : s = .un := (List.mem_replicate.mp (List.mem_of_getElem? (show (List.replicate (N.length - 1) Slot.un)[i]? = some s from hs))).2
      rw [this]
      trivial
  · cases i with
    | zero => cases hi
    | succ i =>
      have := (List.mem_replicate.mp (List.mem_of_getElem? (show (List.replicate (N.length - 1) Slot.un)[i]? = some _ from hi))).2
      cases this
theorem fn_L {x qual : Str} {st : Stmt} {f : Addr} {fd : FuncData} {N ps : List Str} {k : Nat} (F : Fun K x qual st f fd) (S : FnScope N ps (defScope st)) (hl : ps.length = 1)
    (hb : ∀ (cdv : Value) (A : Around) (outer : List Env) (s : Shared) (H : Hp) (E : XK), Room k (A.deeper (PyProof.Rows.envOfC qual (defScope st) s.heap.objs.size f cdv)) →
      ∃ t, PSs (cxOf CX0 P w K mg base N qual (defScope st) f cdv A outer s H E).nox (defBody st) t ∧ ∀ ns : List Int, ns.length ≤ 63 → GS K .calm none t (.scr ns :: List.replicate (N.length - 1) .un) ⟨0, m00⟩ (fun _ _ => False) (fun d _ => d = .bl true) (fun _ _ => False) (fun _ _ => False)) :
    FnOk P w K mg base CX0 (k + 1) f fd ps (spL K) := by
  refine F.ok S (fun vs H Q E h => ?_) (fun cdv A outer s H vs Q E hr h => ?_)
  · obtain ⟨a, ns, rfl, _⟩ := h
    rw [hl]
    rfl
  · obtain ⟨a, ns, rfl, tb, hS, hn, q⟩ := h
    obtain ⟨t, h1, h2⟩ := hb cdv A outer s H E hr
    obtain ⟨G, e0⟩ := En.startS (N := N) tb hS
    refine ⟨t, h1, h2 ns hn m00 G H .calm G H _ _ e0 (fun _ _ _ _ _ z => z.elim) (fun v d G' H' n' hd eo hv => ?_) (fun _ _ _ _ _ z => z.elim) (fun _ _ _ _ _ z => z.elim)⟩
    subst hd
    cases hv
    exact q H'
end
/-! ### the law's bag -/
def unbag (δ : List Slot) : List Slot := δ.map fun s => match s with | .bag => .un | s => s
section
variable [Tabl] {K : PySem.W.Frag} {Z : XZ} {B : Option Addr} {δ : List Slot} {n : Sto} {Φ : D → Sto → Prop} {te ta tb : TE} {aa : TA} {N Bk Ct : List Slot → Sto → Prop} {R : D → Sto → Prop} {ts : TS}
theorem mof_eq {p : Addr} {m0 : Addr → Option MO} {H0 : Hp} (h : MOf none m0 H0 p) : MOf (some p) m0 H0 = MOf none m0 H0 := by
  funext b
  apply propext
  constructor
  · rintro (z | z | z | z)
    · exact .inl z
    · cases z
      exact h
    · exact .inr (.inr (.inl z))
    · exact .inr (.inr (.inr z))
  · rintro (z | z | z | z)
    · exact .inl z
    · cases z
    · exact .inr (.inr (.inl z))
    · exact .inr (.inr (.inr z))
theorem mof_ne {p b : Addr} {m0 : Addr → Option MO} {H0 : Hp} (h : MOf none m0 H0 p) (h1 : H0 b ≠ none) (h2 : ∀ ps, H0 b ≠ some (.tbl ps)) (h3 : m0 b = none) : some p ≠ some b := fun z => by
  cases z
  rcases h with h | h | ⟨ps, h⟩ | h
  · exact h1 h
  · cases h
  · exact h2 ps h
  · exact h h3
theorem En.unbag {p : Addr} {k : Nat} {m0 : Addr → Option MO} {G0 H0 G H : Hp} {σ : L2.St} (h0 : MOf none m0 H0 p) (E : En K (some p) (MOf (some p) m0 H0) n G0 H0 G H σ δ) : En K none (MOf none m0 H0) ⟨k, n.μ⟩ G0 H0 G H σ (Tl.unbag δ) := by
  rw [mof_eq h0] at E
  have key : ∀ (i : Nat) (x : MO), (Tl.unbag δ)[i]? = some (.ow x) → δ[i]? = some (.ow x) := fun i xs hi => by
    unfold Tl.unbag at hi
    rw [List.getElem?_map] at hi
    obtain ⟨t, h1, h2⟩ := Option.map_eq_some_iff.mp hi
    cases t <;> first | (cases h2; exact h1) | (cases h2)
  refine ⟨E.sub0, E.sub, E.same, E.free, E.fresh, fun q z => (nomatch z), E.tabs, E.tin, E.gnt, by rw [E.len]; unfold Tl.unbag; rw [List.length_map], fun i s hs => ?_, fun i j q xs ys hi hj si sj => E.dis i j q xs ys (key i xs hi) (key j ys hj) si sj, fun a o h => ?_, fun i x a hi hs => E.mow i x a (key i x hi) hs⟩
  · unfold Tl.unbag at hs
    rw [List.getElem?_map] at hs
    obtain ⟨t, h1, h2⟩ := Option.map_eq_some_iff.mp hs
    have h := E.slot i t h1
    cases t with
    | un => cases h2; trivial
    | d x => cases h2; exact h
    | ow x =>
      cases h2
      obtain ⟨q, e, hp, gp, mp, np⟩ := h
      exact ⟨q, e, hp, gp, mp, fun z => nomatch z⟩
    | raw v => cases h2; exact h
    | bag => cases h2; trivial
    | scr ns => cases h2; exact h
    | exn a d fs => cases h2; exact h
  · obtain ⟨h1, h2, h3, h4⟩ := E.mob a o h
    exact ⟨h1, h2, h3, fun z => nomatch z⟩
/-- x = a call that gives a new bag, and what follows; spb: the promise of that call -/
theorem gs_newbag {spb : Sp} {X : XK} {i j k : Nat} {μ : Addr → Option MO} {ns : List Int} (hspb : ∀ (a : Addr) (i : Int) (H : Hp) (Q : VK) (E : XK), SqL K H a (ns.map V.int) → 0 ≤ i → i ≤ 63 → (∀ (p : Addr) (H' : Hp), H p = none → Bag H' p 0 → Same H H' → Q (.ref p) H') → spb [.ref a, .int i] H Q E)
    (hi : δ[i]? = some (.scr ns)) (hj : ∀ x, δ[j]? ≠ some (.ow x)) (h : GK K .calm te δ ⟨k, μ⟩ fun d n1 => ∃ k : Int, d = .int k ∧ 0 ≤ k ∧ k ≤ 63 ∧ ∀ p, GS K .calm (some p) ts (δ.set j .bag) ⟨0, n1.μ⟩ (fun δ' n' => N (unbag δ') ⟨0, n'.μ⟩) (fun d n' => R d ⟨0, n'.μ⟩) (fun δ' n' => Bk (unbag δ') ⟨0, n'.μ⟩) (fun δ' n' => Ct (unbag δ') ⟨0, n'.μ⟩)) :
    GS K .calm none (tSeq (tAsg (tCall spb [] X (tCons (tVar i) (tCons te tNil))) (gName j)) ts) δ ⟨k, μ⟩ N R Bk Ct := fun m0 G0 H0 xw G H σ E e hn hr hb hc => by
  obtain ⟨a, e1, e2⟩ := e.slot i _ hi
  refine ⟨_, look_some e1, ?_⟩
  refine h none (MOf none m0 H0) G0 H0 xw G H σ e _ fun v d G1 H1 n1 f1 E1 s1 a1 => ?_
  obtain ⟨k, rfl, k0, k1, f1⟩ := f1
  cases a1
  refine hspb a k H1 _ _ (E1.sub.seqL (s1.seqL e2)) k0 k1 fun p H2 hp bg sm => ?_
  have h0p : MOf none m0 H0 p := E1.free p hp
  have gp : G1 p = none := E1.sub.none hp
  have E2 : En K none (MOf none m0 H0) n1 G0 H0 G1 H2 σ δ := E1.grow (Sub.refl G1) (fun b o e => sm b o (E1.sub b o e)) (fun b o e _ _ => sm b o e) (fun b _ _ g => g) (fun q z => nomatch z) (E1.tabs.ext sm) E1.gnt
  have E3 : En K (some p) (MOf (some p) m0 H0) ⟨0, n1.μ⟩ G0 H0 G1 H2 (σ.set j (some (.ref p))) (δ.set j .bag) := by
    have hno : ∀ (m : Nat) (x : MO), (δ.set j .bag)[m]? = some (.ow x) → m ≠ j ∧ δ[m]? = some (.ow x) := fun m xs hm => by
      by_cases z : j = m
      · subst z
        by_cases hl : j < δ.length
        · rw [List.getElem?_set_self hl] at hm
          cases hm
        · rw [List.getElem?_eq_none (by rw [List.length_set]; omega)] at hm
          cases hm
      · rw [List.getElem?_set_ne z] at hm
        exact ⟨fun y => z y.symm, hm⟩
    rw [mof_eq h0p]
    refine ⟨E2.sub0, E2.sub, E2.same, E2.free, E2.fresh, fun q z => ?_, E2.tabs, E2.tin, E2.gnt, by rw [List.length_set, List.length_set, E2.len], fun m t ht => ?_, fun m l q xs ys hm hl sm sl => ?_, fun a o ha => ?_, fun m x a hm sm => ?_⟩
    · cases z
      exact ⟨bg, gp, h0p⟩
    · by_cases z : j = m
      · subst z
        have hl : j < δ.length := by
          have := (List.getElem?_eq_some_iff.mp ht).1
          rw [List.length_set] at this
          exact this
        rw [List.getElem?_set_self hl] at ht
        rw [List.getElem?_set_self (by rw [E2.len]; exact hl)]
        cases ht
        exact ⟨p, rfl, rfl⟩
      · rw [List.getElem?_set_ne z] at ht
        rw [List.getElem?_set_ne z]
        have h := E2.slot m t ht
        cases t with
        | un => trivial
        | d x => exact h
        | ow x =>
          obtain ⟨q, e, hq, gq, mq, nq⟩ := h
          have e2' := E1.slot m _ ht
          obtain ⟨q', e', hq', _⟩ := e2'
          rw [e] at e'
          cases e'
          exact ⟨q, e, hq, gq, mq, fun z => by cases z; exact hq'.some hp⟩
        | raw v => exact h
        | bag =>
          obtain ⟨q, _, z⟩ := h
          cases z
        | scr ns => exact h
        | exn a d fs => exact h
    · obtain ⟨n1, d1⟩ := hno m xs hm
      obtain ⟨n2, d2⟩ := hno l ys hl
      rw [List.getElem?_set_ne n1.symm] at sm
      rw [List.getElem?_set_ne n2.symm] at sl
      exact E2.dis m l q xs ys d1 d2 sm sl
    · obtain ⟨h1, h2, h3, _⟩ := E2.mob a o ha
      exact ⟨h1, h2, h3, fun z => by cases z; exact (E1.mob p o ha).1.some hp⟩
    · obtain ⟨n1, d1⟩ := hno m x hm
      rw [List.getElem?_set_ne n1.symm] at sm
      exact E2.mow m x a d1 sm
  show ts E (σ.set j (some (.ref p))) H2
  refine f1 p m0 G0 H0 .calm G1 H2 _ E E3 (fun σ2 δ2 G2 H3 n2 x y z => hn σ2 _ G2 H3 _ x (y.unbag h0p) (s1.trans z)) (fun v d G' H' n' x eo iv => hr v d G' H' _ x ⟨eo.sub0, eo.sub, fun b o hb _ nm nt => eo.same b o hb (mof_ne h0p (not_none hb) (fun ps z => nt ps (Option.some.inj (hb.symm.trans z))) nm) nm nt, fun b hb _ nm nt g0 => eo.fresh b hb (mof_ne h0p hb nt nm) nm nt g0, fun _ z => (nomatch z), eo.tabs, eo.gnt, fun a o h => ?_⟩ iv)
    (fun σ2 δ2 G2 H3 n2 x y z => hb σ2 _ G2 H3 _ x (y.unbag h0p) (s1.trans z)) (fun σ2 δ2 G2 H3 n2 x y z => hc σ2 _ G2 H3 _ x (y.unbag h0p) (s1.trans z))
  obtain ⟨h1, h2, h3, h4⟩ := eo.mob a o h
  exact ⟨h1, h2, (fun z => nomatch z), h4⟩
/-- len(script) -/
theorem gk_scrLen {i : Nat} {ns : List Int} (hi : δ[i]? = some (.scr ns)) (k : Φ (.int ns.length) n) : GK K Z (tCB (fun xs H Q => ∃ p ys, xs = [.ref p] ∧ (SqL K H p ys ∨ SqT K H p ys) ∧ Q (.int ys.length) H) (tCons (tVar i) tNil)) δ n Φ := fun B M G0 H0 xw G H σ E Q q => by
  obtain ⟨a, e1, e2⟩ := E.slot i _ hi
  exact ⟨_, look_some e1, a, ns.map V.int, rfl, .inl (E.sub.seqL e2), by rw [List.length_map]; exact q _ _ G H n k E (Sub.refl G) (.int _)⟩
/-! ### more rules -/
theorem rk_add {i j : Int} (k : Φ (.int (i + j)) n) : RK K Z (rI0 fun i j => .int (i + j)) (.int i) (.int j) δ n Φ := rk_I0 rfl k
theorem rk_sub {i j : Int} (k : Φ (.int (i - j)) n) : RK K Z (rI0 fun i j => .int (i - j)) (.int i) (.int j) δ n Φ := rk_I0 rfl k
theorem rk_lt {i j : Int} (k : Φ (.bl (decide (i < j))) n) : RK K Z (rI0 fun i j => .bl (decide (i < j))) (.int i) (.int j) δ n Φ := rk_I0 rfl k
theorem rk_le {i j : Int} (k : Φ (.bl (decide (i ≤ j))) n) : RK K Z (rI0 fun i j => .bl (decide (i ≤ j))) (.int i) (.int j) δ n Φ := rk_I0 rfl k
theorem rk_gt {i j : Int} (k : Φ (.bl (decide (j < i))) n) : RK K Z (rI0 fun i j => .bl (decide (j < i))) (.int i) (.int j) δ n Φ := rk_I0 rfl k
theorem rk_ge {i j : Int} (k : Φ (.bl (decide (j ≤ i))) n) : RK K Z (rI0 fun i j => .bl (decide (j ≤ i))) (.int i) (.int j) δ n Φ := rk_I0 rfl k
theorem rk_mul {i j : Int} (h : CMul i j) (k : Φ (.int (i * j)) n) : RK K Z (rI CMul fun i j => .int (i * j)) (.int i) (.int j) δ n Φ := rk_I rfl h k
theorem rk_fdiv {i j : Int} (h : CDiv i j) (k : Φ (.int (i / j)) n) : RK K Z (rI CDiv fun i j => .int (i / j)) (.int i) (.int j) δ n Φ := rk_I rfl h k
theorem rk_mod {i j : Int} (h : 0 < j) (k : Φ (.int (i % j)) n) : RK K Z (rI (fun _ j => 0 < j) fun i j => .int (i % j)) (.int i) (.int j) δ n Φ := rk_I rfl h k
theorem rk_eqI {i j : Int} (k : Φ (.bl (decide (i = j))) n) : RK K Z rEq (.int i) (.int j) δ n Φ := rk_eq rfl rfl rfl (by simpa using k)
theorem rk_neI {i j : Int} (k : Φ (.bl (!decide (i = j))) n) : RK K Z rNe (.int i) (.int j) δ n Φ := rk_ne rfl rfl rfl (by simpa using k)
theorem rk_eqS {i j : Str} (k : Φ (.bl (decide (i = j))) n) : RK K Z rEq (.str i) (.str j) δ n Φ := rk_eq rfl rfl rfl (by simpa using k)
theorem rk_neS {i j : Str} (k : Φ (.bl (!decide (i = j))) n) : RK K Z rNe (.str i) (.str j) δ n Φ := rk_ne rfl rfl rfl (by simpa using k)
theorem rk_eqB {i j : Bool} (k : Φ (.bl (decide (i = j))) n) : RK K Z rEq (.bl i) (.bl j) δ n Φ := rk_eq rfl rfl rfl (by simpa using k)
theorem rk_neB {i j : Bool} (k : Φ (.bl (!decide (i = j))) n) : RK K Z rNe (.bl i) (.bl j) δ n Φ := rk_ne rfl rfl rfl (by simpa using k)
theorem ru_neg {i : Int} (k : Φ (.int (-i)) n) : RU K Z (rU fun i => .int (-i)) (.int i) δ n Φ := ru_U rfl k
/-- a < b < c -/
theorem gk_chain {tc : TE} {r r' : R2} (h : GK K Z ta δ n fun x n1 => GK K Z tb δ n1 fun y n2 => RK K Z r x y δ n2 fun z n3 => ∃ k, z = .bl k ∧ (k = true → GK K Z tc δ n3 fun u n4 => RK K Z r' y u δ n4 Φ) ∧ (k = false → Φ (.bl false) n3)) : GK K Z (tChain r r' ta tb tc) δ n Φ := fun B M G0 H0 xw G H σ E Q q =>
  h B M G0 H0 xw G H σ E _ fun v x G1 H1 n1 f1 E1 s1 a1 => f1 B M G0 H0 xw G1 H1 σ E1 _ fun w y G2 H2 n2 f2 E2 s2 a2 => f2 B M G0 H0 xw G2 H2 σ E2 v w (a1.mono s2) a2 _ fun u d G3 H3 n3 f3 E3 s3 a3 => by
    obtain ⟨k, rfl, h1, h2⟩ := f3
    cases a3
    refine ⟨k, rfl, ?_⟩
    cases k with
    | true =>
      rw [if_pos rfl]
      exact h1 rfl B M G0 H0 xw G3 H3 σ E3 _ fun u' d' G4 H4 n4 f4 E4 s4 a4 => f4 B M G0 H0 xw G4 H4 σ E4 w u' ((a2.mono s3).mono s4) a4 Q fun u5 d5 G5 H5 n5 f5 E5 s5 a5 => q u5 d5 G5 H5 n5 f5 E5 ((((s1.trans s2).trans s3).trans s4).trans s5) a5
    | false =>
      rw [if_neg Bool.false_ne_true]
      exact q _ _ G3 H3 n3 (h2 rfl) E3 ((s1.trans s2).trans s3) (.bl _)
theorem gs_par3 {i j l : Nat} (h : GA K Z aa δ n fun ds n' => ∃ x y z, ds = [x, y, z] ∧ N (((δ.set i (.d x)).set j (.d y)).set l (.d z)) n') : GS K Z B (tPar3 i j l aa) δ n N R Bk Ct := fun m0 G0 H0 xw G H σ E e hn hr hb hc =>
  h B (MOf B m0 H0) G0 H0 xw G H σ e _ fun vs ds G1 H1 n1 f1 E1 s1 a1 => by
    obtain ⟨x, y, z, rfl, f1⟩ := f1
    cases a1 with
    | cons ha r =>
      cases r with
      | cons hb' r =>
        cases r with
        | cons hc' r =>
          cases r
          exact ⟨_, _, _, rfl, hn _ _ G1 H1 n1 f1 (((E1.set (s := .d x) ⟨_, rfl, ha⟩ fun _ z => nomatch z).set (s := .d y) ⟨_, rfl, hb'⟩ fun _ z => nomatch z).set (s := .d z) ⟨_, rfl, hc'⟩ fun _ z => nomatch z) s1⟩
/-- a, b = e -/
theorem gs_unp {g : TG} {vs : List Nat} (h : GK K Z te δ n fun d n' => ∃ δ', GG K g d δ δ' vs ∧ N δ' n') : GS K Z B (tAsg te g) δ n N R Bk Ct := fun m0 G0 H0 xw G H σ E e hn hr hb hc =>
  h B (MOf B m0 H0) G0 H0 xw G H σ e _ fun v d G1 H1 n1 f1 E1 s1 a1 => by
    obtain ⟨δ', g1, f1⟩ := f1
    exact g1 B _ n1 G0 H0 G1 H1 σ E1 v a1 _ fun σ' E2 _ => hn σ' δ' G1 H1 n1 f1 E2 s1
/-- tuple(x) -/
theorem rc_tupL {xs : List D} (k : Φ (.tup xs) n) : RC K Z (fun xs H Q => ∃ p ys, xs = [.ref p] ∧ ((SqL K H p ys ∧ ∀ l, H l = none → Q (.ref l) (upd H l (.tup ys))) ∨ (SqT K H p ys ∧ Q (.ref p) H))) [.lst xs] δ n Φ := fun B M G0 H0 xw G H σ E vs a Q q => by
  cases a with
  | cons a r =>
    cases r
    cases a with
    | lst h1 a1 =>
      refine ⟨_, _, rfl, .inl ⟨SqL.of (E.sub _ _ h1), fun p hp => ?_⟩⟩
      have s2 : ∀ o, Sub G (upd G p o) := fun o => Sub.new (E.sub.none hp)
      exact q _ _ _ _ n k (E.laid hp) (s2 _) (.tup (SqT.of upd_same) (a1.mono (s2 _)))
theorem rc_tupT {xs : List D} (k : Φ (.tup xs) n) : RC K Z (fun xs H Q => ∃ p ys, xs = [.ref p] ∧ ((SqL K H p ys ∧ ∀ l, H l = none → Q (.ref l) (upd H l (.tup ys))) ∨ (SqT K H p ys ∧ Q (.ref p) H))) [.tup xs] δ n Φ := fun B M G0 H0 xw G H σ E vs a Q q => by
  cases a with
  | cons a r =>
    cases r
    cases a with
    | tup h1 a1 => exact ⟨_, _, rfl, .inr ⟨E.sub.seq h1, q _ _ G H n k E (Sub.refl G) (.tup h1 a1)⟩⟩
theorem rc_listT {xs : List D} (k : Φ (.lst xs) n) : RC K Z (fun ws H Q => ∃ p ys, ws = [.ref p] ∧ (SqL K H p ys ∨ SqT K H p ys) ∧ ∀ l, H l = none → Q (.ref l) (upd H l (.lst ys))) [.tup xs] δ n Φ := fun B M G0 H0 xw G H σ E vs a Q q => by
  cases a with
  | cons a r =>
    cases r
    cases a with
    | tup h1 a1 =>
      refine ⟨_, _, rfl, .inr (E.sub.seq h1), fun p hp => ?_⟩
      have s2 : ∀ o, Sub G (upd G p o) := fun o => Sub.new (E.sub.none hp)
      exact q _ _ _ _ n k (E.laid hp) (s2 _) (.lst upd_same (a1.mono (s2 _)))
/-- tuples: + and slices -/
theorem rk_catT {xs ys : List D} (h : xs.length + ys.length ≤ 100000) (k : Φ (.tup (xs ++ ys)) n) : RK K Z (rCatA K) (.tup xs) (.tup ys) δ n Φ := fun B M G0 H0 xw G H σ E v w a b Q q => by
  cases a with
  | @tup p vs _ h1 a1 =>
    cases b with
    | @tup p2 ws _ h2 a2 =>
      refine ⟨_, _, _, _, rfl, rfl, E.sub.seq h1, E.sub.seq h2, by rw [a1.len, a2.len]; exact sz_ h, fun e => ?_, fun _ e => ?_, fun _ _ p hp => ?_⟩
      · subst e
        cases a1
        exact q _ _ G H n k E (Sub.refl G) (.tup h2 a2)
      · subst e
        cases a2
        rw [List.append_nil] at k
        exact q _ _ G H n k E (Sub.refl G) (.tup h1 a1)
      · have s2 : ∀ o, Sub G (upd G p o) := fun o => Sub.new (E.sub.none hp)
        exact q _ _ _ _ n k (E.laid hp) (s2 _) (.tup (SqT.of upd_same) ((a1.app a2).mono (s2 _)))
theorem cut_whole {xs : List D} {lo hi : Option Int} (h : HT.sIx xs.length 0 lo = 0 ∧ HT.sIx xs.length xs.length hi = xs.length) : cutD xs lo hi = xs := by
  unfold cutD
  rw [h.1, h.2, Nat.sub_zero, List.drop_zero, List.take_length]
theorem rs_tup {xs : List D} {lo hi : Option Int} (k : Φ (.tup (cutD xs lo hi)) n) : RS K Z (rSlA K) (.tup xs) lo hi δ n Φ := fun B M G0 H0 xw G H σ E v a Q q => by
  cases a with
  | @tup p vs _ h1 a1 =>
    refine ⟨_, _, rfl, E.sub.seq h1, fun e => ?_, fun _ p hp => ?_⟩
    · rw [a1.len] at e
      rw [cut_whole e] at k
      exact q _ _ G H n k E (Sub.refl G) (.tup h1 a1)
    · have s2 : ∀ o, Sub G (upd G p o) := fun o => Sub.new (E.sub.none hp)
      exact q _ _ _ _ n k (E.laid hp) (s2 _) (.tup (SqT.of upd_same) ((a1.cut lo hi).mono (s2 _)))
/-! ### == of data -/
mutual
def toP : D → PyData
  | .non => .none
  | .bl b => .bool b
  | .int i => .int i
  | .str x => .str x
  | .lst xs => .list (toPs xs)
  | .tup xs => .tuple (toPs xs)
  | .dic _ => .none
  | .ptr _ => .none
  | .dct kvs => .dict (toPk kvs)
def toPs : List D → List PyData
  | [] => []
  | x :: xs => toP x :: toPs xs
def toPk : List (Key × D) → List (PyData × PyData)
  | [] => []
  | (.inl i, x) :: xs => (.int i, toP x) :: toPk xs
  | (.inr z, x) :: xs => (.str z, toP x) :: toPk xs
end
/-- no dict within, texts well, k deep at most -/
inductive Shp : Nat → D → Prop where
  | non {k : Nat} : Shp k .non
  | bl {k : Nat} (b : Bool) : Shp k (.bl b)
  | int {k : Nat} (i : Int) : Shp k (.int i)
  | str {k : Nat} {x : Str} (h : ∀ c ∈ tl x, c < 1114112) : Shp k (.str x)
  | lst {k : Nat} {xs : List D} (h : ∀ x ∈ xs, Shp k x) : Shp (k + 1) (.lst xs)
  | tup {k : Nat} {xs : List D} (h : ∀ x ∈ xs, Shp k x) : Shp (k + 1) (.tup xs)
mutual
theorem Is.dp {G H : Hp} (s : Sub G H) : ∀ {v : V} {d : D} {k : Nat}, Is K G v d → Shp k d → Dp K H v (toP d)
  | _, _, _, .non, _ => by unfold toP; exact .non
  | _, _, _, .bl b, _ => by unfold toP; exact .bl b
  | _, _, _, .int i, _ => by unfold toP; exact .int i
  | _, _, _, .str x, _ => by unfold toP; exact .str x
  | _, _, _, .lst h a, hs => by
    unfold toP
    cases hs with
    | lst hs => exact .lst (SqL.of (s _ _ h)) (IsAll.dp s a hs)
  | _, _, _, .tup h a, hs => by
    unfold toP
    cases hs with
    | tup hs => exact .tup (s.seq h) (IsAll.dp s a hs)
  | _, _, _, .dic _ _, hs => by cases hs
  | _, _, _, .dct _ _, hs => by cases hs
  | _, _, _, .ptr _, hs => by cases hs
theorem IsAll.dp {G H : Hp} (s : Sub G H) : ∀ {vs : List V} {ds : List D} {k : Nat}, IsAll K G vs ds → (∀ x ∈ ds, Shp k x) → DpAll K H vs (toPs ds)
  | _, _, _, .nil, _ => by unfold toPs; exact .nil
  | _, _, _, .cons h r, hs => by
    unfold toPs
    exact .cons (Is.dp s h (hs _ List.mem_cons_self)) (IsAll.dp s r fun x hx => hs x (List.mem_cons_of_mem _ hx))
end
theorem toPs_lay {xs : List D} : (∀ x ∈ xs, (toP x).canLay0 = true) → PyData.canLayAll0 (toPs xs) = true := by
  induction xs with
  | nil => intro _; unfold toPs PyData.canLayAll0; rfl
  | cons x xs ih =>
    intro h
    unfold toPs PyData.canLayAll0
    rw [h x List.mem_cons_self, ih fun y hy => h y (List.mem_cons_of_mem _ hy)]
    rfl
theorem toPs_depth {xs : List D} {k : Nat} : (∀ x ∈ xs, (toP x).depth ≤ k) → PyData.depthAll (toPs xs) ≤ k := by
  induction xs with
  | nil => intro _; unfold toPs PyData.depthAll; exact Nat.zero_le _
  | cons x xs ih =>
    intro h
    unfold toPs PyData.depthAll
    exact Nat.max_le.mpr ⟨h x List.mem_cons_self, ih fun y hy => h y (List.mem_cons_of_mem _ hy)⟩
theorem Shp.ok {k : Nat} {d : D} (h : Shp k d) : (toP d).canLay0 = true ∧ (toP d).depth ≤ k := by
  induction h with
  | non => unfold toP; simp [PyData.canLay0, PyData.depth]
  | bl => unfold toP; simp [PyData.canLay0, PyData.depth]
  | int => unfold toP; simp [PyData.canLay0, PyData.depth]
  | @str k x h =>
    unfold toP
    simp only [PyData.canLay0, PyData.depth, Nat.zero_le, and_true]
    unfold PyData.strOk
    rw [Array.all_eq_true']
    intro c hc
    exact decide_eq_true (h c (Array.mem_toList_iff.mpr hc))
  | lst h ih =>
    unfold toP
    simp only [PyData.canLay0, PyData.depth]
    exact ⟨toPs_lay fun x hx => (ih x hx).1, Nat.succ_le_succ (toPs_depth fun x hx => (ih x hx).2)⟩
  | tup h ih =>
    unfold toP
    simp only [PyData.canLay0, PyData.depth]
    exact ⟨toPs_lay fun x hx => (ih x hx).1, Nat.succ_le_succ (toPs_depth fun x hx => (ih x hx).2)⟩
theorem Shp.shaped {k : Nat} {d : D} (h : Shp k d) (hk : k ≤ 64) : SeqAt.shaped (toP d) = true := by
  unfold SeqAt.shaped
  rw [h.ok.1, decide_eq_true (Nat.le_trans h.ok.2 hk)]
  rfl
def eqD (x y : D) : Bool := PyData.eqv (toP x) (toP y)
theorem eqD_self {k : Nat} {x : D} (h : Shp k x) : eqD x x = true := PySem.SeqAt.eqv_refl _ h.ok.1
theorem rk_eqD {j k : Nat} {x y : D} (hx : Shp j x) (hy : Shp k y) (hj : j ≤ 64) (hk : k ≤ 64) (q : Φ (.bl (eqD x y)) n) : RK K Z (rEqD K) x y δ n Φ := fun B M G0 H0 xw G H σ E v w a b Q qq =>
  ⟨_, _, a.dp E.sub hx, b.dp E.sub hy, hx.shaped hj, hy.shaped hk, qq _ _ G H n q E (Sub.refl G) (.bl _)⟩
theorem rk_neD {j k : Nat} {x y : D} (hx : Shp j x) (hy : Shp k y) (hj : j ≤ 64) (hk : k ≤ 64) (q : Φ (.bl (!eqD x y)) n) : RK K Z (rNeD K) x y δ n Φ := fun B M G0 H0 xw G H σ E v w a b Q qq =>
  ⟨_, _, a.dp E.sub hx, b.dp E.sub hy, hx.shaped hj, hy.shaped hk, qq _ _ G H n q E (Sub.refl G) (.bl _)⟩
/-- of the same -/
theorem rk_neSame {k : Nat} {x y : D} (e : x = y) (hx : Shp k x) (hk : k ≤ 64) (q : Φ (.bl false) n) : RK K Z (rNeD K) x y δ n Φ := by
  subst e
  exact rk_neD hx hx hk hk (by rw [eqD_self hx]; exact q)
theorem rk_eqSame {k : Nat} {x y : D} (e : x = y) (hx : Shp k x) (hk : k ≤ 64) (q : Φ (.bl true) n) : RK K Z (rEqD K) x y δ n Φ := by
  subst e
  exact rk_eqD hx hx hk hk (by rw [eqD_self hx]; exact q)
theorem shp_ints {k : Nat} {ns : List Int} : ∀ x ∈ ns.map D.int, Shp k x := fun x hx => by
  obtain ⟨i, _, rfl⟩ := List.mem_map.mp hx
  exact .int i
/-! ### isinstance -/
def tyn : D → String
  | .non => "NoneType" | .bl _ => "bool" | .int _ => "int" | .str _ => "str" | .lst _ => "list" | .tup _ => "tuple" | .dic _ => "dict" | .ptr _ => "?" | .dct _ => "dict"
def isPtr : D → Bool
  | .ptr _ => true | _ => false
theorem Is.ty {G H : Hp} {v : V} {d : D} (s : Sub G H) (a : Is K G v d) (np : isPtr d = false) : TyX K H v (.type (tyn d)) := by
  cases a with
  | non => exact .base .non
  | bl b => exact .base (.bl b)
  | int i => exact .base (.int i)
  | str x => exact .base (.str x)
  | lst h _ => exact .base (.lst (s _ _ h))
  | tup h _ =>
    rcases s.seq h with (h | ⟨o, h⟩) | ⟨o, _, _, h, c, _⟩
    · exact .base (.tup h)
    · exact .fTuple h
    · exact .kTuple h c
  | dic h _ =>
    rcases s.rd h with h | ⟨o, h⟩
    · exact .base (.dK h)
    · exact .fDict h
  | ptr _ => cases np
  | dct h _ => exact .fDict (s _ _ h)
/-- isinstance of a type's own, by name -/
def KitB (K : PySem.W.Frag) (t c : String) (b : Bool) : Prop := PySem.W.kitOne K (.type t) (.type c) = some b
theorem gk_isi {c : String} (h : GK K Z te δ n fun d n1 => ∃ b, isPtr d = false ∧ KitB K (tyn d) c b ∧ Φ (.bl b) n1) : GK K Z (tCB (rIsi K) (tCons te (tCons (tC (.ty c)) tNil))) δ n Φ := fun B M G0 H0 xw G H σ E Q q =>
  h B M G0 H0 xw G H σ E _ fun v d G1 H1 n1 f1 E1 s1 a1 => by
    obtain ⟨b, np, hb, f1⟩ := f1
    exact ⟨v, .ty c, _, _, b, rfl, .ty c, a1.ty E1.sub np, hb, q _ _ G1 H1 n1 f1 E1 s1 (.bl b)⟩
theorem kitOne_self {t : Value} : PySem.W.kitOne K t t = some true := by
  unfold PySem.W.kitOne
  rw [if_pos (beq_self_eq_true t)]
/-- a call whose last arguments are defaults -/
theorem gk_callD {sp : Sp} {E : XK} {ds : List V} {es : List D} (hd : ∀ G, IsAll K G ds es) (h : GA K Z aa δ n fun xs n1 => SC K Z sp (xs ++ es) δ n1 Φ) : GK K Z (tCall sp ds E aa) δ n Φ := fun B M G0 H0 xw G H σ E Q q =>
  h B M G0 H0 xw G H σ E _ fun vs xs G1 H1 n1 f1 E1 s1 a1 => f1 B M G0 H0 xw G1 H1 σ E1 _ (a1.app (hd G1)) Q _ fun u d G3 H3 n3 f3 E3 s3 a3 => q u d G3 H3 n3 f3 E3 (s1.trans s3) a3
end
end Tl

namespace Tl
open PySem L2 TL LamX
section
variable [Tabl] {K : PySem.W.Frag} {Z : XZ} {B : Option Addr} {δ : List Slot} {n : Sto} {Φ : D → Sto → Prop} {te ta tb : TE} {aa : TA} {tt : TT} {wi : TI} {g : TG} {vs : List Nat} {N Bk Ct : List Slot → Sto → Prop} {R : D → Sto → Prop} {ts : TS}
/-! ### short forms -/
theorem gk_i {i : Int} (k : Φ (.int i) n) : GK K Z (tC (.int i)) δ n Φ := gk_c rfl k
theorem gk_s {x : Str} (k : Φ (.str x) n) : GK K Z (tC (.str x)) δ n Φ := gk_c rfl k
theorem gk_b {b : Bool} (k : Φ (.bl b) n) : GK K Z (tC (.bl b)) δ n Φ := gk_c rfl k
theorem gk_n (k : Φ .non n) : GK K Z (tC .non) δ n Φ := gk_c rfl k
theorem OffD.wipe : OffD vs (wipeD δ vs) δ := fun _ hi => wipeD_at hi
theorem OffD.set {δ2 : List Slot} {j : Nat} {s : Slot} (h : OffD vs δ2 δ) (hj : j ∈ vs) : OffD vs (δ2.set j s) δ := fun i hi => by
  rw [List.getElem?_set_ne (fun z => hi (by rw [← z]; exact hj))]
  exact h i hi
/-- one name, each element by the same function -/
theorem gk_map1 {j : Nat} {f : D → D} (ho : ∀ x, δ[j]? ≠ some (.ow x)) (h : GI K Z wi δ n fun xs n1 => xs.length ≤ 50000 ∧ (∀ x ∈ xs, GK K .calm te ((wipeD δ [j]).set j (.d x)) n1 fun y n2 => y = f x ∧ n2 = n1) ∧ Φ (.lst (xs.map f)) n1) :
    GK K Z (tLc wi (gName j) tYes te [j]) δ n Φ := by
  refine gk_lc (fun i hi xs => ?_) fun B M G0 H0 xw G H σ E R r => h B M G0 H0 xw G H σ E R fun J xs G' H' n' q e s it => r J xs G' H' n' ⟨q.1, fun i acc m => acc = (xs.take i).map f ∧ m = n', ⟨rfl, rfl⟩, ?_, ?_⟩ e s it
  · cases List.mem_singleton.mp hi
    exact ho xs
  · rintro i x acc m hx ⟨rfl, rfl⟩ _
    refine ⟨_, gg_name (List.mem_singleton.mpr rfl), OffD.wipe.set (List.mem_singleton.mpr rfl), gt_yes ⟨fun _ => ?_, fun z => nomatch z⟩⟩
    refine fun B M G0 H0 xw G H σ E Q k => q.2.1 x (List.mem_of_getElem? hx) B M G0 H0 xw G H σ E Q fun v d G' H' n' z => k v d G' H' n' ?_
    obtain ⟨rfl, rfl⟩ := z
    refine ⟨?_, rfl⟩
    rw [take_snoc hx, List.map_append]
    rfl
  · rintro acc m ⟨rfl, rfl⟩ _
    rw [List.take_length]
    exact q.2.2
/-- one name, each element drawn -/
theorem gk_draw1 {j : Nat} {Pd : D → Prop} (c : Nat) (ho : ∀ x, δ[j]? ≠ some (.ow x)) (h : GI K Z wi δ n fun xs n1 => ∃ n0 μ, n1 = ⟨n0, μ⟩ ∧ xs.length ≤ 50000 ∧ (∀ i x m, xs[i]? = some x → m ≤ n0 + c * i → GK K .calm te ((wipeD δ [j]).set j (.d x)) ⟨m, μ⟩ fun y n2 => ∃ m2, n2 = ⟨m2, μ⟩ ∧ Pd y ∧ m2 ≤ n0 + c * (i + 1)) ∧
      ∀ ys m, ys.length = xs.length → (∀ y ∈ ys, Pd y) → m ≤ n0 + c * xs.length → Φ (.lst ys) ⟨m, μ⟩) :
    GK K Z (tLc wi (gName j) tYes te [j]) δ n Φ := by
  refine gk_lc (fun i hi xs => ?_) fun B M G0 H0 xw G H σ E R r => h B M G0 H0 xw G H σ E R fun J xs G' H' n' q e s it => ?_
  · cases List.mem_singleton.mp hi
    exact ho xs
  obtain ⟨n0, μ, rfl, q⟩ := q
  refine r J xs G' H' _ ⟨q.1, fun i acc m => acc.length = i ∧ (∀ y ∈ acc, Pd y) ∧ ∃ m', m = ⟨m', μ⟩ ∧ m' ≤ n0 + c * i, ⟨rfl, fun _ z => (nomatch z), n0, rfl, Nat.le_refl _⟩, ?_, ?_⟩ e s it
  · rintro i x acc m hx ⟨hl, hp, m', rfl, hm⟩ _
    refine ⟨_, gg_name (List.mem_singleton.mpr rfl), OffD.wipe.set (List.mem_singleton.mpr rfl), gt_yes ⟨fun _ => ?_, fun z => nomatch z⟩⟩
    refine fun B M G0 H0 xw G H σ E Q k => q.2.1 i x m' hx hm B M G0 H0 xw G H σ E Q fun v d G' H' n' z => k v d G' H' n' ?_
    obtain ⟨m2, rfl, z1, z2⟩ := z
    refine ⟨?_, fun y hy => ?_, m2, rfl, z2⟩
    · rw [List.length_append, hl]
      rfl
    · rcases List.mem_append.mp hy with hy | hy
      · exact hp y hy
      · rw [List.mem_singleton.mp hy]
        exact z1
  · rintro acc m ⟨hl, hp, m', rfl, hm⟩ _
    exact q.2.2 acc m' hl hp hm
/-- [e for x in xs if c] with one name: the test and the element by functions -/
theorem gk_filt1 {j : Nat} {f : D → D} {c : D → Bool} (ho : ∀ x, δ[j]? ≠ some (.ow x)) (h : GI K Z wi δ n fun xs n1 => xs.length ≤ 50000 ∧ (∀ x ∈ xs, GT K .calm tt ((wipeD δ [j]).set j (.d x)) n1 fun b n2 => b = c x ∧ n2 = n1 ∧ (b = true → GK K .calm te ((wipeD δ [j]).set j (.d x)) n1 fun y n3 => y = f x ∧ n3 = n1)) ∧ Φ (.lst ((xs.filter c).map f)) n1) :
    GK K Z (tLc wi (gName j) tt te [j]) δ n Φ := by
  refine gk_lc (fun i hi xs => ?_) fun B M G0 H0 xw G H σ E R r => h B M G0 H0 xw G H σ E R fun J xs G' H' n' q e s it => r J xs G' H' n' ⟨q.1, fun i acc m => acc = ((xs.take i).filter c).map f ∧ m = n', ⟨rfl, rfl⟩, ?_, ?_⟩ e s it
  · cases List.mem_singleton.mp hi
    exact ho xs
  · rintro i x acc m hx ⟨rfl, rfl⟩ _
    refine ⟨_, gg_name (List.mem_singleton.mpr rfl), OffD.wipe.set (List.mem_singleton.mpr rfl), ?_⟩
    refine fun B M G0 H0 xw G H σ E Q k => q.2.1 x (List.mem_of_getElem? hx) B M G0 H0 xw G H σ E Q fun b G' H' n' z => k b G' H' n' ?_
    obtain ⟨rfl, rfl, z⟩ := z
    refine ⟨fun hb => ?_, fun hb => ?_⟩
    · refine fun B M G0 H0 xw G H σ E Q k => z hb B M G0 H0 xw G H σ E Q fun v d G' H' n' y => k v d G' H' n' ?_
      obtain ⟨rfl, rfl⟩ := y
      refine ⟨?_, rfl⟩
      rw [take_snoc hx, List.filter_append, List.map_append]
      simp [hb]
    · refine ⟨?_, rfl⟩
      rw [take_snoc hx, List.filter_append, List.map_append]
      simp [hb]
  · rintro acc m ⟨rfl, rfl⟩ _
    rw [List.take_length]
    exact q.2.2
end
/-! ### calls by keywords: where each parameter's value comes from -/
def kgP {α : Type} (plan : List (Nat × Nat)) (us ms ws : List α) : List α := plan.flatMap fun q => ((if q.1 = 0 then us else if q.1 = 1 then ms else ws)[q.2]?).toList
theorem opt_rel {vs : List V} {us : List Value} (r : Vals vs us) (i : Nat) : Vals (vs[i]?).toList (us[i]?).toList := by
  cases e : vs[i]? with
  | none =>
    have : us[i]? = none := by
      rw [List.getElem?_eq_none_iff] at e ⊢
      rw [← r.length]
      exact e
    rw [this]
    exact .nil
  | some x =>
    obtain ⟨u, h1, h2⟩ := r.get e
    rw [h1]
    exact .cons h2 .nil
theorem kgP_rel {plan : List (Nat × Nat)} {us ms ws : List V} {us' ms' ws' : List Value} (r1 : Vals us us') (r2 : Vals ms ms') (r3 : Vals ws ws') : Vals (kgP plan us ms ws) (kgP plan us' ms' ws') := by
  induction plan with
  | nil => exact .nil
  | cons q plan ih =>
    unfold kgP at ih ⊢
    rw [List.flatMap_cons, List.flatMap_cons]
    refine Vals.append ?_ ih
    by_cases h0 : q.1 = 0
    · rw [if_pos h0, if_pos h0]
      exact opt_rel r1 _
    · by_cases h1 : q.1 = 1
      · rw [if_neg h0, if_pos h1, if_neg h0, if_pos h1]
        exact opt_rel r2 _
      · rw [if_neg h0, if_neg h1, if_neg h0, if_neg h1]
        exact opt_rel r3 _
theorem opt_is {K : PySem.W.Frag} {G : Hp} {vs : List V} {ds : List D} (r : IsAll K G vs ds) (i : Nat) : IsAll K G (vs[i]?).toList (ds[i]?).toList := by
  cases e : vs[i]? with
  | none =>
    have : ds[i]? = none := by
      rw [List.getElem?_eq_none_iff] at e ⊢
      rw [← r.len]
      exact e
    rw [this]
    exact .nil
  | some x =>
    obtain ⟨u, h1, h2⟩ := r.get e
    rw [h1]
    exact .cons h2 .nil
theorem kgP_is {K : PySem.W.Frag} {G : Hp} {plan : List (Nat × Nat)} {us ms ws : List V} {us' ms' ws' : List D} (r1 : IsAll K G us us') (r2 : IsAll K G ms ms') (r3 : IsAll K G ws ws') : IsAll K G (kgP plan us ms ws) (kgP plan us' ms' ws') := by
  induction plan with
  | nil => exact .nil
  | cons q plan ih =>
    unfold kgP at ih ⊢
    rw [List.flatMap_cons, List.flatMap_cons]
    refine IsAll.app ?_ ih
    by_cases h0 : q.1 = 0
    · rw [if_pos h0, if_pos h0]
      exact opt_is r1 _
    · by_cases h1 : q.1 = 1
      · rw [if_neg h0, if_pos h1, if_neg h0, if_pos h1]
        exact opt_is r2 _
      · rw [if_neg h0, if_neg h1, if_neg h0, if_neg h1]
        exact opt_is r3 _
def sclAll (vs : List V) : Bool := vs.all scl
theorem IsAll.scl {K : PySem.W.Frag} {G : Hp} : ∀ {vs : List V}, sclAll vs = true → IsAll K G vs (vs.map ofV)
  | [], _ => .nil
  | v :: vs, h => by
    unfold sclAll at h
    rw [List.all_cons, Bool.and_eq_true] at h
    exact .cons (Is.scl h.1) (IsAll.scl h.2)
theorem gk_kw [Tabl] {K : PySem.W.Frag} {Z : XZ} {δ : List Slot} {n : Sto} {Φ : D → Sto → Prop} {aa ab : TA} {sp : Sp} {E : XK} {k m : Nat} {plan : List (Nat × Nat)} {ms : List V} (hm : sclAll ms = true)
    (h : GA K Z aa δ n fun xs n1 => GA K Z ab δ n1 fun ys n2 => xs.length = k ∧ ys.length = m ∧ SC K Z sp (kgP plan xs (ms.map ofV) ys) δ n2 Φ) : GK K Z (tCallN k m sp (fun vs zs => kgP plan vs ms zs) E aa ab) δ n Φ :=
  gk_callN (gD := fun xs ys => kgP plan xs (ms.map ofV) ys) (fun a b => kgP_is a (IsAll.scl hm) b) h
theorem gk_dfl [Tabl] {K : PySem.W.Frag} {Z : XZ} {δ : List Slot} {n : Sto} {Φ : D → Sto → Prop} {aa : TA} {sp : Sp} {E : XK} {ms : List V} (hm : sclAll ms = true) (h : GA K Z aa δ n fun xs n1 => SC K Z sp (xs ++ ms.map ofV) δ n1 Φ) : GK K Z (tCall sp ms E aa) δ n Φ :=
  gk_callD (fun _ => IsAll.scl hm) h
/-! ### drawn texts -/
theorem ones_of {Pc : Nat → Prop} : ∀ {ys : List D}, (∀ y ∈ ys, ∃ c, Pc c ∧ y = .str (S [c])) → ∃ cs : List Nat, ys = (cs.map fun c => S [c]).map D.str ∧ (∀ c ∈ cs, Pc c) ∧ cs.length = ys.length
  | [], _ => ⟨[], rfl, fun _ z => (nomatch z), rfl⟩
  | y :: ys, h => by
    obtain ⟨c, hc, rfl⟩ := h y List.mem_cons_self
    obtain ⟨cs, rfl, h2, h3⟩ := ones_of (ys := ys) fun y hy => h y (List.mem_cons_of_mem _ hy)
    exact ⟨c :: cs, rfl, fun x hx => (List.mem_cons.mp hx).elim (fun z => z ▸ hc) (h2 x), by rw [List.length_cons, List.length_cons, h3]⟩
theorem ru_ones [Tabl] {K : PySem.W.Frag} {Z : XZ} {δ : List Slot} {n : Sto} {Φ : D → Sto → Prop} {cs : List Nat} (h : cs.length ≤ 100000) (k : Φ (.str (S cs)) n) :
    RU K Z (fun w H Q => (fun x xs H Q => ∃ a p, ∃ ys : List Str, x = .str a ∧ xs = [.ref p] ∧ (SqL K H p (ys.map V.str) ∨ SqT K H p (ys.map V.str)) ∧ (ys.map (·.length)).sum + ys.length * a.length ≤ 16777216 ∧ Q (.str (Txt.join a ys)) H) (V.str "") [w] H Q) (.lst ((cs.map fun c => S [c]).map D.str)) δ n Φ := by
  refine ru_join ?_ ?_
  · rw [ones_sum]
    show cs.length * (0 + 1) ≤ 16777216
    omega
  · rw [show (Str.ofString "" : Str) = S [] from rfl, join_ones]
    exact k
theorem at_1 {a : D} {r : Int} (h0 : 0 ≤ r) (h1 : r < 1) : L2.atI [a] r = some a := by
  cases (show r = 0 by omega)
  rfl
theorem at_2 {a b : D} {r : Int} (h0 : 0 ≤ r) (h1 : r < 2) : ∃ d, L2.atI [a, b] r = some d ∧ (d = a ∨ d = b) := by
  obtain ⟨j, rfl⟩ : ∃ j : Nat, r = (j : Int) := ⟨r.toNat, by omega⟩
  match j, h1 with
  | 0, _ => exact ⟨_, rfl, .inl rfl⟩
  | 1, _ => exact ⟨_, rfl, .inr rfl⟩
theorem at_any {xs : List D} {r : Int} (h0 : 0 ≤ r) (h1 : r < (xs.length : Int)) : ∃ d, L2.atI xs r = some d ∧ d ∈ xs := by
  obtain ⟨j, rfl⟩ : ∃ j : Nat, r = (j : Int) := ⟨r.toNat, by omega⟩
  have hj : j < xs.length := by omega
  exact ⟨xs[j], atI_nat (List.getElem?_eq_getElem hj), List.getElem_mem hj⟩
theorem dec_no {p : Prop} [Decidable p] {X : Prop} (h : ¬ p) : decide p = true → X := fun e => absurd (of_decide_eq_true e) h
/-! ### slices from and to -/
theorem cutD_to {xs : List D} {i : Int} (h : 0 ≤ i) : cutD xs none (some i) = xs.take i.toNat := by
  have e : HT.sIx xs.length xs.length (some i) = min i.toNat xs.length := by
    unfold HT.sIx
    simp only
    split <;> omega
  unfold cutD
  rw [show HT.sIx xs.length 0 none = 0 from rfl, e, List.drop_zero, Nat.sub_zero, List.take_eq_take_iff]
  omega
theorem cutD_from {xs : List D} {i : Int} (h : 0 ≤ i) : cutD xs (some i) none = xs.drop i.toNat := by
  have e : HT.sIx xs.length 0 (some i) = min i.toNat xs.length := by
    unfold HT.sIx
    simp only
    split <;> omega
  unfold cutD
  rw [show HT.sIx xs.length xs.length none = xs.length from rfl, e]
  by_cases hl : i.toNat ≤ xs.length
  · rw [Nat.min_eq_left hl, List.take_of_length_le (by rw [List.length_drop]; omega)]
  · rw [Nat.min_eq_right (by omega), List.drop_eq_nil_of_le (Nat.le_refl _), List.drop_eq_nil_of_le (by omega), List.take_nil]
section
variable [Tabl] {K : PySem.W.Frag} {Z : XZ} {δ : List Slot} {n : Sto} {Φ : D → Sto → Prop}
theorem rs_tupTo {xs : List D} {i : Int} (h : 0 ≤ i) (k : Φ (.tup (xs.take i.toNat)) n) : RS K Z (rSlA K) (.tup xs) none (some i) δ n Φ := rs_tup (by rw [cutD_to h]; exact k)
theorem rs_tupFrom {xs : List D} {i : Int} (h : 0 ≤ i) (k : Φ (.tup (xs.drop i.toNat)) n) : RS K Z (rSlA K) (.tup xs) (some i) none δ n Φ := rs_tup (by rw [cutD_from h]; exact k)
theorem rs_lstTo {xs : List D} {i : Int} (h : 0 ≤ i) (k : Φ (.lst (xs.take i.toNat)) n) : RS K Z (rSlL K) (.lst xs) none (some i) δ n Φ := rs_lst (by rw [cutD_to h]; exact k)
theorem rs_lstFrom {xs : List D} {i : Int} (h : 0 ≤ i) (k : Φ (.lst (xs.drop i.toNat)) n) : RS K Z (rSlL K) (.lst xs) (some i) none δ n Φ := rs_lst (by rw [cutD_from h]; exact k)
end
theorem str_app_len (x y : Str) : (x ++ y).length = x.length + y.length := by rw [len_tl, tl_append, List.length_append, ← len_tl, ← len_tl]
end Tl

namespace Tl
open PySem PySem.Spec PyProof.Rows L2 TL LamX
/-! ### a lambda of one parameter -/
structure LamP (sc scope : Scope) (p : Str) : Prop where
  kind : scope.kind = .function
  co : scope.isCoroutine = false
  gen : scope.isGenerator = false
  own : ∀ y ∈ scope.names, y.2 ≠ .cell ∧ (y.2 = .local → y.1 = p)
  par : scope.names.lookup p = some .local
  free : ∀ y ∈ scope.names, y.2 = .free → sc.names.lookup y.1 = some .cell ∨ sc.names.lookup y.1 = some .free
def lamPB (sc scope : Scope) (p : Str) : Bool :=
  decide (scope.kind = .function) && !scope.isCoroutine && !scope.isGenerator && (scope.names.all fun y => !decide (y.2 = .cell) && (!decide (y.2 = .local) || decide (y.1 = p)) && (!decide (y.2 = .free) || decide (sc.names.lookup y.1 = some .cell) || decide (sc.names.lookup y.1 = some .free))) && decide (scope.names.lookup p = some .local)
theorem lamP_by {sc scope : Scope} {p : Str} (h : lamPB sc scope p = true) : LamP sc scope p := by
  unfold lamPB at h
  simp only [Bool.and_eq_true, Bool.or_eq_true, Bool.not_eq_true', decide_eq_true_eq, decide_eq_false_iff_not, List.all_eq_true] at h
  obtain ⟨⟨⟨⟨h1, h2⟩, h3⟩, h4⟩, h5⟩ := h
  refine ⟨h1, h2, h3, fun y hy => ⟨(h4 y hy).1.1, fun e => ?_⟩, h5, fun y hy e => ?_⟩
  · rcases (h4 y hy).1.2 with z | z
    · exact absurd e z
    · exact z
  · rcases (h4 y hy).2 with (z | z) | z
    · exact absurd e z
    · exact .inl z
    · exact .inr z
theorem LamP.has {X : Cx} {scope : Scope} {p : Str} (L : LamP X.env.scope scope p) (ok : X.Ok) : ∀ y ∈ scope.names, y.2 = .free → ∃ c, X.env.cells.lookup y.1 = some c := fun y hy e => by
  rcases L.free y hy e with k | k
  · exact ok.has _ (.inl k)
  · exact ok.has _ (.inr k)
section
variable {X : Cx} {pins : List (Addr × Obj)} {σ : L2.St} {H : Hp} {s : Shared}
theorem lam_start1 {A : Around} {E : XK} {scope : Scope} {f c' : Addr} {h₁ : Heap} {tk : Nat} {p : Str} {x : V} {v : Value} {j : Nat} (I : Inv X pins σ H s) (L : LamP X.env.scope scope p) (e0 : Env0 X.prog X.w X.K X.mg X.base A X.stack s H) (hd : A.handled = none) (rx : RelV x v)
    (hN : X.N.Nodup) (hj : X.N[j]? = some p) (hns : h₁.Ns s.heap.objs.size fun y => ([(p, v)] : List (Str × Value)).reverse.lookup y) (kp : ∀ b o, s.heap.get? b = some o → h₁.get? b = some o) :
    Inv (lamCx X A X.stack s H E scope f c') [] (σ.set j (some x)) H { s with heap := h₁, toks := tk } := by
  have hfree := L.has I.ok
  have cm : ∀ {y c}, (cloFrom X.env.cells scope.names []).lookup y = some c → X.env.cells.lookup y = some c := fun {y c} e => by
    rcases cloFrom_mem (PySem.mem_of_lookup e) with hm | ⟨h1, h2⟩
    · cases hm
    · obtain ⟨c1, hc⟩ := hfree _ h1 rfl
      have hc : X.env.cells.lookup y = some c1 := hc
      have e2 : c = c1 := by
        rw [h2, hc] <;> rfl
      rw [e2]
      exact hc
  have look : ∀ {y}, scope.names.lookup y = some .free → ∃ c, (cloFrom X.env.cells scope.names []).lookup y = some c := fun {y} hl => by
    have hy : (y, NameKind.free) ∈ scope.names := PySem.mem_of_lookup hl
    exact mem_lookup (cloFrom_has (cells := X.env.cells) (acc := []) hy)
  have cellK : ∀ {c : Addr} {v : Option Value}, H c = none → s.heap.IsCell c v → h₁.IsCell c v := fun {c v} n ⟨o, ho, hd⟩ => ⟨o, kp _ _ ho, hd⟩
  have noA : ∀ b : Addr, b ∉ (lamCx X A X.stack s H E scope f c').ex := fun b z => absurd (show b ∈ ([] : List Addr) from z) (by simp)
  refine ⟨⟨e0.mod, L.kind, rfl, rfl, Nat.le_refl _, fun y z c e1 e2 => I.ok.inj y z c (cm e1) (cm e2), fun y hy => ?_, fun y c z _ => ?_, fun _ => hd, Around.frames_deeper e0.frames, .inr ⟨rfl, rfl⟩, fun b z => absurd z (noA b), e0.bs, e0.bsz, fun b _ _ => noA b,
      fun b z => absurd z (noA b), e0.funs, e0.frf⟩,
    rfl, e0.bare, Un.kept kp, ⟨_, hns, fun i y v' e1 e2 e3 => ?_⟩, fun y c e => ?_, e0.hok.fresh (Nat.le_refl _), fun y c e => ?_, fun q hq => absurd (show q ∈ ([] : List (Addr × Obj)) ++ [] from hq) (by simp), e0.hok.kept kp, by rw [List.length_set]; exact I.len⟩
  · have hy : scope.names.lookup y = some .cell ∨ scope.names.lookup y = some .free := hy
    rcases hy with hy | hy
    · exact absurd rfl (L.own _ (PySem.mem_of_lookup hy)).1
    · exact look hy
  · have z : false = true := z
    cases z
  · have e3 : Vis scope y := e3
    have e1 : X.N[i]? = some y := e1
    rcases e3 with k | k | k
    · -- the parameter
      have hp : y = p := (L.own _ (PySem.mem_of_lookup k)).2 rfl
      subst hp
      have hij : j = i := List.getElem?_inj (List.getElem?_eq_some_iff.mp hj).1 hN |>.mp (by rw [hj, e1])
      subst hij
      rw [List.getElem?_set_self (by
        have h1 := (List.getElem?_eq_some_iff.mp hj).1
        rw [I.len]
        exact h1)] at e2
      cases e2
      exact ⟨v, rx, .inl ⟨k, by simp⟩⟩
    · exact absurd rfl (L.own _ (PySem.mem_of_lookup k)).1
    · obtain ⟨m, hn, hl⟩ := I.loc
      have hvis : Vis X.env.scope y := (L.free _ (PySem.mem_of_lookup k) rfl).elim (fun k => .inr (.inl k)) (fun k => .inr (.inr k))
      have hij : j ≠ i := fun z => by
        subst z
        rw [hj] at e1
        cases e1
        rw [L.par] at k
        cases k
      rw [List.getElem?_set_ne hij] at e2
      obtain ⟨w', r, q⟩ := hl i y v' e1 e2 hvis
      obtain ⟨c2, h2⟩ := look k
      refine ⟨w', r, .inr ⟨.inr k, c2, h2, ?_⟩⟩
      have c1 := cm h2
      rcases q with ⟨k', _⟩ | ⟨_, c3, e', z⟩
      · have k' : X.env.scope.names.lookup y = some .local := k'
        rcases L.free _ (PySem.mem_of_lookup k) rfl with k2 | k2 <;> rw [show X.env.scope.names.lookup y = _ from k2] at k' <;> cases k'
      · rw [c1] at e'
        cases e'
        exact cellK (I.freeC y _ c1) z
  · obtain ⟨w', z⟩ := I.cell y c (cm e)
    exact ⟨w', cellK (I.freeC y c (cm e)) z⟩
  · exact I.freeC y c (cm e)
/-- the lambda is called, within A -/
theorem lam_run {A : Around} {k : Nat} {E : XK} {scope : Scope} {params : Arguments} {body : Expr} {f c' : Addr} {pm ctv : Value} {p : Str} {x : V} {v : Value} {j : Nat} {Q : VK} {tb : TE} (I : Inv X pins σ H s) (L : LamP X.env.scope scope p) (e0 : Env0 X.prog X.w X.K X.mg X.base A X.stack s H) (hr : Room (k + 1) A)
    (hN : X.N.Nodup) (hj : X.N[j]? = some p) (hf : s.heap.get? f = some (PySem.W.kla_obj "<lambda>" (X.env.qual ++ "<lambda>") params body scope (cloFrom X.env.cells scope.names []) pm c' ctv)) (hc : H c' = some (CodeO c' (X.env.qual ++ "<lambda>")))
    (hbind : bindArgs (PySem.W.kla_fn "<lambda>" (X.env.qual ++ "<lambda>") params body scope (cloFrom X.env.cells scope.names []) pm (.ref c') ctv) ⟨[v], []⟩ = pure [(p, v)])
    (hbody : ∀ (A : Around) (outer : List Env) (s : Shared) (H : Hp), Room k (A.deeper (lamEnv X scope s.heap.objs.size f c')) → PE (lamCx X A outer s H E scope f c') body tb)
    (rx : RelV x v) (ht : tb (σ.set j (some x)) H Q) :
    codeAny (model X.prog X.w) A (.call (.ref f) ⟨[v], []⟩) (CR (L2.CX X.prog X.w) X.stack X.prog X.w H s Q E) s := by
  obtain ⟨⟨oc, vs, t, hoc, hdc, hvc⟩, _, _⟩ := I.hok c' _ hc
  refine PySem.W.kla_callFunE hr.depth hf rfl L.co L.gen rfl ⟨c', oc, vs, t, rfl, hoc, hdc, hvc⟩ ?_
  rw [hbind]
  refine wpAny_pure (wpAny_newFunctionEnv (fun y hy => (L.own y hy).1) (fun y hy => by
    rw [List.mem_singleton.mp hy]
    exact L.par) (fun h₁ hns hsb => ⟨I.nolimit.fresh _ hsb, ?_⟩) L.kind)
  show codeAny _ _ (.expr body (lamEnv X scope s.heap.objs.size f c')) _ _
  have kp : ∀ b o, s.heap.get? b = some o → h₁.get? b = some o := fun b o e => hsb.extBut b o (Nat.ne_of_lt (Heap.lt_size e)) (Heap.get?_push_of_some _ e)
  have J : Inv (lamCx X A X.stack s H E scope f c') [] (σ.set j (some x)) H { s with heap := h₁, toks := s.toks + ([(p, v)] : List (Str × Value)).length } :=
    lam_start1 I L e0 hr.hd rx hN hj hns kp
  refine PySem.W.kla_codeExpr (wpAny_mono ((hbody _ _ s H (hr.deeper _)).run [] _ _ H Q J ht) (fun v s' hq => ?_) fun e s' hq => hq)
  obtain ⟨w', H', J', rv, q⟩ := hq
  exact ⟨w', H', J'.os, J'.bare, J'.base, J'.hok, rv, q⟩
end
section
variable {X : Cx} {pins : List (Addr × Obj)} {σ : L2.St} {H : Hp} {s : Shared}
/-- an untracked young object is taken in -/
theorem inv_adopt {t' : Nat} {ch : List Addr} {T : Addr} {ob : HO} {h' : Heap} (I : Inv X pins σ H s) (k : ∀ b o, b ∉ ch → s.heap.get? b = some o → h'.get? b = some o) (hf : ∀ b ∈ ch, FpOk X pins H b) (hT : T ∈ ch)
    (new : ObjOk X.prog X.w (upd H T ob) h' T ob) : Inv X pins σ (upd H T ob) { s with heap := h', toks := t' } := by
  have hn : H T = none := (hf T hT).1
  have nit : ∀ b u, H b = some u → b ∉ ch := fun b u e z => by
    have q := (hf b z).1
    rw [q] at e; cases e
  refine I.step (g' := s.gens) (d' := s.drawn) (ch := ch) (fun b hb => ⟨(hf b hb).2.2.2.1, (hf b hb).2.1, (hf b hb).2.2.2.2.1, (hf b hb).2.2.2.2.2⟩) (fun b o _ _ hc e _ => k b o hc e) (fun b o _ _ hc e _ => ⟨o.slots, k b o hc e⟩)
    (fun b o hc e n => ?_) (fun b o hc e => ⟨o, k b o hc e⟩) (fun b xs e => ?_) (fun b o u e => ?_) (fun b ps e => ⟨#[], ?_⟩) (fun m hm => ?_) (fun b u e => ?_) I.bare
  · rw [upd_ne (fun (z : b = T) => hc (by rw [z]; exact hT))]; exact n
  · rw [upd_ne (ne_of_none e hn)]; exact e
  · rw [upd_ne (ne_of_none e hn)]; exact e
  · rw [upd_ne (ne_of_none e hn), e]; simp
  · obtain ⟨o, es, ep, ho, r⟩ := hm
    exact ⟨o, es, ep, k _ o (fun z => (hf _ z).2.1 rfl) ho, r⟩
  · by_cases hb : b = T
    · subst hb
      rw [upd_same] at e
      cases e
      exact new
    · rw [upd_ne hb] at e
      refine (I.hok b u e).stay (fun c v hc q => k c v ?_ q) (fun c q => by rw [upd_ne (ne_of_none q hn)]; exact q) fun c xs q => by rw [upd_ne (ne_of_none q hn)]; exact q
      rcases hc with z | z
      · rw [z]; exact nit b u e
      · exact nit c _ z
/-- what is kept while the keys are made -/
structure SkJ (X : Cx) (pins : List (Addr × Obj)) (σ : L2.St) (f a kS : Addr) (e1 : Nat) (fo : Obj) (W : List V → Hp → Prop) (i : Nat) (s' : Shared) : Prop where
  ex : ∃ (kvs : List V) (H' : Hp) (kA : Array Value) (e : Nat), Inv X pins σ H' s' ∧ s'.heap.get? kS = some (seqObj "list" kA e) ∧ s'.heap.get? a = some (seqObj "list" #[] e1) ∧ H' kS = none ∧ H' a = none ∧ s'.heap.get? f = some fo ∧ H' f = none ∧ Vals kvs kA.toList ∧ W kvs H' ∧ kvs.length = i
/-- FpOk but for H -/
def FpR (X : Cx) (pins : List (Addr × Obj)) (b : Addr) : Prop := b ≠ X.env.locals ∧ b ∉ X.fs ∧ b ∉ frs X.stack ∧ (b ∈ X.ex ∨ X.s_0.heap.objs.size ≤ b) ∧ (∀ x c, X.env.cells.lookup x = some c → c ≠ b) ∧ ∀ p ∈ X.pn ++ pins, p.1 ≠ b
theorem FpR.ok {b : Addr} (h : FpR X pins b) (hn : H b = none) : FpOk X pins H b := ⟨hn, h.1, h.2.1, h.2.2.2.1, h.2.2.2.2.1, h.2.2.2.2.2⟩
theorem fpR_new {b : Addr} (I : Inv X pins σ H s) (hb : s.heap.objs.size ≤ b) : FpR X pins b := by
  have h := I.fpOk (H' := fun _ => none) hb rfl
  refine ⟨h.2.1, h.2.2.1, fun z => ?_, h.2.2.2.1, h.2.2.2.2.1, h.2.2.2.2.2⟩
  rcases List.mem_cons.mp (I.stkSub _ z) with e | e
  · exact h.2.1 e
  · exact h.2.2.1 e
theorem Vals.snoc {xs : List V} {us : List Value} {x : V} {u : Value} (r : Vals xs us) (h : RelV x u) : Vals (xs ++ [x]) (us ++ [u]) := r.append (.cons h .nil)
/-- the keys, one by one -/
theorem sk_rest {A : Around} {E : Value → Shared → Prop} {k : Nat} {scope : Scope} {params : Arguments} {body : Expr} {f c' a kS : Addr} {pm ctv : Value} {p : Str} {j e1 : Nat} {tb : TE} {xs : List V} {vs : List Value} {W : List V → Hp → Prop} {Pf : PySem.Fin → Shared → Prop}
    (L : LamP X.env.scope scope p) (hA : A.frames = some X.stack) (hr : Room (k + 1) A) (hN : X.N.Nodup) (hj : X.N[j]? = some p) (hfr : f ∉ frs X.stack) (hka : kS ≠ a) (fk : FpR X pins kS) (fa : FpR X pins a) (hZ : vs.length ≤ sizeLine)
    (hbind : ∀ v, bindArgs (PySem.W.kla_fn "<lambda>" (X.env.qual ++ "<lambda>") params body scope (cloFrom X.env.cells scope.names []) pm (.ref c') ctv) ⟨[v], []⟩ = pure [(p, v)])
    (hbody : ∀ (A : Around) (outer : List Env) (s : Shared) (H : Hp), Room k (A.deeper (lamEnv X scope s.heap.objs.size f c')) → PE (lamCx X A outer s H (fun _ _ _ => False) scope f c') body tb)
    (hW : ∀ kvs H', W kvs H' → H' c' = some (CodeO c' (X.env.qual ++ "<lambda>"))) (rv : Vals xs vs)
    (step : ∀ i x kvs H', xs[i]? = some x → kvs.length = i → W kvs H' → tb (σ.set j (some x)) H' fun kv H'' => W (kvs ++ [kv]) H'')
    (h0 : SkJ X pins σ f a kS e1 (PySem.W.kla_obj "<lambda>" (X.env.qual ++ "<lambda>") params body scope (cloFrom X.env.cells scope.names []) pm c' ctv) W 0 s)
    (h : ∀ s' kA, SkJ X pins σ f a kS e1 (PySem.W.kla_obj "<lambda>" (X.env.qual ++ "<lambda>") params body scope (cloFrom X.env.cells scope.names []) pm c' ctv) W vs.length s' → (∃ e, s'.heap.get? kS = some (seqObj "list" kA e)) → wpAny (model X.prog X.w) A (PyProof.Rows.ksk_end a false vs.toArray e1 (.ref kS) kA) Pf E s') :
    wpAny (model X.prog X.w) A (PyProof.Rows.ksk_rest a (.ref f) false vs.toArray e1 (.ref kS)) Pf E s := by
  unfold PyProof.Rows.ksk_rest
  refine wpAny_bind (wpAny_rule ?_)
  first
    | rw [List.forIn_toArray]
    | (rw [← Array.forIn_toList]; simp only [List.toList_toArray])
    | rw [← Array.forIn_toList]
  refine wpAny_bind (PyProof.Rows.ksk_fold (SkJ X pins σ f a kS e1 (PySem.W.kla_obj "<lambda>" (X.env.qual ++ "<lambda>") params body scope (cloFrom X.env.cells scope.names []) pm c' ctv) W) vs 0 s h0 ?step ?done)
  case step =>
    rintro i v s' hv ⟨kvs, H', kA, e, I', nk, na, hk0, ha0, hf', hf0, rk, w', hl⟩
    simp only [Nat.zero_add] at hl ⊢
    obtain ⟨x, hx, rx⟩ : ∃ x, xs[i]? = some x ∧ RelV x v := by
      cases q : xs[i]? with
      | none =>
        rw [List.getElem?_eq_none_iff, rv.length] at q
        exact absurd (List.getElem?_eq_some_iff.mp hv).1 (by omega)
      | some x =>
        obtain ⟨u, h1, h2⟩ := rv.get q
        rw [hv] at h1
        cases h1
        exact ⟨x, rfl, h2⟩
    have e0 : Env0 X.prog X.w X.K X.mg X.base A X.stack s' H' := ⟨hA, I'.env0.mod, I'.env0.bs, I'.env0.bsz, I'.env0.funs, I'.env0.frf, I'.env0.hok, I'.env0.bare⟩
    have rc := lam_run (Q := fun kv H'' => W (kvs ++ [kv]) H'') I' L e0 hr hN hj hf' (hW kvs H' w') (hbind v) hbody rx (step i x kvs H' hx hl w')
    refine wpAny_bind (wpAny_attempt (wpAny_call (codeAny_mono rc fun r s2 hq => ?_)))
    cases r with
    | error er =>
      obtain ⟨_, _, _, _, _, _, _, _, _, _, _, _, _, _, _, _, z⟩ := (show L2.CX X.prog X.w X.stack H' s' (fun _ _ _ => False) er s2 from hq)
    | ok fl =>
      cases fl with
      | next => exact False.elim hq
      | brk => exact False.elim hq
      | cont => exact False.elim hq
      | ret u =>
        obtain ⟨kv, H2, os, bare, un, hok, rel, q⟩ := (show CE X.stack X.prog X.w H' s' (fun kv H'' => W (kvs ++ [kv]) H'') u s2 from hq)
        obtain ⟨kv', H2', I2, rel2, e1', e2'⟩ := I'.after (Q := fun kv' H'' => kv' = kv ∧ H'' = H2) ⟨kv, H2, os, bare, un, hok, rel, rfl, rfl⟩
        subst e1' e2'
        have nin : ∀ b : Addr, b ∉ ([] : List Addr) := fun b => by simp
        have nk2 : s2.heap.get? kS = some (seqObj "list" kA e) := un.keep _ _ nk hk0 fk.2.2.1 (nin _)
        have na2 : s2.heap.get? a = some (seqObj "list" #[] e1) := un.keep _ _ na ha0 fa.2.2.1 (nin _)
        have hf2 := un.keep _ _ hf' hf0 hfr (nin _)
        have k02 := un.free _ _ nk hk0 (nin _)
        have a02 := un.free _ _ na ha0 (nin _)
        have f02 := un.free _ _ hf' hf0 (nin _)
        have hz : kA.size ≤ vs.length := by
          have h1 : kvs.length = kA.toList.length := L2.Vals.length rk
          have h3 : kA.toList.length = kA.size := Array.length_toList
          have h2 := (List.getElem?_eq_some_iff.mp hv).1
          omega
        have hfk : f ≠ kS := fun z => by
          rw [z, nk2] at hf2
          have hf2 := congrArg (fun o : Option Obj => o.map (·.data)) hf2
          cases hf2
        try dsimp only
        have s1 := Heap.SameBut.update s2.heap kS (Obj.mapSeq (·.push u))
        obtain ⟨c2, hc2⟩ : ∃ c2, (s2.heap.update kS (Obj.mapSeq (·.push u))).get? kS = some (seqObj "list" (kA.push u) c2) := ⟨_, get?_update_seq nk2 (·.push u)⟩
        refine wpAny_bind (listUpdate_at nk2 rfl ?_ (Nat.le_trans hz hZ) (Nat.le_trans (Nat.le_of_eq (Array.size_push ..)) (Nat.succ_le_succ (Nat.le_trans hz hZ))))
        have I3 : Inv X pins σ H2' { s2 with heap := s2.heap.update kS (Obj.mapSeq (·.push u)), toks := s2.toks } := I2.turnedL (ch := [kS]) (fun b o hb e => (s1.2 b (fun z => hb (by simp [z]))).trans e) (fun b hb => by
          rw [List.mem_singleton.mp hb]
          exact fk.ok k02)
        refine wpAny_pure ⟨rfl, ⟨kvs ++ [kv'], H2', kA.push u, c2, I3, hc2, (s1.2 a hka.symm).trans na2, k02, a02, (s1.2 f hfk).trans hf2, f02, ?_, q, by rw [List.length_append, hl]; rfl⟩⟩
        rw [Array.toList_push]
        exact rk.snoc rel2
  case done =>
    intro s' hJ
    rw [Nat.zero_add] at hJ
    obtain ⟨kvs, H', kA, e, I', nk, r⟩ := hJ.ex
    try dsimp only
    refine wpAny_bind (listItems_at nk rfl ?_)
    exact h s' kA hJ ⟨e, nk⟩
theorem each_zip : ∀ {xs : List V} {vs : List Value} {ks : List PyData}, Vals xs vs → ks.length = xs.length → PySem.W.EachIs (fun v (q : V × PyData) => RelV q.1 v) vs (xs.zip ks)
  | _, _, [], .nil, _ => .nil
  | _, _, [], .cons _ _, h => by simp at h
  | _, _, _ :: _, .nil, h => by simp at h
  | _, _, _ :: ks, .cons r t, h => .cons r (each_zip t (by simpa using h))
theorem vals_each : ∀ {vs : List Value} {qs : List (V × PyData)}, PySem.W.EachIs (fun v (q : V × PyData) => RelV q.1 v) vs qs → Vals (qs.map Prod.fst) vs
  | _, _, .nil => .nil
  | _, _, .cons r t => .cons r (vals_each t)
theorem dpAll_each (I : Inv X pins σ H s) : ∀ {kvs : List V} {us : List Value} {ks : List PyData}, DpAll X.K H kvs ks → Vals kvs us → PySem.W.EachIs (fun v k => ∃ as, Reads s.heap v k as) us ks
  | _, _, _, .nil, .nil => .nil
  | _, _, _, .cons d t, .cons r q => .cons (Dp.reads I _ _ _ d r) (dpAll_each I t q)
/-- the sorted list of the pairs -/
def keyed (xs : List V) (ks : List PyData) : List V := ((xs.zip ks).mergeSort (PySem.W.dataLe false Prod.snd)).map Prod.fst
theorem keyed_len {xs : List V} {ks : List PyData} (h : ks.length = xs.length) : (keyed xs ks).length = xs.length := by
  unfold keyed
  rw [List.length_map, List.length_mergeSort, List.length_zip, h, Nat.min_self]
theorem heap_free {h : Heap} {b : Addr} {o : Obj} (e : h.get? b = some o) : (h.update b (fun o => { o with data := .freed })).get? b = none := by
  obtain ⟨objs, l⟩ := h
  have hb : b < objs.size := Heap.lt_size e
  unfold Heap.update Heap.get?
  simp only [Array.getElem?_modify]
  rw [if_pos trivial, Array.getElem?_eq_getElem hb]
  rfl
theorem sk_end {A : Around} {E : Value → Shared → Prop} {f a kS : Addr} {fo : Obj} {e1 : Nat} {xs kvs : List V} {vs : List Value} {ks : List PyData} {kA : Array Value} {e : Nat} {Pf : PySem.Fin → Shared → Prop}
    (I : Inv X pins σ H s) (nk : s.heap.get? kS = some (seqObj "list" kA e)) (na : s.heap.get? a = some (seqObj "list" #[] e1)) (hk0 : H kS = none) (ha0 : H a = none) (rk : Vals kvs kA.toList) (hka : kS ≠ a) (fk : FpR X pins kS) (fa : FpR X pins a) (hZ : vs.length ≤ sizeLine)
    (rv : Vals xs vs) (hl : ks.length = xs.length) (hal : PySem.W.AllAlike ks) (hso : PySem.W.Sortable ks) (hu : ∀ d, d ∈ ks → A.units + d.depth < cLine) (dp : DpAll X.K H kvs ks)
    (h : ∀ h' tk, Inv X pins σ (upd H a (.lst (keyed xs ks))) { s with heap := h', toks := tk } → Pf (.done (.ret .none)) { s with heap := h', toks := tk }) :
    wpAny (model X.prog X.w) A (PyProof.Rows.ksk_end a false vs.toArray e1 (.ref kS) kA) Pf E s := by
  have hk : PySem.W.EachIs (fun v k => ∃ as, Reads s.heap v k as) kA.toList ks := dpAll_each I dp rk
  have hsz : kA.size = vs.length := by
    have h1 := hk.length
    have h3 : kA.toList.length = kA.size := Array.length_toList
    have h2 : xs.length = vs.length := L2.Vals.length rv
    omega
  have hxl : xs.length = vs.length := L2.Vals.length rv
  have s1 := Heap.SameBut.update s.heap kS (fun o => { o with data := .freed })
  have nkS : (s.heap.update kS (fun o => { o with data := .freed })).get? kS = none := heap_free nk
  have kp : PySem.W.KeepsBut a (s.heap.update kS (fun o => { o with data := .freed })) s.heap := fun b o hb q => by
    have hbk : b ≠ kS := fun z => by
      rw [z, nkS] at q
      cases q
    rw [← s1.2 b hbk]
    exact q
  refine PySem.W.keyH_end (κ := PySem.W.dataKind s.heap ks) kp nkS nk na hka (PySem.W.SortsAt.data hk hal hso hu) hsz hZ fun h' tk c k3 n3 => h h' tk ?_
  have hb : (xs.zip ks).map Prod.snd = ks := List.map_snd_zip (by omega)
  have ko : PySem.W.KeyedOut false ((xs.zip ks).map Prod.snd) vs (PySem.W.sortVals (PySem.W.dataKind s.heap ks) false kA.toList vs) := by
    rw [hb]
    exact ⟨s.heap, kA.toList, hal, rfl, hk⟩
  have hv : Vals (keyed xs ks) (PySem.W.sortVals (PySem.W.dataKind s.heap ks) false kA.toList vs) := vals_each (PySem.W.keyedOut_each Prod.snd ko (each_zip rv hl))
  refine inv_adopt (ch := [kS, a]) I (fun b o hb q => k3 b o (fun z => hb (by simp [z])) ?_) (fun b hb => ?_) (by simp) ⟨by rw [keyed_len hl, hxl]; exact hZ, _, c, hv, n3⟩
  · have hbk : b ≠ kS := fun z => hb (by simp [z])
    rw [s1.2 b hbk]
    exact q
  · rcases List.mem_cons.mp hb with z | z
    · rw [z]
      exact fk.ok hk0
    · rw [List.mem_singleton.mp z]
      exact fa.ok ha0
def SqB (K : PySem.W.Frag) (isL : Bool) (H : Hp) (a : Addr) (xs : List V) : Prop := if isL then SqL K H a xs else SqT K H a xs
/-- a list or a tuple, gone through -/
theorem collect_tuple {prog : Program} {w : World} {A : Around} {E : Value → Shared → Prop} {s : Shared} {l : Addr} {vs : List Value} {Q : List Value → Shared → Prop} (hl : s.heap.IsTuple l vs.toArray)
    (h : Q vs { s with heap := (s.heap.push (seqObj "list" #[] 0)).update s.heap.objs.size (Obj.mapSeq (· ++ vs.toArray)) }) (hsz : vs.length ≤ sizeLine) :
    wpAny (model prog w) A (collect (.ref l)) Q E s := by
  obtain ⟨o, ho, hc, n, hd⟩ := id hl
  unfold collect
  refine wpAny_bind (wpAny_runValue (codeAny_builtin entry_proto_collect' ?_))
  show wpAny _ _ (do again (.builtin "list.__iadd__" ⟨[← newList [], .ref l], []⟩)) _ _ s
  refine wpAny_bind (wpAny_newList (wpAny_pure ⟨Code.quiet_builtin _ (by decide +kernel), codeAny_builtin entry_list_iadd' ?_⟩))
  show wpAny _ _ (Builtin.List.listExtendWith (.ref s.heap.objs.size) (.ref l) (.ref s.heap.objs.size)) _ _ { s with heap := s.heap.push (seqObj "list" #[] 0) }
  unfold Builtin.List.listExtendWith
  have ho' : (s.heap.push (seqObj "list" #[] 0)).get? l = some o := Heap.get?_push_of_some _ ho
  refine wpAny_bind (wpAny_typeOf (T := "tuple") ⟨o, ho', hc⟩ ?_)
  have ht : (Value.type "tuple" == Value.type "tuple") = true := by rfl
  rw [if_pos (by rw [ht]; simp)]
  refine wpAny_bind (listItems_at ho' hd ?_)
  refine wpAny_bind (listItems_at (xs := #[]) (n := 0) (Heap.get?_push_size _ rfl) rfl ?_)
  rw [if_neg (by simp)]
  refine wpAny_bind (listUpdate_at (xs := #[]) (n := 0) (Heap.get?_push_size _ rfl) rfl ?_ (Nat.zero_le _) (by show (#[] ++ vs.toArray).size ≤ sizeLine + 1; simp only [Array.size_append, List.size_toArray, List.length_nil]; omega))
  refine wpAny_pure ?_
  show wpAny (model prog w) A (do
      let o ← load s.heap.objs.size
      match o.data with
      | .seq xs _ => pure xs.toList
      | _ => unsupported "internal:collect") Q E { s with heap := (s.heap.push (seqObj "list" #[] 0)).update s.heap.objs.size (Obj.mapSeq (· ++ vs.toArray)) }
  refine wpAny_bind (wpAny_load (get?_update_seq (Heap.get?_push_size _ rfl) _) ?_)
  show wpAny _ _ (pure ((#[] : Array Value) ++ vs.toArray).toList) Q E _
  rw [show ((#[] : Array Value) ++ vs.toArray).toList = vs by simp]
  exact wpAny_pure h
open PySem.W in
theorem sorted_of_sort2 {prog : Program} {w : World} {A : Around} {E : Value → Shared → Prop} {s : Shared} {l : Addr} {vs : List Value} {kw : List (Str × Value)} {Q : Value → Shared → Prop} (hl : s.heap.IsList l vs.toArray ∨ s.heap.IsTuple l vs.toArray) (hL : vs.length ≤ sizeLine) (ha1 : argsOk "sorted" ⟨[.ref l], kw⟩) (ha2 : ∀ x, argsOk "list.sort" ⟨[.ref x], kw⟩)
    (body : ∀ E' : Value → Shared → Prop, wpAny (model prog w) A.in1.in1 (Builtin.«list.sort» ⟨[.ref (s.heap.objs.size + 1)], kw⟩) (fun f s' => f = .done (.ret .none) ∧ Q (.ref (s.heap.objs.size + 1)) s') E' { s with heap := copyHeap s.heap vs }) :
    wpAny (model prog w) A (call (.builtin "sorted") [.ref l] kw) Q E s := by
  rcases hl with hl | hl
  · exact PySem.W.sorted_of_sort hl hL ha1 ha2 body
  refine call_function_entry_kw kind_sorted plain_sorted entry_sorted ha1 ?_
  unfold Builtin.«sorted»
  refine wpAny_bind (m := checkCount "sorted" 1 1 _) (wpAny_pure ?_)
  refine wpAny_bind (collect_tuple hl ?_ hL)
  refine wpAny_bind (wpAny_newList ?_ hL)
  have hsz : ((s.heap.push (seqObj "list" #[] 0)).update s.heap.objs.size (Obj.mapSeq (· ++ vs.toArray))).objs.size = s.heap.objs.size + 1 := by
    rw [Heap.size_update, size_push']
  show wpAny _ _ _ _ _ { s with heap := copyHeap s.heap vs }
  rw [hsz]
  refine wpAny_bind (wpAny_holding (wpAny_call_entry_kw slot_list_sort ⟨_, copyHeap_at s.heap vs, rfl⟩ entry_list_sort ?body (ha2 _)))
  case body =>
    show wpAny (model prog w) A.in1.in1 (Builtin.«list.sort» ⟨[.ref (s.heap.objs.size + 1)], kw⟩) _ _ _
    refine wpAny_mono (body _) (fun f s' hf => ?_) fun _ _ e => e
    obtain ⟨rfl, hq⟩ := hf
    exact ⟨_, rfl, wpAny_pure ⟨_, rfl, hq⟩⟩
/-- sorted(e, key=lambda p: body): q the lambda's name, j the slot of its parameter -/
def tSortK (T : List (Addr × Str)) (K : PySem.W.Frag) (q : Str) (te tb : TE) (j : Nat) : TE := fun σ H Q => te σ H fun x H1 => ∃ (a : Addr) (xs : List V) (isL : Bool), x = .ref a ∧ Tabs T H1 ∧
  ∀ (c' : Addr) (H2 : Hp), ExtN H1 H2 → Tabs T H2 → H2 c' = some (CodeO c' q) → SqB K isL H2 a xs ∧ ∃ (W : List V → Hp → Prop) (ks : List PyData), ks.length = xs.length ∧ PySem.W.AllAlike ks ∧ PySem.W.Sortable ks ∧ (∀ d, d ∈ ks → d.depth ≤ 50) ∧ W [] H2 ∧
    (∀ kvs H', W kvs H' → H' c' = some (CodeO c' q)) ∧ (∀ i x kvs H', xs[i]? = some x → kvs.length = i → W kvs H' → tb (σ.set j (some x)) H' fun kv H'' => W (kvs ++ [kv]) H'') ∧
    ∀ kvs H', kvs.length = xs.length → W kvs H' → DpAll K H' kvs ks ∧ ∀ L, H' L = none → Q (.ref L) (upd H' L (.lst (keyed xs ks)))
theorem pe_sortK {T : List (Addr × Str)} {te tb : TE} {c P : Addr} {k j : Nat} {p : Str} {params : Arguments} {body e : Expr} {scope : Scope} {px lpos kpos pos : Pos} (hg : Gl X "sorted") (hm : X.mg "sorted" = none) (he : PE X e te) (TB : TabB X.base X.mg c P) (hcode : X.env.code = .ref c)
    (hmT : (P, X.env.qual ++ "<lambda>") ∈ T) (hu : ∀ p ∈ T, p.1 = P → p.2 = X.env.qual ++ "<lambda>") (hr : Room (k + 3) X.A) (L : LamP X.env.scope scope p) (hdef : defaultsOf params X.env = ([], [])) (hN : X.N.Nodup) (hj : X.N[j]? = some p)
    (hbind : ∀ (q : Str) (cl : List (Str × Addr)) (pm cv ctv v : Value), bindArgs (PySem.W.kla_fn "<lambda>" q params body scope cl pm cv ctv) ⟨[v], []⟩ = pure [(p, v)])
    (hbody : ∀ (A : Around) (outer : List Env) (s : Shared) (H : Hp) (f c' : Addr), Room k (A.deeper (lamEnv X scope s.heap.objs.size f c')) → PE (lamCx X A outer s H (fun _ _ _ => False) scope f c') body tb)
    (hst : starEach [e] X.env = [(false, eval e X.env)] := by rfl) :
    PE X (.Call (.Name "sorted" px) [e] [⟨some "key", .Lambda params body scope lpos, kpos⟩] pos) (tSortK T X.K (X.env.qual ++ "<lambda>") te tb j) := by
  refine ⟨fun pins s σ H Q I h => ?_⟩
  refine wpAny_Call_Name_kw (ld_blt (u := .builtin "sorted") I hg hm (by decide +kernel) ?_)
  refine PyProof.Rows.callWith_kw (e := e) (rest := []) ?_ (by show backTo pos (starEach [e] X.env) = _; rw [hst]; rfl) (by rw [hst]; rfl) (by rfl) (by rfl)
  have hb : backTo pos (starEach [e] X.env) = (false, eval e X.env) :: backTo pos (starEach [] X.env) := by
    rw [hst]
    rfl
  rw [hb]
  refine Calls.spliced_cons (thn (he.run pins s σ H _ I h) fun u s1 ⟨x, H1, I1, r1, a, xs, isL, ex, hT, q1⟩ => ?_)
  refine Calls.spliced_nil ?_
  subst ex
  obtain rfl : u = Value.ref a := r1
  show wpAny _ _ (evalAll [(do let v ← eval (.Lambda params body scope lpos) X.env; standAt pos; pure v)]) _ _ s1
  refine wpAny_evalAll_cons (wpAny_bind (lam_make2 I1 TB hcode hmT hu hT hdef (L.has I1.ok) fun f c' pm ctv H2 s2 I2 eN T2 hf hfn hfr hco => wpAny_bind (wpAny_standAt (wpAny_pure ?_))))
  refine wpAny_evalAll_nil ?_
  obtain ⟨hS, W, ks, hl, hal, hso, hdp, w0, hWc, step, fin⟩ := q1 c' H2 eN T2 hco
  obtain ⟨its, rv, hl2, hz⟩ : ∃ its : List Value, Vals xs its ∧ (s2.heap.IsList a its.toArray ∨ s2.heap.IsTuple a its.toArray) ∧ xs.length ≤ sizeLine := by
    cases isL with
    | true =>
      obtain ⟨its, rv, hl2, hz⟩ := I2.list (show SqL X.K H2 a xs from hS)
      exact ⟨its, rv, .inl hl2.isList, hz⟩
    | false =>
      obtain ⟨its, rv, hl2, hz⟩ := I2.tuple (show SqT X.K H2 a xs from hS)
      exact ⟨its, rv, .inr hl2, hz⟩
  show wpAny _ _ (call (.builtin "sorted") [.ref a] [(Str.ofString "key", .ref f)]) _ _ s2
  have hxl : xs.length = its.length := L2.Vals.length rv
  refine sorted_of_sort2 hl2 (by rw [← hxl]; exact hz) (PyProof.Rows.ksk_s1 _ _) (fun x => PyProof.Rows.ksk_l1 _ _) fun E' => ?_
  rw [PyProof.Rows.ksk_t1]
  have ho := PySem.W.copyHeap_at s2.heap its
  have hcs : (PySem.W.copyHeap s2.heap its).objs.size = s2.heap.objs.size + 2 := by
    unfold PySem.W.copyHeap
    rw [size_push', Heap.size_update, size_push']
  obtain ⟨e1, ho1⟩ : ∃ e1, ((PySem.W.copyHeap s2.heap its).update (s2.heap.objs.size + 1) (Obj.mapSeq fun _ => (#[] : Array Value))).get? (s2.heap.objs.size + 1) = some (seqObj "list" #[] e1) := ⟨_, get?_update_seq ho fun _ => #[]⟩
  have hkS : (((PySem.W.copyHeap s2.heap its).update (s2.heap.objs.size + 1) (Obj.mapSeq fun _ => (#[] : Array Value))).push (seqObj "tuple" its.toArray 0)).objs.size = s2.heap.objs.size + 3 := by rw [size_push', Heap.size_update, hcs]
  have hZ : its.length ≤ sizeLine := by rw [← hxl]; exact hz
  unfold PyProof.Rows.ksk_tree
  refine wpAny_bind (listItems_at ho rfl ?_)
  refine wpAny_bind (listUpdate_at ho rfl ?_ (by rw [List.size_toArray]; exact hZ) (Nat.zero_le _))
  refine wpAny_bind (seqEpoch_at ho1 rfl ?_)
  refine wpAny_bind (wpAny_newTuple ?_ (by show its.length ≤ _; exact hZ))
  refine wpAny_bind (wpAny_newList ?_ (Nat.zero_le _))
  refine wpAny_holding ?_
  have old : ∀ b o, s2.heap.get? b = some o → ((((PySem.W.copyHeap s2.heap its).update (s2.heap.objs.size + 1) (Obj.mapSeq fun _ => (#[] : Array Value))).push (seqObj "tuple" its.toArray 0)).push (seqObj "list" #[] 0)).get? b = some o := fun b o q => by
    refine Heap.get?_push_of_some _ (Heap.get?_push_of_some _ ?_)
    rw [Heap.get?_update_ne _ _ _ _ (Nat.ne_of_lt (Nat.lt_succ_of_lt (Heap.lt_size q)))]
    exact PySem.W.copyHeap_old q
  have fL := fpR_new (b := s2.heap.objs.size + 1) I2 (Nat.le_succ _)
  have fK := fpR_new (b := s2.heap.objs.size + 3) I2 (by omega)
  have nL : H2 (s2.heap.objs.size + 1) = none := I2.hok.fresh (Nat.le_succ _)
  have nK : H2 (s2.heap.objs.size + 3) = none := I2.hok.fresh (by omega)
  generalize hh : ((((PySem.W.copyHeap s2.heap its).update (s2.heap.objs.size + 1) (Obj.mapSeq fun _ => (#[] : Array Value))).push (seqObj "tuple" its.toArray 0)).push (seqObj "list" #[] 0)) = hB at old
  have gK : hB.get? (s2.heap.objs.size + 3) = some (seqObj "list" #[] 0) := by
    rw [← hh, ← hkS]
    exact Heap.get?_push_size _ rfl
  have gL : hB.get? (s2.heap.objs.size + 1) = some (seqObj "list" #[] e1) := by
    rw [← hh]
    exact Heap.get?_push_of_some _ (Heap.get?_push_of_some _ ho1)
  suffices hgo : wpAny (model X.prog X.w) X.A.in1.in1 (PyProof.Rows.ksk_rest (s2.heap.objs.size + 1) (.ref f) false its.toArray e1 (.ref (s2.heap.objs.size + 3))) (fun fi s' => fi = .done (.ret .none) ∧ EP X pins σ Q (.ref (s2.heap.objs.size + 1)) s') E' { s2 with heap := hB, toks := s2.toks } by
    rw [← hkS] at hgo
    exact hgo
  have I3 : Inv X pins σ H2 { s2 with heap := hB, toks := s2.toks } := I2.kept old
  refine sk_rest (xs := xs) (W := W) (s := { s2 with heap := hB, toks := s2.toks }) L I2.env0.frames (hr.in1.in1) hN hj hfr (fun z => absurd (Nat.add_left_cancel z) (by decide)) fK fL hZ (fun v => hbind _ _ _ _ _ v) (fun A outer s H hr' => hbody A outer s H f c' hr') hWc rv step
    ⟨[], H2, #[], 0, I3, gK, gL, nK, nL, old _ _ hf, hfn, .nil, w0, rfl⟩ fun s4 kA hJ hkA => ?_
  obtain ⟨kvs, H4, kA', e4, I4, nk4, na4, hk04, ha04, hf4, hf04, rk4, w4, hl4⟩ := hJ.ex
  obtain ⟨e5, hkA⟩ := hkA
  have eA : kA = kA' := by
    rw [nk4] at hkA
    injection hkA with z
    injection z with _ _ z
    injection z with z
    exact z.symm
  subst eA
  obtain ⟨dp, qq⟩ := fin kvs H4 (by rw [hl4, hxl]) w4
  refine sk_end (f := f) (fo := (default : Obj)) I4 nk4 na4 hk04 ha04 rk4 (fun z => absurd (Nat.add_left_cancel z) (by decide)) fK fL hZ rv hl hal hso (fun d hd => ?_) dp fun h' tk I5 => ⟨rfl, .ref _, _, I5, rfl, qq _ ha04⟩
  have := hdp d hd
  have := hr.in1.in1.units
  omega
end
end Tl

namespace Tl
open PySem PySem.Spec L2 TL LamX
section
variable [Tabl] {K : PySem.W.Frag} {Z : XZ} {B : Option Addr} {δ : List Slot} {n : Sto} {Φ : D → Sto → Prop} {te tb : TE}
/-- the data sorted by their keys -/
def keyedD (ds : List D) (ks : List PyData) : List D := ((ds.zip ks).mergeSort (PySem.W.dataLe false Prod.snd)).map Prod.fst
theorem IsAll.dpD {G H : Hp} (s : Sub G H) : ∀ {kvs : List V} {es : List D} {k : Nat}, IsAll K G kvs es → (∀ x ∈ es, Shp k x) → DpAll K H kvs (es.map toP)
  | _, _, _, .nil, _ => .nil
  | _, _, _, .cons h r, hs => .cons (Is.dp s h (hs _ List.mem_cons_self)) (IsAll.dpD s r fun x hx => hs x (List.mem_cons_of_mem _ hx))
theorem map_f1 : ∀ {xs : List V} {ds : List D} {ks : List PyData}, xs.length = ds.length → ((xs.zip ds).zip ks).map (fun q => (q.1.1, q.2)) = xs.zip ks
  | [], [], ks, _ => by simp
  | _ :: _, _ :: _, [], _ => by simp
  | x :: xs, d :: ds, k :: ks, h => by
    simp only [List.zip_cons_cons, List.map_cons]
    rw [map_f1 (by simpa using h)]
theorem map_f2 : ∀ {xs : List V} {ds : List D} {ks : List PyData}, xs.length = ds.length → ((xs.zip ds).zip ks).map (fun q => (q.1.2, q.2)) = ds.zip ks
  | [], [], ks, _ => by simp
  | _ :: _, _ :: _, [], _ => by simp
  | x :: xs, d :: ds, k :: ks, h => by
    simp only [List.zip_cons_cons, List.map_cons]
    rw [map_f2 (by simpa using h)]
theorem isAll_pairs {G : Hp} : ∀ {ps : List ((V × D) × PyData)}, (∀ q ∈ ps, Is K G q.1.1 q.1.2) → IsAll K G (ps.map fun q => q.1.1) (ps.map fun q => q.1.2)
  | [], _ => .nil
  | q :: ps, h => .cons (h q List.mem_cons_self) (isAll_pairs fun x hx => h x (List.mem_cons_of_mem _ hx))
theorem zip_is {G : Hp} : ∀ {xs : List V} {ds : List D}, IsAll K G xs ds → ∀ q ∈ xs.zip ds, Is K G q.1 q.2
  | _, _, .nil, q, h => by simp at h
  | _, _, .cons a r, q, h => by
    rw [List.zip_cons_cons] at h
    rcases List.mem_cons.mp h with rfl | h
    · exact a
    · exact zip_is r q h
theorem isAll_keyed {G : Hp} {xs : List V} {ds : List D} {ks : List PyData} (a : IsAll K G xs ds) : IsAll K G (keyed xs ks) (keyedD ds ks) := by
  have e1 : keyed xs ks = (((xs.zip ds).zip ks).mergeSort (PySem.W.dataLe false Prod.snd)).map fun q => q.1.1 := by
    unfold keyed
    rw [← map_f1 (ks := ks) a.len, ← PySem.W.sort_maps (r := PySem.W.dataLe false (Prod.snd : (V × D) × PyData → PyData)) (fun q : (V × D) × PyData => (q.1.1, q.2)) (fun _ _ _ _ => rfl), List.map_map]
    rfl
  have e2 : keyedD ds ks = (((xs.zip ds).zip ks).mergeSort (PySem.W.dataLe false Prod.snd)).map fun q => q.1.2 := by
    unfold keyedD
    rw [← map_f2 (ks := ks) a.len, ← PySem.W.sort_maps (r := PySem.W.dataLe false (Prod.snd : (V × D) × PyData → PyData)) (fun q : (V × D) × PyData => (q.1.2, q.2)) (fun _ _ _ _ => rfl), List.map_map]
    rfl
  rw [e1, e2]
  refine isAll_pairs fun q hq => ?_
  have hq := (List.mergeSort_perm _ _).mem_iff.mp hq
  exact zip_is a q.1 (List.of_mem_zip hq).1
theorem isAll_snoc {G : Hp} {kvs : List V} {es : List D} {v : V} {d : D} (a : IsAll K G kvs es) (b : Is K G v d) : IsAll K G (kvs ++ [v]) (es ++ [d]) := a.app (.cons b .nil)
/-- sorted(e, key=lambda p: body) of a list or a tuple; the key by a function of the data -/
theorem gk_sortKB {j m : Nat} {q : Str} {kf : D → D} (hm : m ≤ 50) (ho : ∀ x, δ[j]? ≠ some (.ow x)) (h : GK K Z te δ n fun d n1 => ∃ ds, (d = .lst ds ∨ d = .tup ds) ∧ (∀ x ∈ ds, Shp m (kf x) ∧ GK K .calm tb (δ.set j (.d x)) n1 fun y n2 => y = kf x ∧ n2 = n1) ∧
      PySem.W.AllAlike (ds.map fun x => toP (kf x)) ∧ PySem.W.Sortable (ds.map fun x => toP (kf x)) ∧ Φ (.lst (keyedD ds (ds.map fun x => toP (kf x)))) n1) : GK K Z (tSortK Tabl.T K q te tb j) δ n Φ := fun B M G0 H0 xw G H σ E Q qq =>
  h B M G0 H0 xw G H σ E _ fun v d G1 H1 n1 f1 E1 s1 a1 => by
    obtain ⟨ds, hd, hx, hal, hso, hΦ⟩ := f1
    have key : ∃ (p : Addr) (vs : List V) (isL : Bool), v = .ref p ∧ IsAll K G1 vs ds ∧ ∀ H', Sub G1 H' → SqB K isL H' p vs := by
      rcases hd with rfl | rfl
      · cases a1 with
        | @lst p vs _ h1 a1 => exact ⟨p, vs, true, rfl, a1, fun H' u => SqL.of (u _ _ h1)⟩
      · cases a1 with
        | @tup p vs _ h1 a1 => exact ⟨p, vs, false, rfl, a1, fun H' u => u.seq h1⟩
    obtain ⟨p, vs, isL, rfl, a1, sq⟩ := key
    refine ⟨p, vs, isL, rfl, E1.tabs, fun c' H2 eN T2 hc => ⟨sq H2 (fun b o e => eN b o (E1.sub b o e) fun ps z => E1.gnt b ps (by rw [e, z])), ?_⟩⟩
    have ncb : B ≠ some c' := fun z => by
      have b := bag_kept (E1.bagged c' z).1 fun xs e => eN _ _ e fun _ z => nomatch z
      obtain ⟨_, _, _, e, _⟩ := b
      rw [hc] at e
      unfold CodeO at e
      cases e
    have E2 : En K B M n1 G0 H0 G1 H2 σ δ := E1.grow (Sub.refl G1) (fun b o e => eN b o (E1.sub b o e) fun ps z => E1.gnt b ps (by rw [e, z])) (fun b o e _ nt => eN b o e nt) (fun b _ _ g => g) (fun r hr => bag_kept (E1.bagged r hr).1 fun xs e => eN _ _ e fun _ z => nomatch z) T2 E1.gnt
    have ownc : ∀ {G' H' : Hp}, En K B M n1 G0 H0 G' H' σ δ → H' c' = some (CodeO c' q) → ∀ (i : Nat) (x : MO), δ[i]? = some (.ow x) → σ[i]? ≠ some (some (.ref c')) := fun {G' H'} e hc i xs hi z => by
      obtain ⟨r, e1, e2, _⟩ := e.owo hi
      rw [z] at e1
      cases e1
      obtain ⟨u, hu, pu⟩ := e2.get
      rw [hc] at hu
      cases hu
      exact pu.nocode _ _ rfl
    refine ⟨fun kvs H' => ∃ G', En K B M n1 G0 H0 G' H' σ δ ∧ Sub G1 G' ∧ H' c' = some (CodeO c' q) ∧ IsAll K G' kvs ((ds.take kvs.length).map kf), ds.map fun x => toP (kf x), by rw [List.length_map, a1.len], hal, hso, fun d hd => ?_, ⟨G1, E2, Sub.refl G1, hc, .nil⟩, fun kvs H' w => w.choose_spec.2.2.1, ?_, ?_⟩
    · obtain ⟨x, hxm, rfl⟩ := List.mem_map.mp hd
      exact Nat.le_trans (hx x hxm).1.ok.2 hm
    · rintro i x kvs H' hxi hl ⟨G', E', s', hc', ia⟩
      obtain ⟨dx, hdx, idx⟩ := a1.get hxi
      have nmc : n1.μ c' = none := by
        cases q : n1.μ c' with
        | none => rfl
        | some o =>
          obtain ⟨u, hu, pu⟩ := (E'.mob c' o q).1.get
          rw [hc'] at hu
          cases hu
          exact absurd rfl (pu.nocode _ _)
      have Eb := (E'.rebase (c := c') ncb nmc (ownc E' hc') ⟨_, hc', fun _ z => by unfold CodeO at z; cases z⟩).set (i := j) (s := .d dx) (o := some x) ⟨x, rfl, idx.mono s'⟩ fun _ z => nomatch z
      refine (hx dx (List.mem_of_getElem? hdx)).2 B _ G' H' .calm G' H' _ Eb _ fun kv y G3 H3 n3 f3 E3 s3 a3 => ?_
      obtain ⟨rfl, rfl⟩ := f3
      have ncm : ¬ (M c' ∧ c' ≠ c') := fun z => z.2 rfl
      refine ⟨G3, E'.home (vs := [j]) E3 (SameOff.set (List.mem_singleton.mpr rfl)) (fun i hi => List.getElem?_set_ne (fun z => hi (by rw [z]; exact List.mem_singleton.mpr rfl))) (fun i hi xs => by cases List.mem_singleton.mp hi; exact ho xs), s'.trans s3, E3.same c' _ hc' ncm, ?_⟩
      rw [List.length_append, List.length_singleton, hl, take_snoc hdx, List.map_append]
      rw [hl] at ia
      exact isAll_snoc (ia.mono s3) a3
    · rintro kvs H' hl ⟨G', E', s', hc', ia⟩
      rw [hl, a1.len, List.take_length] at ia
      refine ⟨?_, fun L hL => ?_⟩
      · have := ia.dpD (K := K) E'.sub (k := m) fun y hy => by
          obtain ⟨x, hxm, rfl⟩ := List.mem_map.mp hy
          exact (hx x hxm).1
        rw [List.map_map] at this
        exact this
      · have s2 : ∀ o, Sub G' (upd G' L o) := fun o => Sub.new (E'.sub.none hL)
        exact qq _ _ _ _ n1 hΦ (E'.laid hL) ((s1.trans s').trans (s2 _)) (.lst upd_same ((isAll_keyed (a1.mono s')).mono (s2 _)))
theorem gk_sortK {j m : Nat} {q : Str} {kf : D → D} (hm : m ≤ 50) (ho : ∀ x, δ[j]? ≠ some (.ow x)) (h : GK K Z te δ n fun d n1 => ∃ ds, d = .lst ds ∧ (∀ x ∈ ds, Shp m (kf x) ∧ GK K .calm tb (δ.set j (.d x)) n1 fun y n2 => y = kf x ∧ n2 = n1) ∧
      PySem.W.AllAlike (ds.map fun x => toP (kf x)) ∧ PySem.W.Sortable (ds.map fun x => toP (kf x)) ∧ Φ (.lst (keyedD ds (ds.map fun x => toP (kf x)))) n1) : GK K Z (tSortK Tabl.T K q te tb j) δ n Φ :=
  gk_sortKB hm ho fun B M G0 H0 xw G H σ E Q q => h B M G0 H0 xw G H σ E Q fun v d G1 H1 n1 f1 => q v d G1 H1 n1 (let ⟨ds, e, r⟩ := f1; ⟨ds, .inl e, r⟩)
end
/-! ### defs whose code object is known -/
structure FunC (K : PySem.W.Frag) (x qual : Str) (st : Stmt) (f : Addr) (fd : FuncData) (c : Addr) : Prop where
  ex : ∃ (oc : Value) (od : Option Addr) (kV doc pm : Value) (an : Option Addr) (ct : Value) (osl : Array (Option Value)),
    fd = PySem.W.fnOf x qual (defArgs st) (defBody st) (defScope st) .none kV doc pm an (.ref c) ct ∧ K.lookup f = some ⟨oc, od, .func fd, osl⟩ ∧ PySem.W.codeIn K (.ref c) qual = true
section
variable [Tabl] {P : Program} {w : World} {K : PySem.W.Frag} {mg : Str → Option Value} {base : Heap}
omit [Tabl] in
theorem FunC.ok {x qual : Str} {st : Stmt} {f c : Addr} {fd : FuncData} {N ps : List Str} {k : Nat} {sp : Sp} (F : FunC K x qual st f fd c) (S : FnScope N ps (defScope st)) (len : ∀ vs H Q E, sp vs H Q E → vs.length = ps.length)
    (hbody : ∀ (A : Around) (outer : List Env) (s : Shared) (H : Hp) (vs : List V) (Q : VK) (E : XK), Room k (A.deeper (PyProof.Rows.envOfC qual (defScope st) s.heap.objs.size f (.ref c))) → sp vs H Q E →
      ∃ t, PSs (cxOf CX0 P w K mg base N qual (defScope st) f (.ref c) A outer s H E).nox (defBody st) t ∧ t { nx := fun _ H' => Q .non H', rt := Q } (start N vs) H) : FnOk P w K mg base CX0 (k + 1) f fd ps sp := by
  obtain ⟨oc, od, kV, doc, pm, an, ct, osl, rfl, lk, hcd⟩ := F.ex
  refine fn_of lk hcd S len fun A outer s H vs Q E hr hsp => ?_
  obtain ⟨t, h, q⟩ := hbody A outer s H vs Q E hr hsp
  exact ⟨t, h.nox, q⟩
omit [Tabl] in
theorem FunC.okX {x qual : Str} {st : Stmt} {f : Addr} {fd : FuncData} {N ps : List Str} {k : Nat} {sp : Sp} {c : Addr} (F : FunC K x qual st f fd c) (S : FnScope N ps (defScope st)) (len : ∀ vs H Q E, sp vs H Q E → vs.length = ps.length)
    (hbody : ∀ (A : Around) (outer : List Env) (s : Shared) (H : Hp) (vs : List V) (Q : VK) (E : XK), Room k (A.deeper (PyProof.Rows.envOfC qual (defScope st) s.heap.objs.size f (.ref c))) → sp vs H Q E →
      ∃ t, PSs (cxOf (L2.CX P w) P w K mg base N qual (defScope st) f (.ref c) A outer s H E) (defBody st) t ∧ t { nx := fun _ H' => Q .non H', rt := Q } (start N vs) H) : FnOk P w K mg base (L2.CX P w) (k + 1) f fd ps sp := by
  obtain ⟨oc, od, kV, doc, pm, an, ct, osl, rfl, lk, hcd⟩ := F.ex
  exact fn_of lk hcd S len fun A outer s H vs Q E hr hsp => hbody A outer s H vs Q E hr hsp
theorem fn_PC {x qual : Str} {st : Stmt} {f : Addr} {fd : FuncData} {N ps : List Str} {k : Nat} {Pc : List D → (D → Prop) → Prop} {c : Addr} (F : FunC K x qual st f fd c) (S : FnScope N ps (defScope st)) (hl : ∀ ds Φ, Pc ds Φ → ds.length = ps.length)
    (hb : ∀ (A : Around) (outer : List Env) (s : Shared) (H : Hp) (E : XK), Room k (A.deeper (PyProof.Rows.envOfC qual (defScope st) s.heap.objs.size f (.ref c))) →
      ∃ t, PSs (cxOf CX0 P w K mg base N qual (defScope st) f (.ref c) A outer s H E).nox (defBody st) t ∧ ∀ ds Φ, Pc ds Φ → GS K .calm none t (startD N ds) ⟨0, m00⟩ (fun _ _ => Φ .non) (fun d _ => Φ d) (fun _ _ => False) (fun _ _ => False)) :
    FnOk P w K mg base CX0 (k + 1) f fd ps (spP K Pc) := by
  refine F.ok S (fun vs H Q E h => ?_) (fun A outer s H vs Q E hr h => ?_)
  · obtain ⟨G, ds, Φ, _, _, _, hv, hp, _⟩ := h
    rw [hv.len, hl ds Φ hp]
  · obtain ⟨G, ds, Φ, tb, gn, hs, hv, hp, q⟩ := h
    obtain ⟨t, h1, h2⟩ := hb A outer s H E hr
    exact ⟨t, h1, h2 ds Φ hp m00 G H .calm G H _ _ (En.start m00_ok tb gn hs hv) (fun σ' δ' G' H' n' hd e _ => q .non .non G' H' n' hd e.out .non) (fun v d G' H' n' hd eo hv => q v d G' H' n' hd eo hv) (fun _ _ _ _ _ z => z.elim) (fun _ _ _ _ _ z => z.elim)⟩
theorem fn_BC {x qual : Str} {st : Stmt} {f : Addr} {fd : FuncData} {N ps : List Str} {k : Nat} {Pc : Nat → List D → (D → Nat → Prop) → Prop} {c : Addr} (F : FunC K x qual st f fd c) (S : FnScope N ps (defScope st)) (hl : ∀ n ds Φ, Pc n ds Φ → ds.length + 1 = ps.length)
    (hb : ∀ (A : Around) (outer : List Env) (s : Shared) (H : Hp) (E : XK), Room k (A.deeper (PyProof.Rows.envOfC qual (defScope st) s.heap.objs.size f (.ref c))) →
      ∃ t, PSs (cxOf CX0 P w K mg base N qual (defScope st) f (.ref c) A outer s H E).nox (defBody st) t ∧ ∀ p n ds Φ, Pc n ds Φ → GS K .calm (some p) t (startG N ds) ⟨n, m00⟩ (fun _ n' => dN Φ .non n') (dN Φ) (fun _ _ => False) (fun _ _ => False)) :
    FnOk P w K mg base CX0 (k + 1) f fd ps (spB K Pc) := by
  refine F.ok S (fun vs H Q E h => ?_) (fun A outer s H vs Q E hr h => ?_)
  · obtain ⟨G, p, n, rest, ds, Φ, rfl, _, _, _, _, _, hv, hp, _⟩ := h
    rw [List.length_cons, hv.len, hl n ds Φ hp]
  · obtain ⟨G, p, n, rest, ds, Φ, rfl, tb, gn, hs, gp, bg, hv, hp, q⟩ := h
    obtain ⟨t, h1, h2⟩ := hb A outer s H E hr
    exact ⟨t, h1, h2 p n ds Φ hp m00 G H .calm G H _ _ (En.startB m00_ok tb gn hs gp bg hv) (fun σ' δ' G' H' n' hd e _ => q .non .non G' H' n' hd e.out .non) (fun v d G' H' n' hd eo hv => q v d G' H' n' hd eo hv) (fun _ _ _ _ _ z => z.elim) (fun _ _ _ _ _ z => z.elim)⟩
theorem fn_MC {x qual : Str} {st : Stmt} {f : Addr} {fd : FuncData} {N ps : List Str} {k : Nat} {Pc : Sto → List D → (D → Sto → Prop) → (Exn → Sto → Prop) → Prop} {c : Addr} (F : FunC K x qual st f fd c) (S : FnScope N ps (defScope st)) (hl : ∀ n ds Φ X, Pc n ds Φ X → ds.length = ps.length)
    (hb : ∀ (A : Around) (outer : List Env) (s : Shared) (H : Hp) (E : XK), Room k (A.deeper (PyProof.Rows.envOfC qual (defScope st) s.heap.objs.size f (.ref c))) →
      ∃ t, PSs (cxOf CX0 P w K mg base N qual (defScope st) f (.ref c) A outer s H E).nox (defBody st) t ∧ ∀ n ds Φ X, Pc n ds Φ X → GS K .calm none t (startD N ds) n (fun _ n' => Φ .non n') Φ (fun _ _ => False) (fun _ _ => False)) :
    FnOk P w K mg base CX0 (k + 1) f fd ps (spM K Pc) := by
  refine F.ok S (fun vs H Q E h => ?_) (fun A outer s H vs Q E hr h => ?_)
  · obtain ⟨G, n, ds, Φ, X, _, _, _, _, hv, hp, _⟩ := h
    rw [hv.len, hl n ds Φ X hp]
  · obtain ⟨G, n, ds, Φ, X, mb, tb, gn, hs, hv, hp, q, _⟩ := h
    obtain ⟨t, h1, h2⟩ := hb A outer s H E hr
    exact ⟨t, h1, h2 n ds Φ X hp n.μ G H .calm G H _ _ (En.start mb tb gn hs hv) (fun σ' δ' G' H' n' hd e _ => q .non .non G' H' n' hd e.out .non) (fun v d G' H' n' hd eo hv => q v d G' H' n' hd eo hv) (fun _ _ _ _ _ z => z.elim) (fun _ _ _ _ _ z => z.elim)⟩
theorem fn_NC {x qual : Str} {st : Stmt} {f : Addr} {fd : FuncData} {N ps : List Str} {k : Nat} {Pc : Sto → List D → (D → Sto → Prop) → (Exn → Sto → Prop) → Prop} {c : Addr} (F : FunC K x qual st f fd c) (S : FnScope N ps (defScope st)) (hl : ∀ n ds Φ X, Pc n ds Φ X → ds.length + 1 = ps.length)
    (hb : ∀ (A : Around) (outer : List Env) (s : Shared) (H : Hp) (E : XK), Room k (A.deeper (PyProof.Rows.envOfC qual (defScope st) s.heap.objs.size f (.ref c))) →
      ∃ t, PSs (cxOf CX0 P w K mg base N qual (defScope st) f (.ref c) A outer s H E).nox (defBody st) t ∧ ∀ p n ds Φ X, Pc n ds Φ X → GS K .calm (some p) t (startG N ds) n (fun _ n' => Φ .non n') Φ (fun _ _ => False) (fun _ _ => False)) :
    FnOk P w K mg base CX0 (k + 1) f fd ps (spN K Pc) := by
  refine F.ok S (fun vs H Q E h => ?_) (fun A outer s H vs Q E hr h => ?_)
  · obtain ⟨G, p, n, rest, ds, Φ, X, rfl, _, _, _, _, _, _, hv, hp, _⟩ := h
    rw [List.length_cons, hv.len, hl n ds Φ X hp]
  · obtain ⟨G, p, n, rest, ds, Φ, X, rfl, mb, tb, gn, hs, gp, bg, hv, hp, q, _⟩ := h
    obtain ⟨t, h1, h2⟩ := hb A outer s H E hr
    exact ⟨t, h1, h2 p n ds Φ X hp n.μ G H .calm G H _ _ (En.startB mb tb gn hs gp bg hv) (fun σ' δ' G' H' n' hd e _ => q .non .non G' H' n' hd e.out .non) (fun v d G' H' n' hd eo hv => q v d G' H' n' hd eo hv) (fun _ _ _ _ _ z => z.elim) (fun _ _ _ _ _ z => z.elim)⟩
theorem fn_XC {x qual : Str} {st : Stmt} {f : Addr} {fd : FuncData} {N ps : List Str} {k : Nat} {Pc : Sto → List D → (D → Sto → Prop) → (Exn → Sto → Prop) → Prop} {c : Addr} (F : FunC K x qual st f fd c) (S : FnScope N ps (defScope st)) (hl : ∀ n ds Φ X, Pc n ds Φ X → ds.length = ps.length)
    (hb : ∀ (A : Around) (outer : List Env) (s : Shared) (H : Hp) (E : XK), Room k (A.deeper (PyProof.Rows.envOfC qual (defScope st) s.heap.objs.size f (.ref c))) →
      ∃ t, PSs (cxOf (L2.CX P w) P w K mg base N qual (defScope st) f (.ref c) A outer s H E) (defBody st) t ∧ ∀ n ds Φ X, Pc n ds Φ X → GS K (zOf E X) none t (startD N ds) n (fun _ n' => Φ .non n') Φ (fun _ _ => False) (fun _ _ => False)) :
    FnOk P w K mg base (L2.CX P w) (k + 1) f fd ps (spM K Pc) := by
  refine F.okX S (fun vs H Q E h => ?_) (fun A outer s H vs Q E hr h => ?_)
  · obtain ⟨G, n, ds, Φ, X, _, _, _, _, hv, hp, _⟩ := h
    rw [hv.len, hl n ds Φ X hp]
  · obtain ⟨G, n, ds, Φ, X, mb, tb, gn, hs, hv, hp, q, r⟩ := h
    obtain ⟨t, h1, h2⟩ := hb A outer s H E hr
    exact ⟨t, h1, h2 n ds Φ X hp n.μ G H (fun e d σ' δ' G' H' n' he en xi => r e d G' H' n' he en.out xi) G H _ _ (En.start mb tb gn hs hv) (fun σ' δ' G' H' n' hd e _ => q .non .non G' H' n' hd e.out .non) (fun v d G' H' n' hd eo hv => q v d G' H' n' hd eo hv) (fun _ _ _ _ _ z => z.elim) (fun _ _ _ _ _ z => z.elim)⟩
theorem fn_LC {x qual : Str} {st : Stmt} {f : Addr} {fd : FuncData} {N ps : List Str} {k : Nat} {c : Addr} (F : FunC K x qual st f fd c) (S : FnScope N ps (defScope st)) (hl : ps.length = 1)
    (hb : ∀ (A : Around) (outer : List Env) (s : Shared) (H : Hp) (E : XK), Room k (A.deeper (PyProof.Rows.envOfC qual (defScope st) s.heap.objs.size f (.ref c))) →
      ∃ t, PSs (cxOf CX0 P w K mg base N qual (defScope st) f (.ref c) A outer s H E).nox (defBody st) t ∧ ∀ ns : List Int, ns.length ≤ 63 → GS K .calm none t (.scr ns :: List.replicate (N.length - 1) .un) ⟨0, m00⟩ (fun _ _ => False) (fun d _ => d = .bl true) (fun _ _ => False) (fun _ _ => False)) :
    FnOk P w K mg base CX0 (k + 1) f fd ps (spL K) := by
  refine F.ok S (fun vs H Q E h => ?_) (fun A outer s H vs Q E hr h => ?_)
  · obtain ⟨a, ns, rfl, _⟩ := h
    rw [hl]
    rfl
  · obtain ⟨a, ns, rfl, tb, hS, hn, q⟩ := h
    obtain ⟨t, h1, h2⟩ := hb A outer s H E hr
    obtain ⟨G, e0⟩ := En.startS (N := N) tb hS
    refine ⟨t, h1, h2 ns hn m00 G H .calm G H _ _ e0 (fun _ _ _ _ _ z => z.elim) (fun v d G' H' n' hd eo hv => ?_) (fun _ _ _ _ _ z => z.elim) (fun _ _ _ _ _ z => z.elim)⟩
    subst hd
    cases hv
    exact q H'
end
end Tl

namespace Tl
open PySem PySem.Spec L2 TL LamX
section
variable [Tabl] {K : PySem.W.Frag} {Z : XZ} {B : Option Addr} {δ : List Slot} {n : Sto} {N Bk Ct : List Slot → Sto → Prop} {R : D → Sto → Prop} {te : TE}
omit [Tabl] in
/-- x.pop(e) -/
theorem pe_popAt {X : Cx} {o e : Expr} {es : List Expr} {to : TE} {t : TA} {apos cpos : Pos} (ho : PE X o to) (ha : PA X (e :: es) t) (hbase : attributeBase o "pop" X.env (eval o X.env) = eval o X.env := by rfl)
    (hfew : ((backTo cpos (starEach (e :: es) X.env)).all (fun x => !x.1) && (backToKw cpos (keywordEach [] X.env)).all (fun x => x.1.isSome)
      && decide ((e :: es).length + ([] : List Keyword).length + (if ([] : List Keyword).isEmpty then 0 else 1) < 30)) = true := by rfl)
    (hline : (apos.endLine == cpos.line) = true := by rfl) (hs : starEach (e :: es) X.env = (false, eval e X.env) :: starEach es X.env := by rfl) (hplain : (backTo cpos (starEach es X.env)).any (·.1) = false := by rfl) :
    PE X (.Call (.Attribute o "pop" apos) (e :: es) [] cpos) (tBM X.K "list" rPopAt to t) :=
  pe_bm PySem.F.plainAttrs_list PySem.F.slot_list_pop PySem.F.type_list_pop mt_popAt ho ha hbase hfew hline hs hplain
theorem wipeD_own {vs : List Nat} {i : Nat} {xs : List D} (hi : δ[i]? = some (.own xs)) (h : i ∉ vs) : (wipeD δ vs)[i]? = some (.own xs) := (wipeD_at h).trans hi
theorem erase_perm {α : Type} : ∀ (l : List α) (r : Nat) (h : r < l.length), (l[r] :: l.eraseIdx r).Perm l
  | x :: l, 0, _ => List.Perm.refl _
  | x :: l, r + 1, h => by
    have hl : r < l.length := by simpa using h
    show (l[r] :: x :: l.eraseIdx r).Perm (x :: l)
    exact (List.Perm.swap x l[r] _).trans ((erase_perm l r hl).cons x)
theorem seqIx_nat {r m : Nat} (h : r < m) : seqIndex? (r : Int) m = some r := by
  unfold seqIndex?
  have h1 : ¬ ((r : Int) < 0) := by omega
  have h2 : (decide ((0 : Int) ≤ (r : Int)) && decide ((r : Int) < (m : Int))) = true := by
    rw [decide_eq_true (by omega), decide_eq_true (by omega)]
    rfl
  simp only [h1, if_false, h2, if_true, Int.toNat_natCast]
/-- return [x.pop(e) for y in z]: x a list of one's own, emptied -/
theorem gs_retPop {i a j n0 : Nat} {μ : Addr → Option MO} {xs ds : List D} (c : Nat) (hi : δ[i]? = some (.own xs)) (ha : δ[a]? = some (.d (.lst ds))) (hij : i ≠ j) (hj : ∀ z, δ[j]? ≠ some (.ow z)) (hl : ds.length = xs.length) (hx : xs.length ≤ 50000)
    (h : ∀ (k : Nat) (cur : List D) (x : D) (m : Nat), k < xs.length → cur.length = xs.length - k → m ≤ n0 + c * k → GK K .calm te (((wipeD δ [j]).set j (.d x)).set i (.own cur)) ⟨m, μ⟩ fun y n2 => ∃ m2, n2 = ⟨m2, μ⟩ ∧ m2 ≤ n0 + c * (k + 1) ∧ ∃ r : Nat, y = .int (r : Int) ∧ r < cur.length)
    (hd : ∀ ys m, ys.Perm xs → m ≤ n0 + c * xs.length → R (.lst ys) ⟨m, μ⟩) :
    GS K Z B (tRet (tLc (iList K (tVar a)) (gName j) tYes (tBM K "list" rPopAt (tVar i) (tCons te tNil)) [j])) δ ⟨n0, μ⟩ N R Bk Ct := fun m0 G0 H0 xw G H σ E e hn hr hb hc => by
  obtain ⟨v, ev, iv⟩ := e.var ha
  refine ⟨v, ev, ?_⟩
  obtain ⟨p, us, ep, hp, ip, gp, mp, nbp⟩ := e.ownd hi
  have hil : i < δ.length := (List.getElem?_eq_some_iff.mp hi).1
  cases iv with
  | @lst q vs _ h1 a1 =>
    refine ⟨q, rfl, ⟨vs, SqL.of (e.sub _ _ h1)⟩, ?_⟩
    intro L hL
    have nbc : B ≠ some L := fun z => (e.bagged L z).1.some hL
    have gc := e.sub.none hL
    have mc := e.free L hL
    have nmL : μ L = none := e.nomob hL
    have npL : p ≠ L := fun z => by
      rw [z, hL] at hp
      cases hp
    have hset : δ.set i (.own xs) = δ := by
      apply List.ext_getElem?
      intro k
      by_cases hk : i = k
      · rw [← hk, List.getElem?_set_self hil, hi]
      · rw [List.getElem?_set_ne hk]
    have oc : ∀ {cur : List D} (k : Nat) (zs : MO), (δ.set i (.own cur))[k]? = some (.ow zs) → σ[k]? ≠ some (some (.ref L)) := fun {cur} k zs hk z => by
      by_cases hki : i = k
      · subst hki
        rw [ep] at z
        cases z
        exact npL rfl
      · rw [List.getElem?_set_ne hki] at hk
        obtain ⟨p', e1, e2, _⟩ := e.owo hk
        rw [z] at e1
        cases e1
        exact e2.some hL
    refine ⟨fun k mm H' => mm = xs.length - k ∧ k ≤ xs.length ∧ ∃ (acc cur : List D) (va : List V) (m : Nat) (G' : Hp), acc.length = k ∧ cur.length = xs.length - k ∧ (acc ++ cur).Perm xs ∧ m ≤ n0 + c * k ∧ H' L = some (.lst va) ∧ IsAll K G' va acc ∧ G' L = none ∧ En K B (MOf B m0 H0) ⟨m, μ⟩ G0 H0 G' H' σ (δ.set i (.own cur)) ∧ Sub G G',
      ⟨xs.length, by simp, Nat.zero_le _, [], xs, [], n0, G, rfl, rfl, List.Perm.refl _, Nat.le_refl _, upd_same, .nil, gc, ?_, Sub.refl G⟩, ?_⟩
    · rw [hset]
      exact e.newc hL
    rintro k mm H' ⟨rfl, hk, acc, cur, va, m, G', hacc, hcur, hperm, hm, hc', ia, gc', e', s'⟩
    have hq : SqL K H' q vs := SqL.of (e'.sub _ _ (s' _ _ h1))
    by_cases hlt : k < xs.length
    · obtain ⟨x, hx'⟩ : ∃ x, vs[k]? = some x := ⟨vs[k]'(by rw [a1.len, hl]; exact hlt), by simp⟩
      refine .inr ⟨⟨vs, x, hq, hx'⟩, fun H2 => k + 1 ≤ xs.length ∧ ∃ (acc cur : List D) (va : List V) (m : Nat) (G' : Hp), acc.length = k + 1 ∧ cur.length = xs.length - (k + 1) ∧ (acc ++ cur).Perm xs ∧ m ≤ n0 + c * (k + 1) ∧ H2 L = some (.lst va) ∧ IsAll K G' va acc ∧ G' L = none ∧ En K B (MOf B m0 H0) ⟨m, μ⟩ G0 H0 G' H2 σ (δ.set i (.own cur)) ∧ Sub G G',
        fun H2 w => ⟨xs.length - (k + 1), by omega, rfl, w⟩, fun x2 H2 y => ?_⟩
      obtain ⟨eH, y⟩ := y
      subst eH
      have ex := y vs hq
      obtain ⟨dx, hdx, idx⟩ := a1.get ex
      have Eb := ((e'.rebase (c := L) nbc nmL oc ⟨_, hc', fun _ z => nomatch z⟩).wipe [j]).set (i := j) (s := .d dx) (o := some x2) ⟨x2, rfl, idx.mono s'⟩ fun _ z => nomatch z
      have edl : ((wipeD (δ.set i (.own cur)) [j]).set j (.d dx)) = ((wipeD δ [j]).set j (.d dx)).set i (.own cur) := by
        show (((δ.set i (.own cur)).set j .un).set j (.d dx)) = ((δ.set j .un).set j (.d dx)).set i (.own cur)
        rw [List.set_set, List.set_set, List.set_comm _ _ hij]
      rw [edl] at Eb
      have so : SameOff [j] ((wipe σ [j]).set j (some x2)) σ := (SameOff.set (List.mem_singleton.mpr rfl)).trans SameOff.off
      refine ⟨so.wipe, ?_⟩
      refine tYes_go ?_
      have ep2 : ((wipe σ [j]).set j (some x2))[i]? = some (some (.ref p)) := (so.2 i (fun z => hij (List.mem_singleton.mp z))).trans ep
      obtain ⟨p0, us0, e0, h0, _⟩ := e'.ownd (i := i) (xs := cur) (List.getElem?_set_self hil)
      rw [ep] at e0
      cases e0
      refine ⟨_, ep2, .inl ⟨rfl, _, SqL.of h0⟩, ?_⟩
      refine h k cur dx m hlt hcur hm B _ G' H2 .calm G' H2 _ Eb _ fun w y G3 H3 m3 f3 E3 s3 a3 => ?_
      obtain ⟨m3, rfl, hm3, r, rfl, hr3⟩ := f3
      cases a3
      have hidl : i < ((wipeD δ [j]).set j (.d dx)).length := by
        show i < ((δ.set j .un).set j (.d dx)).length
        rw [List.length_set, List.length_set]
        exact hil
      obtain ⟨p3, us3, e3, h3, ia3, _⟩ := E3.ownd (i := i) (xs := cur) (List.getElem?_set_self hidl)
      rw [ep2] at e3
      cases e3
      have ncm : ¬ (MOf B m0 H0 L ∧ L ≠ L) := fun z => z.2 rfl
      have hL3 := E3.same L _ hc' ncm
      have gL3 := E3.fresh L ncm gc'
      have hr4 : r < us3.length := by rw [ia3.len]; exact hr3
      have hy : us3[r]? = some us3[r] := List.getElem?_eq_getElem hr4
      obtain ⟨dy, hdy, idy⟩ := ia3.get hy
      have ed : cur[r] = dy := by
        rw [List.getElem?_eq_getElem hr3] at hdy
        exact Option.some.inj hdy
      refine ⟨p, us3, (r : Int), r, us3[r], rfl, rfl, h3, by omega, ?_, seqIx_nat hr4, hy, ?_⟩
      · have := ia3.len
        omega
      · refine ⟨va, by rw [upd_ne npL.symm]; exact hL3, by rw [ia.len]; exact sz_lt (by omega), by omega, acc ++ [dy], cur.eraseIdx r, va ++ [us3[r]], m3, G3, by rw [List.length_append, hacc]; rfl, by rw [List.length_eraseIdx_of_lt hr3]; omega, ?_, hm3, upd_same, (ia.mono s3).app (.cons idy .nil), gL3, ?_, s'.trans s3⟩
        · rw [List.append_assoc]
          refine List.Perm.trans (List.Perm.append_left acc ?_) hperm
          show (dy :: cur.eraseIdx r).Perm cur
          rw [← ed]
          exact erase_perm cur r hr3
        · have E4 : En K B (MOf B m0 H0) ⟨m3, μ⟩ G0 H0 G3 H3 σ (δ.set i (.own cur)) := e'.home (vs := [j]) E3 so (fun l hl => by
            by_cases hli : i = l
            · rw [← hli, List.getElem?_set_self hidl, List.getElem?_set_self hil]
            · rw [List.getElem?_set_ne hli, List.getElem?_set_ne hli]
              have hlj : j ≠ l := fun z => hl (by rw [z]; exact List.mem_singleton.mpr rfl)
              show ((δ.set j .un).set j (.d dx))[l]? = δ[l]?
              rw [List.getElem?_set_ne hlj, List.getElem?_set_ne hlj]) (fun l hl zs => by
            cases List.mem_singleton.mp hl
            rw [List.getElem?_set_ne hij]
            exact hj zs)
          have E5 := E4.chg (List.getElem?_set_self hil) ep h3 (ia3.erase r)
          rw [List.set_set] at E5
          exact E5.beside (.inr ⟨.lst va, by rw [upd_ne npL.symm]; exact hL3, trivial⟩) (fun _ z => nomatch z) nbc nmL gL3 mc oc
    · have ek : k = xs.length := by omega
      subst ek
      have ec : cur = [] := List.length_eq_zero_iff.mp (by omega)
      subst ec
      rw [List.append_nil] at hperm
      refine .inl ⟨⟨vs, hq, by rw [a1.len, hl]; exact Nat.le_refl _⟩, ?_⟩
      have sn := Sub.new (o := .lst va) gc'
      exact hr _ (.lst acc) _ H' _ (hd acc m hperm hm) (e'.settle hc' gc' mc nbc nmL oc).out (.lst upd_same (ia.mono sn))
end
end Tl

namespace Tl
open PySem PySem.Spec L2 TL LamX
/-! ### rules that speak of K: for blocks of their own (comprehensions, lambdas) -/
section
variable {X : Cx} {K : PySem.W.Frag}
theorem ix_list_K (hK : X.K = K) : IxR X (rIxL K) := by
  subst hK
  exact ix_list
theorem ix_tup_K (hK : X.K = K) : IxR X (rIxT K) := by
  subst hK
  exact ix_tup
theorem ix_seq_K (hK : X.K = K) : IxR X (rIx K) := by
  subst hK
  exact ix_seq
theorem sl_list_K (hK : X.K = K) : SlR X (rSlL K) := by
  subst hK
  exact sl_list
theorem sl_tupA_K (hK : X.K = K) : SlR X (rSlA K) := by
  subst hK
  exact sl_tupA
theorem call_len_seq_K (hK : X.K = K) : CallR X (.builtin "len") (fun xs H Q => ∃ p ys, xs = [.ref p] ∧ (SqL K H p ys ∨ SqT K H p ys) ∧ Q (.int ys.length) H) := by
  subst hK
  exact call_len_seq
theorem call_isi_K (hK : X.K = K) : CallR X (.builtin "isinstance") (rIsi K) := by
  subst hK
  exact call_isi
theorem call_isiT_K (hK : X.K = K) : CallR X (.builtin "isinstance") (rIsiT K) := by
  subst hK
  exact call_isiT
theorem op_eqD_K (hK : X.K = K) (hu : X.A.units + 64 < cLine) : OpR X (compareOp .Eq) (rEqD K) := by
  subst hK
  exact op_eqD hu
theorem op_neD_K (hK : X.K = K) (hu : X.A.units + 64 < cLine) : OpR X (compareOp .NotEq) (rNeD K) := by
  subst hK
  exact op_neD hu
theorem op_catA_K (hK : X.K = K) : OpR X (binaryOp .Add) (rCatA K) := by
  subst hK
  exact op_catA
theorem op_in_seq_K (hK : X.K = K) : OpR X (compareOp .In) (rIn K false) := by
  subst hK
  exact op_in_seq
theorem op_notIn_seq_K (hK : X.K = K) : OpR X (compareOp .NotIn) (rIn K true) := by
  subst hK
  exact op_notIn_seq
theorem call_tuple_of_K (hK : X.K = K) : CallR X (.type "tuple") (fun xs H Q => ∃ p ys, xs = [.ref p] ∧ ((SqL K H p ys ∧ ∀ l, H l = none → Q (.ref l) (upd H l (.tup ys))) ∨ (SqT K H p ys ∧ Q (.ref p) H))) := by
  subst hK
  exact call_tuple_of
theorem call_list_of_K (hK : X.K = K) : CallR X (.type "list") (fun xs H Q => ∃ p ys, xs = [.ref p] ∧ (SqL K H p ys ∨ SqT K H p ys) ∧ ∀ l, H l = none → Q (.ref l) (upd H l (.lst ys))) := by
  subst hK
  exact call_list_of
theorem cr_all_K (hK : X.K = K) (hc : X.calm = true) : CallR X (.builtin "all") (rAll K) := by
  subst hK
  exact cr_all hc
theorem cr_any_K (hK : X.K = K) (hc : X.calm = true) : CallR X (.builtin "any") (rAny K) := by
  subst hK
  exact cr_any hc
theorem cr_sum_K (hK : X.K = K) (hc : X.calm = true) : CallR X (.builtin "sum") (rSum K) := by
  subst hK
  exact cr_sum hc
theorem cr_sortedS_K (hK : X.K = K) : CallR X (.builtin "sorted") (rSortedS K) := by
  subst hK
  exact cr_sortedS
theorem cr_sortedI_K (hK : X.K = K) : CallR X (.builtin "sorted") (rSortedI K) := by
  subst hK
  exact cr_sortedI
theorem pe_popAt_K {o e : Expr} {es : List Expr} {to : TE} {t : TA} {apos cpos : Pos} (hK : X.K = K) (ho : PE X o to) (ha : PA X (e :: es) t) (hbase : attributeBase o "pop" X.env (eval o X.env) = eval o X.env := by rfl)
    (hfew : ((backTo cpos (starEach (e :: es) X.env)).all (fun x => !x.1) && (backToKw cpos (keywordEach [] X.env)).all (fun x => x.1.isSome)
      && decide ((e :: es).length + ([] : List Keyword).length + (if ([] : List Keyword).isEmpty then 0 else 1) < 30)) = true := by rfl)
    (hline : (apos.endLine == cpos.line) = true := by rfl) (hs : starEach (e :: es) X.env = (false, eval e X.env) :: starEach es X.env := by rfl) (hplain : (backTo cpos (starEach es X.env)).any (·.1) = false := by rfl) :
    PE X (.Call (.Attribute o "pop" apos) (e :: es) [] cpos) (tBM K "list" rPopAt to t) := by
  subst hK
  exact pe_popAt ho ha hbase hfew hline hs hplain
end
end Tl

namespace Tl
open PySem PySem.Spec L2 TL LamX
section
variable [Tabl] {K : PySem.W.Frag} {Z : XZ} {B : Option Addr} {δ : List Slot} {n : Sto} {Φ : D → Sto → Prop} {te ta tb : TE} {aa : TA} {tt : TT} {wi : TI} {g : TG} {vs : List Nat} {N Bk Ct : List Slot → Sto → Prop} {R : D → Sto → Prop} {ts : TS}
omit [Tabl] in
theorem IsAll.bls {G : Hp} : ∀ {vs : List V} {bs : List Bool}, IsAll K G vs (bs.map D.bl) → vs = bs.map V.bl
  | _, [], .nil => rfl
  | _, b :: bs, .cons h r => by
    cases h
    rw [IsAll.bls r]
    rfl
omit [Tabl] in
theorem IsAll.toInts {G : Hp} : ∀ {vs : List V} {ns : List Int}, IsAll K G vs (ns.map D.int) → vs = ns.map V.int
  | _, [], .nil => rfl
  | _, b :: bs, .cons h r => by
    cases h
    rw [IsAll.toInts r]
    rfl
omit [Tabl] in
theorem IsAll.toStrs {G : Hp} : ∀ {vs : List V} {zs : List Str}, IsAll K G vs (zs.map D.str) → vs = zs.map V.str
  | _, [], .nil => rfl
  | _, b :: bs, .cons h r => by
    cases h
    rw [IsAll.toStrs r]
    rfl
omit [Tabl] in
theorem IsAll.strs {G : Hp} : ∀ zs : List Str, IsAll K G (zs.map V.str) (zs.map D.str)
  | [] => .nil
  | z :: r => .cons (.str z) (IsAll.strs r)
theorem rc_all {bs : List Bool} (k : Φ (.bl (bs.all id)) n) : RC K Z (rAll K) [.lst (bs.map D.bl)] δ n Φ := fun B M G0 H0 xw G H σ E vs a Q q => by
  cases a with
  | cons a r =>
    cases r
    cases a with
    | lst h1 a1 => exact ⟨_, bs, rfl, a1.bls ▸ SqL.of (E.sub _ _ h1), q _ _ G H n k E (Sub.refl G) (.bl _)⟩
theorem rc_allT {ds : List D} (h : ∀ d ∈ ds, d = .bl true) (k : Φ (.bl true) n) : RC K Z (rAll K) [.lst ds] δ n Φ := by
  have e : ds = (List.replicate ds.length true).map D.bl := by
    rw [List.map_replicate]
    exact List.eq_replicate_of_mem h
  rw [e]
  refine rc_all ?_
  rw [show (List.replicate ds.length true).all id = true by simp]
  exact k
theorem rc_any {bs : List Bool} (k : Φ (.bl (bs.any id)) n) : RC K Z (rAny K) [.lst (bs.map D.bl)] δ n Φ := fun B M G0 H0 xw G H σ E vs a Q q => by
  cases a with
  | cons a r =>
    cases r
    cases a with
    | lst h1 a1 => exact ⟨_, bs, rfl, a1.bls ▸ SqL.of (E.sub _ _ h1), q _ _ G H n k E (Sub.refl G) (.bl _)⟩
theorem rc_sum {ns : List Int} (k : Φ (.int ns.sum) n) : RC K Z (rSum K) [.lst (ns.map D.int)] δ n Φ := fun B M G0 H0 xw G H σ E vs a Q q => by
  cases a with
  | cons a r =>
    cases r
    cases a with
    | lst h1 a1 => exact ⟨_, ns, rfl, a1.toInts ▸ SqL.of (E.sub _ _ h1), q _ _ G H n k E (Sub.refl G) (.int _)⟩
theorem rc_sortI {ns : List Int} (k : ∀ ns' : List Int, ns'.Perm ns → ns'.Pairwise (· ≤ ·) → Φ (.lst (ns'.map D.int)) n) : RC K Z (rSortedI K) [.lst (ns.map D.int)] δ n Φ := fun B M G0 H0 xw G H σ E vs a Q q => by
  cases a with
  | cons a r =>
    cases r
    cases a with
    | lst h1 a1 =>
      refine ⟨_, ns, rfl, a1.toInts ▸ SqL.of (E.sub _ _ h1), fun ns' p hp hs hn => ?_⟩
      have s2 : ∀ o, Sub G (upd G p o) := fun o => Sub.new (E.sub.none hn)
      exact q _ _ _ _ n (k ns' hp hs) (E.laid hn) (s2 _) (.lst upd_same (IsAll.ints ns'))
/-- of ints that rise already -/
theorem rc_sortI' {ns : List Int} (hs : ns.Pairwise (· ≤ ·)) (k : Φ (.lst (ns.map D.int)) n) : RC K Z (rSortedI K) [.lst (ns.map D.int)] δ n Φ := rc_sortI fun ns' hp hs' => by
  rw [hp.eq_of_pairwise (fun a b _ _ h1 h2 => Int.le_antisymm h1 h2) hs' hs]
  exact k
/-- a constant tuple of ints -/
theorem gk_ctI {a : Addr} {ns : List Int} (h : ∀ H, SqT K H a (ns.map V.int)) (k : Φ (.tup (ns.map D.int)) n) : GK K Z (tC (.ref a)) δ n Φ := gk_ct h (fun _ => IsAll.ints ns) k
theorem OffD.set2 {δ2 : List Slot} {i j : Nat} {s t : Slot} (h : OffD [i, j] δ2 δ) : OffD [i, j] ((δ2.set i s).set j t) δ := (h.set (List.mem_cons_self)).set (List.mem_cons_of_mem _ List.mem_cons_self)
/-- two names, pairs, each element by the same function -/
theorem gk_map2 {i j : Nat} {f : D → D → D} (ho : ∀ x, δ[i]? ≠ some (.ow x)) (ho' : ∀ x, δ[j]? ≠ some (.ow x)) (h : GI K Z wi δ n fun xs n1 => ∃ ps : List (D × D), xs = ps.map (fun p => .tup [p.1, p.2]) ∧ xs.length ≤ 50000 ∧ (∀ p ∈ ps, GK K .calm te (((wipeD δ [i, j]).set i (.d p.1)).set j (.d p.2)) n1 fun y n2 => y = f p.1 p.2 ∧ n2 = n1) ∧ Φ (.lst (ps.map fun p => f p.1 p.2)) n1) :
    GK K Z (tLc wi (gTup K 2 (gCons (gName i) (gCons (gName j) gNil))) tYes te [i, j]) δ n Φ := by
  refine gk_lc (fun l hl xs => ?_) fun B M G0 H0 xw G H σ E R r => h B M G0 H0 xw G H σ E R fun J xs G' H' n' q e s it => ?_
  · rcases List.mem_cons.mp hl with rfl | hl
    · exact ho xs
    · cases List.mem_singleton.mp hl
      exact ho' xs
  obtain ⟨ps, rfl, q1, q2, q3⟩ := q
  refine r J _ G' H' n' ⟨q1, fun i acc m => acc = (ps.take i).map (fun p => f p.1 p.2) ∧ m = n', ⟨rfl, rfl⟩, ?_, ?_⟩ e s it
  · rintro l x acc m hx ⟨rfl, rfl⟩ _
    rw [List.getElem?_map] at hx
    obtain ⟨p, hp, rfl⟩ := Option.map_eq_some_iff.mp hx
    refine ⟨_, gg_tup rfl (ggs_cons (gg_name List.mem_cons_self) (ggs_cons (gg_name (List.mem_cons_of_mem _ List.mem_cons_self)) ggs_nil)), OffD.wipe.set2, gt_yes ⟨fun _ => ?_, fun z => nomatch z⟩⟩
    refine fun B M G0 H0 xw G H σ E Q k => q2 p (List.mem_of_getElem? hp) B M G0 H0 xw G H σ E Q fun v d G' H' n' z => k v d G' H' n' ?_
    obtain ⟨rfl, rfl⟩ := z
    refine ⟨?_, rfl⟩
    rw [take_snoc hp, List.map_append]
    rfl
  · rintro acc m ⟨rfl, rfl⟩ _
    rw [List.length_map, List.take_length]
    exact q3
/-! ### slots forgotten -/
inductive Wk : List Slot → List Slot → Prop where
  | nil : Wk [] []
  | kp {s : Slot} {a b : List Slot} (h : Wk a b) : Wk (s :: a) (s :: b)
  | un {s : Slot} {a b : List Slot} (h : Wk a b) : Wk (s :: a) (.un :: b)
omit [Tabl] in
theorem Wk.refl : ∀ a : List Slot, Wk a a
  | [] => .nil
  | _ :: a => .kp (Wk.refl a)
omit [Tabl] in
theorem Wk.at {a b : List Slot} (h : Wk a b) : ∀ {i : Nat} {s : Slot}, b[i]? = some s → s = .un ∨ a[i]? = some s := by
  induction h with
  | nil => intro i s e; simp at e
  | kp h ih =>
    intro i s e
    cases i with
    | zero => exact .inr e
    | succ i => exact ih (i := i) (by simpa using e)
  | un h ih =>
    intro i s e
    cases i with
    | zero =>
      have e : some Slot.un = some s := e
      cases e
      exact .inl rfl
    | succ i => exact ih (i := i) (by simpa using e)
omit [Tabl] in
theorem Wk.len {a b : List Slot} (h : Wk a b) : a.length = b.length := by
  induction h with
  | nil => rfl
  | kp h ih => rw [List.length_cons, List.length_cons, ih]
  | un h ih => rw [List.length_cons, List.length_cons, ih]
theorem En.wk {M : Addr → Prop} {G0 H0 G H : Hp} {σ : L2.St} {δ' : List Slot} (E : En K B M n G0 H0 G H σ δ) (h : Wk δ δ') : En K B M n G0 H0 G H σ δ' := by
  have own : ∀ {i : Nat} {x : MO}, δ'[i]? = some (.ow x) → δ[i]? = some (.ow x) := fun {i x} e => by
    rcases h.at e with z | z
    · cases z
    · exact z
  refine ⟨E.sub0, E.sub, E.same, E.free, E.fresh, E.bagged, E.tabs, E.tin, E.gnt, E.len.trans h.len, fun i s hs => ?_, fun i j p x y hi hj si sj => E.dis i j p x y (own hi) (own hj) si sj, E.mob, fun i x a hi hs => E.mow i x a (own hi) hs⟩
  rcases h.at hs with z | z
  · rw [z]
    trivial
  · exact E.slot i s z
theorem gs_wk {δ' : List Slot} (hw : Wk δ δ') (h : GS K Z B ts δ' n N R Bk Ct) : GS K Z B ts δ n N R Bk Ct := fun m0 G0 H0 xw G H σ E e hn hr hb hc => h m0 G0 H0 xw G H σ E (e.wk hw) hn hr hb hc
/-- a for: what stands between two turns, up to slots forgotten -/
theorem gs_forW {tb : TS} (h : GI K Z wi δ n fun xs n1 => ∃ Iv : Nat → List Slot → Sto → Prop, (∃ δ', Wk δ δ' ∧ Iv 0 δ' n1) ∧ (∀ i x δ' n', xs[i]? = some x → Iv i δ' n' → ∃ δ2 vs, GG K g x δ' δ2 vs ∧ GS K Z B tb δ2 n' (fun δ3 n3 => ∃ δ4, Wk δ3 δ4 ∧ Iv (i + 1) δ4 n3) R N (fun δ3 n3 => ∃ δ4, Wk δ3 δ4 ∧ Iv (i + 1) δ4 n3)) ∧ ∀ δ' n', Iv xs.length δ' n' → N δ' n') :
    GS K Z B (tFor wi g tb) δ n N R Bk Ct := fun m0 G0 H0 xw G H σ E e hn hr hb hc =>
  h B (MOf B m0 H0) G0 H0 xw G H σ e _ fun J xs G1 H1 n1 f1 E1 s1 a1 => by
    obtain ⟨Iv, ⟨δ0, w0, h0⟩, hs, hd⟩ := f1
    refine ⟨fun i m σ' H' => m = xs.length - i ∧ i ≤ xs.length ∧ ∃ δ' n' G', Iv i δ' n' ∧ En K B (MOf B m0 H0) n' G0 H0 G' H' σ' δ' ∧ Sub G1 G', ⟨xs.length, by simp, Nat.zero_le _, δ0, n1, G1, h0, E1.wk w0, Sub.refl G1⟩, ?_⟩
    rintro i m σ' H' ⟨rfl, hi, δ', n', G', iv, e', s'⟩
    obtain ⟨j1, j2⟩ := a1 G' H' s' e'.sub i
    by_cases hlt : i < xs.length
    · obtain ⟨x, hx⟩ : ∃ x, xs[i]? = some x := ⟨xs[i], by simp [hlt]⟩
      obtain ⟨jg, jy⟩ := j2 x hx
      refine .inr ⟨jg, fun σ' H' => ∃ δ' n' G', Iv (i + 1) δ' n' ∧ En K B (MOf B m0 H0) n' G0 H0 G' H' σ' δ' ∧ Sub G1 G', fun σ2 H2 q => ⟨xs.length - (i + 1), by omega, rfl, hlt, q⟩, fun v H'' y => ?_⟩
      obtain ⟨G2, s2, e2, a2, _⟩ := e'.yld (jy v H'' y)
      obtain ⟨δ2, vs, gg, hb⟩ := hs i x δ' n' hx iv
      refine gg B _ n' G0 H0 G2 H'' σ' e2 v a2 _ fun σ3 e3 _ => ?_
      exact hb m0 G0 H0 xw G2 H'' σ3 _ e3 (fun σ4 δ4 G4 H4 n4 ⟨δ5, w5, q⟩ e4 s4 => ⟨δ5, n4, G4, q, e4.wk w5, (s'.trans s2).trans s4⟩) hr (fun σ4 δ4 G4 H4 n4 q e4 s4 => hn σ4 δ4 G4 H4 n4 q e4 ((s1.trans (s'.trans s2)).trans s4)) (fun σ4 δ4 G4 H4 n4 ⟨δ5, w5, q⟩ e4 s4 => ⟨δ5, n4, G4, q, e4.wk w5, (s'.trans s2).trans s4⟩)
    · have ei : i = xs.length := by omega
      subst ei
      exact .inl ⟨j1 rfl, hn σ' δ' G' H' n' (hd δ' n' iv) e' (s1.trans s')⟩
theorem gs_whileW {tc : TT} {tb : TS} (Iv : Nat → List Slot → Sto → Prop) (mm : Nat) (h0 : ∃ δ', Wk δ δ' ∧ Iv mm δ' n)
    (hs : ∀ m δ' n', Iv m δ' n' → GT K Z tc δ' n' fun b n1 => (b = true → GS K Z B tb δ' n1 (fun δ2 n2 => ∃ m' δ3, m' < m ∧ Wk δ2 δ3 ∧ Iv m' δ3 n2) R N (fun δ2 n2 => ∃ m' δ3, m' < m ∧ Wk δ2 δ3 ∧ Iv m' δ3 n2)) ∧ (b = false → N δ' n1)) : GS K Z B (tWhile tc tb) δ n N R Bk Ct := fun m0 G0 H0 xw G H σ E e hn hr hb hc => by
  obtain ⟨δ0, w0, h0⟩ := h0
  refine ⟨fun m σ' H' => ∃ δ' n' G', Iv m δ' n' ∧ En K B (MOf B m0 H0) n' G0 H0 G' H' σ' δ' ∧ Sub G G', ⟨mm, δ0, n, G, h0, e.wk w0, Sub.refl G⟩, ?_⟩
  rintro m σ' H' ⟨δ', n', G', iv, e', s'⟩
  refine hs m δ' n' iv B (MOf B m0 H0) G0 H0 xw G' H' σ' e' _ fun b G2 H2 n2 f2 E2 s2 => ?_
  cases b with
  | true =>
    refine ⟨fun σ3 H3 => ∃ m', m' < m ∧ ∃ δ' n' G', Iv m' δ' n' ∧ En K B (MOf B m0 H0) n' G0 H0 G' H3 σ3 δ' ∧ Sub G G', fun σ3 H3 h => h, ?_⟩
    exact f2.1 rfl m0 G0 H0 xw G2 H2 σ' _ E2 (fun σ3 δ3 G3 H3 n3 ⟨m', δ4, hm, w4, q⟩ e3 s3 => ⟨m', hm, δ4, n3, G3, q, e3.wk w4, (s'.trans s2).trans s3⟩) hr (fun σ3 δ3 G3 H3 n3 q e3 s3 => hn σ3 δ3 G3 H3 n3 q e3 ((s'.trans s2).trans s3))
      (fun σ3 δ3 G3 H3 n3 ⟨m', δ4, hm, w4, q⟩ e3 s3 => ⟨m', hm, δ4, n3, G3, q, e3.wk w4, (s'.trans s2).trans s3⟩)
  | false => exact hn σ' δ' G2 H2 n2 (f2.2 rfl) E2 (s'.trans s2)
end
theorem not_tt : ¬ ((!true) = true) := by decide
theorem not_ff : ¬ ((!false) = false) := by decide
/-- pairs out of a drawn order -/
theorem perm_map {α β : Type} {f : α → β} {ys zs : List β} (h : ys.Perm zs) : ∀ {xs : List α}, zs = xs.map f → ∃ xs' : List α, xs'.Perm xs ∧ ys = xs'.map f := by
  induction h with
  | nil =>
    intro xs e
    cases xs with
    | nil => exact ⟨[], .nil, rfl⟩
    | cons _ _ => cases e
  | cons x h ih =>
    intro xs e
    cases xs with
    | nil => cases e
    | cons a r =>
      rw [List.map_cons] at e
      injection e with e1 e2
      obtain ⟨r', p, rfl⟩ := ih e2
      exact ⟨a :: r', p.cons a, by rw [List.map_cons, e1]⟩
  | swap x y l =>
    intro xs e
    match xs, e with
    | [], e => cases e
    | [_], e => cases e
    | a :: b :: r, e =>
      rw [List.map_cons, List.map_cons] at e
      injection e with e1 e2
      injection e2 with e2 e3
      exact ⟨b :: a :: r, .swap a b r, by rw [List.map_cons, List.map_cons, e1, e2, e3]⟩
  | trans h1 h2 ih1 ih2 =>
    intro xs e
    obtain ⟨xs', p, e'⟩ := ih2 e
    obtain ⟨xs2, p2, e2⟩ := ih1 e'
    exact ⟨xs2, p2.trans p, e2⟩
/-- at the start all tables are empty -/
theorem tabs_empty {cs : List (Addr × Addr)} {T : List (Addr × Str)} {H : Hp} (hH : ∀ p ∈ cs, H p.2 = some (.tbl #[])) (hT : ∀ p ∈ T, ∃ c, (c, p.1) ∈ cs) : Tabs T H := fun p hp => by
  obtain ⟨c, hc⟩ := hT p hp
  exact ⟨#[], hH _ hc, trivial, fun pos cv z => nomatch z⟩
end Tl

namespace Tl
open PySem PySem.Spec L2 TL LamX
/-! ### plain things: in, not in, index -/
def vOf : D → V
  | .bl b => .bl b | .int i => .int i | .str x => .str x | _ => .non
def flatD : D → Bool
  | .non => true | .bl _ => true | .int _ => true | .str _ => true | _ => false
def eqF (y x : D) : Bool := eqV (vOf y) (vOf x)
def inD (x : D) (xs : List D) : Bool := xs.any fun y => eqF y x
section
variable {K : PySem.W.Frag}
theorem Is.flat {G : Hp} {v : V} {d : D} (a : Is K G v d) (h : flatD d = true) : v = vOf d ∧ flatV v = true := by
  cases a <;> first | exact ⟨rfl, rfl⟩ | cases h
theorem IsAll.flat {G : Hp} : ∀ {vs : List V} {ds : List D}, IsAll K G vs ds → ds.all flatD = true → vs = ds.map vOf ∧ vs.all flatV = true
  | _, _, .nil, _ => ⟨rfl, rfl⟩
  | _, _, .cons a r, h => by
    rw [List.all_cons, Bool.and_eq_true] at h
    obtain ⟨e1, f1⟩ := a.flat h.1
    obtain ⟨e2, f2⟩ := IsAll.flat r h.2
    exact ⟨by rw [List.map_cons, ← e1, ← e2], by rw [List.all_cons, f1, f2]; rfl⟩
theorem inV_D {x : D} {xs : List D} : inV (vOf x) (xs.map vOf) = inD x xs := by
  unfold inV inD
  rw [List.any_map]
  rfl
theorem inD_str {z : Str} {zs : List Str} : inD (.str z) (zs.map D.str) = decide (z ∈ zs) := by
  unfold inD
  rw [List.any_map]
  have : ((fun y => eqF y (.str z)) ∘ D.str) = fun y => y == z := by
    funext y
    show eqV (.str y) (.str z) = _
    rfl
  rw [this, List.any_beq']
  simp [List.contains_iff_mem]
theorem flat_strs {zs : List Str} : (zs.map D.str).all flatD = true := by
  rw [List.all_map]
  exact List.all_eq_true.mpr fun _ _ => rfl
theorem flat_ints {zs : List Int} : (zs.map D.int).all flatD = true := by
  rw [List.all_map]
  exact List.all_eq_true.mpr fun _ _ => rfl
theorem flat_bls {zs : List Bool} : (zs.map D.bl).all flatD = true := by
  rw [List.all_map]
  exact List.all_eq_true.mpr fun _ _ => rfl
end
section
variable [Tabl] {K : PySem.W.Frag} {Z : XZ} {B : Option Addr} {δ : List Slot} {n : Sto} {Φ : D → Sto → Prop} {te ta tb : TE} {aa : TA} {N Bk Ct : List Slot → Sto → Prop} {R : D → Sto → Prop} {ts : TS}
theorem rk_inL {neg : Bool} {x : D} {xs : List D} (hx : flatD x = true) (hxs : xs.all flatD = true) (k : Φ (.bl (if neg then !inD x xs else inD x xs)) n) : RK K Z (rIn K neg) x (.lst xs) δ n Φ := fun B M G0 H0 xw G H σ E v w a b Q q => by
  cases b with
  | lst h1 a1 =>
    obtain ⟨e1, f1⟩ := a.flat hx
    obtain ⟨e2, f2⟩ := a1.flat hxs
    refine ⟨_, _, rfl, .inl (SqL.of (E.sub _ _ h1)), f1, f2, ?_⟩
    rw [e1, e2, inV_D]
    exact q _ _ G H n k E (Sub.refl G) (.bl _)
theorem rk_inT {neg : Bool} {x : D} {xs : List D} (hx : flatD x = true) (hxs : xs.all flatD = true) (k : Φ (.bl (if neg then !inD x xs else inD x xs)) n) : RK K Z (rIn K neg) x (.tup xs) δ n Φ := fun B M G0 H0 xw G H σ E v w a b Q q => by
  cases b with
  | tup h1 a1 =>
    obtain ⟨e1, f1⟩ := a.flat hx
    obtain ⟨e2, f2⟩ := a1.flat hxs
    refine ⟨_, _, rfl, .inr (E.sub.seq h1), f1, f2, ?_⟩
    rw [e1, e2, inV_D]
    exact q _ _ G H n k E (Sub.refl G) (.bl _)
/-- e in x, x owned -/
theorem gk_inOwn {neg : Bool} {i : Nat} {xs : List D} (hi : δ[i]? = some (.own xs)) (hxs : xs.all flatD = true) (h : GK K Z ta δ n fun x n1 => flatD x = true ∧ Φ (.bl (if neg then !inD x xs else inD x xs)) n1) : GK K Z (tOp (rIn K neg) ta (tVar i)) δ n Φ := fun B M G0 H0 xw G H σ E Q q =>
  h B M G0 H0 xw G H σ E _ fun v x G1 H1 n1 f1 E1 s1 a1 => by
    obtain ⟨p, vs, e1, e2, b, _⟩ := E1.ownd hi
    obtain ⟨r1, r2⟩ := a1.flat f1.1
    obtain ⟨r3, r4⟩ := b.flat hxs
    refine ⟨_, e1, p, vs, rfl, .inl (SqL.of e2), r2, r4, ?_⟩
    rw [r1, r3, inV_D]
    exact q _ _ G1 H1 n1 f1.2 E1 s1 (.bl _)
/-- x = [..] * e: a list of one's own -/
theorem gs_ownRep {i : Nat} (h : GA K Z aa δ n fun ds n1 => ds.length ≤ 1000 ∧ GK K Z tb δ n1 fun y n2 => ∃ m : Nat, y = .int m ∧ ds.length * m ≤ 100000 ∧ m ≤ 100000 ∧ N (δ.set i (.own (List.replicate m ds).flatten)) n2) : GS K Z B (tAsg (tOp rRep (tLst aa) tb) (gName i)) δ n N R Bk Ct := fun m0 G0 H0 xw G H σ E e hn hr hb hc =>
  h B (MOf B m0 H0) G0 H0 xw G H σ e _ fun vs ds G1 H1 n1 f1 E1 s1 a1 => ⟨by rw [a1.len]; exact sz_ (by omega), fun p hp => by
    have s2 : Sub G1 (upd G1 p (.lst vs)) := Sub.new (E1.sub.none hp)
    refine f1.2 B (MOf B m0 H0) G0 H0 xw _ _ σ (E1.laid hp) _ fun w y G2 H2 n2 f2 E2 s3 a2 => ?_
    obtain ⟨m, rfl, h1, h2, f2⟩ := f2
    cases a2
    have hp2 : H2 p = some (.lst vs) := E2.sub _ _ (s3 _ _ upd_same)
    refine ⟨p, m, vs, rfl, rfl, hp2, by omega, by omega, by rw [a1.len, Int.toNat_natCast]; exact sz_ h1, fun p2 hp2 => ?_⟩
    rw [Int.toNat_natCast]
    exact hn _ _ G2 _ n2 f2 (E2.own hp2 (((a1.mono s2).mono s3).repF m)) ((s1.trans s2).trans s3)⟩
theorem flat_rep {α : Type} (a : α) : ∀ m : Nat, (List.replicate m [a]).flatten = List.replicate m a
  | 0 => rfl
  | m + 1 => by rw [List.replicate_succ, List.replicate_succ, List.flatten_cons, flat_rep a m]; rfl
/-- xs.index(e), plain things -/
theorem gk_index (h : GK K Z ta δ n fun d n1 => ∃ xs, d = .lst xs ∧ xs.all flatD = true ∧ GK K Z tb δ n1 fun y n2 => flatD y = true ∧ ∃ j z, xs[j]? = some z ∧ eqF z y = true ∧ (∀ (m : Nat) (z' : D), m < j → xs[m]? = some z' → eqF z' y = false) ∧ Φ (.int (j : Nat)) n2) : GK K Z (tBM K "list" (rIndex K) ta (tCons tb tNil)) δ n Φ := fun B M G0 H0 xw G H σ E Q q =>
  h B M G0 H0 xw G H σ E _ fun v d G1 H1 n1 f1 E1 s1 a1 => by
    obtain ⟨xs, rfl, hx, f1⟩ := f1
    cases a1 with
    | @lst p vs _ h1 a1 =>
      refine ⟨.inl ⟨rfl, _, SqL.of (E1.sub _ _ h1)⟩, ?_⟩
      refine f1 B M G0 H0 xw G1 H1 σ E1 _ fun w y G2 H2 n2 f2 E2 s2 a2 => ?_
      obtain ⟨fy, j, z, hj, hz, hm, f2⟩ := f2
      obtain ⟨r1, r2⟩ := a2.flat fy
      obtain ⟨r3, r4⟩ := a1.flat hx
      subst r3
      subst r1
      refine ⟨p, _, _, j, vOf z, rfl, rfl, SqL.of (E2.sub _ _ (s2 _ _ h1)), r2, r4, by rw [List.getElem?_map, hj]; rfl, hz, fun m z' hm' hz' => ?_, q _ _ G2 H2 n2 f2 E2 (s1.trans s2) (.int _)⟩
      rw [List.getElem?_map] at hz'
      obtain ⟨z2, h3, rfl⟩ := Option.map_eq_some_iff.mp hz'
      exact hm m z2 hm' h3
end
end Tl

namespace Tl
open PySem
/-! ### a run comes to one end -/
theorem runs_det {M : Model} {Γ : Ctx} {p : Pos} {t : Sem Fin} {fs : List Frame} {s : Shared} {e : End} {s' : Shared} (h : Runs M Γ p t fs s e s') :
    ∀ {e2 : End} {s2 : Shared}, Runs M Γ p t fs s e2 s2 → e2 = e ∧ s2 = s' := by
  induction h with
  | done => intro e2 s2 g; cases g; exact ⟨rfl, rfl⟩
  | raise => intro e2 s2 g; cases g; exact ⟨rfl, rfl⟩
  | again _ _ ih => intro e2 s2 g; cases g with | again _ b => exact ih b
  | rule _ ih => intro e2 s2 g; cases g with | rule b => exact ih b
  | «at» _ ih => intro e2 s2 g; cases g with | «at» b => exact ih b
  | load a _ ih =>
    intro e2 s2 g
    cases g with
    | load a' b =>
      rw [a] at a'
      cases a'
      exact ih b
  | update _ _ ih => intro e2 s2 g; cases g with | update _ b => exact ih b
  | loadIfAlive _ ih => intro e2 s2 g; cases g with | loadIfAlive b => exact ih b
  | point _ ih => intro e2 s2 g; cases g with | point b => exact ih b
  | alloc _ ih => intro e2 s2 g; cases g with | alloc b => exact ih b
  | fresh _ ih => intro e2 s2 g; cases g with | fresh b => exact ih b
  | ask _ ih => intro e2 s2 g; cases g with | ask b => exact ih b
  | choose _ _ ih => intro e2 s2 g; cases g with | choose _ b => exact ih b
  | os _ ih => intro e2 s2 g; cases g with | os b => exact ih b
  | handled _ ih => intro e2 s2 g; cases g with | handled b => exact ih b
  | genState a _ ih =>
    intro e2 s2 g
    cases g with
    | genState a' b =>
      rw [a] at a'
      cases a'
      exact ih b
  | stack _ ih => intro e2 s2 g; cases g with | stack b => exact ih b
  | thread _ ih => intro e2 s2 g; cases g with | thread b => exact ih b
  | newGen _ ih => intro e2 s2 g; cases g with | newGen b => exact ih b
  | call _ _ i1 i2 =>
    intro e2 s2 g
    cases g with
    | call a b =>
      obtain ⟨h1, rfl⟩ := i1 a
      cases h1
      exact i2 b
    | callSusp a =>
      obtain ⟨h1, _⟩ := i1 a
      cases h1
  | callSusp _ i1 =>
    intro e2 s2 g
    cases g with
    | call a b =>
      obtain ⟨h1, _⟩ := i1 a
      cases h1
    | callSusp a =>
      obtain ⟨h1, rfl⟩ := i1 a
      cases h1
      exact ⟨rfl, rfl⟩
  | yield => intro e2 s2 g; cases g; exact ⟨rfl, rfl⟩
  | resumeFresh a _ _ _ i1 i2 =>
    intro e2 s2 g
    cases g with
    | resumeFresh a' b _ c =>
      rw [a] at a'
      cases a'
      obtain ⟨rfl, rfl⟩ := i1 b
      exact i2 c
    | resumeSuspended a' b _ c => rw [a] at a'; cases a'
    | resumeJustStarted a' n c => exact absurd rfl n
    | resumeRunning a' c => rw [a] at a'; cases a'
    | resumeFinished a' c => rw [a] at a'; cases a'
  | resumeSuspended a _ _ _ i1 i2 =>
    intro e2 s2 g
    cases g with
    | resumeFresh a' b _ c => rw [a] at a'; cases a'
    | resumeSuspended a' b _ c =>
      rw [a] at a'
      cases a'
      obtain ⟨rfl, rfl⟩ := i1 b
      exact i2 c
    | resumeJustStarted a' n c => rw [a] at a'; cases a'
    | resumeThrowFresh a' c => rw [a] at a'; cases a'
    | resumeRunning a' c => rw [a] at a'; cases a'
    | resumeFinished a' c => rw [a] at a'; cases a'
  | resumeJustStarted a n _ ih =>
    intro e2 s2 g
    cases g with
    | resumeFresh a' b _ c => exact absurd rfl n
    | resumeSuspended a' b _ c => rw [a] at a'; cases a'
    | resumeJustStarted a' _ c => exact ih c
    | resumeRunning a' c => rw [a] at a'; cases a'
    | resumeFinished a' c => rw [a] at a'; cases a'
  | resumeThrowFresh a _ ih =>
    intro e2 s2 g
    cases g with
    | resumeSuspended a' b _ c => rw [a] at a'; cases a'
    | resumeThrowFresh a' c => exact ih c
    | resumeRunning a' c => rw [a] at a'; cases a'
    | resumeFinished a' c => rw [a] at a'; cases a'
  | resumeRunning a _ ih =>
    intro e2 s2 g
    cases g with
    | resumeFresh a' b _ c => rw [a] at a'; cases a'
    | resumeSuspended a' b _ c => rw [a] at a'; cases a'
    | resumeJustStarted a' _ c => rw [a] at a'; cases a'
    | resumeThrowFresh a' c => rw [a] at a'; cases a'
    | resumeRunning a' c => exact ih c
    | resumeFinished a' c => rw [a] at a'; cases a'
  | resumeFinished a _ ih =>
    intro e2 s2 g
    cases g with
    | resumeFresh a' b _ c => rw [a] at a'; cases a'
    | resumeSuspended a' b _ c => rw [a] at a'; cases a'
    | resumeJustStarted a' _ c => rw [a] at a'; cases a'
    | resumeThrowFresh a' c => rw [a] at a'; cases a'
    | resumeRunning a' c => rw [a] at a'; cases a'
    | resumeFinished a' c => exact ih c
  | segRet _ _ i1 i2 =>
    intro e2 s2 g
    cases g with
    | segRet a b =>
      obtain ⟨h1, rfl⟩ := i1 a
      cases h1
      exact i2 b
    | segSuspOut _ a =>
      obtain ⟨h1, _⟩ := i1 a
      cases h1
    | segSuspGen _ a _ _ =>
      obtain ⟨h1, _⟩ := i1 a
      cases h1
  | segGen _ _ i1 i2 =>
    intro e2 s2 g
    cases g with
    | segGen a b =>
      obtain ⟨h1, rfl⟩ := i1 a
      cases h1
      exact i2 b
    | segSuspOut _ a =>
      obtain ⟨h1, _⟩ := i1 a
      cases h1
    | segSuspGen _ a _ _ =>
      obtain ⟨h1, _⟩ := i1 a
      cases h1
  | segSuspOut n _ i1 =>
    intro e2 s2 g
    cases g with
    | segRet a b =>
      obtain ⟨h1, _⟩ := i1 a
      cases h1
    | segGen a b =>
      obtain ⟨h1, _⟩ := i1 a
      cases h1
    | segSuspOut _ a =>
      obtain ⟨h1, rfl⟩ := i1 a
      cases h1
      exact ⟨rfl, rfl⟩
    | segSuspGen n' a _ _ => rw [n] at n'; cases n'
  | segSuspGen n _ _ _ i1 i2 =>
    intro e2 s2 g
    cases g with
    | segRet a b =>
      obtain ⟨h1, _⟩ := i1 a
      cases h1
    | segGen a b =>
      obtain ⟨h1, _⟩ := i1 a
      cases h1
    | segSuspOut n' a => rw [n] at n'; cases n'
    | segSuspGen n' a _ b =>
      obtain ⟨h1, rfl⟩ := i1 a
      cases h1
      rw [n] at n'
      cases n'
      exact i2 b
theorem wpCode_all {ι : Type} [Nonempty ι] {M : Model} {Γ : Ctx} {R : ι → Result → Shared → Prop} {p : Pos} {s : Shared} (h : ∀ i, wpCode M Γ (R i) p s) : wpCode M Γ (fun r s' => ∀ i, R i r s') p s := by
  obtain ⟨r, s', h1, _⟩ := h (Classical.choice inferInstance)
  refine ⟨r, s', h1, fun i => ?_⟩
  obtain ⟨r2, s2, h2, q⟩ := h i
  obtain ⟨e1, rfl⟩ := runs_det h1 h2
  cases e1
  exact q
/-- what each of some promises says of a run, all of them say together -/
theorem codeAny_all {ι : Type} [Nonempty ι] {M : Model} {A : Around} {c : Code} {R : ι → Result → Shared → Prop} {s : Shared} (h : ∀ i, codeAny M A c (R i) s) : codeAny M A c (fun r s' => ∀ i, R i r s') s := fun Γ p h1 h2 => wpCode_all fun i => h i Γ p h1 h2
end Tl

namespace Tl
open PySem PySem.Spec PyProof.Rows L2 TL LamX
/-! ### min(e, key=lambda p: body, default='..') -/
/-- the walk over a list or a tuple, by what it is worth -/
def stB (isL : Bool) (I a : Addr) (xs : List V) (i : Nat) (s : Shared) : Prop := ∃ its : List Value, Vals xs its ∧ if isL then s.heap.IsListIter I a i ∧ s.heap.IsList a its.toArray else s.heap.IsTupleIter I a i ∧ s.heap.IsTuple a its.toArray
theorem vals_at {xs : List V} {its : List Value} (r : Vals xs its) {i : Nat} {v : Value} (h : its[i]? = some v) : ∃ x, xs[i]? = some x ∧ RelV x v := by
  cases q : xs[i]? with
  | none =>
    rw [List.getElem?_eq_none_iff, r.length] at q
    exact absurd (List.getElem?_eq_some_iff.mp h).1 (by omega)
  | some x =>
    obtain ⟨u, h1, h2⟩ := r.get q
    rw [h] at h1
    cases h1
    exact ⟨x, rfl, h2⟩
theorem walksB {P : Program} {w : World} {A : Around} (hh : A.handled = none) (isL : Bool) {I a : Addr} (hne : a ≠ I) (xs : List V) :
    WalksS P w A I [I, a] [I] (fun x y => y = x) xs.length (fun i v => ∃ x, xs[i]? = some x ∧ RelV x v) (stB isL I a xs) := by
  have wl := fun its : List Value => (Walks.list (prog := P) (w := w) (A := A) hh I a hne its.toArray).toS
  have wt := fun its : List Value => (Walks.tuple (prog := P) (w := w) (A := A) hh I a hne its.toArray).toS
  have at_ : ∀ {its : List Value} {i : Nat} {v : Value}, Vals xs its → its.toArray[i]? = some v → ∃ x, xs[i]? = some x ∧ RelV x v := fun {its i v} r e => vals_at r (by rw [List.getElem?_toArray] at e; exact e)
  cases isL with
  | true =>
    refine ⟨fun b hb => by rw [List.mem_singleton.mp hb]; exact List.mem_cons_self, fun _ => rfl, fun _ _ _ h1 h2 => h2.trans h1, fun i s h' tk st ht hk => ?_, fun i s Q E hi st hQ => ?_, fun s Q E st hQ => ?_, fun i s Q E st hQ => ?_⟩
    · obtain ⟨its, r, st⟩ := st
      exact ⟨its, r, (wl its).frame i s h' tk st ht hk⟩
    · obtain ⟨its, r, st⟩ := st
      exact (wl its).item i s Q E (by rw [List.size_toArray, ← r.length]; exact hi) st fun v s' hP hst hm => hQ v s' (at_ r hP) ⟨its, r, hst⟩ hm
    · obtain ⟨its, r, st⟩ := st
      exact (wl its).done s Q E (by rw [List.size_toArray, ← r.length]; exact st) hQ
    · obtain ⟨its, r, st⟩ := st
      exact (wl its).self i s Q E st hQ
  | false =>
    refine ⟨fun b hb => by rw [List.mem_singleton.mp hb]; exact List.mem_cons_self, fun _ => rfl, fun _ _ _ h1 h2 => h2.trans h1, fun i s h' tk st ht hk => ?_, fun i s Q E hi st hQ => ?_, fun s Q E st hQ => ?_, fun i s Q E st hQ => ?_⟩
    · obtain ⟨its, r, st⟩ := st
      exact ⟨its, r, (wt its).frame i s h' tk st ht hk⟩
    · obtain ⟨its, r, st⟩ := st
      exact (wt its).item i s Q E (by rw [List.size_toArray, ← r.length]; exact hi) st fun v s' hP hst hm => hQ v s' (at_ r hP) ⟨its, r, hst⟩ hm
    · obtain ⟨its, r, st⟩ := st
      exact (wt its).done s Q E (by rw [List.size_toArray, ← r.length]; exact st) hQ
    · obtain ⟨its, r, st⟩ := st
      exact (wt its).self i s Q E st hQ
section
variable {X : Cx} {pins : List (Addr × Obj)} {σ : L2.St} {H : Hp} {s : Shared}
/-- what holds while the keys are made, at the abstract heap H' -/
structure MkJ (X : Cx) (pins : List (Addr × Obj)) (σ : L2.St) (f S I : Addr) (fo : Obj) (W : Hp → Prop) (H' : Hp) (s' : Shared) : Prop where
  inv : Inv X pins σ H' s'
  fn : s'.heap.get? f = some fo
  fnH : H' f = none
  sH : H' S = none
  iH : H' I = none
  w : W H'
theorem MkJ.moved {f S I : Addr} {fo : Obj} {W : Hp → Prop} {H' : Hp} {s s' : Shared} (J : MkJ X pins σ f S I fo W H' s) (hfS : f ≠ S) (hfI : f ≠ I) (fS : FpR X pins S) (fI : FpR X pins I) (m : Moved [S, I] (fun a b => b = a) s s') : MkJ X pins σ f S I fo W H' s' := by
  have e : s' = { s with heap := s'.heap, toks := s'.toks } := by
    obtain ⟨hp, g, d, tk, os⟩ := s'
    have h1 : g = s.gens := m.gens
    have h2 : d = s.drawn := m.drawn
    have h3 : os = s.os := m.os
    subst h1
    subst h2
    subst h3
    rfl
  have I2 : Inv X pins σ H' { s with heap := s'.heap, toks := s'.toks } := J.inv.turnedL (ch := [S, I]) m.heap (fun b hb => by
    rcases List.mem_cons.mp hb with z | z
    · rw [z]
      exact fS.ok J.sH
    · rw [List.mem_singleton.mp z]
      exact fI.ok J.iH)
  exact ⟨by rw [e]; exact I2, m.heap f fo (fun z => by
    rcases List.mem_cons.mp z with y | y
    · exact hfS y
    · exact hfI (List.mem_singleton.mp y)) J.fn, J.fnH, J.sH, J.iH, J.w⟩
/-- the key of the i-th item, as it stands -/
def KvAt (X : Cx) (pins : List (Addr × Obj)) (σ : L2.St) (f S I : Addr) (fo : Obj) (W : Hp → Prop) (kd : Nat → Int × Str) (i : Nat) (k : Value) (s' : Shared) : Prop :=
  ∃ (H' : Hp) (p : Addr), MkJ X pins σ f S I fo W H' s' ∧ k = .ref p ∧ H' p = some (.tup [.int (kd i).1, .str (kd i).2])
def kdP (k : Int × Str) : PyData := .tuple [.int k.1, .str k.2]
theorem kvAt_reads {f S I : Addr} {fo : Obj} {W : Hp → Prop} {kd : Nat → Int × Str} {i : Nat} {k : Value} {s' : Shared} (h : KvAt X pins σ f S I fo W kd i k s') : ∃ as, Reads s'.heap k (kdP (kd i)) as := by
  obtain ⟨H', p, J, rfl, hp⟩ := h
  exact Dp.reads J.inv _ (V.ref p) _ (.tup (SqT.of hp) (.cons (.int _) (.cons (.str _) .nil))) rfl
/-- the key function and the order, as min asks them -/
theorem min_keyRun {A : Around} {k : Nat} {scope : Scope} {params : Arguments} {body : Expr} {f c' S I a : Addr} {pm ctv : Value} {p : Str} {j : Nat} {tb : TE} {xs : List V} {W : Hp → Prop} {kd : Nat → Int × Str} {isL : Bool}
    (L : LamP X.env.scope scope p) (hA : A.frames = some X.stack) (hr : Room (k + 1) A) (hun : A.units + 10 < cLine) (hN : X.N.Nodup) (hj : X.N[j]? = some p) (hfr : f ∉ frs X.stack) (hfS : f ≠ S) (hfI : f ≠ I) (hIS : I ≠ S) (fS : FpR X pins S) (fI : FpR X pins I)
    (hbind : ∀ v, bindArgs (PySem.W.kla_fn "<lambda>" (X.env.qual ++ "<lambda>") params body scope (cloFrom X.env.cells scope.names []) pm (.ref c') ctv) ⟨[v], []⟩ = pure [(p, v)])
    (hbody : ∀ (A : Around) (outer : List Env) (s : Shared) (H : Hp), Room k (A.deeper (lamEnv X scope s.heap.objs.size f c')) → PE (lamCx X A outer s H (fun _ _ _ => False) scope f c') body tb)
    (hW : ∀ H', W H' → H' c' = some (CodeO c' (X.env.qual ++ "<lambda>"))) (hWs : ∀ H', W H' → SqB X.K isL H' a xs)
    (step : ∀ i x H', xs[i]? = some x → W H' → tb (σ.set j (some x)) H' fun kv H'' => W H'' ∧ ∃ p, kv = .ref p ∧ H'' p = some (.tup [.int (kd i).1, .str (kd i).2])) :
    KeyRun X.prog X.w A (.ref f) .Lt S [I] (fun a b => b = a) xs.length (fun i v => ∃ x, xs[i]? = some x ∧ RelV x v) (stB isL I a xs)
      (fun s' => ∃ H', MkJ X pins σ f S I (PySem.W.kla_obj "<lambda>" (X.env.qual ++ "<lambda>") params body scope (cloFrom X.env.cells scope.names []) pm c' ctv) W H' s')
      (KvAt X pins σ f S I (PySem.W.kla_obj "<lambda>" (X.env.qual ++ "<lambda>") params body scope (cloFrom X.env.cells scope.names []) pm c' ctv) W kd)
      (fun i j => PySem.W.dataLt (kdP (kd i)) (kdP (kd j))) := by
  refine ⟨fun s s' ⟨H', J⟩ m => ⟨H', J.moved hfS hfI fS fI m⟩, fun i k s s' ⟨H', q, J, e, h⟩ m => ⟨H', q, J.moved hfS hfI fS fI m, e, h⟩, ?_, ?_⟩
  · rintro i v s o Q E hi ⟨x, hx, rx⟩ ⟨H0, J0⟩ st hS hQ
    -- each abstract heap that fits tells what comes
    have runs : ∀ h : { H' : Hp // MkJ X pins σ f S I (PySem.W.kla_obj "<lambda>" (X.env.qual ++ "<lambda>") params body scope (cloFrom X.env.cells scope.names []) pm c' ctv) W H' s }, codeAny (model X.prog X.w) A (.call (.ref f) ⟨[v], []⟩)
        (CR (L2.CX X.prog X.w) X.stack X.prog X.w h.1 s (fun kv H'' => W H'' ∧ ∃ p, kv = .ref p ∧ H'' p = some (.tup [.int (kd i).1, .str (kd i).2])) fun _ _ _ => False) s := fun ⟨H', J⟩ => by
      have e0 : Env0 X.prog X.w X.K X.mg X.base A X.stack s H' := ⟨hA, J.inv.env0.mod, J.inv.env0.bs, J.inv.env0.bsz, J.inv.env0.funs, J.inv.env0.frf, J.inv.env0.hok, J.inv.env0.bare⟩
      exact lam_run J.inv L e0 hr hN hj J.fn (hW H' J.w) (hbind v) hbody rx (step i x H' hx J.w)
    haveI : Nonempty { H' : Hp // MkJ X pins σ f S I (PySem.W.kla_obj "<lambda>" (X.env.qual ++ "<lambda>") params body scope (cloFrom X.env.cells scope.names []) pm c' ctv) W H' s } := ⟨⟨H0, J0⟩⟩
    have nin : ∀ b : Addr, b ∉ ([] : List Addr) := fun b => by simp
    obtain ⟨oI, hoI⟩ : ∃ oI, s.heap.get? I = some oI := by
      obtain ⟨its, _, st⟩ := st
      cases isL with
      | true => exact ⟨_, st.1.choose_spec.1⟩
      | false => exact ⟨_, st.1.choose_spec.1⟩
    refine wpAny_call (codeAny_mono (codeAny_all runs) fun r s2 hq => ?_)
    -- what one of them tells of the end
    have one : ∀ (H' : Hp), MkJ X pins σ f S I (PySem.W.kla_obj "<lambda>" (X.env.qual ++ "<lambda>") params body scope (cloFrom X.env.cells scope.names []) pm c' ctv) W H' s → ∃ (u : Value) (H2 : Hp) (q : Addr), r = .ok (.ret u) ∧
        MkJ X pins σ f S I (PySem.W.kla_obj "<lambda>" (X.env.qual ++ "<lambda>") params body scope (cloFrom X.env.cells scope.names []) pm c' ctv) W H2 s2 ∧ u = .ref q ∧ H2 q = some (.tup [.int (kd i).1, .str (kd i).2]) ∧ (∀ b ys, H' b = some (.tup ys) → H2 b = some (.tup ys)) ∧ s2.heap.get? S = some o ∧ s2.heap.get? I = some oI := fun H' J => by
      have hq := hq ⟨H', J⟩
      cases r with
      | error er =>
        obtain ⟨_, _, _, _, _, _, _, _, _, _, _, _, _, _, _, _, z⟩ := (show L2.CX X.prog X.w X.stack H' s (fun _ _ _ => False) er s2 from hq)
      | ok fl =>
        cases fl with
        | next => exact False.elim hq
        | brk => exact False.elim hq
        | cont => exact False.elim hq
        | ret u =>
          obtain ⟨kv, H2, os, bare, un, hok, rel, w2, q, rfl, hk⟩ := (show CE X.stack X.prog X.w H' s (fun kv H'' => W H'' ∧ ∃ p, kv = .ref p ∧ H'' p = some (.tup [.int (kd i).1, .str (kd i).2])) u s2 from hq)
          obtain ⟨kv', H2', I2, rel2, e1', e2'⟩ := J.inv.after (Q := fun kv' H'' => kv' = V.ref q ∧ H'' = H2) ⟨V.ref q, H2, os, bare, un, hok, rel, rfl, rfl⟩
          subst e1' e2'
          exact ⟨u, H2', q, rfl, ⟨I2, un.keep _ _ J.fn J.fnH hfr (nin _), un.free _ _ J.fn J.fnH (nin _), un.free _ _ hS J.sH (nin _), un.free _ _ hoI J.iH (nin _), w2⟩, rel2, hk, un.tups, un.keep _ _ hS J.sH fS.2.2.1 (nin _), un.keep _ _ hoI J.iH fI.2.2.1 (nin _)⟩
    obtain ⟨u, H2, q, rfl, J2, rfl, hk, _, hS2, hI2⟩ := one H0 J0
    have st2 : stB isL I a xs (i + 1) s2 := by
      have hs := hWs H2 J2.w
      obtain ⟨its0, _, st⟩ := st
      cases isL with
      | true =>
        obtain ⟨its, rv, hl, _⟩ := J2.inv.list hs
        obtain ⟨⟨o1, e1, e2⟩, _⟩ := st
        rw [hoI] at e1
        cases e1
        exact ⟨its, rv, ⟨oI, hI2, e2⟩, hl.isList⟩
      | false =>
        obtain ⟨its, rv, hl, _⟩ := J2.inv.tuple hs
        obtain ⟨⟨o1, e1, e2⟩, _⟩ := st
        rw [hoI] at e1
        cases e1
        exact ⟨its, rv, ⟨oI, hI2, e2⟩, hl⟩
    refine hQ (.ref q) s2 ⟨H2, J2⟩ st2 hS2 ⟨H2, q, J2, rfl, hk⟩ fun j k' ⟨H1, p1, J1, e1, h1⟩ => ?_
    obtain ⟨u3, H3, q3, _, J3, _, _, ht, _, _⟩ := one H1 J1
    exact ⟨H3, p1, J3, e1, ht _ _ h1⟩
  · rintro i j' ki kj s Q E _ v1 v2 hq
    obtain ⟨as1, r1⟩ := kvAt_reads v1
    obtain ⟨as2, r2⟩ := kvAt_reads v2
    refine PySem.W.lt_data r1 r2 ?_ (fun z => nomatch z) ?_ hq
    · simp [kdP, PySem.W.alike, PySem.W.alikeAll]
    · have e : ∀ k : Int × Str, (kdP k).depth ≤ 2 := fun k => by simp [kdP, PyData.depth, PyData.depthAll]
      have := Nat.le_trans (Nat.min_le_left (kdP (kd i)).depth (kdP (kd j')).depth) (e _)
      omega
/-- min(e, key=lambda p: body, default=d): q the lambda's name, j the slot of its parameter -/
def tMinK (T : List (Addr × Str)) (K : PySem.W.Frag) (q : Str) (te tb : TE) (j : Nat) (d : Str) : TE := fun σ H Q => te σ H fun x H1 => ∃ (a : Addr) (xs : List V) (isL : Bool), x = .ref a ∧ Tabs T H1 ∧
  ∀ (c' : Addr) (H2 : Hp), ExtN H1 H2 → Tabs T H2 → H2 c' = some (CodeO c' q) → ∃ (W : Hp → Prop) (kd : Nat → Int × Str), W H2 ∧ (∀ H', W H' → H' c' = some (CodeO c' q) ∧ SqB K isL H' a xs) ∧
    (∀ i x H', xs[i]? = some x → W H' → tb (σ.set j (some x)) H' fun kv H'' => W H'' ∧ ∃ p, kv = .ref p ∧ H'' p = some (.tup [.int (kd i).1, .str (kd i).2])) ∧
    (xs = [] → ∀ H', W H' → Q (.str d) H') ∧ ∀ x, xs[argBest (fun i j => PySem.W.dataLt (kdP (kd i)) (kdP (kd j))) (xs.length - 1)]? = some x → ∀ H', W H' → Q x H'
theorem pe_minK {T : List (Addr × Str)} {te tb : TE} {c P : Addr} {k j : Nat} {p d : Str} {ji : Nat} {params : Arguments} {body e : Expr} {scope : Scope} {px lpos kpos dpos dpos2 pos : Pos} (hg : Gl X "min") (hm : X.mg "min" = none) (hca : X.calm = true) (he : PE X e te) (TB : TabB X.base X.mg c P) (hcode : X.env.code = .ref c)
    (hmT : (P, X.env.qual ++ "<lambda>") ∈ T) (hu : ∀ p ∈ T, p.1 = P → p.2 = X.env.qual ++ "<lambda>") (hr : Room (k + 3) X.A) (L : LamP X.env.scope scope p) (hdef : defaultsOf params X.env = ([], [])) (hN : X.N.Nodup) (hj : X.N[j]? = some p)
    (hbind : ∀ (q : Str) (cl : List (Str × Addr)) (pm cv ctv v : Value), bindArgs (PySem.W.kla_fn "<lambda>" q params body scope cl pm cv ctv) ⟨[v], []⟩ = pure [(p, v)])
    (hbody : ∀ (A : Around) (outer : List Env) (s : Shared) (H : Hp) (f c' : Addr), Room k (A.deeper (lamEnv X scope s.heap.objs.size f c')) → PE (lamCx X A outer s H (fun _ _ _ => False) scope f c') body tb)
    (hst : starEach [e] X.env = [(false, eval e X.env)] := by rfl) :
    PE X (.Call (.Name "min" px) [e] [⟨some "key", .Lambda params body scope lpos, kpos⟩, ⟨some "default", .Constant (.str d) ji dpos, dpos2⟩] pos) (tMinK T X.K (X.env.qual ++ "<lambda>") te tb j d) := by
  refine ⟨fun pins s σ H Q I h => ?_⟩
  refine wpAny_Call_Name_kw (ld_blt (u := .builtin "min") I hg hm (by decide +kernel) ?_)
  refine PyProof.Rows.callWith_kw (e := e) (rest := []) ?_ (by show backTo pos (starEach [e] X.env) = _; rw [hst]; rfl) (by rw [hst]; rfl) (by rfl) (by rfl)
  have hb : backTo pos (starEach [e] X.env) = (false, eval e X.env) :: backTo pos (starEach [] X.env) := by
    rw [hst]
    rfl
  rw [hb]
  refine Calls.spliced_cons (thn (he.run pins s σ H _ I h) fun u s1 ⟨x, H1, I1, r1, a, xs, isL, ex, hT, q1⟩ => ?_)
  refine Calls.spliced_nil ?_
  subst ex
  obtain rfl : u = Value.ref a := r1
  show wpAny _ _ (evalAll [(do let v ← eval (.Lambda params body scope lpos) X.env; standAt pos; pure v), (do let v ← eval (.Constant (.str d) ji dpos) X.env; standAt pos; pure v)]) _ _ s1
  refine wpAny_evalAll_cons (wpAny_bind (lam_make2 I1 TB hcode hmT hu hT hdef (L.has I1.ok) fun f c' pm ctv H2 s2 I2 eN T2 hf hfn hfr hco => wpAny_bind (wpAny_standAt (wpAny_pure ?_))))
  refine wpAny_evalAll_cons (wpAny_bind (Calls.Constant_str (wpAny_bind (wpAny_standAt (wpAny_pure ?_)))))
  refine wpAny_evalAll_nil ?_
  obtain ⟨W, kd, w0, hWc, step, fin0, fin⟩ := q1 c' H2 eN T2 hco
  have I3 := I2.tok (s2.toks + 1)
  generalize es3 : ({ s2 with toks := s2.toks + 1 } : Shared) = s3 at I3
  have hf3 : s3.heap.get? f = some (PySem.W.kla_obj "<lambda>" (X.env.qual ++ "<lambda>") params body scope (cloFrom X.env.cells scope.names []) pm c' ctv) := by
    rw [← es3]
    exact hf
  show wpAny _ _ (call (.builtin "min") [.ref a] [(Str.ofString "key", .ref f), (Str.ofString "default", .str d s2.toks)]) _ _ s3
  have hh : X.A.in1.handled = none := hr.in1.hd
  -- the walk begins
  have go : ∀ (I : Addr) (s4 : Shared) (ob : Obj), I = s3.heap.objs.size → s4 = { s3 with heap := s3.heap.push ob } → stB isL I a xs 0 s4 → (∀ b ∈ [I, a], b < s4.heap.objs.size) → ∃ (I' : Addr) (fp wr : List Addr) (G : Array GenState → Array GenState → Prop) (n : Nat) (P' : Nat → Value → Prop) (St : Nat → Shared → Prop) (J : Shared → Prop) (V' : Nat → Value → Shared → Prop) (bt : Nat → Nat → Bool), Value.ref I = .ref I' ∧ WalksS X.prog X.w X.A.in1 I' fp wr G n P' St ∧ St 0 s4 ∧ (∀ b ∈ fp, b < s4.heap.objs.size) ∧
      KeyRun X.prog X.w X.A.in1 (.ref f) .Lt s4.heap.objs.size wr G n P' St J V' bt ∧ J s4 ∧ (n = 0 → ∀ s', J s' → EP X pins σ Q (.str d s2.toks) s') ∧ (0 < n → ∀ v s', P' (argBest bt (n - 1)) v → J s' → EP X pins σ Q v s') := by
    rintro I s4 ob rfl rfl st hfp
    have old : ∀ b o, s3.heap.get? b = some o → (s3.heap.push ob).get? b = some o := fun b o q => Heap.get?_push_of_some _ q
    have hsz : (s3.heap.push ob).objs.size = s3.heap.objs.size + 1 := size_push' ..
    have fI := fpR_new (b := s3.heap.objs.size) I3 (Nat.le_refl _)
    have fS := fpR_new (b := (s3.heap.push ob).objs.size) I3 (by omega)
    have flt : f < s3.heap.objs.size := Heap.lt_size hf3
    have ane : a ≠ s3.heap.objs.size := fun z => by
      have hs := (hWc H2 w0).2
      cases isL with
      | true =>
        obtain ⟨its, _, ⟨o, _, e1, _⟩, _⟩ := I3.list hs
        exact absurd (z ▸ Heap.lt_size e1) (Nat.lt_irrefl _)
      | false =>
        obtain ⟨its, _, ⟨o, e1, _⟩, _⟩ := I3.tuple hs
        exact absurd (z ▸ Heap.lt_size e1) (Nat.lt_irrefl _)
    have J4 : MkJ X pins σ f (s3.heap.push ob).objs.size s3.heap.objs.size (PySem.W.kla_obj "<lambda>" (X.env.qual ++ "<lambda>") params body scope (cloFrom X.env.cells scope.names []) pm c' ctv) W H2 { s3 with heap := s3.heap.push ob } :=
      ⟨I3.kept (t' := s3.toks) old, old _ _ hf3, hfn, I3.hok.fresh (by omega), I3.hok.fresh (Nat.le_refl _), w0⟩
    refine ⟨_, _, _, _, _, _, _, _, _, _, rfl, walksB hh isL ane xs, st, hfp, min_keyRun (W := W) (kd := kd) (isL := isL) L I3.env0.frames (hr.in1.mono (by omega)) ?_ hN hj hfr (Nat.ne_of_lt (by rw [hsz]; exact Nat.lt_succ_of_lt flt)) (Nat.ne_of_lt flt) (Nat.ne_of_lt (by rw [hsz]; exact Nat.lt_succ_self _)) fS fI (fun v => hbind _ _ _ _ _ v) (fun A outer s H hr' => hbody A outer s H f c' hr') (fun H' w => (hWc H' w).1) (fun H' w => (hWc H' w).2) step, ⟨H2, J4⟩, ?_, ?_⟩
    · have := hr.in1.units
      omega
    · rintro hn s' ⟨H', J⟩
      exact ⟨.str d, H', J.inv, ⟨_, rfl⟩, fin0 (List.length_eq_zero_iff.mp hn) H' J.w⟩
    · rintro _ v s' ⟨x, hx, rx⟩ ⟨H', J⟩
      exact ⟨x, H', J.inv, rx, fin x hx H' J.w⟩
  refine call_min_walkKD ?_
  have hs := (hWc H2 w0).2
  cases isL with
  | true =>
    obtain ⟨its, rv, hl, _⟩ := I3.list hs
    exact PySem.W.iter_listW hh hl.isList fun s4 e4 _ st hlt _ _ => go _ s4 _ rfl e4 ⟨its, rv, st⟩ hlt
  | false =>
    obtain ⟨its, rv, hl, _⟩ := I3.tuple hs
    exact PySem.W.iter_tupleW hh hl fun s4 e4 _ st hlt _ _ => go _ s4 _ rfl e4 ⟨its, rv, st⟩ hlt
end
end Tl

namespace Tl
open PySem PySem.Spec L2 TL LamX
/-! ### min by a key, over data -/
/-- the key is a new tuple of a number and a text -/
def GKt [Tabl] (K : PySem.W.Frag) (tb : TE) (δ : List Slot) (n : Sto) (R : Int → Str → Prop) : Prop :=
  ∀ (B : Option Addr) (M : Addr → Prop) (G0 H0 G H : Hp) (σ : L2.St), En K B M n G0 H0 G H σ δ → ∀ Q : VK, (∀ (p : Addr) (a : Int) (z : Str) (G' H' : Hp), R a z → En K B M n G0 H0 G' H' σ δ → Sub G G' → H' p = some (.tup [.int a, .str z]) → Q (.ref p) H') → tb σ H Q
/-- the order of such keys -/
def kLt (x y : Int × Str) : Bool := decide (x.1 < y.1) || (decide (x.1 = y.1) && decide (tl x.2 < tl y.2))
theorem lt_tri' (a b : List Nat) : a < b ∨ a = b ∨ b < a := by
  by_cases h : a < b
  · exact .inl h
  · by_cases h2 : b < a
    · exact .inr (.inr h2)
    · exact .inr (.inl (List.le_antisymm (List.not_lt.mp h2) (List.not_lt.mp h)))
theorem kLt_iff {x y : Int × Str} : kLt x y = true ↔ x.1 < y.1 ∨ (x.1 = y.1 ∧ tl x.2 < tl y.2) := by
  unfold kLt
  rw [Bool.or_eq_true, Bool.and_eq_true, decide_eq_true_eq, decide_eq_true_eq, decide_eq_true_eq]
theorem kLt_irrefl {x : Int × Str} : kLt x x = false := by
  cases h : kLt x x with
  | false => rfl
  | true =>
    rcases kLt_iff.mp h with h | ⟨_, h⟩
    · omega
    · exact absurd h (List.lt_irrefl _)
theorem kLt_trans {x y z : Int × Str} (h1 : kLt x y = true) (h2 : kLt y z = true) : kLt x z = true := by
  rw [kLt_iff] at *
  rcases h1 with h1 | ⟨h1, h1'⟩ <;> rcases h2 with h2 | ⟨h2, h2'⟩
  · exact .inl (by omega)
  · exact .inl (by omega)
  · exact .inl (by omega)
  · exact .inr ⟨by omega, List.lt_trans h1' h2'⟩
theorem kLt_tri (x y : Int × Str) : kLt x y = true ∨ x = y ∨ kLt y x = true := by
  rw [kLt_iff, kLt_iff]
  rcases Int.lt_trichotomy x.1 y.1 with h | h | h
  · exact .inl (.inl h)
  · rcases lt_tri' (tl x.2) (tl y.2) with g | g | g
    · exact .inl (.inr ⟨h, g⟩)
    · exact .inr (.inl (Prod.ext h (ext_tl g)))
    · exact .inr (.inr (.inr ⟨h.symm, g⟩))
  · exact .inr (.inr (.inl h))
theorem kdP_lt (x y : Int × Str) : PySem.W.dataLt (kdP x) (kdP y) = kLt x y := by
  obtain ⟨a, u⟩ := x
  obtain ⟨b, v⟩ := y
  have tk : ∀ (i : Int) (z : Str), PySem.W.keyToks (kdP (i, z)) = [.inl 1, .inl i, .inl 1, .inr (tl z), .inl 0] := fun i z => by
    simp [kdP, PySem.W.keyToks, PySem.W.keyToksAll, tl]
  unfold PySem.W.dataLt
  rw [tk, tk]
  unfold kLt
  dsimp only
  generalize tl u = u
  generalize tl v = v
  have str_blt : ∀ u v : List Nat, PyProof.Rows.itemLt (.inr u) (.inr v) = decide (u < v) := fun u v => rfl
  have int_blt : ∀ u v : Int, PyProof.Rows.itemLt (.inl u) (.inl v) = decide (u < v) := fun u v => rfl
  simp only [PyProof.Rows.lexLt, str_blt, int_blt]
  rcases Int.lt_trichotomy a b with h | h | h
  · simp [h]
  · subst h
    rcases lt_tri' u v with g | g | g
    · simp [g]
    · subst g
      simp
    · have := List.lt_asymm g
      simp [g, this]
  · have : ¬ a < b := by omega
    have h2 : ¬ a = b := by omega
    simp [h, this, h2]
/-- the first least one -/
theorem argBest_le (bt : Nat → Nat → Bool) : ∀ m, argBest bt m ≤ m
  | 0 => Nat.le_refl _
  | m + 1 => by
    unfold argBest
    split
    · exact Nat.le_refl _
    · exact Nat.le_succ_of_le (argBest_le bt m)
theorem argBest_least (kd : Nat → Int × Str) : ∀ m i, i ≤ m → kLt (kd i) (kd (argBest (fun i j => kLt (kd i) (kd j)) m)) = false
  | 0, i, h => by
    cases Nat.le_zero.mp h
    exact kLt_irrefl
  | m + 1, i, h => by
    unfold argBest
    have key := fun i (hi : i ≤ m) => argBest_least kd m i hi
    by_cases hb : kLt (kd (m + 1)) (kd (argBest (fun i j => kLt (kd i) (kd j)) m)) = true
    · rw [if_pos hb]
      rcases Nat.lt_or_eq_of_le h with g | g
      · cases q : kLt (kd i) (kd (m + 1)) with
        | false => rfl
        | true =>
          have := kLt_trans q hb
          rw [key i (by omega)] at this
          cases this
      · rw [g]
        exact kLt_irrefl
    · rw [if_neg hb]
      rcases Nat.lt_or_eq_of_le h with g | g
      · exact key i (by omega)
      · rw [g]
        exact Bool.eq_false_iff.mpr hb
section
variable [Tabl] {K : PySem.W.Frag} {Z : XZ} {δ : List Slot} {n : Sto} {Φ : D → Sto → Prop} {te tb : TE}
/-- min(e, key=lambda p: body, default=d) of a list or a tuple; the key by a function of the data -/
theorem gk_minK {j : Nat} {q d : Str} {kf : D → Int × Str} (ho : ∀ x, δ[j]? ≠ some (.ow x)) (h : GK K Z te δ n fun x n1 => ∃ ds, (x = .lst ds ∨ x = .tup ds) ∧ (∀ y ∈ ds, GKt K tb (δ.set j (.d y)) n1 fun a z => (a, z) = kf y) ∧
      (ds = [] → Φ (.str d) n1) ∧ ∀ y ∈ ds, (∀ y' ∈ ds, kLt (kf y') (kf y) = false) → Φ y n1) : GK K Z (tMinK Tabl.T K q te tb j d) δ n Φ := fun B M G0 H0 xw G H σ E Q qq =>
  h B M G0 H0 xw G H σ E _ fun v x G1 H1 n1 f1 E1 s1 a1 => by
    obtain ⟨ds, hx, hk, h0, hm⟩ := f1
    -- the row of values, as it stands in G1
    have key : ∃ (p : Addr) (vs : List V) (isL : Bool), v = .ref p ∧ IsAll K G1 vs ds ∧ ∀ G' H', Sub G1 G' → Sub G' H' → SqB K isL H' p vs := by
      rcases hx with rfl | rfl
      · cases a1 with
        | @lst p vs _ h1 a1 => exact ⟨p, vs, true, rfl, a1, fun G' H' u1 u2 => SqL.of (u2 _ _ (u1 _ _ h1))⟩
      · cases a1 with
        | @tup p vs _ h1 a1 => exact ⟨p, vs, false, rfl, a1, fun G' H' u1 u2 => u2.seq (u1.seq h1)⟩
    obtain ⟨p, vs, isL, rfl, ia, sq⟩ := key
    refine ⟨p, vs, isL, rfl, E1.tabs, fun c' H2 eN T2 hc => ?_⟩
    have ncb : B ≠ some c' := fun z => by
      have b := bag_kept (E1.bagged c' z).1 fun xs e => eN _ _ e fun _ z => nomatch z
      obtain ⟨_, _, _, e, _⟩ := b
      rw [hc] at e
      unfold CodeO at e
      cases e
    have E2 : En K B M n1 G0 H0 G1 H2 σ δ := E1.grow (Sub.refl G1) (fun b o e => eN b o (E1.sub b o e) fun ps z => E1.gnt b ps (by rw [e, z])) (fun b o e _ nt => eN b o e nt) (fun b _ _ g => g) (fun r hr => bag_kept (E1.bagged r hr).1 fun xs e => eN _ _ e fun _ z => nomatch z) T2 E1.gnt
    have ownc : ∀ {G' H' : Hp}, En K B M n1 G0 H0 G' H' σ δ → H' c' = some (CodeO c' q) → ∀ (i : Nat) (x : MO), δ[i]? = some (.ow x) → σ[i]? ≠ some (some (.ref c')) := fun {G' H'} e hc i xs hi z => by
      obtain ⟨r, e1, e2, _⟩ := e.owo hi
      rw [z] at e1
      cases e1
      obtain ⟨u, hu, pu⟩ := e2.get
      rw [hc] at hu
      cases hu
      exact pu.nocode _ _ rfl
    refine ⟨fun H' => ∃ G', En K B M n1 G0 H0 G' H' σ δ ∧ Sub G1 G' ∧ H' c' = some (CodeO c' q), fun i => kf ((ds[i]?).getD .non), ⟨G1, E2, Sub.refl G1, hc⟩, fun H' ⟨G', e, s, hc'⟩ => ⟨hc', sq G' H' s e.sub⟩, ?_, ?_, ?_⟩
    · rintro i x H' hxi ⟨G', E', s', hc'⟩
      obtain ⟨dx, hdx, idx⟩ := ia.get hxi
      have nmc : n1.μ c' = none := by
        cases q : n1.μ c' with
        | none => rfl
        | some o =>
          obtain ⟨u, hu, pu⟩ := (E'.mob c' o q).1.get
          rw [hc'] at hu
          cases hu
          exact absurd rfl (pu.nocode _ _)
      have Eb := (E'.rebase (c := c') ncb nmc (ownc E' hc') ⟨_, hc', fun _ z => by unfold CodeO at z; cases z⟩).set (i := j) (s := .d dx) (o := some x) ⟨x, rfl, idx.mono s'⟩ fun _ z => nomatch z
      refine hk dx (List.mem_of_getElem? hdx) B _ G' H' G' H' _ Eb _ fun p3 a3 z3 G3 H3 f3 E3 s3 hp3 => ?_
      have ncm : ¬ (M c' ∧ c' ≠ c') := fun z => z.2 rfl
      refine ⟨⟨G3, E'.home (vs := [j]) E3 (SameOff.set (List.mem_singleton.mpr rfl)) (fun i hi => List.getElem?_set_ne (fun z => hi (by rw [z]; exact List.mem_singleton.mpr rfl))) (fun i hi xs => by cases List.mem_singleton.mp hi; exact ho xs), s'.trans s3, E3.same c' _ hc' ncm⟩, p3, rfl, ?_⟩
      have f3 : (a3, z3) = kf dx := f3
      dsimp only
      rw [hdx, Option.getD_some, ← f3]
      exact hp3
    · rintro hv H' ⟨G', E', s', hc'⟩
      have : ds = [] := List.length_eq_zero_iff.mp (by rw [← ia.len, hv]; rfl)
      exact qq _ _ G' H' n1 (h0 this) E' (s1.trans s') (.str d)
    · rintro x hx H' ⟨G', E', s', hc'⟩
      have eb : (fun (i j : Nat) => PySem.W.dataLt (kdP (kf ((ds[i]?).getD .non))) (kdP (kf ((ds[j]?).getD .non)))) = fun (i j : Nat) => kLt (kf ((ds[i]?).getD .non)) (kf ((ds[j]?).getD .non)) := by
        funext i j
        exact kdP_lt _ _
      rw [eb] at hx
      obtain ⟨dx, hdx, idx⟩ := ia.get hx
      refine qq _ _ G' H' n1 (hm dx (List.mem_of_getElem? hdx) fun y' hy' => ?_) E' (s1.trans s') (idx.mono s')
      obtain ⟨i, hi, e⟩ := List.getElem_of_mem hy'
      have le := argBest_least (fun (i : Nat) => kf ((ds[i]?).getD .non)) (vs.length - 1) i (by rw [ia.len]; omega)
      try dsimp only at le
      rw [List.getElem?_eq_getElem hi, hdx, Option.getD_some, Option.getD_some, e] at le
      exact le
end
end Tl

namespace Tl
open PySem PySem.Spec L2 TL LamX
/-! ### truth -/
def truD : D → Option Bool
  | .non => some false | .bl b => some b | .int i => some (i != 0) | .str x => if x.length ≤ 100000 then some ((x.length : Int) != 0) else none | .lst xs => some (!xs.isEmpty) | .tup xs => some (!xs.isEmpty) | _ => none
/-! ### promises of a new thing -/
/-- the result is a new thing that may be changed by who gets it -/
def spR [Tabl] (K : PySem.W.Frag) (Pc : List D → (MO → Prop) → Prop) : Sp := fun vs H Q _ => ∃ (G : Hp) (ds : List D) (Φ : MO → Prop), Tabs Tabl.T H ∧ (∀ b ps, G b ≠ some (.tbl ps)) ∧ Sub G H ∧ IsAll K G vs ds ∧ Pc ds Φ ∧
  ∀ (p : Addr) (o : MO) (G' H' : Hp) (n' : Sto), Φ o → n'.μ p = some o → Eo K none m00 n' G H G' H' → Q (.ref p) H'
def dR (Φ : MO → Prop) : D → Sto → Prop := fun d n => ∃ p o, d = .ptr p ∧ n.μ p = some o ∧ Φ o
section
variable [Tabl] {K : PySem.W.Frag} {Z : XZ} {B : Option Addr} {δ : List Slot} {n : Sto} {Φ : D → Sto → Prop} {te ta tb : TE} {aa : TA} {N Bk Ct : List Slot → Sto → Prop} {R : D → Sto → Prop} {ts : TS}
theorem gt_tru {Φ : Bool → Sto → Prop} (h : GK K Z ta δ n fun d n1 => ∃ b, truD d = some b ∧ Φ b n1) : GT K Z (fun σ H Q => ta σ H fun x H' => ∃ k, TruV K x H' k ∧ Q k H') δ n Φ := fun B M G0 H0 xw G H σ E Q q =>
  h B M G0 H0 xw G H σ E _ fun v d G1 H1 n1 f1 E1 s1 a1 => by
    obtain ⟨b, hb, f1⟩ := f1
    refine ⟨b, ?_, q b G1 H1 n1 f1 E1 s1⟩
    cases a1 with
    | non => cases hb; rfl
    | bl b => cases hb; rfl
    | int i => cases hb; rfl
    | str x =>
      change (if x.length ≤ 100000 then some ((x.length : Int) != 0) else none) = some b at hb
      by_cases hx : x.length ≤ 100000
      · rw [if_pos hx] at hb
        cases hb
        exact ⟨sz_ hx, rfl⟩
      · rw [if_neg hx] at hb
        cases hb
    | @lst p vs ds h1 a1 =>
      cases hb
      refine .inl ⟨vs, SqL.of (E1.sub _ _ h1), ?_⟩
      have := a1.len
      cases vs <;> cases ds <;> first | rfl | simp at this
    | @tup p vs ds h1 a1 =>
      cases hb
      refine .inr (.inl ⟨vs, E1.sub.seq h1, ?_⟩)
      have := a1.len
      cases vs <;> cases ds <;> first | rfl | simp at this
    | dic _ _ => cases hb
    | ptr _ => cases hb
    | dct _ _ => cases hb
/-- while x: an owned list -/
theorem gt_truOwn {Φ : Bool → Sto → Prop} {i : Nat} {xs : List D} (hi : δ[i]? = some (.own xs)) (k : Φ (!xs.isEmpty) n) : GT K Z (fun σ H Q => tVar i σ H fun x H' => ∃ k, TruV K x H' k ∧ Q k H') δ n Φ := fun B M G0 H0 xw G H σ E Q q => by
  obtain ⟨p, vs, e1, e2, a, _⟩ := E.ownd hi
  refine ⟨_, e1, _, .inl ⟨vs, SqL.of e2, rfl⟩, ?_⟩
  have e : (!vs.isEmpty) = !xs.isEmpty := by
    have := a.len
    cases vs <;> cases xs <;> first | rfl | simp at this
  rw [e]
  exact q _ G H n k E (Sub.refl G)
/-- behind a call that gives a new thing -/
theorem En.afterR {M : Addr → Prop} {G0 H0 G H G' H' : Hp} {σ : L2.St} {n' : Sto} {p : Addr} {o : MO} (E : En K B M n G0 H0 G H σ δ) (eo : Eo K none m00 n' G H G' H') (hp : n'.μ p = some o) : n.μ p = none ∧ En K B M (n.put p o) G0 H0 G' H' σ δ := by
  obtain ⟨mo, gp, _, hn⟩ := eo.mob p o hp
  have fresh : ∀ u, H p = some u → (∀ ps, u ≠ .tbl ps) → False := fun u hu nt => by
    rcases hn with z | z | ⟨ps, z⟩
    · rw [hu] at z; cases z
    · exact z rfl
    · rw [hu] at z
      exact nt ps (Option.some.inj z)
  have np : n.μ p = none := by
    cases e : n.μ p with
    | none => rfl
    | some o' =>
      obtain ⟨u, hu, pu⟩ := (E.mob p o' e).1.get
      exact (fresh u hu pu.notab).elim
  refine ⟨np, E.growM eo.sub0 eo.sub (fun b o e _ _ nt => eo.same b o e (fun z => nomatch z) rfl nt) (fun b hb nt _ gb => eo.fresh b hb (fun z => nomatch z) rfl nt gb)
    (fun r hr => bag_kept (E.bagged r hr).1 fun xs e => eo.same r _ e (fun z => nomatch z) rfl (fun _ z => nomatch z)) eo.tabs eo.gnt fun a u h => ?_⟩
  by_cases e : a = p
  · subst e
    rw [Sto.put_same] at h
    cases h
    refine ⟨mo, gp, fun z => ?_, ?_⟩
    · obtain ⟨x, y, z, e, _⟩ := (E.bagged a z).1
      exact fresh _ e fun _ z => nomatch z
    · rcases hn with z | z | z
      · exact .inl z
      · exact absurd rfl z
      · exact .inr (.inr z)
  · rw [Sto.put_ne e] at h
    obtain ⟨h1, h2, h3, h4⟩ := E.mob a u h
    obtain ⟨w, hw, pw⟩ := h1.get
    exact ⟨h1.mono eo.sub0 ((eo.same a w hw (fun z => nomatch z) rfl pw.notab).trans hw.symm), eo.fresh a h1.some (fun z => nomatch z) rfl h1.notab h2, h4, .inr (.inl (not_none h))⟩
theorem put_off {p : Addr} {o : MO} (h : n.μ p = none) : (n.put p o).off p = n := by
  obtain ⟨m, μ⟩ := n
  show Sto.mk m _ = _
  congr 1
  funext b
  show (if b = p then none else if b = p then some o else μ b) = μ b
  by_cases e : b = p
  · rw [if_pos e, e]
    exact h.symm
  · rw [if_neg e, if_neg e]
/-- the new thing comes into the store -/
theorem sc_R {Pc : List D → (MO → Prop) → Prop} {xs : List D} (k : Pc xs fun o => ∀ p, n.μ p = none → Φ (.ptr p) (n.put p o)) : SC K Z (spR K Pc) xs δ n Φ := fun B M G0 H0 xw G H σ E vs h Q X q =>
  ⟨G, xs, _, E.tabs, E.gnt, E.sub, h, k, fun p o G' H' n' ho hp eo => by
    obtain ⟨np, E2⟩ := E.afterR eo hp
    exact q _ _ G' H' _ (ho p np) E2 eo.sub0 (.ptr p)⟩
/-- the new thing is never changed -/
theorem sc_Rf {Pc : List D → (MO → Prop) → Prop} {xs : List D} (k : Pc xs fun o => ∃ d, o.frz = some d ∧ Φ d n) : SC K Z (spR K Pc) xs δ n Φ := fun B M G0 H0 xw G H σ E vs h Q X q =>
  ⟨G, xs, _, E.tabs, E.gnt, E.sub, h, k, fun p o G' H' n' ho hp eo => by
    obtain ⟨d, hd, hΦ⟩ := ho
    obtain ⟨np, E2⟩ := E.afterR eo hp
    obtain ⟨G2, s2, E3, is⟩ := E2.mfrz Sto.put_same hd
    rw [put_off np] at E3
    exact q _ d G2 H' n hΦ E3 (eo.sub0.trans s2) is⟩
/-- an owned thing's place -/
theorem En.setO {M : Addr → Prop} {G0 H0 G H : Hp} {σ : L2.St} {p : Addr} {o : MO} {i : Nat} (E : En K B M (n.put p o) G0 H0 G H σ δ) (np : n.μ p = none) : En K B M n G0 H0 G H (σ.set i (some (.ref p))) (δ.set i (.ow o)) := by
  obtain ⟨mo, gp, mp, nb⟩ := E.mob p o Sto.put_same
  have own_ne : ∀ (j : Nat) (x : MO) (b : Addr), δ[j]? = some (.ow x) → σ[j]? = some (some (.ref b)) → b ≠ p := fun j x b hj sj z => by
    have := E.mow j x b hj sj
    rw [z, Sto.put_same] at this
    cases this
  have at_ : ∀ (j : Nat) (z : MO) (q : Addr), i = j → (δ.set i (.ow o))[j]? = some (.ow z) → (σ.set i (some (.ref p)))[j]? = some (some (.ref q)) → p = q := fun j z q hj hm sm => by
    subst hj
    have hi : i < δ.length := by
      have := (List.getElem?_eq_some_iff.mp hm).1
      rw [List.length_set] at this
      exact this
    rw [List.getElem?_set_self (by rw [E.len]; exact hi)] at sm
    injection (Option.some.inj (Option.some.inj sm))
  refine ⟨E.sub0, E.sub, E.same, E.free, E.fresh, E.bagged, E.tabs, E.tin, E.gnt, by rw [List.length_set, List.length_set, E.len], fun j t ht => ?_, fun j k q x y hj hk sj sk => ?_, fun a u h => ?_, fun j x b hj sj => ?_⟩
  · by_cases hj : i = j
    · subst hj
      have hi : i < δ.length := by
        have := (List.getElem?_eq_some_iff.mp ht).1
        rw [List.length_set] at this
        exact this
      rw [List.getElem?_set_self hi] at ht
      rw [List.getElem?_set_self (by rw [E.len]; exact hi)]
      cases ht
      exact ⟨p, rfl, mo, gp, mp, nb⟩
    · rw [List.getElem?_set_ne hj] at ht
      rw [List.getElem?_set_ne hj]
      exact E.slot j t ht
  · by_cases e1 : i = j
    · by_cases e2 : i = k
      · rw [← e1, ← e2]
      · have sj := at_ j x q e1 hj sj
        rw [List.getElem?_set_ne e2] at hk sk
        exact absurd sj.symm (own_ne k y q hk sk)
    · by_cases e2 : i = k
      · have sk := at_ k y q e2 hk sk
        rw [List.getElem?_set_ne e1] at hj sj
        exact absurd sk.symm (own_ne j x q hj sj)
      · rw [List.getElem?_set_ne e1] at hj sj
        rw [List.getElem?_set_ne e2] at hk sk
        exact E.dis j k q x y hj hk sj sk
  · have e : a ≠ p := fun z => by
      rw [z, np] at h
      cases h
    exact E.mob a u (by rw [Sto.put_ne e]; exact h)
  · by_cases e1 : i = j
    · rw [← at_ j x b e1 hj sj]
      exact np
    · rw [List.getElem?_set_ne e1] at hj sj
      have h := E.mow j x b hj sj
      rw [Sto.put_ne (own_ne j x b hj sj)] at h
      exact h
/-- x = f(..), a new thing: x owns it -/
theorem gs_asgR {i : Nat} (h : GK K Z te δ n fun d n1 => ∃ p o n0, d = .ptr p ∧ n1 = Sto.put n0 p o ∧ n0.μ p = none ∧ N (δ.set i (.ow o)) n0) : GS K Z B (tAsg te (gName i)) δ n N R Bk Ct := fun m0 G0 H0 xw G H σ E e hn hr hb hc =>
  h B (MOf B m0 H0) G0 H0 xw G H σ e _ fun v d G1 H1 n1 f1 E1 s1 a1 => by
    obtain ⟨p, o, n0, rfl, rfl, np, f1⟩ := f1
    cases a1
    exact hn _ _ G1 H1 n0 f1 (E1.setO np) s1
/-- return x, x owned -/
theorem gs_retOwn {i : Nat} {o : MO} (hi : δ[i]? = some (.ow o)) (k : ∀ p, n.μ p = none → R (.ptr p) (n.put p o)) : GS K Z B (tRet (tVar i)) δ n N R Bk Ct := fun m0 G0 H0 xw G H σ E e hn hr hb hc => by
  obtain ⟨p, e1, mo, gp, mp, nb, np⟩ := e.owo hi
  refine ⟨_, e1, hr _ _ G H _ (k p np) ?_ (.ptr p)⟩
  have eo := e.out
  refine ⟨eo.sub0, eo.sub, eo.same, eo.fresh, eo.bagged, eo.tabs, eo.gnt, fun a u h => ?_⟩
  by_cases z : a = p
  · subst z
    rw [Sto.put_same] at h
    cases h
    refine ⟨mo, gp, nb, ?_⟩
    rcases mp with y | y | y | y
    · exact .inl y
    · exact absurd y nb
    · exact .inr (.inr y)
    · exact .inr (.inl y)
  · rw [Sto.put_ne z] at h
    exact eo.mob a u h
/-- == of an owned list and something -/
theorem gk_neOwn {i j k : Nat} {xs : List D} (hi : δ[i]? = some (.own xs)) (hx : Shp j (.lst xs)) (hj : j ≤ 64) (hk : k ≤ 64) (h : GK K Z tb δ n fun y n1 => Shp k y ∧ Φ (.bl (!eqD (.lst xs) y)) n1) : GK K Z (tOp (rNeD K) (tVar i) tb) δ n Φ := fun B M G0 H0 xw G H σ E Q q => by
  obtain ⟨p, vs, e1, e2, a, _⟩ := E.ownd hi
  refine ⟨_, e1, ?_⟩
  refine h B M G0 H0 xw G H σ E _ fun w y G2 H2 n2 f2 E2 s2 a2 => ?_
  obtain ⟨r, ws, g1, g2, b, _⟩ := E2.ownd hi
  rw [e1] at g1
  have g1 : p = r := by injection (Option.some.inj (Option.some.inj g1))
  subst g1
  have dp : Dp K H2 (.ref p) (toP (.lst xs)) := by
    unfold toP
    cases hx with
    | lst hx => exact .lst (SqL.of g2) (b.dp E2.sub hx)
  exact ⟨_, _, dp, a2.dp E2.sub f2.1, hx.shaped hj, f2.1.shaped hk, q _ _ G2 H2 n2 f2.2 E2 s2 (.bl _)⟩
end
section
variable [Tabl] {P : Program} {w : World} {K : PySem.W.Frag} {mg : Str → Option Value} {base : Heap}
theorem fn_R {x qual : Str} {st : Stmt} {f : Addr} {fd : FuncData} {N ps : List Str} {k : Nat} {Pc : List D → (MO → Prop) → Prop} (F : Fun K x qual st f fd) (S : FnScope N ps (defScope st)) (hl : ∀ ds Φ, Pc ds Φ → ds.length = ps.length)
    (hb : ∀ (cdv : Value) (A : Around) (outer : List Env) (s : Shared) (H : Hp) (E : XK), Room k (A.deeper (PyProof.Rows.envOfC qual (defScope st) s.heap.objs.size f cdv)) →
      ∃ t, PSs (cxOf CX0 P w K mg base N qual (defScope st) f cdv A outer s H E).nox (defBody st) t ∧ ∀ ds Φ, Pc ds Φ → GS K .calm none t (startD N ds) ⟨0, m00⟩ (fun _ _ => False) (dR Φ) (fun _ _ => False) (fun _ _ => False)) :
    FnOk P w K mg base CX0 (k + 1) f fd ps (spR K Pc) := by
  refine F.ok S (fun vs H Q E h => ?_) (fun cdv A outer s H vs Q E hr h => ?_)
  · obtain ⟨G, ds, Φ, _, _, _, hv, hp, _⟩ := h
    rw [hv.len, hl ds Φ hp]
  · obtain ⟨G, ds, Φ, tb, gn, hs, hv, hp, q⟩ := h
    obtain ⟨t, h1, h2⟩ := hb cdv A outer s H E hr
    refine ⟨t, h1, h2 ds Φ hp m00 G H .calm G H _ _ (En.start m00_ok tb gn hs hv) (fun _ _ _ _ _ z => z.elim) (fun v d G' H' n' hd eo hv => ?_) (fun _ _ _ _ _ z => z.elim) (fun _ _ _ _ _ z => z.elim)⟩
    obtain ⟨p, o, rfl, ho, hΦ⟩ := hd
    cases hv
    exact q p o G' H' n' hΦ ho eo
end
end Tl

namespace Tl
open PySem PySem.Spec PyProof.Rows L2 TL LamX
/-! ### xs += ys, lists -/
theorem fillsI_list : fillsInplaceSlot (.type "list") "add" true = pure false := by
  show (typeLookup (.type "list") (dunderI "add") >>= fun fi => pure (fi.isSome && !isSeqSlot fi)) = pure false
  rw [show typeLookup (.type "list") (dunderI "add") = pure (some (.builtin "list.__iadd__")) from F.slot_list_iadd.lookup]
  have e : isSeqSlot (some (.builtin "list.__iadd__")) = true := by decide +kernel
  rw [pure_bind, e]
  rfl
theorem seqI_list : seqSlot? (.type "list") (dunderI "add") = pure (some (.builtin "list.__iadd__")) := PySem.seqSlot_of F.slot_list_iadd.lookup (by decide +kernel)
theorem iadd_lists {M : Model} {A : Around} {E : Value → Shared → Prop} {s : Shared} {a b : Value} {Q : Value → Shared → Prop} (ha : s.TypeIs a "list") (hb : s.TypeIs b "list") (hc : wpAny M A (call (.builtin "list.__iadd__") [a, b]) Q E s) : wpAny M A (inplaceOp .Add a b) Q E s := by
  unfold inplaceOp
  apply wpAny_holding
  apply wpAny_bind
  refine wpAny_typeOf ha (wpAny_bind (wpAny_of_eq fillsI_list ?_))
  show wpAny M A (if false = true then _ else _) Q E s
  rw [if_neg (by decide)]
  apply wpAny_bind
  refine wpAny_binaryOp1_none (T := "list") ha hb noFill_list_add ?_
  exact wpAny_bind (wpAny_of_eq seqI_list (wpAny_bind (wpAny_rule hc)))
def ipL : TIp := fun x y H Q => ∃ l b xs zs, x = .ref l ∧ y = .ref b ∧ H l = some (.lst xs) ∧ H b = some (.lst zs) ∧ xs.length + zs.length ≤ sizeLine ∧ Q (.ref l) (upd H l (.lst (xs ++ zs)))
theorem ip_list {X : Cx} : PIp X .Add ipL := by
  intro pins s σ H x y v u Q I rx ry h
  obtain ⟨l, b, xs, zs, rfl, rfl, hH, hB, hz, q⟩ := h
  cases rx
  cases ry
  obtain ⟨z1, is1, n1, r1, len1, e1⟩ := I.lstM hH
  obtain ⟨z2, is2, n2, r2, len2, e2⟩ := I.lstM hB
  have room : is1.toArray.size + is2.toArray.size ≤ sizeLine := by
    rw [List.size_toArray, List.size_toArray]
    omega
  have short : ¬ (!is1.toArray.isEmpty && Builtin.List.listTooLong (is1.toArray.size + is2.toArray.size)) = true := by
    rw [notLongL room, Bool.and_false]
    decide
  refine iadd_lists ⟨_, e1, rfl⟩ ⟨_, e2, rfl⟩ (call_meets F.slot_list_iadd ⟨_, e1, rfl⟩ F.entry_list_iadd (F.args_list_iadd_2 _ _) (AutoSeq1.list___iadd___list_list_0 l is1.toArray n1 b is2.toArray n2 short (by rw [List.size_toArray]; omega) (by omega)) ⟨e1, e2, ?_⟩)
  exact ⟨.ref l, _, I.lset (its' := is1 ++ is2) hH e1 (by simp) (r1.append r2) (by rw [List.length_append]; omega), rfl, q⟩
section
variable [Tabl] {K : PySem.W.Frag} {Z : XZ} {B : Option Addr} {δ : List Slot} {n : Sto} {Φ : D → Sto → Prop} {te ta tb : TE} {aa : TA} {N Bk Ct : List Slot → Sto → Prop} {R : D → Sto → Prop} {ts : TS}
/-- x += e, x an owned list -/
theorem gs_augL {i : Nat} {xs : List D} (hi : δ[i]? = some (.own xs)) (h : GK K Z te δ n fun d n1 => ∃ ys, d = .lst ys ∧ xs.length + ys.length ≤ 100000 ∧ N (δ.set i (.own (xs ++ ys))) n1) : GS K Z B (tAug i te ipL) δ n N R Bk Ct := fun m0 G0 H0 xw G H σ E e hn hr hb hc => by
  obtain ⟨p, vs, e1, e2, a, gp, h0⟩ := e.ownd hi
  refine ⟨_, e1, ?_⟩
  refine h B (MOf B m0 H0) G0 H0 xw G H σ e _ fun v d G1 H1 n1 f1 E1 s1 a1 => ?_
  obtain ⟨ys, rfl, hl, f1⟩ := f1
  obtain ⟨q, ws, g1, g2, b, _⟩ := E1.ownd hi
  rw [e1] at g1
  have g1 : p = q := by injection (Option.some.inj (Option.some.inj g1))
  subst g1
  cases a1 with
  | @lst b' zs _ h1 a1 =>
    refine ⟨p, b', ws, zs, rfl, rfl, g2, E1.sub _ _ h1, by rw [b.len, a1.len]; exact sz_ hl, ?_⟩
    have E2 := E1.chg hi e1 g2 (b.app a1)
    have hil : i < σ.length := by
      rw [E1.len]
      exact (List.getElem?_eq_some_iff.mp hi).1
    have es : σ.set i (some (.ref p)) = σ := by
      apply List.ext_getElem?
      intro k
      by_cases hk : i = k
      · rw [← hk, List.getElem?_set_self hil, e1]
      · rw [List.getElem?_set_ne hk]
    show E.nx (σ.set i (some (.ref p))) _
    rw [es]
    exact hn σ _ G1 _ n1 f1 E2 s1
/-- y = x.pop(), x an owned list -/
theorem gs_popTo {i j : Nat} {xs : List D} {d : D} (hi : δ[i]? = some (.own (xs ++ [d]))) (hij : i ≠ j) (hj : ∀ x, δ[j]? ≠ some (.ow x)) (k : N ((δ.set i (.own xs)).set j (.d d)) n) : GS K Z B (tAsg (tBM0 K "list" rPop (tVar i)) (gName j)) δ n N R Bk Ct := fun m0 G0 H0 xw G H σ E e hn hr hb hc => by
  obtain ⟨p, vs, e1, e2, a, gp, h0⟩ := e.ownd hi
  have hl : vs.length = xs.length + 1 := by rw [a.len, List.length_append]; rfl
  obtain ⟨v, hv, iv⟩ := a.at (i := xs.length) (d := d) (by simp)
  refine ⟨_, e1, .inl ⟨rfl, _, SqL.of e2⟩, p, vs, v, rfl, rfl, e2, by rw [hl]; exact hv, ?_⟩
  have a' : IsAll K G vs.dropLast xs := by
    rw [List.dropLast_eq_take, hl]
    have := a.take xs.length
    rw [List.take_left' rfl] at this
    exact this
  exact hn _ _ G _ n k ((e.chg hi e1 e2 a').set (s := .d d) ⟨v, rfl, iv⟩ fun _ z => nomatch z) (Sub.refl G)
/-! ### dicts -/
def putD (es : List (Key × D)) (k : Key) (d : D) : List (Key × D) :=
  if (es.any fun kv => decide (kv.1 = k)) = true then es.map (fun kv => if kv.1 = k then (kv.1, d) else kv) else es ++ [(k, d)]
def getD' (es : List (Key × D)) (k : Key) : Option D := (es.find? fun kv => decide (kv.1 = k)).map (·.2)
omit [Tabl] in
theorem IsKv.len {G : Hp} : ∀ {kvs : List (Key × V)} {es : List (Key × D)}, IsKv K G kvs es → kvs.length = es.length
  | _, _, .nil => rfl
  | _, _, .cons _ r => by rw [List.length_cons, List.length_cons, IsKv.len r]
omit [Tabl] in
theorem IsKv.any {G : Hp} {k : Key} : ∀ {kvs : List (Key × V)} {es : List (Key × D)}, IsKv K G kvs es → (kvs.any fun kv => decide (kv.1 = k)) = es.any fun kv => decide (kv.1 = k)
  | _, _, .nil => rfl
  | _, _, .cons _ r => by rw [List.any_cons, List.any_cons, IsKv.any r]
omit [Tabl] in
theorem IsKv.app {G : Hp} : ∀ {kvs ls : List (Key × V)} {es fs : List (Key × D)}, IsKv K G kvs es → IsKv K G ls fs → IsKv K G (kvs ++ ls) (es ++ fs)
  | _, _, _, _, .nil, b => b
  | _, _, _, _, .cons h r, b => .cons h (IsKv.app r b)
omit [Tabl] in
theorem IsKv.upd {G : Hp} {k : Key} {v : V} {d : D} (hv : Is K G v d) : ∀ {kvs : List (Key × V)} {es : List (Key × D)}, IsKv K G kvs es → IsKv K G (kvs.map fun kv => if kv.1 = k then (kv.1, v) else kv) (es.map fun kv => if kv.1 = k then (kv.1, d) else kv)
  | _, _, .nil => .nil
  | _, _, @IsKv.cons _ _ k' x xs d' ds h r => by
    rw [List.map_cons, List.map_cons]
    by_cases e : k' = k
    · rw [if_pos e, if_pos e]
      exact .cons hv (IsKv.upd hv r)
    · rw [if_neg e, if_neg e]
      exact .cons h (IsKv.upd hv r)
omit [Tabl] in
theorem IsKv.put {G : Hp} {k : Key} {v : V} {d : D} {kvs : List (Key × V)} {es : List (Key × D)} (h : IsKv K G kvs es) (hv : Is K G v d) : IsKv K G (putK kvs k v) (putD es k d) := by
  unfold putK putD
  rw [h.any]
  split
  · exact h.upd hv
  · exact h.app (.cons hv .nil)
omit [Tabl] in
theorem IsKv.get {G : Hp} {k : Key} {d : D} : ∀ {kvs : List (Key × V)} {es : List (Key × D)}, IsKv K G kvs es → getD' es k = some d → ∃ v, valV kvs k = some v ∧ Is K G v d
  | _, _, .nil, h => by cases h
  | _, _, @IsKv.cons _ _ k' x xs d' ds h r, e => by
    unfold getD' at e
    rw [List.find?_cons] at e
    by_cases z : k' = k
    · rw [decide_eq_true z] at e
      cases e
      exact ⟨x, valV_pos z, h⟩
    · rw [decide_eq_false z] at e
      obtain ⟨v, h1, h2⟩ := IsKv.get r (show getD' ds k = some d from e)
      exact ⟨v, (valV_neg z).trans h1, h2⟩
/-- x = {} -/
theorem gs_ownD {i : Nat} (k : N (δ.set i (.ownD [])) n) : GS K Z B (tAsg tDNewK (gName i)) δ n N R Bk Ct := fun m0 G0 H0 xw G H σ E e hn hr hb hc => fun p hp => hn _ _ G _ n k (e.ownO (o := .dic []) hp ⟨[], upd_same, .nil⟩) (Sub.refl G)
/-- a key's data -/
def keyD : Key → D
  | .inl i => .int i
  | .inr x => .str x
omit [Tabl] in
theorem Is.key {G : Hp} {v : V} {k : Key} (a : Is K G v (keyD k)) : v = kV k := by
  cases k with
  | inl i => cases a; rfl
  | inr x => cases a; rfl
/-- x[k] = e, x an owned dict -/
theorem gs_putD {i : Nat} {es : List (Key × D)} (hi : δ[i]? = some (.ownD es)) (hl : es.length < 100000) (h : GK K Z te δ n fun d n1 => GK K Z ta δ n1 fun y n2 => ∃ k, y = keyD k ∧ N (δ.set i (.ownD (putD es k d))) n2) : GS K Z B (sDPut (tVar i) ta te) δ n N R Bk Ct := fun m0 G0 H0 xw G H σ E e hn hr hb hc => by
  refine h B (MOf B m0 H0) G0 H0 xw G H σ e _ fun v d G1 H1 n1 f1 E1 s1 a1 => ?_
  obtain ⟨p, e1, _⟩ := E1.owo hi
  refine ⟨_, e1, ?_⟩
  refine f1 B (MOf B m0 H0) G0 H0 xw G1 H1 σ E1 _ fun w y G2 H2 n2 f2 E2 s2 a2 => ?_
  obtain ⟨k, rfl, f2⟩ := f2
  obtain ⟨q, g1, ⟨kvs, g2, b⟩, _⟩ := E2.owo hi
  rw [e1] at g1
  have g1 : p = q := by injection (Option.some.inj (Option.some.inj g1))
  subst g1
  rw [a2.key]
  exact ⟨p, _, rfl, .k g2 (by rw [b.len]; exact sz_lt hl), hn _ _ G2 _ n2 f2 (E2.chgO hi e1 ⟨_, upd_same, b.put (a1.mono s2)⟩) (s1.trans s2)⟩
/-- d[k] of a dict that stays -/
theorem gk_dget (h : GK K Z ta δ n fun x n1 => ∃ es, x = .dic es ∧ GK K Z tb δ n1 fun y n2 => ∃ k d, y = keyD k ∧ getD' es k = some d ∧ Φ d n2) : GK K Z (tDGet ta tb) δ n Φ := fun B M G0 H0 xw G H σ E Q q =>
  h B M G0 H0 xw G H σ E _ fun v x G1 H1 n1 f1 E1 s1 a1 => by
    obtain ⟨es, rfl, f1⟩ := f1
    cases a1 with
    | @dic p kvs _ h1 a1 =>
      refine f1 B M G0 H0 xw G1 H1 σ E1 _ fun w y G2 H2 n2 f2 E2 s2 a2 => ?_
      obtain ⟨k, d, rfl, hk, f2⟩ := f2
      obtain ⟨u, hu, iu⟩ := a1.get hk
      rw [a2.key]
      exact ⟨p, u, rfl, .inl ⟨kvs, k, E2.sub.rd (s2.rd h1), rfl, hu.symm⟩, q u d G2 H2 n2 f2 E2 (s1.trans s2) (iu.mono s2)⟩
end
end Tl
namespace Tl
open PySem PySem.Spec PyProof.Rows L2 TL LamX
theorem hu_by {A : Around} {k : Nat} (hr : Room k A) : A.units + 1 < cLine := Nat.lt_of_le_of_lt (Nat.add_le_add_left (by decide : 1 ≤ 64) _) hr.units
section
variable [Tabl] {K : PySem.W.Frag} {Z : XZ} {δ : List Slot} {n : Sto} {Φ : D → Sto → Prop}
theorem rk_gtS {x y : Str} (k : Φ (.bl (decide (tl y < tl x))) n) : RK K Z (fun x y H Q => ∃ i j, x = .str i ∧ y = .str j ∧ Q (.bl (decide (j.cps.toList < i.cps.toList))) H) (.str x) (.str y) δ n Φ := fun B M G0 H0 xw G H σ E v w a b Q q => by
  cases a
  cases b
  exact ⟨x, y, rfl, rfl, q _ _ G H n k E (Sub.refl G) (.bl _)⟩
end
end Tl
namespace Tl
open PySem PySem.Spec PyProof.Rows L2 TL LamX
section
variable [Tabl] {K : PySem.W.Frag} {Z : XZ} {B : Option Addr} {δ : List Slot} {n : Sto} {te : TE} {N Bk Ct : List Slot → Sto → Prop} {R : D → Sto → Prop}
/-- x, y = e -/
theorem gs_unp2 {i j m : Nat} (hm : m = 2) (h : GK K Z te δ n fun d n' => ∃ x y, d = .tup [x, y] ∧ N ((δ.set i (.d x)).set j (.d y)) n') : GS K Z B (tAsg te (gTup K m (gCons (gName i) (gCons (gName j) gNil)))) δ n N R Bk Ct :=
  gs_unp (vs := [i, j]) fun B M G0 H0 xw G H σ E Q q => h B M G0 H0 xw G H σ E Q fun v d G1 H1 n1 f1 => by
    obtain ⟨x, y, rfl, f1⟩ := f1
    exact q v _ G1 H1 n1 ⟨_, gg_tup hm.symm (ggs_cons (gg_name (.head _)) (ggs_cons (gg_name (.tail _ (.head _))) ggs_nil)), f1⟩
theorem gs_unp3 {i j l m : Nat} (hm : m = 3) (h : GK K Z te δ n fun d n' => ∃ x y z, d = .tup [x, y, z] ∧ N (((δ.set i (.d x)).set j (.d y)).set l (.d z)) n') : GS K Z B (tAsg te (gTup K m (gCons (gName i) (gCons (gName j) (gCons (gName l) gNil))))) δ n N R Bk Ct :=
  gs_unp (vs := [i, j, l]) fun B M G0 H0 xw G H σ E Q q => h B M G0 H0 xw G H σ E Q fun v d G1 H1 n1 f1 => by
    obtain ⟨x, y, z, rfl, f1⟩ := f1
    exact q v _ G1 H1 n1 ⟨_, gg_tup hm.symm (ggs_cons (gg_name (.head _)) (ggs_cons (gg_name (.tail _ (.head _))) (ggs_cons (gg_name (.tail _ (.tail _ (.head _)))) ggs_nil))), f1⟩
end
end Tl

namespace Tl
open PySem PySem.Spec PyProof.Rows L2 TL LamX
/-! ### min, max of two strings -/
section
variable {prog : Program} {w : World} {A : Around} {E : Value → Shared → Prop} {s : Shared}
def valS (a b : Str) (i : Nat) : Str := if i = 0 then a else b
theorem valS_at {a b : Str} {t u : Tok} {i : Nat} {v : Value} (h : (#[Value.str a t, Value.str b u])[i]? = some v) : ∃ t', v = .str (valS a b i) t' := by
  match i, h with
  | 0, h => exact ⟨t, (Option.some.inj h).symm⟩
  | 1, h => exact ⟨u, (Option.some.inj h).symm⟩
theorem cmpS_gt {P : Nat → Value → Prop} (val : Nat → Str) (hval : ∀ i v, P i v → ∃ t, v = .str (val i) t) : CmpOf prog w A .Gt P (fun i j => decide (tl (val j) < tl (val i))) := fun i j vi vj s Q E hi hj h => by
  obtain ⟨t, rfl⟩ := hval i vi hi
  obtain ⟨u, rfl⟩ := hval j vj hj
  exact PySem.P.gt_str h
theorem cmpS_lt {P : Nat → Value → Prop} (val : Nat → Str) (hval : ∀ i v, P i v → ∃ t, v = .str (val i) t) : CmpOf prog w A .Lt P (fun i j => decide (tl (val i) < tl (val j))) := fun i j vi vj s Q E hi hj h => by
  obtain ⟨t, rfl⟩ := hval i vi hi
  obtain ⟨u, rfl⟩ := hval j vj hj
  exact lt_str h
theorem max_two_strs {a b : Str} {t u : Tok} {Q : Value → Shared → Prop} (hh : A.handled = none)
    (h : ∀ h' tk, (∀ c o, s.heap.get? c = some o → h'.get? c = some o) → Q (if tl a < tl b then .str b u else .str a t) { s with heap := h', toks := tk }) :
    wpAny (model prog w) A (call (.builtin "max") [.str a t, .str b u]) Q E s := by
  have hT : (s.heap.push { cls := .type "tuple", data := .seq #[.str a t, .str b u] }).IsTuple s.heap.objs.size #[.str a t, .str b u] := ⟨_, Heap.get?_push_size _ rfl, rfl, 0, rfl⟩
  refine call_max_two (wpAny_pyIter_tuple hT ?_)
  have hsz : (s.heap.push { cls := .type "tuple", data := .seq #[.str a t, .str b u] }).objs.size = s.heap.objs.size + 1 := Heap.size_push ..
  refine ⟨_, [_, s.heap.objs.size], [_], _, _, _, _, rfl, Walks.tuple (A := A.in1) hh _ s.heap.objs.size (by rw [hsz]; exact Nat.ne_of_lt (Nat.lt_succ_self _)) #[.str a t, .str b u],
    ⟨⟨_, Heap.get?_push_size _ rfl, rfl, rfl⟩, hT.push _⟩, fun c hc => ?_, by simp, cmpS_gt (valS a b) (fun _ _ => valS_at), fun v h' tk hP hk => ?_⟩
  · show c < ((s.heap.push _).push _).objs.size
    rw [Heap.size_push, hsz]
    rcases List.mem_cons.mp hc with rfl | hc
    · rw [hsz]; exact Nat.lt_succ_self _
    · rcases List.mem_cons.mp hc with rfl | hc
      · exact Nat.lt_succ_of_lt (Nat.lt_succ_self _)
      · cases hc
  · have hold : ∀ c o, s.heap.get? c = some o → h'.get? c = some o := fun c o e => by
      refine hk c o (fun hm => ?_) (Heap.get?_push_of_some _ (Heap.get?_push_of_some _ e))
      rcases List.mem_cons.mp hm with e1 | hm
      · have := Heap.lt_size e; rw [e1, hsz] at this; exact Nat.lt_irrefl _ (Nat.lt_of_succ_lt this)
      · cases hm
    have := h h' tk hold
    have hv : v = if tl a < tl b then Value.str b u else Value.str a t := by
      have hP' : (#[Value.str a t, Value.str b u])[PySem.argBest (fun i j => decide (tl (valS a b j) < tl (valS a b i))) 1]? = some v := hP
      by_cases hba : tl a < tl b
      · have e : PySem.argBest (fun i j => decide (tl (valS a b j) < tl (valS a b i))) 1 = 1 := by simp [PySem.argBest, valS, hba]
        rw [e] at hP'
        rw [if_pos hba]
        exact (Option.some.inj hP').symm
      · have e : PySem.argBest (fun i j => decide (tl (valS a b j) < tl (valS a b i))) 1 = 0 := by simp [PySem.argBest, valS, hba]
        rw [e] at hP'
        rw [if_neg hba]
        exact (Option.some.inj hP').symm
    rw [hv]
    exact this
theorem min_two_strs {a b : Str} {t u : Tok} {Q : Value → Shared → Prop} (hh : A.handled = none)
    (h : ∀ h' tk, (∀ c o, s.heap.get? c = some o → h'.get? c = some o) → Q (if tl b < tl a then .str b u else .str a t) { s with heap := h', toks := tk }) :
    wpAny (model prog w) A (call (.builtin "min") [.str a t, .str b u]) Q E s := by
  have hT : (s.heap.push { cls := .type "tuple", data := .seq #[.str a t, .str b u] }).IsTuple s.heap.objs.size #[.str a t, .str b u] := ⟨_, Heap.get?_push_size _ rfl, rfl, 0, rfl⟩
  refine call_min_two (wpAny_pyIter_tuple hT ?_)
  have hsz : (s.heap.push { cls := .type "tuple", data := .seq #[.str a t, .str b u] }).objs.size = s.heap.objs.size + 1 := Heap.size_push ..
  refine ⟨_, [_, s.heap.objs.size], [_], _, _, _, _, rfl, Walks.tuple (A := A.in1) hh _ s.heap.objs.size (by rw [hsz]; exact Nat.ne_of_lt (Nat.lt_succ_self _)) #[.str a t, .str b u],
    ⟨⟨_, Heap.get?_push_size _ rfl, rfl, rfl⟩, hT.push _⟩, fun c hc => ?_, by simp, cmpS_lt (valS a b) (fun _ _ => valS_at), fun v h' tk hP hk => ?_⟩
  · show c < ((s.heap.push _).push _).objs.size
    rw [Heap.size_push, hsz]
    rcases List.mem_cons.mp hc with rfl | hc
    · rw [hsz]; exact Nat.lt_succ_self _
    · rcases List.mem_cons.mp hc with rfl | hc
      · exact Nat.lt_succ_of_lt (Nat.lt_succ_self _)
      · cases hc
  · have hold : ∀ c o, s.heap.get? c = some o → h'.get? c = some o := fun c o e => by
      refine hk c o (fun hm => ?_) (Heap.get?_push_of_some _ (Heap.get?_push_of_some _ e))
      rcases List.mem_cons.mp hm with e1 | hm
      · have := Heap.lt_size e; rw [e1, hsz] at this; exact Nat.lt_irrefl _ (Nat.lt_of_succ_lt this)
      · cases hm
    have := h h' tk hold
    have hv : v = if tl b < tl a then Value.str b u else Value.str a t := by
      have hP' : (#[Value.str a t, Value.str b u])[PySem.argBest (fun i j => decide (tl (valS a b i) < tl (valS a b j))) 1]? = some v := hP
      by_cases hba : tl b < tl a
      · have e : PySem.argBest (fun i j => decide (tl (valS a b i) < tl (valS a b j))) 1 = 1 := by simp [PySem.argBest, valS, hba]
        rw [e] at hP'
        rw [if_pos hba]
        exact (Option.some.inj hP').symm
      · have e : PySem.argBest (fun i j => decide (tl (valS a b i) < tl (valS a b j))) 1 = 0 := by simp [PySem.argBest, valS, hba]
        rw [e] at hP'
        rw [if_neg hba]
        exact (Option.some.inj hP').symm
    rw [hv]
    exact this
end
end Tl
namespace Tl
open PySem PySem.Spec PyProof.Rows L2 TL LamX
section
variable {X : Cx}
def rMax2S : List V → Hp → VK → Prop := fun xs H Q => ∃ i j : Str, xs = [.str i, .str j] ∧ Q (.str (if tl i < tl j then j else i)) H
def rMin2S : List V → Hp → VK → Prop := fun xs H Q => ∃ i j : Str, xs = [.str i, .str j] ∧ Q (.str (if tl j < tl i then j else i)) H
theorem call_max2S (hc : X.calm = true) : CallR X (.builtin "max") rMax2S := by
  intro pins s σ H xs us Q I r h
  obtain ⟨i, j, rfl, q⟩ := h
  obtain ⟨u, w', rfl, ⟨t, rfl⟩, ⟨t', rfl⟩⟩ := vals2 r
  refine max_two_strs (I.ok.hd hc) fun h' tk k => ⟨_, H, I.kept k, ?_, q⟩
  by_cases hj : tl i < tl j
  · rw [if_pos hj, if_pos hj]; exact ⟨_, rfl⟩
  · rw [if_neg hj, if_neg hj]; exact ⟨_, rfl⟩
theorem call_min2S (hc : X.calm = true) : CallR X (.builtin "min") rMin2S := by
  intro pins s σ H xs us Q I r h
  obtain ⟨i, j, rfl, q⟩ := h
  obtain ⟨u, w', rfl, ⟨t, rfl⟩, ⟨t', rfl⟩⟩ := vals2 r
  refine min_two_strs (I.ok.hd hc) fun h' tk k => ⟨_, H, I.kept k, ?_, q⟩
  by_cases hj : tl j < tl i
  · rw [if_pos hj, if_pos hj]; exact ⟨_, rfl⟩
  · rw [if_neg hj, if_neg hj]; exact ⟨_, rfl⟩
/-- (i, x) <= (j, y) -/
def rLeIS (K : PySem.W.Frag) : R2 := fun x y H Q => ∃ (a b : Addr) (i j : Int) (p q : Str), x = .ref a ∧ y = .ref b ∧ SqT K H a [.int i, .str p] ∧ SqT K H b [.int j, .str q] ∧ Q (.bl (!kLt (j, q) (i, p))) H
theorem op_leIS {K : PySem.W.Frag} (hK : X.K = K) (hu : X.A.units < cLine) : OpR X (compareOp .LtE) (rLeIS K) := by
  subst hK
  intro pins s σ H x y v u Q I rx ry h
  obtain ⟨a, b, i, j, x', y', rfl, rfl, ha, hb, q⟩ := h
  cases rx
  cases ry
  obtain ⟨its, r1, p1, _⟩ := I.tuple ha
  obtain ⟨its2, r2, p2, _⟩ := I.tuple hb
  obtain ⟨u1, u2, rfl, ⟨t1, rfl⟩, ⟨t2, rfl⟩⟩ := vals2 r1
  obtain ⟨w1, w2, rfl, ⟨t3, rfl⟩, ⟨t4, rfl⟩⟩ := vals2 r2
  have R := Ob.RcOp.tuples_le (A := X.A) (s := s) (e := fun k => if k = 0 then (i == j) else (x' == y')) (r := fun k => if k = 0 then decide (i ≤ j) else !decide (tl y' < tl x')) p1 p2 hu (fun k h1 h2 => by
    match k, h1, h2 with
    | 0, _, _ => exact SeqAt.EqAt.int_int _ _ _ _
    | 1, _, _ => exact SeqAt.EqAt.str_str _ _ _ _) (fun k h1 h2 _ => by
    match k, h1, h2 with
    | 0, _, _ => exact Ob.RcOp.le_int _ _ _ _
    | 1, _, _ => exact fun _ _ _ _ h => PySem.P.le_str h)
  have e : Ob.lexAt (fun k => if k = 0 then (i == j) else (x' == y')) (fun k => if k = 0 then decide (i ≤ j) else !decide (tl y' < tl x')) (decide ((2 : Nat) ≤ 2)) 0 2 = !kLt (j, y') (i, x') := by
    simp only [Ob.lexAt]
    unfold kLt
    by_cases h1 : i = j
    · subst h1
      by_cases h2 : x' = y'
      · subst h2
        have : ¬ tl x' < tl x' := List.lt_irrefl _
        simp [this]
      · simp [h2]
    · have h2 : ¬ j = i := fun e => h1 e.symm
      by_cases h3 : i ≤ j
      · have : ¬ j < i := by omega
        simp [h1, h2, h3, this]
      · have : j < i := by omega
        simp [h1, h3, this]
  have R' : Ob.RcOp .LtE X.A s (.ref a) (.ref b) (!kLt (j, y') (i, x')) := e ▸ R
  have z : wpAny (model X.prog X.w) X.A (compareOp .LtE (.ref a) (.ref b)) (EP X pins σ Q) X.xe s := R' X.prog X.w X.xe (EP X pins σ Q) ⟨.bl _, H, I, rfl, q⟩
  exact z
/-- (i, x) > (j, y) -/
def rGtIS (K : PySem.W.Frag) : R2 := fun x y H Q => ∃ (a b : Addr) (i j : Int) (p q : Str), x = .ref a ∧ y = .ref b ∧ SqT K H a [.int i, .str p] ∧ SqT K H b [.int j, .str q] ∧ Q (.bl (kLt (j, q) (i, p))) H
theorem op_gtIS {K : PySem.W.Frag} (hK : X.K = K) (hu : X.A.units < cLine) : OpR X (compareOp .Gt) (rGtIS K) := by
  subst hK
  intro pins s σ H x y v u Q I rx ry h
  obtain ⟨a, b, i, j, x', y', rfl, rfl, ha, hb, q⟩ := h
  cases rx
  cases ry
  obtain ⟨its, r1, p1, _⟩ := I.tuple ha
  obtain ⟨its2, r2, p2, _⟩ := I.tuple hb
  obtain ⟨u1, u2, rfl, ⟨t1, rfl⟩, ⟨t2, rfl⟩⟩ := vals2 r1
  obtain ⟨w1, w2, rfl, ⟨t3, rfl⟩, ⟨t4, rfl⟩⟩ := vals2 r2
  have R := Ob.RcOp.tuples_gt (A := X.A) (s := s) (e := fun k => if k = 0 then (i == j) else (x' == y')) (r := fun k => if k = 0 then decide (j < i) else decide (tl y' < tl x')) p1 p2 hu (fun k h1 h2 => by
    match k, h1, h2 with
    | 0, _, _ => exact SeqAt.EqAt.int_int _ _ _ _
    | 1, _, _ => exact SeqAt.EqAt.str_str _ _ _ _) (fun k h1 h2 _ => by
    match k, h1, h2 with
    | 0, _, _ => exact Ob.RcOp.gt_int _ _ _ _
    | 1, _, _ => exact fun _ _ _ _ h => PySem.P.gt_str h)
  have e : Ob.lexAt (fun k => if k = 0 then (i == j) else (x' == y')) (fun k => if k = 0 then decide (j < i) else decide (tl y' < tl x')) (decide ((2 : Nat) > 2)) 0 2 = kLt (j, y') (i, x') := by
    simp only [Ob.lexAt]
    unfold kLt
    by_cases h1 : i = j
    · subst h1
      by_cases h2 : x' = y'
      · subst h2
        have : ¬ tl x' < tl x' := List.lt_irrefl _
        simp [this]
      · simp [h2]
    · have h2 : ¬ j = i := fun e => h1 e.symm
      simp [h1, h2]
  have R' : Ob.RcOp .Gt X.A s (.ref a) (.ref b) (kLt (j, y') (i, x')) := e ▸ R
  have z : wpAny (model X.prog X.w) X.A (compareOp .Gt (.ref a) (.ref b)) (EP X pins σ Q) X.xe s := R' X.prog X.w X.xe (EP X pins σ Q) ⟨.bl _, H, I, rfl, q⟩
  exact z
end
section
variable [Tabl] {K : PySem.W.Frag} {Z : XZ} {δ : List Slot} {n : Sto} {Φ : D → Sto → Prop}
theorem rc_max2S {x y : Str} (k : Φ (.str (if tl x < tl y then y else x)) n) : RC K Z rMax2S [.str x, .str y] δ n Φ := fun B M G0 H0 xw G H σ E vs a Q q => by
  cases a with
  | cons a r =>
    cases r with
    | cons b r =>
      cases r
      cases a
      cases b
      exact ⟨x, y, rfl, q _ _ G H n k E (Sub.refl G) (.str _)⟩
theorem rc_min2S {x y : Str} (k : Φ (.str (if tl y < tl x then y else x)) n) : RC K Z rMin2S [.str x, .str y] δ n Φ := fun B M G0 H0 xw G H σ E vs a Q q => by
  cases a with
  | cons a r =>
    cases r with
    | cons b r =>
      cases r
      cases a
      cases b
      exact ⟨x, y, rfl, q _ _ G H n k E (Sub.refl G) (.str _)⟩
theorem rk_leS {x y : Str} (k : Φ (.bl (!decide (tl y < tl x))) n) : RK K Z (fun x y H Q => ∃ i j, x = .str i ∧ y = .str j ∧ Q (.bl (!decide (j.cps.toList < i.cps.toList))) H) (.str x) (.str y) δ n Φ := fun B M G0 H0 xw G H σ E v w a b Q q => by
  cases a
  cases b
  exact ⟨x, y, rfl, rfl, q _ _ G H n k E (Sub.refl G) (.bl _)⟩
theorem rk_leIS {i j : Int} {x y : Str} (k : Φ (.bl (!kLt (j, y) (i, x))) n) : RK K Z (rLeIS K) (.tup [.int i, .str x]) (.tup [.int j, .str y]) δ n Φ := fun B M G0 H0 xw G H σ E v w a b Q q => by
  cases a with
  | @tup p vs _ h1 a1 =>
    cases b with
    | @tup p' ws _ h2 a2 =>
      cases a1 with
      | cons c1 r1 =>
        cases r1 with
        | cons c2 r1 =>
          cases r1
          cases c1
          cases c2
          cases a2 with
          | cons c1 r1 =>
            cases r1 with
            | cons c2 r1 =>
              cases r1
              cases c1
              cases c2
              exact ⟨p, p', i, j, x, y, rfl, rfl, E.sub.seq h1, E.sub.seq h2, q _ _ G H n k E (Sub.refl G) (.bl _)⟩
theorem rk_gtIS {i j : Int} {x y : Str} (k : Φ (.bl (kLt (j, y) (i, x))) n) : RK K Z (rGtIS K) (.tup [.int i, .str x]) (.tup [.int j, .str y]) δ n Φ := fun B M G0 H0 xw G H σ E v w a b Q q => by
  cases a with
  | @tup p vs _ h1 a1 =>
    cases b with
    | @tup p' ws _ h2 a2 =>
      cases a1 with
      | cons c1 r1 =>
        cases r1 with
        | cons c2 r1 =>
          cases r1
          cases c1
          cases c2
          cases a2 with
          | cons c1 r1 =>
            cases r1 with
            | cons c2 r1 =>
              cases r1
              cases c1
              cases c2
              exact ⟨p, p', i, j, x, y, rfl, rfl, E.sub.seq h1, E.sub.seq h2, q _ _ G H n k E (Sub.refl G) (.bl _)⟩
end
end Tl

namespace Tl
open PySem PySem.Spec PyProof.Rows L2 TL LamX
/-! ### an owned thing, read within an expression -/
def deown : Slot → Slot
  | .ow _ => .un
  | s => s
theorem deown_ow {s : Slot} {x : MO} (h : deown s = .ow x) : False := by cases s <;> cases h
theorem Is.anyw {K : PySem.W.Frag} {G G' : Hp} {v : V} {d : D} (h : Is K G v d) (f : flatD d = true) : Is K G' v d := by
  cases h with
  | non => exact .non
  | bl b => exact .bl b
  | int i => exact .int i
  | str x => exact .str x
  | lst _ _ => cases f
  | tup _ _ => cases f
  | dic _ _ => cases f
  | ptr _ => cases f
  | dct _ _ => cases f
section
variable [Tabl] {K : PySem.W.Frag} {Z : XZ} {δ : List Slot} {n : Sto} {Φ : D → Sto → Prop} {te : TE}
theorem En.borrow {B : Option Addr} {M : Addr → Prop} {G0 H0 G H : Hp} {σ : L2.St} {i : Nat} {o : MO} {dd : D} (E : En K B M n G0 H0 G H σ δ) (hi : δ[i]? = some (.ow o)) (hd : o.frz = some dd) :
    ∃ G1, En K B (MOf B m00 H) ⟨n.n, m00⟩ G1 H G1 H σ ((δ.map deown).set i (.d dd)) ∧ ∀ G2 H2 n2, En K B (MOf B m00 H) n2 G1 H G2 H2 σ ((δ.map deown).set i (.d dd)) → Sub G1 G2 → n2.n = n.n → En K B M n G0 H0 G H2 σ δ := by
  obtain ⟨p, e1, mo, gp, mp, nb, nm⟩ := E.owo hi
  obtain ⟨u, hu, pu⟩ := mo.get
  have sg : Sub G (upd G p u) := Sub.new gp
  have hil : i < δ.length := (List.getElem?_eq_some_iff.mp hi).1
  have no : ∀ (j : Nat) (x : MO), ((δ.map deown).set i (.d dd))[j]? ≠ some (.ow x) := fun j x hj => by
    by_cases z : i = j
    · subst z
      rw [List.getElem?_set_self (by rw [List.length_map]; exact hil)] at hj
      cases hj
    · rw [List.getElem?_set_ne z, List.getElem?_map] at hj
      cases y : δ[j]? with
      | none => rw [y] at hj; cases hj
      | some s0 => rw [y] at hj; exact deown_ow (Option.some.inj hj)
  have E1 : En K B (MOf B m00 H) ⟨n.n, m00⟩ (upd G p u) H (upd G p u) H σ ((δ.map deown).set i (.d dd)) := {
    sub0 := Sub.refl _
    sub := fun b o e => by
      by_cases hb : b = p
      · subst hb
        rw [upd_same] at e
        cases e
        exact hu
      · rw [upd_ne hb] at e
        exact E.sub b o e
    same := fun b o e _ => e
    free := fun b hb => .inl hb
    fresh := fun b _ g => g
    bagged := fun r hr => ⟨(E.bagged r hr).1, by
      have nr : r ≠ p := fun z => nb (by rw [← z]; exact hr)
      rw [upd_ne nr]
      exact (E.bagged r hr).2.1, .inr (.inl hr)⟩
    tabs := E.tabs
    tin := fun b ps hb => .inr (.inr (.inl ⟨ps, hb⟩))
    gnt := gnt_upd E.gnt pu.notab
    len := by rw [List.length_set, List.length_map, E.len]
    slot := fun j s hs => by
      by_cases hj : i = j
      · subst hj
        rw [List.getElem?_set_self (by rw [List.length_map]; exact hil)] at hs
        cases hs
        exact ⟨.ref p, by rw [e1]; rfl, mo.is hu hd sg⟩
      · rw [List.getElem?_set_ne hj, List.getElem?_map] at hs
        cases y : δ[j]? with
        | none => rw [y] at hs; cases hs
        | some s0 =>
          rw [y] at hs
          have hs : deown s0 = s := Option.some.inj hs
          have z := E.slot j s0 y
          subst hs
          cases s0 with
          | un => trivial
          | d x =>
            obtain ⟨v, e, a⟩ := z
            exact ⟨v, e, a.mono sg⟩
          | ow x => trivial
          | raw v => exact z
          | bag => exact z
          | scr ns =>
            obtain ⟨a, e, sq⟩ := z
            exact ⟨a, e, sg.seqL sq⟩
          | exn a d fs => exact ⟨z.1, z.2.mono sg⟩
    dis := fun j k r x y hj _ _ _ => absurd hj (no j x)
    mob := fun a o h => by cases (show (none : Option MO) = some o from h)
    mow := fun j x a hj _ => absurd hj (no j x) }
  exact ⟨upd G p u, E1, fun G2 H2 n2 E2 s2 hn => E.grow (Sub.refl G) (fun b o e => E2.sub _ _ (s2 _ _ (sg _ _ e))) (fun b o e nb nt => E2.same b o e (MOf.not e nb rfl nt)) (fun b _ _ g => g) (fun r hr => hn ▸ (E2.bagged r hr).1) E2.tabs E.gnt⟩
theorem gk_borrow {i : Nat} {o : MO} {dd : D} (hi : δ[i]? = some (.ow o)) (hd : o.frz = some dd) (h : GK K .calm te ((δ.map deown).set i (.d dd)) ⟨n.n, m00⟩ fun d n1 => n1.n = n.n ∧ flatD d = true ∧ Φ d n) : GK K Z te δ n Φ := fun B M G0 H0 xw G H σ E Q q => by
  obtain ⟨G1, E1, bk⟩ := E.borrow hi hd
  exact h B (MOf B m00 H) G1 H WOk.calm G1 H σ E1 Q fun v d G2 H2 n2 f2 E2 s2 a2 => q v d G H2 n f2.2.2 (bk G2 H2 n2 E2 s2 f2.1) (Sub.refl G) (a2.anyw f2.2.1)
/-- the same for a test -/
theorem gt_borrow {tt : TT} {Φ : Bool → Sto → Prop} {i : Nat} {o : MO} {dd : D} (hi : δ[i]? = some (.ow o)) (hd : o.frz = some dd) (h : GT K .calm tt ((δ.map deown).set i (.d dd)) ⟨n.n, m00⟩ fun b n1 => n1.n = n.n ∧ Φ b n) : GT K Z tt δ n Φ := fun B M G0 H0 xw G H σ E Q q => by
  obtain ⟨G1, E1, bk⟩ := E.borrow hi hd
  exact h B (MOf B m00 H) G1 H WOk.calm G1 H σ E1 Q fun b G2 H2 n2 f2 E2 s2 => q b G H2 n f2.2 (bk G2 H2 n2 E2 s2 f2.1) (Sub.refl G)
end
end Tl

namespace Tl
open PySem PySem.Spec PyProof.Rows L2 TL LamX
/-! ### raising, over data -/
theorem tabs_same {T : List (Addr × Str)} {H H' : Hp} (t : Tabs T H) (s : Same H H') : Tabs T H' := fun p hp => by
  obtain ⟨ps, h1, h2⟩ := t p hp
  refine ⟨ps, s _ _ h1, h2.1, fun pos cv hq => ?_⟩
  obtain ⟨c, e, hc⟩ := h2.2 pos cv hq
  exact ⟨c, e, s _ _ hc⟩
section
variable [Tabl] {K : PySem.W.Frag} {Z : XZ} {B : Option Addr} {δ : List Slot} {n : Sto} {Φ : D → Sto → Prop} {aa : TA} {N Bk Ct : List Slot → Sto → Prop} {R : D → Sto → Prop}
/-- a new exception's dict beside all that stands -/
theorem En.exn {M : Addr → Prop} {G0 H0 G H H' : Hp} {σ : L2.St} {d : Addr} {vs : List (Str × V)} {fs : List (Str × D)} (E : En K B M n G0 H0 G H σ δ) (s : Same H H') (hd : H d = none) (hx : H' d = some (.xd vs)) (hf : IsFs K G vs fs) : ∃ G', Sub G G' ∧ En K B M n G0 H0 G' H' σ δ ∧ XIs K G' (some d) fs := by
  have sg : Sub G (upd G d (.xd vs)) := Sub.new (E.sub.none hd)
  refine ⟨upd G d (.xd vs), sg, E.grow sg (fun b o e => ?_) (fun b o e _ _ => s b o e) (fun b hb _ gb => ?_) (fun r hr => bag_kept (E.bagged r hr).1 fun xs e => s _ _ e) (tabs_same E.tabs s) (gnt_upd E.gnt fun _ z => nomatch z), .inr ⟨d, vs, rfl, upd_same, hf.mono sg⟩⟩
  · by_cases hb : b = d
    · subst hb
      rw [upd_same] at e
      cases e
      exact hx
    · rw [upd_ne hb] at e
      exact s _ _ (E.sub b o e)
  · have nb : b ≠ d := fun z => hb (by rw [z]; exact hd)
    rw [upd_ne nb]
    exact gb
/-- raise C(e), its one attribute f the argument -/
theorem gs_raise1 {C : Addr} {f : Str} {ok : V → Prop} (h : GA K Z aa δ n fun xs n1 => ∃ d, xs = [d] ∧ (∀ G v, Is K G v d → ok v) ∧ Z.X ⟨.ref C, [(f, d)]⟩ δ n1) : GS K Z B (fun _ σ H => tExMk C (spEx1 C f ok) aa σ H fun cls d H' => Z.W cls d σ H') δ n N R Bk Ct := fun m0 G0 H0 xw G H σ E e hn hr hb hc =>
  h B (MOf B m0 H0) G0 H0 xw G H σ e _ fun vs xs G1 H1 n1 f1 E1 s1 a1 => by
    obtain ⟨d, rfl, hok, hx⟩ := f1
    cases a1 with
    | @cons v _ _ _ a r =>
      cases r
      refine ex1_go (hok _ _ a) fun dd H' sm hd hx' => ?_
      obtain ⟨G2, sg, E2, xi⟩ := E1.exn sm hd hx' (.cons a .nil)
      exact xw ⟨.ref C, [(f, d)]⟩ (some dd) σ δ G2 H' n1 hx E2 xi
/-- a call that may raise -/
theorem gk_callX {sp : Sp} {E : XK} (he : ∀ σ, XTo Z σ E) (h : GA K Z aa δ n fun xs n1 => SX K Z sp xs δ n1 Φ) : GK K Z (tCall sp [] E aa) δ n Φ := fun B M G0 H0 xw G H σ En0 Q q =>
  h B M G0 H0 xw G H σ En0 _ fun vs xs G1 H1 n1 f1 E1 s1 a1 => by
    show sp (vs ++ []) _ _ _
    rw [List.append_nil]
    exact f1 B M G0 H0 xw G1 H1 σ E1 vs a1 Q _ (he σ) fun u d G3 H3 n3 f3 E3 s3 a3 => q u d G3 H3 n3 f3 E3 (s1.trans s3) a3
/-- the same within a try -/
theorem gk_callS {sp : Sp} {E : L2.St → XK} (he : ∀ σ, XTo Z σ (E σ)) (h : GA K Z aa δ n fun xs n1 => SX K Z sp xs δ n1 Φ) : GK K Z (tCallS sp E aa) δ n Φ := fun B M G0 H0 xw G H σ En0 Q q =>
  h B M G0 H0 xw G H σ En0 _ fun vs xs G1 H1 n1 f1 E1 s1 a1 => f1 B M G0 H0 xw G1 H1 σ E1 vs a1 Q _ (he σ) fun u d G3 H3 n3 f3 E3 s3 a3 => q u d G3 H3 n3 f3 E3 (s1.trans s3) a3
end
end Tl
namespace Tl
open PySem PySem.Spec PyProof.Rows L2 TL LamX
section
variable [Tabl] {K : PySem.W.Frag} {Z : XZ} {B : Option Addr} {δ : List Slot} {n : Sto} {Φ : D → Sto → Prop} {N Bk Ct : List Slot → Sto → Prop} {R : D → Sto → Prop}
/-- the start put anew, M as it is -/
theorem En.anew {M : Addr → Prop} {G0 H0 G H : Hp} {σ : L2.St} (E : En K B M n G0 H0 G H σ δ) : En K B M n G H G H σ δ where
  sub0 := Sub.refl G
  sub := E.sub
  same := fun b o e _ => e
  free := E.free
  fresh := fun b _ g => g
  bagged := E.bagged
  tabs := E.tabs
  tin := E.tin
  gnt := E.gnt
  len := E.len
  slot := E.slot
  dis := E.dis
  mob := E.mob
  mow := E.mow
theorem En.old {M : Addr → Prop} {n' : Sto} {G0 H0 G H G' H' : Hp} {σ σ' : L2.St} {δ' : List Slot} (E : En K B M n G0 H0 G H σ δ) (e : En K B M n' G H G' H' σ' δ') : En K B M n' G0 H0 G' H' σ' δ' where
  sub0 := E.sub0.trans e.sub0
  sub := e.sub
  same := fun b o h nm => e.same b o (E.same b o h nm) nm
  free := e.free
  fresh := fun b nm g => e.fresh b nm (E.fresh b nm g)
  bagged := e.bagged
  tabs := e.tabs
  tin := e.tin
  gnt := e.gnt
  len := e.len
  slot := e.slot
  dis := e.dis
  mob := e.mob
  mow := e.mow
open Classical in
noncomputable def mOfM (M : Addr → Prop) : Addr → Option MO := fun b => if M b then some (.lst []) else none
theorem mOfM_iff {M : Addr → Prop} {b : Addr} : mOfM M b ≠ none ↔ M b := by
  unfold mOfM
  by_cases h : M b
  · rw [if_pos h]
    exact ⟨fun _ => h, fun _ => by simp⟩
  · rw [if_neg h]
    exact ⟨fun z => absurd rfl z, fun z => absurd z h⟩
theorem mOfM_none {M : Addr → Prop} {b : Addr} (h : ¬ M b) : mOfM M b = none := by
  unfold mOfM
  exact if_neg h
theorem En.mOf {M : Addr → Prop} {G0 H0 G H : Hp} {σ : L2.St} (E : En K B M n G0 H0 G H σ δ) : MOf B (mOfM M) H = M := funext fun b => propext ⟨fun h => by
  rcases h with h | h | ⟨ps, h⟩ | h
  · exact E.free b h
  · exact (E.bagged b h).2.2
  · exact E.tin b ps h
  · exact mOfM_iff.mp h, fun h => .inr (.inr (.inr (mOfM_iff.mpr h)))⟩
theorem Eo.old {m0 : Addr → Option MO} {n' : Sto} {G0 H0 G H G' H' : Hp} {σ : L2.St} (E : En K B (MOf B m0 H0) n G0 H0 G H σ δ) (e : Eo K B (mOfM (MOf B m0 H0)) n' G H G' H') : Eo K B m0 n' G0 H0 G' H' where
  sub0 := E.sub0.trans e.sub0
  sub := e.sub
  same := fun b o h nb nm nt => by
    have z := MOf.not h nb nm nt
    exact e.same b o (E.same b o h z) nb (mOfM_none z) nt
  fresh := fun b hb nb nm nt g => by
    obtain ⟨o, ho⟩ := Option.ne_none_iff_exists'.mp hb
    have z : ¬ MOf B m0 H0 b := MOf.not ho nb nm fun ps q => nt ps (by rw [ho, q])
    have hH := E.same b o ho z
    exact e.fresh b (by rw [hH]; exact fun q => nomatch q) nb (mOfM_none z) (fun ps q => nt ps (by rw [ho, ← hH, q])) (E.fresh b z g)
  bagged := e.bagged
  tabs := e.tabs
  gnt := e.gnt
  mob := fun a o h => by
    obtain ⟨h1, h2, h3, h4⟩ := e.mob a o h
    have z : MOf B m0 H0 a := by
      rcases h4 with h4 | h4 | ⟨ps, h4⟩
      · exact E.free a h4
      · exact mOfM_iff.mp h4
      · exact E.tin a ps h4
    refine ⟨h1, h2, h3, ?_⟩
    rcases z with z | z | z | z
    · exact .inl z
    · exact absurd z h3
    · exact .inr (.inr z)
    · exact .inr (.inl z)
/-- try: .. except c as x: .. (x at slot i) -/
theorem gs_tryAs {c : Value} {i : Nat} {ts : Addr → Value → Option Addr → TS} {Wout : WX} {tb : WX → TS} (XT : Exn → List Slot → Sto → Prop) (hb : ∀ W, GS K ⟨W, XT⟩ B (tb W) δ n N R Bk Ct)
    (hx : ∀ e δ' n', XT e δ' n' → PySem.W.exmOne K e.cls c = some true ∧ ∀ a d, GS K Z B (ts a e.cls d) (δ'.set i (.exn a d e.fs)) n' (fun δ2 n2 => N (δ2.set i .un) n2) R (fun δ2 n2 => Bk (δ2.set i .un) n2) (fun δ2 n2 => Ct (δ2.set i .un) n2)) :
    GS K Z B (fun D σ H => tb (wAs K c i ts Wout D) D σ H) δ n N R Bk Ct := fun m0 G0 H0 xw G H σ D E hn hr hbk hc => by
  have em := E.mOf
  have E1 : En K B (MOf B (mOfM (MOf B m0 H0)) H) n G H G H σ δ := by
    rw [em]
    exact E.anew
  refine hb (wAs K c i ts Wout D) (mOfM (MOf B m0 H0)) G H (fun e d σ' δ' G' H' n' hX e' xi => ?_) G H σ D E1 (fun σ' δ' G' H' n' h e' s' => hn σ' δ' G' H' n' h (E.old (em ▸ e')) s') (fun v d G' H' n' h eo a => hr v d G' H' n' h (Eo.old E eo) a) (fun σ' δ' G' H' n' h e' s' => hbk σ' δ' G' H' n' h (E.old (em ▸ e')) s') (fun σ' δ' G' H' n' h e' s' => hc σ' δ' G' H' n' h (E.old (em ▸ e')) s')
  rw [em] at e'
  obtain ⟨b1, b2⟩ := hx e δ' n' hX
  refine ⟨true, b1, fun _ a ha => ?_, fun z => nomatch z⟩
  have s0 : Sub G G' := e'.sub0
  refine b2 a d m0 G0 H0 xw G' H' _ _ ((E.old e').set (s := .exn a d e.fs) ⟨rfl, xi⟩ fun _ z => nomatch z) (fun σ2 δ2 G2 H2 n2 h e2 s2 => ?_) hr (fun σ2 δ2 G2 H2 n2 h e2 s2 => ?_) (fun σ2 δ2 G2 H2 n2 h e2 s2 => ?_)
  · exact hn _ _ G2 H2 n2 h (e2.set (s := .un) (o := none) trivial fun _ z => nomatch z) (s0.trans s2)
  · exact hbk _ _ G2 H2 n2 h (e2.set (s := .un) (o := none) trivial fun _ z => nomatch z) (s0.trans s2)
  · exact hc _ _ G2 H2 n2 h (e2.set (s := .un) (o := none) trivial fun _ z => nomatch z) (s0.trans s2)
/-- x.f of a caught exception -/
theorem gk_xf {i : Nat} {a C : Addr} {d : Option Addr} {f : Str} {fs : List (Str × D)} {x : D} (hi : δ[i]? = some (.exn a d fs)) (hf : fs.lookup f = some x) (k : Φ x n) : GK K Z (tXf a (.ref C) d C f (tVar i)) δ n Φ := fun B M G0 H0 xw G H σ E Q q => by
  obtain ⟨e1, xi⟩ := E.slot i _ hi
  refine ⟨.ref a, look_some e1, rfl, rfl, ?_⟩
  rcases xi with ⟨_, rfl⟩ | ⟨dd, vs, rfl, h2, h3⟩
  · cases hf
  · have key : ∀ {vs : List (Str × V)} {fs : List (Str × D)}, IsFs K G vs fs → fs.lookup f = some x → ∃ v, vs.lookup f = some v ∧ Is K G v x := by
      intro vs fs h
      induction h with
      | nil => intro z; cases z
      | @cons g v xs d ds h r ih =>
        intro z
        rw [List.lookup_cons] at z ⊢
        cases q : f == g with
        | true =>
          rw [q] at z
          cases z
          exact ⟨v, rfl, h⟩
        | false =>
          rw [q] at z
          exact ih z
    obtain ⟨v, hv, iv⟩ := key h3 hf
    exact ⟨dd, vs, v, rfl, E.sub _ _ h2, hv, q v x G H n k E (Sub.refl G) iv⟩
end
end Tl
namespace Tl
open PySem PySem.Spec PyProof.Rows L2 TL LamX
section
variable [Tabl] {K : PySem.W.Frag} {Z : XZ} {δ : List Slot} {n : Sto} {Φ : D → Sto → Prop} {te : TE}
theorem Sto.off_put {n0 : Sto} {p : Addr} {o : MO} (h : n0.μ p = none) : (n0.put p o).off p = n0 := by
  obtain ⟨m, μ⟩ := n0
  show Sto.mk m _ = Sto.mk m μ
  congr 1
  funext b
  show (if b = p then none else if b = p then some o else μ b) = μ b
  by_cases e : b = p
  · rw [if_pos e, e]
    exact h.symm
  · rw [if_neg e, if_neg e]
/-- a new thing told, taken as data that stays -/
theorem gk_thaw (h : GK K Z te δ n fun d n1 => ∃ p o dd n0, d = .ptr p ∧ n1 = Sto.put n0 p o ∧ n0.μ p = none ∧ o.frz = some dd ∧ Φ dd n0) : GK K Z te δ n Φ := fun B M G0 H0 xw G H σ E Q q =>
  h B M G0 H0 xw G H σ E Q fun v d G1 H1 n1 f1 E1 s1 a1 => by
    obtain ⟨p, o, dd, n0, rfl, rfl, hp, hf, f⟩ := f1
    cases a1
    obtain ⟨G2, s2, E2, i2⟩ := E1.mfrz (p := p) (o := o) Sto.put_same hf
    rw [Sto.off_put hp] at E2
    exact q _ dd G2 H1 n0 f E2 (s1.trans s2) i2
end
end Tl

namespace Tl
open PySem PySem.Spec PyProof.Rows L2 TL LamX
/-! ### sorted(xs) of alike data, any number of them -/
def rSortedD (K : PySem.W.Frag) : List V → Hp → VK → Prop := fun vs H Q => ∃ (a : Addr) (xs : List V) (ks : List PyData), vs = [V.ref a] ∧ SqL K H a xs ∧ DpAll K H xs ks ∧ ks.length = xs.length ∧ PySem.W.AllAlike ks ∧ PySem.W.Sortable ks ∧ (∀ d, d ∈ ks → d.depth ≤ 50) ∧
  ∀ p : Addr, H p = none → Q (.ref p) (upd H p (.lst (keyed xs ks)))
theorem eachR_keeps {h h' : Heap} (k : ∀ b o, h.get? b = some o → h'.get? b = some o) : ∀ {vs : List Value} {ks : List PyData}, PySem.W.EachIs (fun v k => ∃ as, Reads h v k as) vs ks → PySem.W.EachIs (fun v k => ∃ as, Reads h' v k as) vs ks
  | _, _, .nil => .nil
  | _, _, .cons ⟨as, r⟩ t => .cons ⟨as, PyProof.Rows.Reads.keeps k r⟩ (eachR_keeps k t)
theorem cr_sortedD {X : Cx} {K : PySem.W.Frag} (hK : X.K = K) (hu : X.A.units + 64 < cLine) : CallR X (.builtin "sorted") (rSortedD K) := by
  subst hK
  intro pins s σ H vs us Q I r h
  obtain ⟨a, xs, ks, rfl, hs, dp, hlen, hal, hso, hdp, q⟩ := h
  obtain ⟨its, rv, hl, hz⟩ := I.list hs
  rw [Vals.ref1 r]
  have hk := dpAll_each I dp rv
  have hxl : xs.length = its.length := L2.Vals.length rv
  have hk2 := eachR_keeps (h' := PySem.W.sortingHeap (PySem.W.copyHeap s.heap its) (s.heap.objs.size + 1) its) (fun b o e => PySem.W.sorting_copy_old e) hk
  refine PySem.W.sorted_vals hl.isList (PySem.W.SortsAt.data (s := { s with heap := PySem.W.sortingHeap (PySem.W.copyHeap s.heap its) (s.heap.objs.size + 1) its }) hk2 hal hso fun d hd => ?_) (by rw [← hxl]; exact hz) ?_
  · have := hdp d hd
    show X.A.units + 1 + 1 + d.depth < cLine
    omega
  have hb : (xs.zip ks).map Prod.snd = ks := List.map_snd_zip (by omega)
  have ko : PySem.W.KeyedOut false ((xs.zip ks).map Prod.snd) its (PySem.W.sortVals (PySem.W.dataKind (PySem.W.sortingHeap (PySem.W.copyHeap s.heap its) (s.heap.objs.size + 1) its) ks) false its its) := by
    rw [hb]
    exact ⟨_, its, hal, rfl, hk2⟩
  have hv : Vals (keyed xs ks) (PySem.W.sortVals (PySem.W.dataKind (PySem.W.sortingHeap (PySem.W.copyHeap s.heap its) (s.heap.objs.size + 1) its) ks) false its its) := vals_each (PySem.W.keyedOut_each Prod.snd ko (each_zip rv hlen))
  obtain ⟨ep, he'⟩ := PyProof.Rows.sortedAll_at s.heap its (PySem.W.sortVals (PySem.W.dataKind (PySem.W.sortingHeap (PySem.W.copyHeap s.heap its) (s.heap.objs.size + 1) its) ks) false its its).toArray
  exact ⟨.ref _, upd H (s.heap.objs.size + 1) (.lst (keyed xs ks)), I.laid (t' := s.toks) (fun _ _ => PyProof.Rows.sortedAll_old) (Nat.le_succ _) ⟨by rw [keyed_len hlen]; exact hz, _, ep, hv, he'⟩, rfl, q _ (I.hok.fresh (Nat.le_succ _))⟩
section
variable [Tabl] {K : PySem.W.Frag} {Z : XZ} {δ : List Slot} {n : Sto} {Φ : D → Sto → Prop}
theorem rc_sortD {m : Nat} {ds : List D} (hm : m ≤ 50) (hs : ∀ x ∈ ds, Shp m x) (hal : PySem.W.AllAlike (ds.map toP)) (hso : PySem.W.Sortable (ds.map toP)) (k : Φ (.lst (keyedD ds (ds.map toP))) n) : RC K Z (rSortedD K) [.lst ds] δ n Φ := fun B M G0 H0 xw G H σ E vs a Q q => by
  cases a with
  | cons a r =>
    cases r
    cases a with
    | @lst p xs _ h1 a1 =>
      refine ⟨p, xs, ds.map toP, rfl, SqL.of (E.sub _ _ h1), a1.dpD E.sub hs, by rw [List.length_map, a1.len], hal, hso, fun d hd => ?_, fun p' hp' => ?_⟩
      · obtain ⟨x, hx, rfl⟩ := List.mem_map.mp hd
        exact Nat.le_trans (hs x hx).ok.2 hm
      · have s2 : ∀ o, Sub G (upd G p' o) := fun o => Sub.new (E.sub.none hp')
        exact q _ _ _ _ n k (E.laid hp') (s2 _) (.lst upd_same ((isAll_keyed a1).mono (s2 _)))
end
/-! texts -/
def leS (x y : Str) : Bool := !decide (tl y < tl x)
theorem leS_trans (x y z : Str) (h1 : leS x y = true) (h2 : leS y z = true) : leS x z = true := by
  unfold leS at *
  rw [Bool.not_eq_true', decide_eq_false_iff_not] at *
  intro h
  rcases lt_tri' (tl y) (tl x) with g | g | g
  · exact h1 g
  · rw [g] at h2
    exact h2 h
  · exact h2 (List.lt_trans h g)
theorem leS_total (x y : Str) : (leS x y || leS y x) = true := by
  unfold leS
  by_cases h : tl y < tl x
  · have := List.lt_asymm h
    simp [h, this]
  · simp [h]
theorem leS_data (x y : Str) : PySem.W.dataLe false (Prod.snd : D × PyData → PyData) (.str x, toP (.str x)) (.str y, toP (.str y)) = leS x y := by
  show (!PyProof.Rows.lexLt PyProof.Rows.itemOrd (PySem.W.keyToks (toP (.str y))) (PySem.W.keyToks (toP (.str x)))) = _
  have e : ∀ z : Str, PySem.W.keyToks (toP (.str z)) = [.inr (tl z)] := fun z => by simp [toP, PySem.W.keyToks, tl]
  rw [e, e]
  unfold leS
  have str_blt : ∀ u v : List Nat, PyProof.Rows.itemLt (.inr u) (.inr v) = decide (u < v) := fun u v => rfl
  simp only [PyProof.Rows.lexLt, str_blt]
  generalize tl x = u
  generalize tl y = v
  rcases lt_tri' v u with g | g | g
  · simp [g]
  · subst g
    simp
  · have := List.lt_asymm g
    simp [g, this]
def srtS (zs : List Str) : List Str := zs.mergeSort leS
theorem keyedD_str (zs : List Str) : keyedD (zs.map D.str) ((zs.map D.str).map toP) = (srtS zs).map D.str := by
  unfold keyedD srtS
  have e : (zs.map D.str).zip ((zs.map D.str).map toP) = zs.map fun x => (D.str x, toP (.str x)) := by
    rw [List.map_map]
    induction zs with
    | nil => rfl
    | cons x r ih =>
      rw [List.map_cons, List.map_cons, List.map_cons, List.zip_cons_cons, ih]
      rfl
  rw [e, ← PySem.W.sort_maps (r := leS) (fun x => (D.str x, toP (.str x))) fun a _ b _ => (leS_data a b).symm, List.map_map]
  rfl
theorem srtS_perm {zs : List Str} : (srtS zs).Perm zs := List.mergeSort_perm _ _
theorem srtS_one {xs ys : List Str} (h : xs.Perm ys) : srtS xs = srtS ys := by
  refine ((srtS_perm.trans h).trans srtS_perm.symm).eq_of_pairwise (fun a b _ _ h1 h2 => ?_) (List.pairwise_mergeSort leS_trans leS_total _) (List.pairwise_mergeSort leS_trans leS_total _)
  unfold leS at h1 h2
  rw [Bool.not_eq_true', decide_eq_false_iff_not] at h1 h2
  rcases lt_tri' (tl a) (tl b) with g | g | g
  · exact absurd g h2
  · exact ext_tl g
  · exact absurd g h1
section
variable [Tabl] {K : PySem.W.Frag} {Z : XZ} {δ : List Slot} {n : Sto} {Φ : D → Sto → Prop}
theorem rc_sortS {zs : List Str} (hc : ∀ z ∈ zs, ∀ c ∈ tl z, c < 1114112) (k : Φ (.lst ((srtS zs).map D.str)) n) : RC K Z (rSortedD K) [.lst (zs.map D.str)] δ n Φ := by
  refine rc_sortD (m := 1) (by decide) (fun x hx => ?_) (fun d hd d' hd' => ?_) (.inr fun d hd => ?_) (by rw [keyedD_str]; exact k)
  · obtain ⟨z, mz, rfl⟩ := List.mem_map.mp hx
    exact .str (hc z mz)
  · rw [List.map_map] at hd hd'
    obtain ⟨x, _, rfl⟩ := List.mem_map.mp hd
    obtain ⟨y, _, rfl⟩ := List.mem_map.mp hd'
    simp [toP, PySem.W.alike]
  · rw [List.map_map] at hd
    obtain ⟨x, _, rfl⟩ := List.mem_map.mp hd
    simp [toP]
end
end Tl

namespace Tl
open PySem PySem.Spec PyProof.Rows L2 TL LamX
/-! ### what a call tells anew, taken as data that stays; calls with defaults that may raise -/
section
variable [Tabl] {K : PySem.W.Frag} {Z : XZ} {δ : List Slot} {n : Sto} {Φ : D → Sto → Prop} {aa : TA}
theorem sc_thaw {sp : Sp} {xs : List D} (h : SC K Z sp xs δ n fun d n1 => ∃ p o dd n0, d = .ptr p ∧ n1 = Sto.put n0 p o ∧ n0.μ p = none ∧ o.frz = some dd ∧ Φ dd n0) : SC K Z sp xs δ n Φ := fun B M G0 H0 xw G H σ E vs a Q X q =>
  h B M G0 H0 xw G H σ E vs a Q X fun v d G1 H1 n1 f1 E1 s1 a1 => by
    obtain ⟨p, o, dd, n0, rfl, rfl, hp, hf, f⟩ := f1
    cases a1
    obtain ⟨G2, s2, E2, i2⟩ := E1.mfrz (p := p) (o := o) Sto.put_same hf
    rw [Sto.off_put hp] at E2
    exact q _ dd G2 H1 n0 f E2 (s1.trans s2) i2
theorem sx_thaw {sp : Sp} {xs : List D} (h : SX K Z sp xs δ n fun d n1 => ∃ p o dd n0, d = .ptr p ∧ n1 = Sto.put n0 p o ∧ n0.μ p = none ∧ o.frz = some dd ∧ Φ dd n0) : SX K Z sp xs δ n Φ := fun B M G0 H0 xw G H σ E vs a Q X xt q =>
  h B M G0 H0 xw G H σ E vs a Q X xt fun v d G1 H1 n1 f1 E1 s1 a1 => by
    obtain ⟨p, o, dd, n0, rfl, rfl, hp, hf, f⟩ := f1
    cases a1
    obtain ⟨G2, s2, E2, i2⟩ := E1.mfrz (p := p) (o := o) Sto.put_same hf
    rw [Sto.off_put hp] at E2
    exact q _ dd G2 H1 n0 f E2 (s1.trans s2) i2
theorem gk_dflX {sp : Sp} {E : XK} {ms : List V} (hm : sclAll ms = true) (he : ∀ σ, XTo Z σ E) (h : GA K Z aa δ n fun xs n1 => SX K Z sp (xs ++ ms.map ofV) δ n1 Φ) : GK K Z (tCall sp ms E aa) δ n Φ := fun B M G0 H0 xw G H σ En0 Q q =>
  h B M G0 H0 xw G H σ En0 _ fun vs xs G1 H1 n1 f1 E1 s1 a1 =>
    f1 B M G0 H0 xw G1 H1 σ E1 (vs ++ ms) (a1.app (IsAll.scl hm)) Q _ (he σ) fun u d G3 H3 n3 f3 E3 s3 a3 => q u d G3 H3 n3 f3 E3 (s1.trans s3) a3
theorem gk_dflS {sp : Sp} {E : L2.St → XK} {ms : List V} (hm : sclAll ms = true) (he : ∀ σ, XTo Z σ (E σ)) (h : GA K Z aa δ n fun xs n1 => SX K Z sp (xs ++ ms.map ofV) δ n1 Φ) : GK K Z (tCallSD sp ms E aa) δ n Φ := fun B M G0 H0 xw G H σ En0 Q q =>
  h B M G0 H0 xw G H σ En0 _ fun vs xs G1 H1 n1 f1 E1 s1 a1 =>
    f1 B M G0 H0 xw G1 H1 σ E1 (vs ++ ms) (a1.app (IsAll.scl hm)) Q _ (he σ) fun u d G3 H3 n3 f3 E3 s3 a3 => q u d G3 H3 n3 f3 E3 (s1.trans s3) a3
end
end Tl

namespace Tl
open PySem PySem.Spec PyProof.Rows L2 TL LamX
/-! ### x[i], y = .. and x[i], x[j] = .. of an owned list -/
section
variable [Tabl] {K : PySem.W.Frag} {Z : XZ} {B : Option Addr} {δ : List Slot} {n : Sto} {te ta tb : TE} {N Bk Ct : List Slot → Sto → Prop} {R : D → Sto → Prop}
theorem gs_unpSN {i m M : Nat} {xs : List D} (hM : M = 2) (hi : δ[i]? = some (.own xs)) (h : GK K Z te δ n fun d n1 => ∃ x y, d = .tup [x, y] ∧ GK K Z ta δ n1 fun k n2 => ∃ j : Nat, k = .int j ∧ j < xs.length ∧ N ((δ.set i (.own (xs.set j x))).set m (.d y)) n2) :
    GS K Z B (tAsg te (gTup K M (gCons (gSub (tVar i) ta rSetL) (gCons (gName m) gNil)))) δ n N R Bk Ct := fun m0 G0 H0 xw G H σ E e hn hr hb hc => by
  refine h B (MOf B m0 H0) G0 H0 xw G H σ e _ fun v d G1 H1 n1 f1 E1 s1 a1 => ?_
  obtain ⟨x, y, rfl, f1⟩ := f1
  cases a1 with
  | @tup p0 vs0 _ t1 at1 =>
    cases at1 with
    | @cons vx _ _ _ ax r =>
      cases r with
      | @cons vy _ _ _ ay r =>
        cases r
        refine ⟨p0, [vx, vy], rfl, E1.sub.seq t1, hM.symm, vx, [vy], rfl, ?_⟩
        obtain ⟨p, vs, e1, e2, a, gp, h0⟩ := E1.ownd hi
        refine ⟨_, e1, ?_⟩
        refine f1 B (MOf B m0 H0) G0 H0 xw G1 H1 σ E1 _ fun w k G2 H2 n2 f2 E2 s2 a2 => ?_
        obtain ⟨j, rfl, hj, f2⟩ := f2
        obtain ⟨q, ws, g1, g2, b, _⟩ := E2.ownd hi
        rw [e1] at g1
        have g1 : p = q := by injection (Option.some.inj (Option.some.inj g1))
        subst g1
        cases a2
        refine ⟨p, ws, (j : Int), j, rfl, rfl, g2, ?_, vy, [], rfl, rfl, hn _ _ G2 _ n2 f2 ((E2.chg hi e1 g2 (b.set (ax.mono s2) j)).set (s := .d y) ⟨vy, rfl, ay.mono s2⟩ fun _ z => nomatch z) (s1.trans s2)⟩
        unfold ixN
        rw [if_pos (by omega), if_pos (by rw [b.len]; omega)]
        rfl
theorem gs_unpSS {i M : Nat} {xs : List D} (hM : M = 2) (hi : δ[i]? = some (.own xs)) (h : GK K Z te δ n fun d n1 => ∃ x y, d = .tup [x, y] ∧ GK K Z ta δ n1 fun k n2 => ∃ j : Nat, k = .int j ∧ j < xs.length ∧ GK K Z tb (δ.set i (.own (xs.set j x))) n2 fun k' n3 => ∃ j' : Nat, k' = .int j' ∧ j' < xs.length ∧ N (δ.set i (.own ((xs.set j x).set j' y))) n3) :
    GS K Z B (tAsg te (gTup K M (gCons (gSub (tVar i) ta rSetL) (gCons (gSub (tVar i) tb rSetL) gNil)))) δ n N R Bk Ct := fun m0 G0 H0 xw G H σ E e hn hr hb hc => by
  refine h B (MOf B m0 H0) G0 H0 xw G H σ e _ fun v d G1 H1 n1 f1 E1 s1 a1 => ?_
  obtain ⟨x, y, rfl, f1⟩ := f1
  cases a1 with
  | @tup p0 vs0 _ t1 at1 =>
    cases at1 with
    | @cons vx _ _ _ ax r =>
      cases r with
      | @cons vy _ _ _ ay r =>
        cases r
        refine ⟨p0, [vx, vy], rfl, E1.sub.seq t1, hM.symm, vx, [vy], rfl, ?_⟩
        obtain ⟨p, vs, e1, e2, a, gp, h0⟩ := E1.ownd hi
        refine ⟨_, e1, ?_⟩
        refine f1 B (MOf B m0 H0) G0 H0 xw G1 H1 σ E1 _ fun w k G2 H2 n2 f2 E2 s2 a2 => ?_
        obtain ⟨j, rfl, hj, f2⟩ := f2
        obtain ⟨q, ws, g1, g2, b, _⟩ := E2.ownd hi
        rw [e1] at g1
        have g1 : p = q := by injection (Option.some.inj (Option.some.inj g1))
        subst g1
        cases a2
        have E3 := E2.chg hi e1 g2 (b.set (ax.mono s2) j)
        have hil : i < δ.length := (List.getElem?_eq_some_iff.mp hi).1
        have hi3 : (δ.set i (.own (xs.set j x)))[i]? = some (.own (xs.set j x)) := List.getElem?_set_self hil
        refine ⟨p, ws, (j : Int), j, rfl, rfl, g2, ?_, vy, [], rfl, _, e1, ?_⟩
        · unfold ixN
          rw [if_pos (by omega), if_pos (by rw [b.len]; omega)]
          rfl
        refine f2 B (MOf B m0 H0) G0 H0 xw G2 _ σ E3 _ fun w' k' G4 H4 n4 f4 E4 s4 a4 => ?_
        obtain ⟨j', rfl, hj', f4⟩ := f4
        obtain ⟨q, ws', g1, g4, b4, _⟩ := E4.ownd hi3
        rw [e1] at g1
        have g1 : p = q := by injection (Option.some.inj (Option.some.inj g1))
        subst g1
        cases a4
        have E5 := E4.chg hi3 e1 g4 (b4.set ((ay.mono s2).mono s4) j')
        rw [List.set_set] at E5
        refine ⟨p, ws', (j' : Int), j', rfl, rfl, g4, ?_, rfl, hn _ _ G4 _ n4 f4 E5 ((s1.trans s2).trans s4)⟩
        unfold ixN
        rw [if_pos (by omega), if_pos (by rw [b4.len, List.length_set]; omega)]
        rfl
end
end Tl
namespace Tl
open PySem PySem.Spec PyProof.Rows L2 TL LamX
section
variable {X : Cx}
/-- (i, x) < (j, y) -/
def rLtIS (K : PySem.W.Frag) : R2 := fun x y H Q => ∃ (a b : Addr) (i j : Int) (p q : Str), x = .ref a ∧ y = .ref b ∧ SqT K H a [.int i, .str p] ∧ SqT K H b [.int j, .str q] ∧ Q (.bl (kLt (i, p) (j, q))) H
theorem op_ltIS {K : PySem.W.Frag} (hK : X.K = K) (hu : X.A.units < cLine) : OpR X (compareOp .Lt) (rLtIS K) := by
  subst hK
  intro pins s σ H x y v u Q I rx ry h
  obtain ⟨a, b, i, j, x', y', rfl, rfl, ha, hb, q⟩ := h
  cases rx
  cases ry
  obtain ⟨its, r1, p1, _⟩ := I.tuple ha
  obtain ⟨its2, r2, p2, _⟩ := I.tuple hb
  obtain ⟨u1, u2, rfl, ⟨t1, rfl⟩, ⟨t2, rfl⟩⟩ := vals2 r1
  obtain ⟨w1, w2, rfl, ⟨t3, rfl⟩, ⟨t4, rfl⟩⟩ := vals2 r2
  have R := Ob.RcOp.tuples_lt (A := X.A) (s := s) (e := fun k => if k = 0 then (i == j) else (x' == y')) (r := fun k => if k = 0 then decide (i < j) else decide (tl x' < tl y')) p1 p2 hu (fun k h1 h2 => by
    match k, h1, h2 with
    | 0, _, _ => exact SeqAt.EqAt.int_int _ _ _ _
    | 1, _, _ => exact SeqAt.EqAt.str_str _ _ _ _) (fun k h1 h2 _ => by
    match k, h1, h2 with
    | 0, _, _ => exact Ob.RcOp.lt_int _ _ _ _
    | 1, _, _ => exact fun _ _ _ _ h => lt_str h)
  have e : Ob.lexAt (fun k => if k = 0 then (i == j) else (x' == y')) (fun k => if k = 0 then decide (i < j) else decide (tl x' < tl y')) (decide ((2 : Nat) < 2)) 0 2 = kLt (i, x') (j, y') := by
    simp only [Ob.lexAt]
    unfold kLt
    by_cases h1 : i = j
    · subst h1
      by_cases h2 : x' = y'
      · subst h2
        have : ¬ tl x' < tl x' := List.lt_irrefl _
        simp [this]
      · simp [h2]
    · have h2 : ¬ j = i := fun e => h1 e.symm
      simp [h1, h2]
  have R' : Ob.RcOp .Lt X.A s (.ref a) (.ref b) (kLt (i, x') (j, y')) := e ▸ R
  have z : wpAny (model X.prog X.w) X.A (compareOp .Lt (.ref a) (.ref b)) (EP X pins σ Q) X.xe s := R' X.prog X.w X.xe (EP X pins σ Q) ⟨.bl _, H, I, rfl, q⟩
  exact z
end
section
variable [Tabl] {K : PySem.W.Frag} {Z : XZ} {δ : List Slot} {n : Sto} {Φ : D → Sto → Prop}
theorem rk_ltIS {i j : Int} {x y : Str} (k : Φ (.bl (kLt (i, x) (j, y))) n) : RK K Z (rLtIS K) (.tup [.int i, .str x]) (.tup [.int j, .str y]) δ n Φ := fun B M G0 H0 xw G H σ E v w a b Q q => by
  cases a with
  | @tup p vs _ h1 a1 =>
    cases b with
    | @tup p' ws _ h2 a2 =>
      cases a1 with
      | cons c1 r1 =>
        cases r1 with
        | cons c2 r1 =>
          cases r1
          cases c1
          cases c2
          cases a2 with
          | cons c1 r1 =>
            cases r1 with
            | cons c2 r1 =>
              cases r1
              cases c1
              cases c2
              exact ⟨p, p', i, j, x, y, rfl, rfl, E.sub.seq h1, E.sub.seq h2, q _ _ G H n k E (Sub.refl G) (.bl _)⟩
end
end Tl

namespace Tl
open PySem PySem.Spec PyProof.Rows L2 TL LamX
/-! ### xs.remove(z) of texts; a new list told on as a pointer -/
def isStr (z : Str) : Value → Bool
  | .str x _ => tl x == tl z
  | _ => false
section
variable {X : Cx}
def rRemS : V → List V → Hp → VK → Prop := fun x xs H Q => ∃ (l : Addr) (zs : List Str) (z : Str) (j : Nat), x = .ref l ∧ xs = [.str z] ∧ H l = some (.lst (zs.map V.str)) ∧ zs[j]? = some z ∧ (∀ m : Nat, m < j → zs[m]? ≠ some z) ∧ Q .non (upd H l (.lst ((zs.eraseIdx j).map V.str)))
theorem str_at {zs : List Str} {us : List Value} (r : Vals (zs.map V.str) us) {m : Nat} {x : Str} (h : zs[m]? = some x) : ∃ t, us[m]? = some (.str x t) := by
  obtain ⟨u, hu, t, rfl⟩ := r.get (x := .str x) (by rw [List.getElem?_map, h]; rfl)
  exact ⟨t, hu⟩
theorem erase_strs : ∀ (l : List Str) (j : Nat), (l.map V.str).eraseIdx j = (l.eraseIdx j).map V.str
  | [], _ => rfl
  | _ :: _, 0 => rfl
  | a :: l, j + 1 => congrArg (V.str a :: ·) (erase_strs l j)
theorem mt_removeS : MtM X "list.remove" rRemS := by
  rintro pins s σ H x xs v us Q I rx rxs ⟨l, zs, z, j, rfl, rfl, hH, hj, hno, q⟩
  cases rx
  obtain ⟨u, rfl, t, rfl⟩ := rxs.one
  obtain ⟨zz, its, n, r, hl, e⟩ := I.lstM hH
  have hlen : its.length = zs.length := by rw [← r.length, List.length_map]
  have hjn : j < zs.length := (List.getElem?_eq_some_iff.mp hj).1
  have get : ∀ (m : Nat) (hm : m < its.toArray.size) (w : Str), zs[m]? = some w → ∃ t', its.toArray[m] = .str w t' := fun m hm w hw => by
    obtain ⟨t', ht'⟩ := str_at r hw
    exact ⟨t', by simpa using (List.getElem?_eq_some_iff.mp ht').2⟩
  refine call_meets PySem.F.slot_list_remove ⟨_, e, rfl⟩ PySem.F.entry_list_remove (PySem.F.args_list_remove_2 _ _) (MeetsSeq.list_remove l its.toArray n (.str z t) (isStr z) (fun y hy => ?_) j (by rw [List.size_toArray, hlen]; exact hjn) ?_ ?_ ?_) ⟨e, ?_⟩
  · obtain ⟨m, hm, rfl⟩ := List.getElem_of_mem (show y ∈ its by simpa using hy)
    obtain ⟨w, hw⟩ : ∃ w, zs[m]? = some w := ⟨_, List.getElem?_eq_getElem (by omega)⟩
    obtain ⟨t', ht'⟩ := str_at r hw
    rw [(List.getElem?_eq_some_iff.mp ht').2]
    exact SeqRoads2.EqGives.str w z t' t
  · obtain ⟨t', ht'⟩ := get j (by rw [List.size_toArray, hlen]; exact hjn) z hj
    rw [ht']
    exact beq_self_eq_true (tl z)
  · intro m hm hmj
    obtain ⟨w, hw⟩ : ∃ w, zs[m]? = some w := ⟨_, List.getElem?_eq_getElem (by omega)⟩
    obtain ⟨t', ht'⟩ := get m hm w hw
    rw [ht']
    refine beq_eq_false_iff_ne.mpr fun e2 => hno m hmj ?_
    rw [hw, ext_tl e2]
  · rw [List.size_toArray]
    rw [List.length_map] at zz hl
    omega
  · have rr := r.eraseIdx j
    rw [erase_strs] at rr
    refine ⟨.non, _, I.lset (its' := its.eraseIdx j) (t' := s.toks) hH e ?_ rr ?_, rfl, q⟩
    · show its.toArray.eraseIdxIfInBounds j = _
      rw [List.eraseIdxIfInBounds_toArray]
    · rw [List.length_map, List.length_eraseIdx]
      rw [List.length_map] at zz
      split <;> omega
end
section
variable [Tabl] {K : PySem.W.Frag} {Z : XZ} {B : Option Addr} {δ : List Slot} {n : Sto} {Φ : D → Sto → Prop} {te : TE} {aa : TA} {ts : TS} {N Bk Ct : List Slot → Sto → Prop} {R : D → Sto → Prop}
theorem IsAll.ofStrs {G : Hp} : ∀ {zs : List Str}, IsAll K G (zs.map V.str) (zs.map D.str)
  | [] => .nil
  | z :: zs => .cons (.str z) IsAll.ofStrs
theorem gs_remS {i : Nat} {zs : List Str} (hi : δ[i]? = some (.own (zs.map D.str))) (h : GK K Z te δ n fun d n1 => ∃ z j, d = .str z ∧ zs[j]? = some z ∧ (∀ m : Nat, m < j → zs[m]? ≠ some z) ∧ N (δ.set i (.own ((zs.eraseIdx j).map D.str))) n1) : GS K Z B (tDrop (tBM K "list" rRemS (tVar i) (tCons te tNil))) δ n N R Bk Ct := fun m0 G0 H0 xw G H σ E e hn hr hb hc => by
  obtain ⟨p, vs, e1, e2, a, gp, h0⟩ := e.ownd hi
  refine ⟨_, e1, .inl ⟨rfl, _, SqL.of e2⟩, ?_⟩
  refine h B (MOf B m0 H0) G0 H0 xw G H σ e _ fun v d G1 H1 n1 f1 E1 s1 a1 => ?_
  obtain ⟨z, j, rfl, hj, hno, f1⟩ := f1
  obtain ⟨q, ws, g1, g2, b, _⟩ := E1.ownd hi
  rw [e1] at g1
  have g1 : p = q := by injection (Option.some.inj (Option.some.inj g1))
  subst g1
  cases a1
  have ew := b.toStrs
  subst ew
  exact ⟨p, zs, z, j, rfl, rfl, g2, hj, hno, hn _ _ G1 _ n1 f1 (E1.chg hi e1 g2 IsAll.ofStrs) s1⟩
theorem gs_monoN {N' : List Slot → Sto → Prop} (h : GS K Z B ts δ n N' R Bk Ct) (m : ∀ δ n, N' δ n → N δ n) : GS K Z B ts δ n N R Bk Ct := fun m0 G0 H0 xw G H σ E e hn hr hb hc =>
  h m0 G0 H0 xw G H σ E e (fun σ' δ' G' H' n' x => hn σ' δ' G' H' n' (m _ _ x)) hr hb hc
theorem gk_weak {Ψ : D → Sto → Prop} (h : GK K Z te δ n Ψ) (m : ∀ d n', Ψ d n' → Φ d n') : GK K Z te δ n Φ := fun B M G0 H0 xw G H σ E Q q => h B M G0 H0 xw G H σ E Q fun v d G' H' n' f => q v d G' H' n' (m d n' f)
theorem gk_newL (h : GA K Z aa δ n fun ds n1 => ds.length ≤ 100000 ∧ ∀ p, n1.μ p = none → Φ (.ptr p) (n1.put p (.lst ds))) : GK K Z (tLst aa) δ n Φ := fun B M G0 H0 xw G H σ E Q q =>
  h B M G0 H0 xw G H σ E _ fun vs ds G1 H1 n1 f1 E1 s1 a1 => ⟨by rw [a1.len]; exact sz_ f1.1, fun p hp => q _ _ G1 _ _ (f1.2 p (E1.nomob hp)) (E1.mnew hp ⟨vs, upd_same, a1⟩) s1 (.ptr p)⟩
theorem gs_takeO {i : Nat} {p : Addr} {o : MO} (hi : δ[i]? = some (.d (.ptr p))) (np : n.μ p = none) (h : GS K Z B ts (δ.set i (.ow o)) n N R Bk Ct) : GS K Z B ts δ (n.put p o) N R Bk Ct := fun m0 G0 H0 xw G H σ D e hn hr hb hc => by
  obtain ⟨v, e1, a⟩ := e.slot i _ hi
  cases a
  have e1 := look_some e1
  have e2 := e.setO (i := i) np
  have e3 : σ.set i (some (.ref p)) = σ := by
    obtain ⟨hl, he⟩ := List.getElem?_eq_some_iff.mp e1
    rw [← he]
    exact List.set_getElem_self hl
  rw [e3] at e2
  exact h m0 G0 H0 xw G H σ D e2 hn hr hb hc
end
end Tl

namespace Tl
open PySem PySem.Spec PyProof.Rows L2 TL LamX
/-! ### try: .. with several clauses, each of them naming what it caught -/
abbrev Cl := Value × (Addr → Value → Option Addr → TS)
def wCls (K : PySem.W.Frag) (i : Nat) (Wo : WX) (D : Ends) : List Cl → WX
  | [] => Wo
  | (c, ts) :: r => wAs K c i ts (wCls K i Wo D r) D
inductive ClsOk (X : Cx) (n : Str) : List ExceptHandler → List Cl → Prop
  | nil : ClsOk X n [] []
  | cons {x : Str} {c : Value} {ts : Addr → Value → Option Addr → TS} {s0 : Stmt} {su : List Stmt} {px pc : Pos} {hl : List ExceptHandler} {l : List Cl} (nm : Names X x c)
      (ok : ∀ (a : Addr) (ob : Obj) (k : Value) (d : Option Addr) (ps : List (Addr × Obj)), Zc k d ob → (∃ fs, ob.data = .fields fs) → PSs (X.suite a ((a, ob) :: ps)) (s0 :: su) (ts a k d))
      (r : ClsOk X n hl l) : ClsOk X n (.ExceptHandler (some (.Name x px)) (some n) (s0 :: su) pc :: hl) ((c, ts) :: l)
section
variable {X : Cx} {body : List Stmt} {h1 : ExceptHandler} {hl : List ExceptHandler} {l : List Cl} {n : Str} {i : Nat} {pos : Pos} {tb : WX → TS} {Wo : WX}
theorem ps_tryCls (hst : X.stack = X.env :: X.outer) (hfm : X.env.frame = some X.env.locals) (hN : X.N.Nodup) (hi : X.N[i]? = some n) (hn : X.env.kindOf n = some .local) (tk : Takes X Wo)
    (hb : ∀ (W : WX) (ps : List (Addr × Obj)) (xe : Value → Shared → Prop), Takes (X.tr ps xe) W → PassesOwn (model X.prog X.w) X.A X.env xe → PSs (X.tr ps xe) body (tb W)) (hc : ClsOk X n (h1 :: hl) l) :
    PS X (.Try body (h1 :: hl) [] [] pos) (fun D σ H => tb (wCls X.K i Wo D l) D σ H) := ⟨fun pins s σ H D I h => by
  have iok := I.ok
  have frm : X.A.frames = some (X.env :: X.outer) := iok.frames.trans (congrArg some hst)
  refine wpAny_Try_except (wpAny_mono ((hb (wCls X.K i Wo D l) (X.pn ++ pins) (fun ex t => wpAny (model X.prog X.w) X.A (noteFrame ex X.env) (fun _ t2 => wpAny (model X.prog X.w) X.A (setFlight ex none) (fun _ t3 => wpAny (model X.prog X.w) X.A (handleBy ex X.env (h1 :: hl)) (SP X pins D) X.xe t3) X.xe t2) X.xe t) (fun u t hx => ?_) PassesOwn.looking).run [] s σ H D (I.toTry _) h) (fun fw t hs => ?_) fun _ _ z => z)
  rotate_left
  · cases fw with
    | next => obtain ⟨a1, a2, a3, a4⟩ := hs; exact wpAny_execs_nil ⟨a1, a2, a3.ofTry iok, a4⟩
    | brk => obtain ⟨a1, a2, a3, a4⟩ := hs; exact ⟨a1, a2, a3.ofTry iok, a4⟩
    | cont => obtain ⟨a1, a2, a3, a4⟩ := hs; exact ⟨a1, a2, a3.ofTry iok, a4⟩
    | ret u => obtain ⟨a0, a1, a2, a3, a4, a5⟩ := hs; exact ⟨a0, a1, a2, a3.ofTry iok, a4, a5⟩
  obtain ⟨a, Bd, s0, ps', σ1, H1, k, d, rfl, j0, nb, up, sk, na, os, ag, wq⟩ := hx
  have j1 : Inv X pins σ1 H1 s0 := j0.ofTry iok
  have sk1 : Sky Bd (X.env :: X.outer) a (Zc k d) X.env.locals t.heap := hst ▸ sk
  show wpAny (model X.prog X.w) X.A (noteFrame (.ref a) X.env) _ _ _
  refine Sky.land Zc.steady frm hfm sk1 fun hp fl up1 => ?_
  have j2 : Inv X pins σ1 H1 { t with heap := hp } := j1.landed nb fl.1 (up.trans up1) os ag
  obtain ⟨ob, fs, hob, hz, hfs⟩ := fl.there
  have nfr : a ∉ frs (X.env :: X.outer) := fun hm => by
    obtain ⟨_, o', e', nf⟩ := fl.2.2.1.mem hm
    cases hob.symm.trans e'
    exact nf _ hfs
  have nL : a ≠ X.env.locals := fun z => nfr (List.mem_filterMap.mpr ⟨X.env, .head _, hfm.trans (congrArg some z.symm)⟩)
  have nF : a ∉ X.fs := fun hm => nfr (by
    obtain ⟨e0, m0, q0⟩ := List.mem_filterMap.mp hm
    exact List.mem_filterMap.mpr ⟨e0, .tail _ m0, q0⟩)
  have su2 := j2.suite hob hfs na nL nF
  have all : ∀ {hs : List ExceptHandler} {ls : List Cl}, ClsOk X n hs ls → wCls X.K i Wo D ls k d σ1 H1 → wpAny (model X.prog X.w) X.A (handleBy (.ref a) X.env hs) (SP X pins D) X.xe { t with heap := hp } := by
    intro hs ls ck
    induction ck with
    | nil =>
      intro w
      obtain ⟨_, _, _, o1, v1, T1, _, _, g1, _, g2, g3, _⟩ := id fl
      refine wpAny_handleBy_nil ?_
      unfold PySem.passOn
      refine wpAny_bind (wpAny_field g1 g2 g3 ?_)
      rw [if_neg (by simp : ¬ (Value.ref T1 == Value.none) = true)]
      have last : wpAny (model X.prog X.w) X.A (setFlight (.ref a) X.env.frame) (fun _ t4 => wpAny (model X.prog X.w) X.A (throw (.ref a) : Sem Flow) (SP X pins D) X.xe t4) X.xe { t with heap := hp } := by
        rw [hfm]
        exact HandSPX.setFlight_upZ fl fun h4 q4 up4 => wpAny_throw (tk _ _ ⟨a, Bd, s0, pins, σ1, H1, k, d, rfl, j1, nb, (up.trans up1).trans up4, .inr (.inr (hst ▸ q4)), na, os, ag, w⟩)
      first
        | exact wpAny_bind (wpAny_pure (wpAny_bind last))
        | exact wpAny_bind last
    | @cons x c ts b0 su px pc hr lr nm ok _ ih =>
      rintro ⟨b, eb, yes, no⟩
      refine wpAny_handleBy_cons (codeAny_handlers_test ?_) (fun q => nomatch q)
      have look : PySem.W.Looks (model X.prog X.w) hp (typeOf (.ref a)) k := fun _ _ _ _ kk q => wpAny_typeOf_ref (kk _ _ hob) (hz.1 ▸ q)
      have hit := PySem.W.exm_one (M := model X.prog X.w) j2.kIn look eb
      have named : ∀ {Q : Value → Shared → Prop} {E : Value → Shared → Prop}, Q c { t with heap := hp } → wpAny (model X.prog X.w) (X.A.mark (some (.ref a))) (eval (.Name x px) X.env) Q E { t with heap := hp } := fun {Q E} q =>
        match nm with
        | ⟨z1, z2, .inl z3⟩ => ld_glob (X := X.suite a ((a, ob) :: (X.pn ++ pins))) su2 z1 z3 q z2
        | ⟨z1, z2, .inr ⟨z3, z4, z5⟩⟩ => ld_blt (X := X.suite a ((a, ob) :: (X.pn ++ pins))) su2 z1 z3 z4 q z5 z2
      refine named (hit.here ?_)
      cases b with
      | false => exact ih (no rfl)
      | true =>
        refine codeAny_handlers_suite_as (HandSPX.lands_againZ fl fun h4 fl4 up4 => ?_)
        obtain ⟨ob4, _, hob4, hz4, hfs4⟩ := fl4.there
        have j4 : Inv X pins σ1 H1 { t with heap := h4 } := j1.landed nb fl4.1 ((up.trans up1).trans up4) os ag
        refine store_ok (X := X.suite a ((a, ob4) :: (X.pn ++ pins))) (v := .ref a) (j4.suite hob4 hfs4 na nL nF) hN hi (.inl hn) rfl (fun s5 j5 => ?_) (.inr hn)
        refine wpAny_mono ((ok a ob4 k d (X.pn ++ pins) hz4 ⟨_, hfs4⟩).run [] s5 _ H1 _ j5 (yes rfl a na)) (fun fw s6 hs6 => ?_) (fun _ _ z => z.elim)
        have off : ∀ {σ6 : L2.St} {H6 : Hp} {Q : Shared → Prop}, Inv (X.suite a ((a, ob4) :: (X.pn ++ pins))) [] σ6 H6 s6 → (∀ s7, Inv X pins (σ6.set i none) H6 s7 → Q s7) → wpAny (model X.prog X.w) X.A (do bindName X.env n .none; unbindBehindTheSuite X.env n pc) (fun _ s7 => Q s7) X.xe s6 := fun {σ6 H6 Q} j6 hq => gone_ok (j6.unsuite iok) hN hi hn hq
        cases fw with
        | next => obtain ⟨b1, b2, b3, b4⟩ := hs6; exact off b3 fun _ j7 => ⟨_, _, j7, b4⟩
        | brk => obtain ⟨b1, b2, b3, b4⟩ := hs6; exact off b3 fun _ j7 => ⟨_, _, j7, b4⟩
        | cont => obtain ⟨b1, b2, b3, b4⟩ := hs6; exact off b3 fun _ j7 => ⟨_, _, j7, b4⟩
        | ret u => obtain ⟨b0, b1, b2, b3, b4, b5⟩ := hs6; exact off b3 fun _ j7 => ⟨_, _, _, j7, b4, b5⟩
  exact all hc wq⟩
end
end Tl
namespace Tl
open PySem PySem.Spec PyProof.Rows L2 TL LamX
section
variable [Tabl] {K : PySem.W.Frag} {Z : XZ} {B : Option Addr} {δ : List Slot} {n : Sto} {N Bk Ct : List Slot → Sto → Prop} {R : D → Sto → Prop}
/-- the clause that takes it -/
def ClsG (K : PySem.W.Frag) (Z : XZ) (B : Option Addr) (i : Nat) (e : Exn) (δ : List Slot) (n : Sto) (N : List Slot → Sto → Prop) (R : D → Sto → Prop) (Bk Ct : List Slot → Sto → Prop) : List Cl → Prop
  | [] => False
  | (c, ts) :: r => (PySem.W.exmOne K e.cls c = some true ∧ ∀ a d, GS K Z B (ts a e.cls d) (δ.set i (.exn a d e.fs)) n (fun δ2 n2 => N (δ2.set i .un) n2) R (fun δ2 n2 => Bk (δ2.set i .un) n2) (fun δ2 n2 => Ct (δ2.set i .un) n2)) ∨
    (PySem.W.exmOne K e.cls c = some false ∧ ClsG K Z B i e δ n N R Bk Ct r)
theorem gs_tryCls {l : List Cl} {i : Nat} {Wo : WX} {tb : WX → TS} (XT : Exn → List Slot → Sto → Prop) (hb : ∀ W, GS K ⟨W, XT⟩ B (tb W) δ n N R Bk Ct) (hx : ∀ e δ' n', XT e δ' n' → ClsG K Z B i e δ' n' N R Bk Ct l) :
    GS K Z B (fun D σ H => tb (wCls K i Wo D l) D σ H) δ n N R Bk Ct := fun m0 G0 H0 xw G H σ D E hn hr hbk hc => by
  have em := E.mOf
  have E1 : En K B (MOf B (mOfM (MOf B m0 H0)) H) n G H G H σ δ := by
    rw [em]
    exact E.anew
  refine hb (wCls K i Wo D l) (mOfM (MOf B m0 H0)) G H (fun e d σ' δ' G' H' n' hX e' xi => ?_) G H σ D E1 (fun σ' δ' G' H' n' h e' s' => hn σ' δ' G' H' n' h (E.old (em ▸ e')) s') (fun v d G' H' n' h eo a => hr v d G' H' n' h (Eo.old E eo) a) (fun σ' δ' G' H' n' h e' s' => hbk σ' δ' G' H' n' h (E.old (em ▸ e')) s') (fun σ' δ' G' H' n' h e' s' => hc σ' δ' G' H' n' h (E.old (em ▸ e')) s')
  rw [em] at e'
  have s0 : Sub G G' := e'.sub0
  have go : ∀ l : List Cl, ClsG K Z B i e δ' n' N R Bk Ct l → wCls K i Wo D l e.cls d σ' H' := by
    intro l
    induction l with
    | nil => exact fun z => z.elim
    | cons p r ih =>
      obtain ⟨c, ts⟩ := p
      intro z
      rcases z with ⟨b1, b2⟩ | ⟨b1, b2⟩
      · refine ⟨true, b1, fun _ a ha => ?_, fun z => nomatch z⟩
        refine b2 a d m0 G0 H0 xw G' H' _ _ ((E.old e').set (s := .exn a d e.fs) ⟨rfl, xi⟩ fun _ z => nomatch z) (fun σ2 δ2 G2 H2 n2 h e2 s2 => ?_) hr (fun σ2 δ2 G2 H2 n2 h e2 s2 => ?_) (fun σ2 δ2 G2 H2 n2 h e2 s2 => ?_)
        · exact hn _ _ G2 H2 n2 h (e2.set (s := .un) (o := none) trivial fun _ z => nomatch z) (s0.trans s2)
        · exact hbk _ _ G2 H2 n2 h (e2.set (s := .un) (o := none) trivial fun _ z => nomatch z) (s0.trans s2)
        · exact hc _ _ G2 H2 n2 h (e2.set (s := .un) (o := none) trivial fun _ z => nomatch z) (s0.trans s2)
      · exact ⟨false, b1, (fun z => nomatch z), fun _ => ih b2⟩
  exact go l (hx e δ' n' hX)
/-- isinstance(x, c) of a caught exception -/
theorem gk_isX {Φ : D → Sto → Prop} {i : Nat} {a C : Addr} {d : Option Addr} {c : String} {fs : List (Str × D)} {b : Bool} (hi : δ[i]? = some (.exn a d fs)) (hk : PySem.W.kitOne K (.ref C) (.type c) = some b) (k : Φ (.bl b) n) : GK K Z (tCB (rIsX K C a (.ref C) d) (tCons (tVar i) (tCons (tC (.ty c)) tNil))) δ n Φ := fun B M G0 H0 xw G H σ E Q q => by
  obtain ⟨e1, xi⟩ := E.slot i _ hi
  have xd : XdAt H d := by
    rcases xi with ⟨rfl, _⟩ | ⟨dd, vs, rfl, h2, _⟩
    · exact .inl rfl
    · exact .inr ⟨dd, vs, rfl, E.sub _ _ h2⟩
  exact ⟨.ref a, look_some e1, _, _, b, rfl, rfl, .ty _, hk, xd, q _ _ G H n k E (Sub.refl G) (.bl b)⟩
end
end Tl

namespace Tl
open PySem PySem.Spec PyProof.Rows L2 TL LamX
/-! ### instances in the store: fields, methods, making -/
def putFD (f : Str) (d : D) : List (Str × D) → List (Str × D)
  | [] => [(f, d)]
  | (g, x) :: r => if g = f then (g, d) :: r else (g, x) :: putFD f d r
section
variable {K : PySem.W.Frag}
theorem IsFs.look {G : Hp} {f : Str} {x : D} : ∀ {vs : List (Str × V)} {fs : List (Str × D)}, IsFs K G vs fs → fs.lookup f = some x → ∃ v, vs.lookup f = some v ∧ Is K G v x
  | _, _, .nil, h => nomatch h
  | _, _, .cons (f := g) (x := v) a r, h => by
    rw [List.lookup_cons] at h ⊢
    cases q : f == g with
    | true =>
      rw [q] at h
      cases h
      exact ⟨v, rfl, a⟩
    | false =>
      rw [q] at h
      exact r.look h
theorem IsFs.look0 {G : Hp} {f : Str} : ∀ {vs : List (Str × V)} {fs : List (Str × D)}, IsFs K G vs fs → fs.lookup f = none → vs.lookup f = none
  | _, _, .nil, _ => rfl
  | _, _, .cons (f := g) a r, h => by
    rw [List.lookup_cons] at h ⊢
    cases q : f == g with
    | true => rw [q] at h; cases h
    | false =>
      rw [q] at h
      exact r.look0 h
theorem IsFs.len {G : Hp} : ∀ {vs : List (Str × V)} {fs : List (Str × D)}, IsFs K G vs fs → vs.length = fs.length
  | _, _, .nil => rfl
  | _, _, .cons _ r => congrArg (· + 1) r.len
theorem IsFs.putF {G : Hp} {f : Str} {v : V} {d : D} (a : Is K G v d) : ∀ {vs : List (Str × V)} {fs : List (Str × D)}, IsFs K G vs fs → IsFs K G (L2.putF f v vs) (putFD f d fs)
  | _, _, .nil => .cons a .nil
  | _, _, .cons (f := g) b r => by
    unfold L2.putF putFD
    by_cases e : g = f
    · rw [if_pos e, if_pos e]
      exact .cons a r
    · rw [if_neg e, if_neg e]
      exact .cons b (r.putF a)
end
section
variable [Tabl] {K : PySem.W.Frag} {Z : XZ} {B : Option Addr} {δ : List Slot} {n : Sto} {Φ : D → Sto → Prop} {ta tv : TE} {aa : TA} {N Bk Ct : List Slot → Sto → Prop} {R : D → Sto → Prop}
/-- x.f -/
theorem gk_fld {f : Str} (h : GK K Z ta δ n fun d n1 => ∃ p C dx fs x, d = .ptr p ∧ n1.μ p = some (.ins C dx fs) ∧ L2.Cls K C ∧ L2.NoAttr K C f ∧ fs.lookup f = some x ∧ Φ x n1) : GK K Z (tFld K ta f) δ n Φ := fun B M G0 H0 xw G H σ E Q q =>
  h B M G0 H0 xw G H σ E _ fun v d G1 H1 n1 f1 E1 s1 a1 => by
    obtain ⟨p, C, dx, fs, x, rfl, hp, hc, hn, hl, f1⟩ := f1
    cases a1
    obtain ⟨⟨vs, e1, e2⟩, _⟩ := E1.mob p _ hp
    obtain ⟨v, hv, a⟩ := e2.look hl
    exact ⟨p, C, dx, vs, v, rfl, e1, hc, hn, hv, q v x G1 H1 n1 f1 E1 s1 a⟩
/-- x.f = e -/
theorem gs_fld {f : Str} (h : GK K Z tv δ n fun y n1 => GK K Z ta δ n1 fun d n2 => ∃ p C dx fs, d = .ptr p ∧ n2.μ p = some (.ins C dx fs) ∧ L2.Cls K C ∧ L2.NoAttr K C f ∧ fs.length < 1000 ∧ N δ (n2.put p (.ins C dx (putFD f y fs)))) : GS K Z B (sFld K ta tv f) δ n N R Bk Ct := fun m0 G0 H0 xw G H σ E e hn hr hb hc =>
  h B (MOf B m0 H0) G0 H0 xw G H σ e _ fun y d1 G1 H1 n1 f1 E1 s1 a1 =>
    f1 B (MOf B m0 H0) G0 H0 xw G1 H1 σ E1 _ fun v d G2 H2 n2 f2 E2 s2 a2 => by
      obtain ⟨p, C, dx, fs, rfl, hp, hc1, hn1, hl, f2⟩ := f2
      cases a2
      obtain ⟨⟨vs, e1, e2⟩, _⟩ := E2.mob p _ hp
      exact ⟨p, C, dx, vs, rfl, e1, hc1, hn1, by rw [e2.len]; exact hl, hn _ _ G2 _ _ f2 (E2.mchg hp ⟨_, upd_same, e2.putF (a1.mono s2)⟩) (s1.trans s2)⟩
/-- x.f op= e -/
theorem gs_fldAug {f : Str} {rd : V → V → Hp → VK → Prop} (h : GK K Z ta δ n fun d n1 => ∃ p C dx fs x, d = .ptr p ∧ n1.μ p = some (.ins C dx fs) ∧ L2.Cls K C ∧ L2.NoAttr K C f ∧ fs.lookup f = some x ∧
    GK K Z tv δ n1 fun y n2 => RK K Z rd x y δ n2 fun z n3 => ∃ fs', n3.μ p = some (.ins C dx fs') ∧ fs'.length < 1000 ∧ N δ (n3.put p (.ins C dx (putFD f z fs')))) : GS K Z B (sFldAug K ta tv rd f) δ n N R Bk Ct := fun m0 G0 H0 xw G H σ E e hn hr hb hc =>
  h B (MOf B m0 H0) G0 H0 xw G H σ e _ fun v d G1 H1 n1 f1 E1 s1 a1 => by
    obtain ⟨p, C, dx, fs, x, rfl, hp, hc1, hn1, hl, f1⟩ := f1
    cases a1
    obtain ⟨⟨vs, e1, e2⟩, _⟩ := E1.mob p _ hp
    obtain ⟨v, hv, a⟩ := e2.look hl
    refine ⟨p, C, dx, vs, v, rfl, e1, hc1, hn1, hv, ?_⟩
    refine f1 B (MOf B m0 H0) G0 H0 xw G1 H1 σ E1 _ fun w y G2 H2 n2 f2 E2 s2 a2 => ?_
    refine f2 B (MOf B m0 H0) G0 H0 xw G2 H2 σ E2 v w (a.mono s2) a2 _ fun z d3 G3 H3 n3 f3 E3 s3 a3 => ?_
    obtain ⟨fs', hp', hl', f3⟩ := f3
    obtain ⟨⟨vs', e1', e2'⟩, _⟩ := E3.mob p _ hp'
    exact ⟨dx, vs', e1', by rw [e2'.len]; exact hl', hn _ _ G3 _ _ f3 (E3.mchg hp' ⟨_, upd_same, e2'.putF a3⟩) ((s1.trans s2).trans s3)⟩
/-- x.m(..) -/
theorem gk_meth {C : Addr} {m : Str} {sp : Sp} {ms : List V} {E : XK} (hm : sclAll ms = true) (h : GK K Z ta δ n fun d n1 => ∃ p dx fs, d = .ptr p ∧ n1.μ p = some (.ins C dx fs) ∧ fs.lookup m = none ∧ GA K Z aa δ n1 fun xs n2 => SC K Z sp (.ptr p :: (xs ++ ms.map ofV)) δ n2 Φ) : GK K Z (tMeth C m sp ms E ta aa) δ n Φ := fun B M G0 H0 xw G H σ E Q q =>
  h B M G0 H0 xw G H σ E _ fun v d G1 H1 n1 f1 E1 s1 a1 => by
    obtain ⟨p, dx, fs, rfl, hp, hl, f1⟩ := f1
    cases a1
    obtain ⟨⟨vs, e1, e2⟩, _⟩ := E1.mob p _ hp
    refine ⟨p, dx, vs, rfl, e1, e2.look0 hl, ?_⟩
    exact f1 B M G0 H0 xw G1 H1 σ E1 _ fun ws xs G2 H2 n2 f2 E2 s2 a2 => f2 B M G0 H0 xw G2 H2 σ E2 _ (.cons (.ptr p) (a2.app (IsAll.scl hm))) Q _ fun u d G3 H3 n3 f3 E3 s3 a3 => q u d G3 H3 n3 f3 E3 ((s1.trans s2).trans s3) a3
/-- the same where something may be raised -/
theorem gk_methX {C : Addr} {m : Str} {sp : Sp} {ms : List V} {E : XK} (hm : sclAll ms = true) (he : ∀ σ, XTo Z σ E) (h : GK K Z ta δ n fun d n1 => ∃ p dx fs, d = .ptr p ∧ n1.μ p = some (.ins C dx fs) ∧ fs.lookup m = none ∧ GA K Z aa δ n1 fun xs n2 => SX K Z sp (.ptr p :: (xs ++ ms.map ofV)) δ n2 Φ) : GK K Z (tMeth C m sp ms E ta aa) δ n Φ := fun B M G0 H0 xw G H σ E Q q =>
  h B M G0 H0 xw G H σ E _ fun v d G1 H1 n1 f1 E1 s1 a1 => by
    obtain ⟨p, dx, fs, rfl, hp, hl, f1⟩ := f1
    cases a1
    obtain ⟨⟨vs, e1, e2⟩, _⟩ := E1.mob p _ hp
    refine ⟨p, dx, vs, rfl, e1, e2.look0 hl, ?_⟩
    exact f1 B M G0 H0 xw G1 H1 σ E1 _ fun ws xs G2 H2 n2 f2 E2 s2 a2 => f2 B M G0 H0 xw G2 H2 σ E2 _ (.cons (.ptr p) (a2.app (IsAll.scl hm))) Q _ (he σ) fun u d G3 H3 n3 f3 E3 s3 a3 => q u d G3 H3 n3 f3 E3 ((s1.trans s2).trans s3) a3
/-- C(..) -/
theorem gk_make {C : Addr} {sp : Sp} {ms : List V} {E : XK} (hm : sclAll ms = true) (h : GA K Z aa δ n fun xs n1 => ∀ p dx, n1.μ p = none → SC K Z sp (.ptr p :: (xs ++ ms.map ofV)) δ (n1.put p (.ins C dx [])) fun d n2 => d = .non ∧ Φ (.ptr p) n2) : GK K Z (tMake C sp ms E aa) δ n Φ := fun B M G0 H0 xw G H σ E Q q =>
  h B M G0 H0 xw G H σ E _ fun ws xs G1 H1 n1 f1 E1 s1 a1 => fun x dx hx hdx ne => by
    have hx' : upd H1 dx (.own x) x = none := by rw [upd_ne (Ne.symm ne)]; exact hx
    have E2 := (E1.newc (o := .own x) hdx).mnew (p := x) (u := .ins C dx []) (o := .ins C dx []) hx' ⟨[], upd_same, .nil⟩
    exact f1 x dx (E1.nomob hx) B M G0 H0 xw G1 _ σ E2 _ (.cons (.ptr x) (a1.app (IsAll.scl hm))) _ _ fun v d G3 H3 n3 f3 E3 s3 a3 => by
      obtain ⟨rfl, f3⟩ := f3
      cases a3
      exact ⟨rfl, q _ _ G3 H3 n3 f3 E3 (s1.trans s3) (.ptr x)⟩
end
end Tl

namespace Tl
open PySem PySem.Spec PyProof.Rows L2 TL LamX
/-! ### a def called where no telling (repr) is under way -/
structure FnG (P : Program) (w : World) (K : PySem.W.Frag) (mg : Str → Option Value) (base : Heap) (k : Nat) (f : Addr) (fd : FuncData) (ps : List Str) (sp : Sp) : Prop where
  len : ∀ vs H Q E, sp vs H Q E → vs.length = ps.length
  run : ∀ (A : Around) (outer : List Env) (s : Shared) (H : Hp) (args : Args) (us : List Value) (vs : List V) (Q : VK) (E : XK), A.guards = some [] → Room k A → Env0 P w K mg base A outer s H → BindsTo s fd args (ps.zip us) → Vals vs us → sp vs H Q E → codeAny (model P w) A (.call (.ref f) args) (CR CX0 outer P w H s Q E) s
section
variable {P : Program} {w : World} {K : PySem.W.Frag} {mg : Str → Option Value} {base : Heap}
theorem fn_G {x qual : Str} {st : Stmt} {f : Addr} {fd : FuncData} {N ps : List Str} {k : Nat} {sp : Sp} (F : Fun K x qual st f fd) (S : FnScope N ps (defScope st)) (len : ∀ vs H Q E, sp vs H Q E → vs.length = ps.length)
    (hb : ∀ (cdv : Value) (A : Around) (outer : List Env) (s : Shared) (H : Hp) (vs : List V) (Q : VK) (E : XK), A.guards = some [] → Room k (A.deeper (envOfC qual (defScope st) s.heap.objs.size f cdv)) → sp vs H Q E →
      ∃ t, PSs (cxOf CX0 P w K mg base N qual (defScope st) f cdv A outer s H E).nox (defBody st) t ∧ t { nx := fun _ H' => Q .non H', rt := Q } (start N vs) H) : FnG P w K mg base (k + 1) f fd ps sp := by
  obtain ⟨oc, od, kV, doc, pm, an, cdv, ct, osl, rfl, lk, code⟩ := F.ex
  refine ⟨len, fun A outer s H args us vs Q E hgd hr env bd rv hsp => ?_⟩
  have old : ∀ b o, base.get? b = some o → s.heap.get? b = some o := fun b o e => (env.bs b o e).1
  have kin : K.In s.heap := env.mod.kin.keeps old
  refine codeAny_call_function hr.depth (kin _ _ lk) rfl S.co S.gen rfl (PySem.W.codeRec_of kin code) (bd _ _ _ _ (wpAny_newFunctionEnv_cells S.kind (fun y hy => ?_) fun e0 he s1 nw => ?_))
  · rcases S.par y.1 (List.of_mem_zip (a := y.1) (b := y.2) hy).1 with g | g
    · exact .inl g
    · exact .inr ⟨g, PySem.W.cellsFrom_some _ _ _ (.inl g)⟩
  subst he
  refine ⟨(env.mod.nolimit.keeps old).keeps nw.toInCall.keep, codeAny_func ?_⟩
  obtain ⟨t, ht, hq⟩ := hb cdv A outer s H vs Q E hgd (hr.deeper _) hsp
  refine wpAny_mono (ht.nox.run [] s1 (start N vs) H _ (inv_start S hr.hd env (len _ _ _ _ hsp) rv nw) hq) (fun fl s2 z => ?_) fun _ _ z => z
  cases fl with
  | ret u => obtain ⟨v, _, H2, J, r2, q2⟩ := z; exact ⟨v, H2, J.os, J.bare, J.base, J.hok, r2, q2⟩
  | next => obtain ⟨_, H2, J, q2⟩ := z; exact ⟨V.non, H2, J.os, J.bare, J.base, J.hok, rfl, q2⟩
  | brk => exact z.choose_spec.choose_spec.2.elim
  | cont => exact z.choose_spec.choose_spec.2.elim
end
end Tl
namespace Tl
open PySem PySem.Spec PyProof.Rows L2 TL LamX
section
variable {P : Program} {w : World} {K : PySem.W.Frag} {mg mb : Str → Option Value} {k : Nat} {fa a : Addr} {cs : List (Addr × Addr)} {fd : FuncData} {x : Str} {sp : Sp} {s1 : Shared} {vs : List Value} {ns : List Int}
theorem law_callG (kin : K.In s1.heap) (hns : s1.heap.Ns mainGlobals mg) (hb : s1.heap.Ns builtinsNs mb) (hbb : ∀ x : Str, x ≠ "__name__" → mb x = bootBuiltins x) (hlim : s1.heap.NoLimit) (hg : s1.gens = #[])
    (hT : ∀ p ∈ cs, s1.heap.get? p.2 = some { cls := .none, data := .fields #[] }) (nT : ∀ p ∈ cs, K.lookup p.2 = none) (C : ∀ p ∈ cs, PySem.W.CodeHd s1.heap p.1 p.2)
    (hbm : ∃ (bm : Addr) (ob : Obj), mg "__builtins__" = some (.ref bm) ∧ bm ≠ builtinsNs ∧ s1.heap.get? bm = some ob ∧ ob.cls = .type "module" ∧ ob.dict = some builtinsNs ∧ ob.data = .plain)
    (ha : s1.heap.get? a = some { cls := .type "list", data := .seq vs.toArray }) (hi : IntsAre vs ns) (hl : ns.length ≤ sizeLine) (hr : Room k callerA)
    (F : ∀ base : Heap, K.In base → base.Ns mainGlobals mg → (∀ p ∈ cs, TabB base mg p.1 p.2) → FnG P w K mg base k fa fd [x] sp) (bind : ∀ (s : Shared) (u : Value), BindsTo s fd ⟨[u], []⟩ [(x, u)])
    (hsp : ∀ H : Hp, (∀ p ∈ cs, H p.2 = some (.tbl #[])) → SqL K H a (ns.map V.int) → sp [.ref a] H (fun v _ => v = .bl true) fun _ _ _ => False) :
    codeAny (model P w) callerA (.call (.ref fa) ⟨[.ref a], []⟩) (fun r s' => r = .ok (.ret (.bool true)) ∧ OldK s1.heap s'.heap ∧ s'.os = s1.os ∧ AllBare s'.gens) s1 := by
  have tab : ∀ b, b ∈ cs.map (·.2) → s1.heap.get? b = some { cls := .none, data := .fields #[] } ∧ K.lookup b = none := fun b m => by
    obtain ⟨p, hp, rfl⟩ := List.mem_map.mp m
    exact ⟨hT p hp, nT p hp⟩
  have core : ∀ H : Hp, (∀ p ∈ cs, H p.2 = some (.tbl #[])) → (∀ b u, H b = some u → b ∈ cs.map (·.2) ∨ (b = a ∧ K.lookup a = none ∧ ∃ o xs, u = .frz o (.lst xs))) → SqL K H a (ns.map V.int) → HOk P w H s1.heap →
      codeAny (model P w) callerA (.call (.ref fa) ⟨[.ref a], []⟩) (fun r s' => r = .ok (.ret (.bool true)) ∧ OldK s1.heap s'.heap ∧ s'.os = s1.os ∧ AllBare s'.gens) s1 := by
    intro H hH only hS hok
    have off : ∀ {b : Addr} {o : Obj}, s1.heap.get? b = some o → (∀ l m, o.data ≠ .seq l m) → o.data ≠ .fields #[] → H b = none := fun {b o} e n1 n2 => by
      refine Classical.byContradiction fun z => ?_
      obtain ⟨u, hu⟩ := Option.ne_none_iff_exists'.mp z
      rcases only b u hu with m | ⟨rfl, _⟩
      · cases e.symm.trans (tab b m).1
        exact n2 rfl
      · cases e.symm.trans ha
        exact n1 _ _ rfl
    have seen : ∀ {b : Addr} {o : Obj}, s1.heap.get? b = some o → H b = none → (hidT s1.heap H).get? b = some o := fun e z => hidT_get e z
    have names : ∀ {b : Addr} {m : Str → Option Value}, s1.heap.Ns b m → (hidT s1.heap H).Ns b m := fun ⟨o, es, ep, e, d, r⟩ => ⟨o, es, ep, seen e (off e (fun l m z => by rw [d] at z; cases z) (fun z => by rw [d] at z; cases z)), d, r⟩
    have kb : K.In (hidT s1.heap H) := fun b o e => seen (kin b o e) (Classical.byContradiction fun z => by
      obtain ⟨u, hu⟩ := Option.ne_none_iff_exists'.mp z
      rcases only b u hu with m | ⟨rfl, q, _⟩
      · rw [(tab b m).2] at e; cases e
      · rw [q] at e; cases e)
    have tbs : ∀ p ∈ cs, TabB (hidT s1.heap H) mg p.1 p.2 := fun p hp => by
      have tp := hT p hp
      refine ⟨?_, ?_, fun z => ?_⟩
      · obtain ⟨o, us, file, tf, flags, tg, inF, text, tt, e1, c1, c2, c3, more⟩ := C p hp
        exact ⟨o, us, file, tf, flags, tg, inF, text, tt, seen e1 (off e1 (fun l m z => by rw [c2] at z; cases z) (fun z => by rw [c2] at z; cases z; simp at c3)), c1, c2, c3, more⟩
      · obtain ⟨bm, ob, b1, b2, b3, b4, b5, b6⟩ := hbm
        refine ⟨bm, ob, b1, b2, fun q => ?_, fun q => ?_, seen b3 (off b3 (fun l m z => by rw [b6] at z; cases z) (fun z => by rw [b6] at z; cases z)), b4, b5, b6⟩
        · obtain ⟨o, es, ep, e, dd, _⟩ := hns
          rw [q] at b3
          cases b3.symm.trans e
          rw [dd] at b6; cases b6
        · rw [q] at b3
          cases b3.symm.trans tp
          cases b6
      · obtain ⟨o, es, ep, e, dd, _⟩ := hns
        rw [← z] at tp
        cases e.symm.trans tp
        cases dd
    have mod : L2.Mod K mg (hidT s1.heap H) := ⟨kb, names hns, ⟨mb, names hb, hbb⟩, let ⟨mc, q1, q2⟩ := hlim; ⟨mc, names q1, q2⟩⟩
    have env : Env0 P w K mg (hidT s1.heap H) callerA [] s1 H := ⟨rfl, mod, fun _ _ e => of_hidT e, Nat.le_of_eq (hidT_size _ _), trivial, (fun _ m => nomatch (show _ ∈ ([] : List Addr) from m)), hok, .of_eq hg⟩
    refine codeAny_mono ((F _ kb (names hns) tbs).run callerA [] s1 H ⟨[.ref a], []⟩ [.ref a] [.ref a] _ _ rfl hr env (bind s1 (.ref a)) (.cons rfl .nil) (hsp H hH hS)) fun r s2 z => ?_
    cases r with
    | error e => exact z.elim
    | ok fl =>
      cases fl with
      | next => exact z.elim
      | brk => exact z.elim
      | cont => exact z.elim
      | ret u =>
        obtain ⟨v, H2, os, bare, un, hok2, rel, q⟩ := z
        have q : v = .bl true := q
        subst q
        cases (show u = Value.bool true from rel)
        have stays : ∀ b o, b ∉ cs.map (·.2) → s1.heap.get? b = some o → s2.heap.get? b = some o := fun b o nb e => by
          cases hb2 : H b with
          | none => exact un.keep b o e hb2 (fun z => nomatch (show b ∈ ([] : List Addr) from z)) (by simp)
          | some t =>
            rcases only b t hb2 with m | ⟨_, _, ob, xs, rfl⟩
            · exact absurd m nb
            · cases e.symm.trans (hok b _ hb2).1
              exact (hok2 b _ (un.frzs b _ _ hb2)).1
        have grows : ∀ p ∈ cs, ∃ more : Array Value, s2.heap.get? p.2 = some { cls := .none, data := .fields more } := fun p hp => by
          obtain ⟨more, g⟩ := un.tbls p.2 #[] (hH p hp)
          exact ⟨_, hok2 p.2 _ g⟩
        refine ⟨rfl, ⟨fun b o e => ?_, fun b o e => ?_⟩, os, bare⟩
        · by_cases m : b ∈ cs.map (·.2)
          · obtain ⟨p, hp, rfl⟩ := List.mem_map.mp m
            obtain ⟨more, g⟩ := grows p hp
            cases e.symm.trans (hT p hp)
            exact .inr (.inl ⟨((C p hp).tab (hT p hp)).isCodeTable, rfl, #[], more, rfl, by rw [Array.empty_append]; exact g⟩)
          · exact .inl (stays b o m e)
        · by_cases m : b ∈ cs.map (·.2)
          · obtain ⟨p, hp, rfl⟩ := List.mem_map.mp m
            exact ⟨_, (grows p hp).choose_spec⟩
          · exact ⟨o, stays b o m e⟩
  cases hk : K.lookup a with
  | some o =>
    have ea := kin a o hk
    cases ea.symm.trans ha
    refine core (fun b => if b ∈ cs.map (·.2) then some (.tbl #[]) else none) (fun p hp => if_pos (List.mem_map.mpr ⟨p, hp, rfl⟩)) (fun b u z => ?_) ?_ fun b u z => ?_
    · by_cases m : b ∈ cs.map (·.2)
      · exact .inl m
      · cases (if_neg m).symm.trans z
    · refine .inr ⟨_, vs.toArray, _, hk, rfl, rfl, rfl, ?_, by simpa using vals_ints hi⟩
      rw [List.size_toArray, hi.length]
      exact hl
    · by_cases m : b ∈ cs.map (·.2)
      · cases (if_pos m).symm.trans z
        exact (tab b m).1
      · cases (if_neg m).symm.trans z
  | none =>
    have na : a ∉ cs.map (·.2) := fun m => by cases ha.symm.trans (tab a m).1
    refine core (fun b => if b ∈ cs.map (·.2) then some (.tbl #[]) else if b = a then some (.frz { cls := .type "list", data := .seq vs.toArray } (.lst (ns.map V.int))) else none) (fun p hp => if_pos (List.mem_map.mpr ⟨p, hp, rfl⟩)) (fun b u z => ?_) ?_ fun b u z => ?_
    · by_cases m : b ∈ cs.map (·.2)
      · exact .inl m
      · by_cases e : b = a
        · cases ((if_neg m).trans (if_pos e)).symm.trans z
          exact .inr ⟨e, hk, _, _, rfl⟩
        · cases ((if_neg m).trans (if_neg e)).symm.trans z
    · exact .inl (.inr ⟨_, (if_neg na).trans (if_pos rfl)⟩)
    · by_cases m : b ∈ cs.map (·.2)
      · cases (if_pos m).symm.trans z
        exact (tab b m).1
      · by_cases e : b = a
        · cases ((if_neg m).trans (if_pos e)).symm.trans z
          subst e
          exact ⟨ha, by rw [List.length_map]; exact hl, vs, _, vals_ints hi, ha⟩
        · cases ((if_neg m).trans (if_neg e)).symm.trans z
end
end Tl

namespace Tl
open PySem PySem.Spec PyProof.Rows L2 TL LamX
/-! ### repr(x) of data, where no other telling is under way -/
def rRepr (K : PySem.W.Frag) : List V → Hp → VK → Prop := fun vs H Q => ∃ (v : V) (d : PyData), vs = [v] ∧ Dp K H v d ∧ d.showable = true ∧ d.hasDict = false ∧ d.depth ≤ 50 ∧ d.shown.length ≤ sizeLine ∧ Q (.str d.shown) H
theorem cr_repr {X : Cx} {K : PySem.W.Frag} (hK : X.K = K) (hg : X.A.guards = some []) (hu : X.A.units + 64 < cLine) : CallR X (.builtin "repr") (rRepr K) := by
  subst hK
  intro pins s σ H vs us Q I r h
  obtain ⟨v, d, rfl, dp, hs, hd, hp, hl, q⟩ := h
  obtain ⟨u, rfl, ru⟩ := r.one
  obtain ⟨as, rd⟩ := Dp.reads I d v u dp ru
  have go : ∀ (h' : Heap) (t tk : Tok), (∀ b o, s.heap.get? b = some o → h'.get? b = some o) → EP X pins σ Q (.str d.shown t) { s with heap := h', toks := tk } := fun h' t tk kp => ⟨.str d.shown, H, I.kept kp, ⟨t, rfl⟩, q⟩
  have at_ : ∀ a, u = .ref a → wpAny (model X.prog X.w) X.A (call (.builtin "repr") [u]) (EP X pins σ Q) X.xe s := fun a e => by
    subst e
    exact repr_of_reads' rd hs (fun z => by rw [hd] at z; cases z) hg (by omega) (fun _ _ e => e) go hl
  cases rd with
  | none =>
    refine PySem.P.repr_of_none ?_
    rw [PyData.shown_none] at go
    exact go s.heap _ _ fun _ _ e => e
  | bool b =>
    refine PySem.P.repr_of_bool ?_
    rw [PyData.shown_bool] at go
    exact go s.heap _ _ fun _ _ e => e
  | int i t =>
    refine PySem.P.repr_of_int (by simpa [PyData.showable] using hs) ?_
    rw [PyData.shown_int] at go
    exact go s.heap _ _ fun _ _ e => e
  | str x t =>
    rw [PyData.shown_str] at go hl
    exact PySem.P.repr_of_str (go s.heap _ _ fun _ _ e => e) hl
  | list _ _ _ _ => exact at_ _ rfl
  | tuple _ _ _ _ => exact at_ _ rfl
  | dict _ _ _ _ _ => exact at_ _ rfl
section
variable [Tabl] {K : PySem.W.Frag} {Z : XZ} {δ : List Slot} {n : Sto} {Φ : D → Sto → Prop}
theorem rc_repr {m : Nat} {d : D} (hm : m ≤ 50) (hs : Shp m d) (h1 : (toP d).showable = true) (h2 : (toP d).hasDict = false) (h3 : (toP d).shown.length ≤ sizeLine) (k : Φ (.str (toP d).shown) n) : RC K Z (rRepr K) [d] δ n Φ := fun B M G0 H0 xw G H σ E vs a Q q => by
  cases a with
  | cons a r =>
    cases r
    exact ⟨_, _, rfl, a.dp E.sub hs, h1, h2, Nat.le_trans hs.ok.2 hm, h3, q _ _ G H n k E (Sub.refl G) (.str _)⟩
end
section
variable [Tabl] {P : Program} {w : World} {K : PySem.W.Frag} {mg : Str → Option Value} {base : Heap}
theorem fn_LG {x qual : Str} {st : Stmt} {f : Addr} {fd : FuncData} {N ps : List Str} {k : Nat} (F : Fun K x qual st f fd) (S : FnScope N ps (defScope st)) (hl : ps.length = 1)
    (hb : ∀ (cdv : Value) (A : Around) (outer : List Env) (s : Shared) (H : Hp) (E : XK), A.guards = some [] → Room k (A.deeper (PyProof.Rows.envOfC qual (defScope st) s.heap.objs.size f cdv)) →
      ∃ t, PSs (cxOf CX0 P w K mg base N qual (defScope st) f cdv A outer s H E).nox (defBody st) t ∧ ∀ ns : List Int, ns.length ≤ 63 → GS K .calm none t (.scr ns :: List.replicate (N.length - 1) .un) ⟨0, m00⟩ (fun _ _ => False) (fun d _ => d = .bl true) (fun _ _ => False) (fun _ _ => False)) :
    FnG P w K mg base (k + 1) f fd ps (spL K) := by
  refine fn_G F S (fun vs H Q E h => ?_) (fun cdv A outer s H vs Q E hg hr h => ?_)
  · obtain ⟨a, ns, rfl, _⟩ := h
    rw [hl]
    rfl
  · obtain ⟨a, ns, rfl, tb, hS, hn, q⟩ := h
    obtain ⟨t, h1, h2⟩ := hb cdv A outer s H E hg hr
    obtain ⟨G, e0⟩ := En.startS (N := N) tb hS
    refine ⟨t, h1, h2 ns hn m00 G H .calm G H _ _ e0 (fun _ _ _ _ _ z => z.elim) (fun v d G' H' n' hd eo hv => ?_) (fun _ _ _ _ _ z => z.elim) (fun _ _ _ _ _ z => z.elim)⟩
    subst hd
    cases hv
    exact q H'
/-- the same for the end -/
def LawAtG (l : PySem.W.OpenLaw) (w : World) (K : PySem.W.Frag) (k n : Nat) (x : Str) (mg : Str → Option Value) (fa : Addr) (h : Heap) : Prop :=
  ∃ (fd : FuncData) (cs : List (Addr × Addr)) (sp : Sp), (∀ p ∈ cs, h.get? p.2 = some (PySem.W.tabObj #[])) ∧ (∀ p ∈ cs, K.lookup p.2 = none) ∧ (∀ p ∈ cs, PySem.W.CodeHd h p.1 p.2) ∧ (∀ (s : Shared) (u : Value), BindsTo s fd ⟨[u], []⟩ [(x, u)]) ∧
    (∀ (H : Hp) (a : Addr) (ns : List Int), ns.length ≤ n → (∀ z ∈ ns, Builtin.Int.intBits z ≤ 1048576) → (∀ p ∈ cs, H p.2 = some (.tbl #[])) → SqL K H a (ns.map V.int) → sp [.ref a] H (fun v _ => v = .bl true) fun _ _ _ => False) ∧
    ∀ base : Heap, K.In base → base.Ns mainGlobals mg → (∀ p ∈ cs, TabB base mg p.1 p.2) → FnG l.prog w K mg base k fa fd [x] sp
end
end Tl

namespace Tl
open PySem L2 TL PySem.Spec PyProof.Rows LamX
/-! ### exceptions without a field -/
section
variable {X : Cx} {p pos : Pos} {B newId initId : String} {bmB : List Value}
theorem pmk_ex0 {CX : CXT} {x : Str} {C fI : Addr} {k : Nat} {fd : FuncData} {ps : List Str} {sp : Sp} (FB : ExcBaseFacts B newId initId bmB) (T : ExK X.K C bmB newId) (iC : PySem.W.findIn X.K (.ref C) "__init__" = some (some (.ref fI))) (tI : PySem.W.typeIn X.K (.ref fI) = some (.type "function"))
    (F1 : FnOk X.prog X.w X.K X.mg X.base CX k fI fd ps sp) (hr : Room (k + 1) X.A) (hb : Binds X.K fd ps []) (hx : Passes CX X (fun _ _ _ => False)) (hg : Gl X x) (hm : X.mg x = some (.ref C)) (hdb : (x == ("__debug__" : Str)) = false := by decide) : PMk X (.Call (.Name x p) [] [] pos) (tExMk C sp tNil) := by
  intro pins s σ H Q I h
  refine wpAny_Call_Name_kw (ld_glob I hg hm ?_ hdb)
  exact PySem.W.callWith_K0 I.kIn T.keep (ex_end (us := []) (vs := []) FB T iC tI F1 hr hb hx I .nil (by decide) h.2)
end
/-- __init__ that sets nothing -/
def spEx0 (C : Addr) : Sp := fun vs H Q _ => ∃ a : Addr, vs = [.ref a] ∧ H a = some (exo a C none) ∧ Q .non H
theorem del_new {H : Hp} {a : Addr} {o : HO} (h : H a = none) : del (upd H a o) a = H := by
  funext b
  unfold del upd
  by_cases e : b = a
  · rw [e]
    simp [h]
  · simp [e]
section
variable [Tabl] {K : PySem.W.Frag} {Z : XZ} {B : Option Addr} {δ : List Slot} {n : Sto} {N Bk Ct : List Slot → Sto → Prop} {R : D → Sto → Prop}
theorem gs_raise0 {C : Addr} (h : Z.X ⟨.ref C, []⟩ δ n) : GS K Z B (fun _ σ H => tExMk C (spEx0 C) tNil σ H fun cls d H' => Z.W cls d σ H') δ n N R Bk Ct := fun m0 G0 H0 xw G H σ E e hn hr hb hc => by
  refine ⟨by decide, fun a ha => ⟨a, rfl, upd_same, rfl, .inr ⟨upd_same, ?_⟩⟩⟩
  rw [del_new ha]
  exact xw ⟨.ref C, []⟩ none σ δ G H n h e (.inl ⟨rfl, rfl⟩)
end
end Tl

namespace Tl
open PySem PySem.Spec PyProof.Rows L2 TL LamX
/-! ### any(t) of whole numbers -/
def rAnyT (K : PySem.W.Frag) : List V → Hp → VK → Prop := fun vs H Q => ∃ (a : Addr) (ns : List Int), vs = [V.ref a] ∧ SqT K H a (ns.map V.int) ∧ Q (.bl (ns.any fun i => !decide (i = 0))) H
theorem dp_ints {K : PySem.W.Frag} {H : Hp} : ∀ ns : List Int, DpAll K H (ns.map V.int) (ns.map PyData.int)
  | [] => .nil
  | i :: ns => .cons (.int i) (dp_ints ns)
theorem plain_ints : ∀ ns : List Int, PyData.plainAll (ns.map PyData.int) = true
  | [] => by simp [PyData.plainAll]
  | i :: ns => by simp [PyData.plainAll, PyData.plain, plain_ints ns]
theorem cr_anyT {X : Cx} {K : PySem.W.Frag} (hK : X.K = K) (hc : X.calm = true) : CallR X (.builtin "any") (rAnyT K) := by
  subst hK
  intro pins s σ H vs us Q I r h
  obtain ⟨a, ns, rfl, hs, q⟩ := h
  obtain ⟨its, rv, hl, _⟩ := I.tuple hs
  rw [Vals.ref1 r]
  obtain ⟨as, ra⟩ := Dp.readsAll I _ _ its (dp_ints ns) rv
  refine PySem.W.any_tuple_data (I.ok.hd hc) hl (xs := ns.map PyData.int) (as := as) (by simpa using ra) ?_ (fun x hx => ?_) fun h' tk kp => ⟨.bl _, H, I.kept kp, rfl, ?_⟩
  · exact plain_ints ns
  · obtain ⟨i, _, rfl⟩ := List.mem_map.mp hx
    trivial
  · have e : (ns.map PyData.int).any PyData.truthy = ns.any fun i => !decide (i = 0) := by
      rw [List.any_map]
      congr 1
    rw [e]
    exact q
section
variable [Tabl] {K : PySem.W.Frag} {Z : XZ} {δ : List Slot} {n : Sto} {Φ : D → Sto → Prop}
theorem rc_anyT {ns : List Int} (k : Φ (.bl (ns.any fun i => !decide (i = 0))) n) : RC K Z (rAnyT K) [.tup (ns.map D.int)] δ n Φ := fun B M G0 H0 xw G H σ E vs a Q q => by
  cases a with
  | cons a r =>
    cases r
    cases a with
    | @tup p xs _ h1 a1 =>
      have e := a1.toInts
      subst e
      exact ⟨p, ns, rfl, E.sub.seq h1, q _ _ G H n k E (Sub.refl G) (.bl _)⟩
end
end Tl

namespace Tl
open PySem PySem.Spec PyProof.Rows L2 TL LamX
/-! ### lists of the store, reached by a pointer -/
section
variable [Tabl] {K : PySem.W.Frag} {Z : XZ} {B : Option Addr} {δ : List Slot} {n : Sto} {Φ : D → Sto → Prop} {te ta tb : TE} {aa : TA} {N Bk Ct : List Slot → Sto → Prop} {R : D → Sto → Prop}
theorem En.mlst {M : Addr → Prop} {G0 H0 G H : Hp} {σ : L2.St} {p : Addr} {xs : List D} (E : En K B M n G0 H0 G H σ δ) (h : n.μ p = some (.lst xs)) : ∃ vs, H p = some (.lst vs) ∧ IsAll K G vs xs := (E.mob p _ h).1
theorem gk_ixP (h : GK K Z ta δ n fun d n1 => ∃ p, d = .ptr p ∧ GK K Z tb δ n1 fun y n2 => ∃ xs j x, n2.μ p = some (.lst xs) ∧ y = .int j ∧ L2.atI xs j = some x ∧ Φ x n2) : GK K Z (tOp (rIxL K) ta tb) δ n Φ := fun B M G0 H0 xw G H σ E Q q =>
  h B M G0 H0 xw G H σ E _ fun v d G1 H1 n1 f1 E1 s1 a1 => by
    obtain ⟨p, rfl, f1⟩ := f1
    cases a1
    refine f1 B M G0 H0 xw G1 H1 σ E1 _ fun w y G2 H2 n2 f2 E2 s2 a2 => ?_
    obtain ⟨xs, j, x, hp, rfl, hx, f2⟩ := f2
    cases a2
    obtain ⟨vs, e1, e2⟩ := E2.mlst hp
    obtain ⟨u, hu, iu⟩ := e2.atI hx
    exact ⟨p, vs, j, u, rfl, rfl, SqL.of e1, hu, q u x G2 H2 n2 f2 E2 (s1.trans s2) iu⟩
theorem gk_lenP (h : GK K Z ta δ n fun d n1 => ∃ p xs, d = .ptr p ∧ n1.μ p = some (.lst xs) ∧ Φ (.int xs.length) n1) : GK K Z (tCB (fun xs H Q => ∃ p ys, xs = [.ref p] ∧ (SqL K H p ys ∨ SqT K H p ys) ∧ Q (.int ys.length) H) (tCons ta tNil)) δ n Φ := fun B M G0 H0 xw G H σ E Q q =>
  h B M G0 H0 xw G H σ E _ fun v d G1 H1 n1 f1 E1 s1 a1 => by
    obtain ⟨p, xs, rfl, hp, f1⟩ := f1
    cases a1
    obtain ⟨vs, e1, e2⟩ := E1.mlst hp
    exact ⟨p, vs, rfl, .inl (SqL.of e1), by rw [e2.len]; exact q _ _ G1 H1 n1 f1 E1 s1 (.int _)⟩
theorem gs_setP (h : GK K Z te δ n fun x n1 => GK K Z ta δ n1 fun d n2 => ∃ p, d = .ptr p ∧ GK K Z tb δ n2 fun y n3 => ∃ (xs : List D) (j : Nat), n3.μ p = some (.lst xs) ∧ y = .int j ∧ j < xs.length ∧ N δ (n3.put p (.lst (xs.set j x)))) : GS K Z B (tAsg te (gSub ta tb rSetL)) δ n N R Bk Ct := fun m0 G0 H0 xw G H σ E e hn hr hb hc =>
  h B (MOf B m0 H0) G0 H0 xw G H σ e _ fun v x G1 H1 n1 f1 E1 s1 a1 =>
    f1 B (MOf B m0 H0) G0 H0 xw G1 H1 σ E1 _ fun u d G2 H2 n2 f2 E2 s2 a2 => by
      obtain ⟨p, rfl, f2⟩ := f2
      cases a2
      refine f2 B (MOf B m0 H0) G0 H0 xw G2 H2 σ E2 _ fun w y G3 H3 n3 f3 E3 s3 a3 => ?_
      obtain ⟨xs, j, hp, rfl, hj, f3⟩ := f3
      cases a3
      obtain ⟨vs, e1, e2⟩ := E3.mlst hp
      refine ⟨p, vs, (j : Int), j, rfl, rfl, e1, ?_, hn _ _ G3 _ _ f3 (E3.mchg hp ⟨_, upd_same, e2.set ((a1.mono s2).mono s3) j⟩) ((s1.trans s2).trans s3)⟩
      unfold ixN
      rw [if_pos (by omega), if_pos (by rw [e2.len]; omega)]
      rfl
theorem gs_appP (h : GK K Z ta δ n fun d n1 => ∃ p xs0, d = .ptr p ∧ n1.μ p = some (.lst xs0) ∧ GK K Z te δ n1 fun x n2 => ∃ xs, n2.μ p = some (.lst xs) ∧ xs.length < 100000 ∧ N δ (n2.put p (.lst (xs ++ [x])))) : GS K Z B (tDrop (tBM K "list" rAppend ta (tCons te tNil))) δ n N R Bk Ct := fun m0 G0 H0 xw G H σ E e hn hr hb hc =>
  h B (MOf B m0 H0) G0 H0 xw G H σ e _ fun v d G1 H1 n1 f1 E1 s1 a1 => by
    obtain ⟨p, xs0, rfl, hp0, f1⟩ := f1
    cases a1
    obtain ⟨vs0, g1, g2⟩ := E1.mlst hp0
    refine ⟨.inl ⟨rfl, _, SqL.of g1⟩, ?_⟩
    refine f1 B (MOf B m0 H0) G0 H0 xw G1 H1 σ E1 _ fun w x G2 H2 n2 f2 E2 s2 a2 => ?_
    obtain ⟨xs, hp, hl, f2⟩ := f2
    obtain ⟨vs, e1, e2⟩ := E2.mlst hp
    exact ⟨p, vs, w, rfl, rfl, e1, by rw [e2.len]; exact sz_lt hl, hn _ _ G2 _ _ f2 (E2.mchg hp ⟨_, upd_same, e2.app (.cons a2 .nil)⟩) (s1.trans s2)⟩
theorem gt_truP {Φ : Bool → Sto → Prop} (h : GK K Z ta δ n fun d n1 => ∃ p xs, d = .ptr p ∧ n1.μ p = some (.lst xs) ∧ Φ (!xs.isEmpty) n1) : GT K Z (fun σ H Q => ta σ H fun x H' => ∃ k, TruV K x H' k ∧ Q k H') δ n Φ := fun B M G0 H0 xw G H σ E Q q =>
  h B M G0 H0 xw G H σ E _ fun v d G1 H1 n1 f1 E1 s1 a1 => by
    obtain ⟨p, xs, rfl, hp, f1⟩ := f1
    cases a1
    obtain ⟨vs, e1, e2⟩ := E1.mlst hp
    refine ⟨_, .inl ⟨vs, SqL.of e1, rfl⟩, ?_⟩
    have e : (!vs.isEmpty) = !xs.isEmpty := by
      have := e2.len
      cases vs <;> cases xs <;> first | rfl | simp at this
    rw [e]
    exact q _ G1 H1 n1 f1 E1 s1
theorem rc_tupP {p : Addr} {xs : List D} (hp : n.μ p = some (.lst xs)) (k : Φ (.tup xs) n) : RC K Z (fun xs H Q => ∃ p ys, xs = [.ref p] ∧ ((SqL K H p ys ∧ ∀ l, H l = none → Q (.ref l) (upd H l (.tup ys))) ∨ (SqT K H p ys ∧ Q (.ref p) H))) [.ptr p] δ n Φ := fun B M G0 H0 xw G H σ E vs a Q q => by
  cases a with
  | cons a r =>
    cases r
    cases a
    obtain ⟨ws, e1, e2⟩ := E.mlst hp
    refine ⟨p, ws, rfl, .inl ⟨SqL.of e1, fun l hl => ?_⟩⟩
    have s2 : ∀ o, Sub G (upd G l o) := fun o => Sub.new (E.sub.none hl)
    exact q _ _ _ _ n k (E.laid hl) (s2 _) (.tup (SqT.of upd_same) (e2.mono (s2 _)))
end
end Tl

namespace Tl
open PySem PySem.Spec PyProof.Rows L2 TL LamX
/-! ### enumerate of a tuple -/
set_option maxHeartbeats 1000000 in
theorem newEnT {v : Value} {ob : Obj} {Hh : Heap → Prop} (Bg : Begins v ob Hh) : Meets (Builtin.«enumerate.__new__» ⟨[.type "enumerate", v], []⟩) (fun _ Rr sh => Hh sh.heap ∧
      Rr (.ok (.ret (.ref (sh.heap.push ob).objs.size))) { sh with heap := (sh.heap.push ob).push { cls := .type "enumerate", data := .fields #[.none, .bool false, .ref sh.heap.objs.size, rawInt 0, .none, .none] } }) :=
  .of_wp fun prog w A Rr sh hh => by
    obtain ⟨hp, gn, dr, tk, os⟩ := sh
    obtain ⟨hb1, hh⟩ := hh
    have hsub := sub_enumerate
    have qI : ∀ {A' : Around} {E : Value → Shared → Prop} {Q : Value → Shared → Prop}, Q (.ref hp.objs.size) ⟨hp.push ob, gn, dr, tk, os⟩ → wpAny (model prog w) A' (pyIter v) Q E ⟨hp, gn, dr, tk, os⟩ := fun q => Bg.iter prog w _ _ ⟨hp, gn, dr, tk, os⟩ _ hb1 q
    wp_walk using qI
    refine wpAny_stack_any fun st => wpAny_pure ?_
    split
    · rename_i c _ _ _ _ _
      cases (c == Value.type "enumerate") <;> (wp_walk using qI; exact ⟨_, rfl, hh⟩)
    · wp_walk using qI
      exact ⟨_, rfl, hh⟩
theorem callEnT {prog : Program} {w : World} {A : Around} {E : Value → Shared → Prop} {s : Shared} {v : Value} {ob : Obj} {Hh : Heap → Prop} {Q : Value → Shared → Prop} (Bg : Begins v ob Hh) (hb1 : Hh s.heap)
    (k : ∀ h', IsEnum h' (s.heap.objs.size + 1) s.heap.objs.size 0 .none → h'.get? s.heap.objs.size = some ob → (∀ b o, s.heap.get? b = some o → h'.get? b = some o) → Q (.ref (s.heap.objs.size + 1)) { s with heap := h' }) :
    wpAny (model prog w) A (call (.type "enumerate") [v]) Q E s := by
  refine callType_new F.called_enumerate (by decide) (F.typeCall_enumerate_1 _) (F.newCall_enumerate_1 _) (fun obj => F.args_object_init_2 obj _) F.entry_enumerate_new (newEnT Bg) ⟨hb1, ?_⟩
  have hz : (s.heap.push ob).objs.size = s.heap.objs.size + 1 := Heap.size_push .. 
  show _ ∧ _
  rw [hz]
  have he : IsEnum ((s.heap.push ob).push { cls := .type "enumerate", data := .fields #[.none, .bool false, .ref s.heap.objs.size, rawInt 0, .none, .none] }) (s.heap.objs.size + 1) s.heap.objs.size 0 .none := by
    have := Heap.get?_push_size (s.heap.push ob) (o := { cls := .type "enumerate", data := .fields #[.none, .bool false, .ref s.heap.objs.size, rawInt 0, .none, .none] }) rfl
    rw [hz] at this
    exact this
  exact ⟨⟨_, he, rfl⟩, k _ he (Heap.get?_push_of_some _ (Heap.get?_push_size _ Bg.free)) fun b o x => Heap.get?_push_of_some _ (Heap.get?_push_of_some _ x)⟩
/-- the tuple at a, each item in a new pair -/
def ItT (K : PySem.W.Frag) (a : Addr) : It :=
  ⟨fun i H => ∃ (ys : List V) (y : V), SqT K H a ys ∧ ys[i]? = some y, fun i H v H' => ∃ t y, v = .ref t ∧ H t = none ∧ H' = upd H t (.tup [.int (i : Nat), y]) ∧ ∀ ys, SqT K H a ys → ys[i]? = some y, fun i H => ∃ ys : List V, SqT K H a ys ∧ ys.length = i⟩
theorem turn_enT {P : Program} {w : World} {K : PySem.W.Frag} {elts : List Expr} {kk : Nat} {tpos : Pos} (a e it : Addr) (hai : a ≠ it) (hae : a ≠ e) :
    Turn P w K (.Tuple elts kk tpos) (ItT K a) [e, it] e (fun i h => (∃ old, IsEnum h e it ((i : Nat) : Int) old) ∧ h.IsTupleIter it a i ∧ e ≠ it) where
  mem := by simp
  obj := fun i h st b hb => by
    obtain ⟨⟨old, he⟩, ⟨o, ho, hc, hd⟩, _⟩ := st
    rcases (by simpa using hb : b = e ∨ b = it) with z | z
    · subst z; exact ⟨_, he, fun v q => nomatch q⟩
    · subst z; exact ⟨o, ho, fun v q => by rw [hd] at q; cases q⟩
  keep := fun i h h' st k => ⟨⟨st.1.choose, k e (by simp) _ st.1.choose_spec⟩, st.2.1.at fun o q => k it (by simp) o q, st.2.2⟩
  item := by
    intro X hP hw hK hc i pins s σ H E I hf st hg
    subst hP hw hK
    obtain ⟨⟨old, he⟩, hit, hne⟩ := st
    obtain ⟨ys, y, hq, hy⟩ := hg
    obtain ⟨its, rv, p, hz⟩ := I.tuple hq
    obtain ⟨u, hu, ru⟩ := rv.get hy
    have hel : e < s.heap.objs.size := Heap.lt_size he
    have hil : it < s.heap.objs.size := Heap.lt_size hit.choose_spec.1
    have Dr := Draws.tuple (prog := X.prog) (w := X.w) (A := X.A.in1) (I.ok.hd hc) it a hai its.toArray
    have hlt : i < its.toArray.size := by simpa using (List.getElem?_eq_some_iff.mp hu).1
    refine wpAny_pyNext_enum_itemD Dr he ⟨hit, p⟩ hlt hne (by simp [hne, Ne.symm hae]) fun x h' tk hx ho st' hT hsz hk => ?_
    have ex : x = u := by
      have := hx
      simp only [List.getElem?_toArray, hu, Option.some.injEq] at this
      exact this.symm
    subst ex
    refine ⟨_, rfl, wpAny_letOwnedTupleGo_enum (s := { s with heap := h', toks := tk + 1 }) ho fun h'' he' sb => ?_⟩
    have hT2 : h''.get? s.heap.objs.size = some { cls := .type "tuple", data := .seq #[.int i tk, x] } := (sb.2 _ (Nat.ne_of_gt hel)).trans hT
    have new : ObjOk X.prog X.w (upd H s.heap.objs.size (.tup [.int (i : Nat), y])) h'' s.heap.objs.size (.tup [.int (i : Nat), y]) := ⟨by show 2 ≤ sizeLine; decide, [.int i tk, x], .cons ⟨_, rfl⟩ (.cons ru .nil), ⟨_, hT2, rfl, _, rfl⟩⟩
    have I1 : Inv X pins σ (upd H s.heap.objs.size (.tup [.int (i : Nat), y])) { s with heap := h'', toks := tk + 1 } :=
      I.turnedNew (ch := [e, it]) (fun b ob hb q => (sb.2 b (fun z => hb (by simp [z]))).trans (hk b ob (fun z => hb (by simp [z])) (fun z => hb (by simp [z])) q)) hf (Nat.le_refl _) new
    refine ⟨.ref s.heap.objs.size, _, I1, rfl, ⟨_, y, rfl, I.hok.fresh (Nat.le_refl _), rfl, fun zs hzs => by rw [I.tuple_inj hzs hq]; exact hy⟩, ⟨⟨x, ?_⟩, st'.1.at fun o q => (sb.2 it (Ne.symm hne)).trans q, hne⟩, fun b hb => ?_⟩
    · rw [show ((i + 1 : Nat) : Int) = (i : Int) + 1 by omega]
      exact he'
    · have hb' : b < s.heap.objs.size := by
        rcases (by simpa using hb : b = e ∨ b = it) with z | z
        · exact z ▸ hel
        · exact z ▸ hil
      rw [upd_ne (Nat.ne_of_lt hb')]
      exact (hf b hb).1
  done := by
    intro X hP hw hK hc i pins s σ H E I hf st hg
    subst hP hw hK
    obtain ⟨⟨old, he⟩, hit, hne⟩ := st
    obtain ⟨ys, hq, hy⟩ := hg
    obtain ⟨its, rv, p, hz⟩ := I.tuple hq
    obtain ⟨f0, f1, f2, f3, f4, f5⟩ := hf it (by simp)
    have Dr := Draws.tuple (prog := X.prog) (w := X.w) (A := X.A.in1) (I.ok.hd hc) it a hai its.toArray
    have en : i = its.toArray.size := by
      have hl := rv.length
      simp
      omega
    exact wpAny_pyNext_enum_endD Dr he ⟨en ▸ hit, p⟩ fun h' eb => ⟨rfl, I.turned (t' := s.toks) (fun b o hb q => eb b o hb q) f0 f1 f3 f4 f5⟩
  self := fun A i s Q E st h => wpAny_pyIter_enum st.1.choose_spec h
def iEnT (K : PySem.W.Frag) (ta : TA) : TI := fun σ H R => ta σ H fun vs H1 => ∃ a ys, vs = [.ref a] ∧ SqT K H1 a ys ∧ R (ItT K a) H1
theorem pi_enT {X : Cx} {e : Expr} {ta : TA} {p pos tpos : Pos} {elts : List Expr} {kk : Nat} (hg : Gl X "enumerate") (hm : X.mg "enumerate" = none) (ha : PA X [e] ta) (hs : starEach [e] X.env = [(false, eval e X.env)] := by rfl) :
    PI X (.Tuple elts kk tpos) (.Call (.Name "enumerate" p) [e] [] pos) (iEnT X.K ta) := by
  refine ⟨fun pins s σ H R I h => Call_ (ld_blt I hg hm boot_enumerate (PyProof.Rows.callWith_type1 (thn (ha.run pos pins s σ H _ I h) fun us s1 ⟨vs, H1, I1, r1, q1⟩ => ?_) hs rfl))⟩
  obtain ⟨a, ys, rfl, hq, q⟩ := q1
  cases r1 with
  | cons r rr =>
    cases rr
    cases r
    obtain ⟨its, rv, p', hz⟩ := I1.tuple hq
    have hal : a < s1.heap.objs.size := Heap.lt_size p'.choose_spec.1
    refine callEnT (begins_tuple (t := a) (items := its.toArray)) p' fun h' he hit hk => wpAny_pyIter_enum he ?_
    have I2 : Inv X pins σ H1 { s1 with heap := h' } := I1.kept (t' := s1.toks) hk
    refine ⟨s1.heap.objs.size + 1, [s1.heap.objs.size + 1, s1.heap.objs.size], _, _, H1, rfl, I2, turn_enT a (s1.heap.objs.size + 1) s1.heap.objs.size (Nat.ne_of_lt hal) (Nat.ne_of_lt (Nat.lt_succ_of_lt hal)), ⟨⟨.none, he⟩, ⟨_, hit, rfl, rfl⟩, Nat.succ_ne_self _⟩, fun b hb => ?_, q⟩
    have hle : s1.heap.objs.size ≤ b := by
      rcases (by simpa using hb : b = s1.heap.objs.size + 1 ∨ b = s1.heap.objs.size) with z | z
      · exact z ▸ Nat.le_add_right _ _
      · exact z ▸ Nat.le_refl _
    exact I1.fpOk hle (I1.hok.fresh hle)
section
variable [Tabl] {K : PySem.W.Frag} {Z : XZ} {B : Option Addr} {δ : List Slot} {n : Sto} {aa : TA}
theorem gi_enT {Ψ : List D → Sto → Prop} (h : GA K Z aa δ n fun ds n1 => ∃ xs, ds = [.tup xs] ∧ Ψ (enumD xs) n1) : GI K Z (iEnT K aa) δ n Ψ := fun B M G0 H0 xw G H σ E R r =>
  h B M G0 H0 xw G H σ E _ fun vs ds G1 H1 n1 f1 E1 s1 a1 => by
    obtain ⟨xs, rfl, f1⟩ := f1
    cases a1 with
    | cons a b =>
      cases b
      cases a with
      | @tup p vs _ h1 a1 =>
        refine ⟨p, vs, rfl, E1.sub.seq h1, r _ _ G1 H1 n1 f1 E1 s1 fun G' H' s2 s3 i => ⟨fun hi => ⟨vs, s3.seq (s2.seq h1), ?_⟩, fun x hx => ?_⟩⟩
        · unfold enumD at hi
          rw [List.length_mapIdx] at hi
          rw [a1.len, hi]
        · unfold enumD at hx
          rw [List.getElem?_mapIdx] at hx
          obtain ⟨d, hd, rfl⟩ := Option.map_eq_some_iff.mp hx
          obtain ⟨u, hu, iu⟩ := a1.at hd
          refine ⟨⟨vs, u, s3.seq (s2.seq h1), hu⟩, fun v H'' y => .inr ?_⟩
          obtain ⟨T, u', rfl, y1, y2, y3⟩ := y
          have := y3 vs (s3.seq (s2.seq h1))
          rw [hu] at this
          cases this
          have sn := Sub.new (o := .tup [.int (i : Nat), u]) (s3.none y1)
          exact ⟨T, _, y1, y2, (fun _ z => nomatch z), .tup (SqT.of upd_same) (.cons (.int _) (.cons ((iu.mono s2).mono sn) .nil))⟩
end
end Tl

namespace Tl
open PySem PySem.Spec PyProof.Rows L2 TL LamX
/-! ### new lists as pointers; comprehensions told as a pointer; two fors over lists of the store -/
section
variable [Tabl] {K : PySem.W.Frag} {Z : XZ} {B : Option Addr} {δ : List Slot} {n : Sto} {Φ : D → Sto → Prop} {te ta tb : TE} {aa : TA} {tt : TT} {wi : TI} {g : TG} {vs : List Nat}
theorem En.mtake {M : Addr → Prop} {G0 H0 G H : Hp} {σ : L2.St} {c : Addr} {o : MO} (E : En K B M n G0 H0 G H σ δ) (gc : G c = none) (mc : M c) (nb : B ≠ some c) (oc : ∀ (i : Nat) (x : MO), δ[i]? = some (.ow x) → σ[i]? ≠ some (some (.ref c))) (a : MOk K G H c o) : En K B M (n.put c o) G0 H0 G H σ δ where
  sub0 := E.sub0
  sub := E.sub
  same := E.same
  free := E.free
  fresh := E.fresh
  bagged := E.bagged
  tabs := E.tabs
  tin := E.tin
  gnt := E.gnt
  len := E.len
  slot := E.slot
  dis := E.dis
  mob := fun b u h => by
    by_cases e : b = c
    · subst e
      rw [Sto.put_same] at h
      cases h
      exact ⟨a, gc, mc, nb⟩
    · rw [Sto.put_ne e] at h
      exact E.mob b u h
  mow := fun i x b h1 h2 => by
    by_cases e : b = c
    · subst e
      exact absurd h2 (oc i x h1)
    · rw [Sto.put_ne e]
      exact E.mow i x b h1 h2
theorem gk_lcP (ho : ∀ i ∈ vs, ∀ x, δ[i]? ≠ some (.ow x)) (h : GI K Z wi δ n fun xs n1 => xs.length ≤ 50000 ∧ ∃ Iv : Nat → List D → Sto → Prop, Iv 0 [] n1 ∧ (∀ i x acc n', xs[i]? = some x → Iv i acc n' → acc.length ≤ i → ∃ δ2, GG K g x (wipeD δ vs) δ2 vs ∧ OffD vs δ2 δ ∧
      GT K .calm tt δ2 n' fun b n2 => (b = true → GK K .calm te δ2 n2 fun y n3 => Iv (i + 1) (acc ++ [y]) n3) ∧ (b = false → Iv (i + 1) acc n2)) ∧ ∀ acc n', Iv xs.length acc n' → acc.length ≤ xs.length → ∀ p, n'.μ p = none → Φ (.ptr p) (n'.put p (.lst acc))) :
    GK K Z (tLc wi g tt te vs) δ n Φ := fun B M G0 H0 xw G H σ E Q q =>
  h B M G0 H0 xw G H σ E _ fun J xs G1 H1 n1 f1 E1 s1 a1 => by
    obtain ⟨hx5, Iv, h0, hs, hd⟩ := f1
    intro c hc
    have nbc : B ≠ some c := fun z => (E1.bagged c z).1.some hc
    have gc := E1.sub.none hc
    have mc := E1.free c hc
    have oc : ∀ (i : Nat) (x : MO), δ[i]? = some (.ow x) → σ[i]? ≠ some (some (.ref c)) := fun i xs hi z => by
      obtain ⟨p, e1, e2, _⟩ := E1.owo hi
      rw [z] at e1
      cases e1
      exact e2.some hc
    refine ⟨fun i m H' => m = xs.length - i ∧ i ≤ xs.length ∧ Lw K B M G0 H0 G1 σ δ Iv c i H', ⟨xs.length, by simp, Nat.zero_le _, [], [], n1, G1, h0, Nat.le_refl _, upd_same, .nil, gc, E1.nomob hc, E1.newc hc, Sub.refl G1⟩, ?_⟩
    rintro i m H' ⟨rfl, hi, acc, va, n', G', iv, hl, hc', ia, gc', nm', e', s'⟩
    obtain ⟨j1, j2⟩ := a1 G' H' s' e'.sub i
    by_cases hlt : i < xs.length
    · obtain ⟨x, hx⟩ : ∃ x, xs[i]? = some x := ⟨xs[i], by simp [hlt]⟩
      obtain ⟨jg, jy⟩ := j2 x hx
      refine .inr ⟨jg, Lw K B M G0 H0 G1 σ δ Iv c (i + 1), fun H2 q => ⟨xs.length - (i + 1), by omega, rfl, hlt, q⟩, fun v H'' y => ?_⟩
      obtain ⟨G2, s2, e2, a2, kc⟩ := e'.yld (jy v H'' y)
      have hc2 : H'' c = some (.lst va) ∧ G2 c = none := by
        obtain ⟨k1, k2⟩ := kc c (not_none hc')
        exact ⟨k1.trans hc', k2.trans gc'⟩
      obtain ⟨hc2, gc2⟩ := hc2
      obtain ⟨δ2, gg, od, ht⟩ := hs i x acc n' hx iv hl
      have Eb := (e2.rebase (c := c) nbc nm' oc ⟨_, hc2, fun _ z => nomatch z⟩).wipe vs
      refine gg B _ n' G2 H'' G2 H'' _ Eb v a2 _ fun σ3 e3 s3 => ⟨?_, ?_⟩
      · rw [s3.wipe]
        exact SameOff.off.wipe
      · have so : SameOff vs σ3 σ := s3.trans SameOff.off
        refine ht B _ G2 H'' .calm G2 H'' σ3 e3 _ fun b G4 H4 n4 f4 e4 s4 => ?_
        have ncm : ¬ (M c ∧ c ≠ c) := fun z => z.2 rfl
        cases b with
        | false =>
          show Lw K B M G0 H0 G1 σ δ Iv c (i + 1) H4
          exact ⟨acc, va, n4, G4, f4.2 rfl, by omega, e4.same c _ hc2 ncm, (ia.mono s2).mono s4, e4.fresh c ncm gc2, e4.apart, e2.home e4 so od ho, (s'.trans s2).trans s4⟩
        | true =>
          show te σ3 H4 _
          refine f4.1 rfl B _ G2 H'' .calm G4 H4 σ3 e4 _ fun y d G5 H5 n5 f5 e5 s5 a5 => ?_
          have hc5 := e5.same c _ hc2 ncm
          have gc5 := e5.fresh c ncm gc2
          refine ⟨va, hc5, by rw [ia.len]; exact sz_lt (by omega), acc ++ [d], va ++ [y], n5, G5, f5, by rw [List.length_append, List.length_singleton]; omega, upd_same, (((ia.mono s2).mono s4).mono s5).app (.cons a5 .nil), gc5, e5.apart, (e2.home e5 so od ho).beside (.inr ⟨_, hc5, trivial⟩) (fun _ z => nomatch z) nbc e5.apart gc5 mc oc, ((s'.trans s2).trans s4).trans s5⟩
    · have ei : i = xs.length := by omega
      subst ei
      exact .inl ⟨j1 rfl, q _ (.ptr c) G' H' _ (hd acc n' iv hl c nm') (e'.mtake gc' mc nbc oc ⟨va, hc', ia⟩) (s1.trans s') (.ptr c)⟩
theorem rk_catP {xs ys : List D} (h : xs.length + ys.length ≤ 100000) (k : ∀ p, n.μ p = none → Φ (.ptr p) (n.put p (.lst (xs ++ ys)))) : RK K Z rCat (.lst xs) (.lst ys) δ n Φ := fun B M G0 H0 xw G H σ E v w a b Q q => by
  cases a with
  | lst h1 a1 =>
    cases b with
    | lst h2 a2 =>
      exact ⟨_, _, _, _, rfl, rfl, E.sub _ _ h1, E.sub _ _ h2, by rw [a1.len, a2.len]; exact sz_ h, fun p hp => q _ _ _ _ _ (k p (E.nomob hp)) (E.mnew hp ⟨_, upd_same, a1.app a2⟩) (Sub.refl G) (.ptr p)⟩
theorem rk_repP {xs : List D} {m : Int} (h1 : m < 2 ^ 30) (h2 : -(2 ^ 30) < m) (h : xs.length * m.toNat ≤ 100000) (k : ∀ p, n.μ p = none → Φ (.ptr p) (n.put p (.lst (List.replicate m.toNat xs).flatten))) : RK K Z rRep (.lst xs) (.int m) δ n Φ := fun B M G0 H0 xw G H σ E v w a b Q q => by
  cases a with
  | lst h1' a1 =>
    cases b
    exact ⟨_, m, _, rfl, rfl, E.sub _ _ h1', by omega, by omega, by rw [a1.len]; exact sz_ h, fun p hp => q _ _ _ _ _ (k p (E.nomob hp)) (E.mnew hp ⟨_, upd_same, a1.repF _⟩) (Sub.refl G) (.ptr p)⟩
theorem rc_listTP {xs : List D} (k : ∀ p, n.μ p = none → Φ (.ptr p) (n.put p (.lst xs))) : RC K Z (fun ws H Q => ∃ p ys, ws = [.ref p] ∧ (SqL K H p ys ∨ SqT K H p ys) ∧ ∀ l, H l = none → Q (.ref l) (upd H l (.lst ys))) [.tup xs] δ n Φ := fun B M G0 H0 xw G H σ E vs a Q q => by
  cases a with
  | cons a r =>
    cases r
    cases a with
    | tup h1 a1 =>
      exact ⟨_, _, rfl, .inr (E.sub.seq h1), fun p hp => q _ _ _ _ _ (k p (E.nomob hp)) (E.mnew hp ⟨_, upd_same, a1⟩) (Sub.refl G) (.ptr p)⟩
theorem rs_lstP {p : Addr} {xs : List D} {lo hi : Option Int} (hp : n.μ p = some (.lst xs)) (k : Φ (.lst (cutD xs lo hi)) n) : RS K Z (rSlL K) (.ptr p) lo hi δ n Φ := fun B M G0 H0 xw G H σ E v a Q q => by
  cases a
  obtain ⟨vs, e1, e2⟩ := E.mlst hp
  refine ⟨p, vs, rfl, SqL.of e1, fun l hl => ?_⟩
  have s2 : ∀ o, Sub G (upd G l o) := fun o => Sub.new (E.sub.none hl)
  exact q _ _ _ _ n k (E.laid hl) (s2 _) (.lst upd_same ((e2.cut lo hi).mono (s2 _)))
/-! range of three -/
def stepD (lo c : Int) (m : Nat) : List D := (List.range m).map fun i : Nat => D.int (lo + (i : Nat) * c)
theorem stepD_len {lo c : Int} {m : Nat} : (stepD lo c m).length = m := by
  unfold stepD
  rw [List.length_map, List.length_range]
theorem stepD_at {lo c : Int} {m i : Nat} {x : D} (h : (stepD lo c m)[i]? = some x) : i < m ∧ x = .int (lo + (i : Nat) * c) := by
  unfold stepD at h
  rw [List.getElem?_map] at h
  by_cases hi : i < m
  · rw [List.getElem?_range hi] at h
    cases h
    exact ⟨hi, rfl⟩
  · rw [List.getElem?_eq_none (by rw [List.length_range]; omega)] at h
    cases h
theorem iter_rng3 {G : Hp} {lo c : Int} {m : Nat} : IterD K (Itc lo c m) G (stepD lo c m) := fun G' H' s2 s3 i => ⟨fun hi => by
    rw [stepD_len] at hi
    exact Nat.le_of_eq hi.symm, fun x hx => by
    obtain ⟨h1, rfl⟩ := stepD_at hx
    refine ⟨h1, fun v H'' y => .inl ⟨y.1, ?_⟩⟩
    rw [y.2]
    exact .int _⟩
theorem gi_rng3 {Ψ : List D → Sto → Prop} (h : GA K Z aa δ n fun ds n1 => ∃ (a b c : Int) (m : Nat), ds = [.int a, .int b, .int c] ∧ RgC a b c m ∧ Ψ (stepD a c m) n1) : GI K Z (iRng3 aa) δ n Ψ := fun B M G0 H0 xw G H σ E R r =>
  h B M G0 H0 xw G H σ E _ fun vs ds G1 H1 n1 f1 E1 s1 a1 => by
    obtain ⟨i, j, c, m, rfl, h1, f1⟩ := f1
    cases a1 with
    | cons a b =>
      cases b with
      | cons b d =>
        cases d with
        | cons d e =>
          cases e
          cases a
          cases b
          cases d
          exact ⟨i, j, c, m, rfl, h1, r _ _ G1 H1 n1 f1 E1 s1 iter_rng3⟩
/-! two fors over lists of the store -/
inductive PgD (n : Sto) : List Addr → List (List D) → Prop
  | nil : PgD n [] []
  | cons {q : Addr} {pg : List D} {qs : List Addr} {pgs : List (List D)} (h : n.μ q = some (.lst pg)) (r : PgD n qs pgs) : PgD n (q :: qs) (pg :: pgs)
/-- the pages' values -/
inductive PgV (K : PySem.W.Frag) (G H : Hp) : List Addr → List (List V) → List (List D) → Prop
  | nil : PgV K G H [] [] []
  | cons {q : Addr} {vs : List V} {pg : List D} {qs : List Addr} {vss : List (List V)} {pgs : List (List D)} (h : H q = some (.lst vs)) (a : IsAll K G vs pg) (r : PgV K G H qs vss pgs) : PgV K G H (q :: qs) (vs :: vss) (pg :: pgs)
theorem PgD.vals {M : Addr → Prop} {G0 H0 G H : Hp} {σ : L2.St} {qs : List Addr} {pgs : List (List D)} (E : En K B M n G0 H0 G H σ δ) (h : PgD n qs pgs) : ∃ vss, PgV K G H qs vss pgs := by
  induction h with
  | nil => exact ⟨[], .nil⟩
  | cons h _ ih =>
    obtain ⟨vss, r⟩ := ih
    obtain ⟨vs, e, a⟩ := E.mlst h
    exact ⟨vs :: vss, .cons e a r⟩
theorem PgV.flat {G H : Hp} {qs : List Addr} {vss : List (List V)} {pgs : List (List D)} (h : PgV K G H qs vss pgs) : IsAll K G vss.flatten pgs.flatten := by
  induction h with
  | nil => exact .nil
  | cons h a r ih =>
    rw [List.flatten_cons, List.flatten_cons]
    exact a.app ih
theorem PgV.len {G H : Hp} {qs : List Addr} {vss : List (List V)} {pgs : List (List D)} (h : PgV K G H qs vss pgs) : vss.length = qs.length := by
  induction h with
  | nil => rfl
  | cons h a r ih => rw [List.length_cons, List.length_cons, ih]
theorem PgV.at {G H : Hp} {qs : List Addr} {vss : List (List V)} {pgs : List (List D)} (h : PgV K G H qs vss pgs) : ∀ {i : Nat} {q : Addr}, qs[i]? = some q → ∃ vs, vss[i]? = some vs ∧ H q = some (.lst vs) := by
  induction h with
  | nil => intro i q e; simp at e
  | @cons q0 vs pg qs vss pgs h a r ih =>
    intro i q e
    cases i with
    | zero =>
      have e : q0 = q := by simpa using e
      subst e
      exact ⟨vs, rfl, h⟩
    | succ i => exact ih (by simpa using e)
theorem isPtrs {G : Hp} : ∀ {qs : List Addr} {vs : List V}, IsAll K G vs (qs.map D.ptr) → vs = qs.map V.ref
  | [], _, .nil => rfl
  | q :: qs, _, .cons a r => by
    cases a
    rw [List.map_cons, isPtrs r]
theorem flat_lt {α : Type} {vss : List (List α)} {i : Nat} {vs : List α} (h : vss[i]? = some vs) : ((vss.take i).flatten ++ vs).length ≤ vss.flatten.length := by
  induction vss generalizing i with
  | nil => simp at h
  | cons x r ih =>
    cases i with
    | zero =>
      have h : x = vs := by simpa using h
      subst h
      simp
    | succ i =>
      have := ih (by simpa using h)
      simp only [List.take_succ_cons, List.flatten_cons, List.length_append] at this ⊢
      omega
omit [Tabl] in
theorem iteT_ {p q : Prop} (h : p) : (if true = true then p else q) := by
  rw [if_pos rfl]
  exact h
theorem gk_flat {i j : Nat} {vs : List Nat} (hi : i ∈ vs) (hj : j ∈ vs) (nij : i ≠ j) (li : i < δ.length) (lj : j < δ.length) (h : GK K Z ta δ n fun d n1 => ∃ p qs pgs, d = .ptr p ∧ n1.μ p = some (.lst (qs.map D.ptr)) ∧ PgD n1 qs pgs ∧ pgs.flatten.length < 100000 ∧ Φ (.lst pgs.flatten) n1) :
    GK K Z (tLc2 (iList K ta) (gName i) tYes (iList K (tVar i)) (gName j) tYes (tVar j) vs [j]) δ n Φ := fun B M G0 H0 xw G H σ E Q q =>
  h B M G0 H0 xw G H σ E _ fun v d G1 H1 n1 f1 E1 s1 a1 => by
    obtain ⟨p, qs, pgs, rfl, hp, hpg, hl, f1⟩ := f1
    cases a1
    obtain ⟨ws, e1, e2⟩ := E1.mlst hp
    have := isPtrs e2
    subst this
    obtain ⟨vss, pv⟩ := hpg.vals E1
    have fl := pv.flat.len
    refine ⟨p, rfl, ⟨_, SqL.of e1⟩, fun c hc => ?_⟩
    have npc : p ≠ c := fun z => by rw [z, hc] at e1; cases e1
    have at_p : ∀ o, SqL K (upd H1 c o) p (qs.map V.ref) := fun o => SqL.of (by rw [upd_ne npc]; exact e1)
    have uu : ∀ o o', upd (upd H1 c o) c o' = upd H1 c o' := fun o o' => by
      funext b
      show (if b = c then some o' else if b = c then some o else H1 b) = if b = c then some o' else H1 b
      by_cases e : b = c
      · rw [if_pos e, if_pos e]
      · rw [if_neg e, if_neg e, if_neg e]
    refine ⟨fun i m H' => m = qs.length - i ∧ i ≤ qs.length ∧ H' = upd H1 c (.lst (vss.take i).flatten), ⟨qs.length, by simp, Nat.zero_le _, rfl⟩, ?_⟩
    rintro k m H' ⟨rfl, hk, rfl⟩
    by_cases hlt : k < qs.length
    · refine .inr ⟨⟨_, .ref qs[k], at_p _, by simp [hlt]⟩, fun H2 => H2 = upd H1 c (.lst (vss.take (k + 1)).flatten), fun H2 e => ⟨qs.length - (k + 1), by omega, rfl, hlt, e⟩, ?_⟩
      rintro x H'' ⟨rfl, hy⟩
      have hx := hy _ (at_p _)
      rw [List.getElem?_map, List.getElem?_eq_getElem hlt] at hx
      cases hx
      obtain ⟨ps, hps, hq⟩ := pv.at (List.getElem?_eq_getElem hlt)
      have nqc : qs[k] ≠ c := fun z => by rw [z, hc] at hq; cases hq
      have at_q : ∀ o, SqL K (upd H1 c o) qs[k] ps := fun o => SqL.of (by rw [upd_ne nqc]; exact hq)
      have hb := flat_lt hps
      refine ⟨((SameOff.set hi).trans SameOff.off).wipe, ?_⟩
      · unfold tYes
        refine iteT_ ?_
        refine ⟨.ref qs[k], ?_, qs[k], rfl, ⟨ps, at_q _⟩, fun a m H' => m = ps.length - a ∧ a ≤ ps.length ∧ H' = upd H1 c (.lst ((vss.take k).flatten ++ ps.take a)), ⟨ps.length, by simp, Nat.zero_le _, by simp⟩, ?_⟩
        · rw [List.getElem?_set_self (by rw [wipe_length, E1.len]; exact li)]
        rintro a m2 H3 ⟨rfl, ha, rfl⟩
        by_cases hat : a < ps.length
        · refine .inr ⟨⟨_, ps[a], at_q _, by simp [hat]⟩, fun H2 => H2 = upd H1 c (.lst ((vss.take k).flatten ++ ps.take (a + 1))), fun H2 e => ⟨ps.length - (a + 1), by omega, rfl, hat, e⟩, ?_⟩
          rintro y H4 ⟨rfl, hy⟩
          have hy := hy _ (at_q _)
          rw [List.getElem?_eq_getElem hat] at hy
          cases hy
          refine ⟨((SameOff.set (List.mem_singleton.mpr rfl)).trans SameOff.off).wipe, ?_⟩
          · refine iteT_ ?_
            refine ⟨ps[a], ?_, _, upd_same, ?_, ?_⟩
            · rw [List.getElem?_set_self (by rw [wipe_length, List.length_set, wipe_length, E1.len]; exact lj)]
            · refine sz_lt ?_
              rw [List.length_append, List.length_take]
              rw [List.length_append] at hb
              omega
            · rw [uu]
              have : ps.take (a + 1) = ps.take a ++ [ps[a]] := by rw [List.take_add_one, List.getElem?_eq_getElem hat]; rfl
              rw [this, List.append_assoc]
        · have ea : a = ps.length := by omega
          subst ea
          refine .inl ⟨⟨ps, at_q _, Nat.le_refl _⟩, ?_⟩
          rw [List.take_length, List.take_add_one, hps, List.flatten_append]
          simp
    · have ek : k = qs.length := by omega
      subst ek
      refine .inl ⟨⟨_, at_p _, by simp⟩, ?_⟩
      rw [← pv.len, List.take_length]
      have sn : ∀ o, Sub G1 (upd G1 c o) := fun o => Sub.new (E1.sub.none hc)
      exact q _ _ _ _ n1 f1 (E1.laid hc) (s1.trans (sn _)) (.lst upd_same (pv.flat.mono (sn _)))
end
end Tl
namespace Tl
open PySem PySem.Spec PyProof.Rows L2 TL LamX
/-! ### defs with defaults -/
section
variable [Tabl] {P : Program} {w : World} {K : PySem.W.Frag} {mg : Str → Option Value} {base : Heap}
theorem fn_XD {x qual : Str} {st : Stmt} {f : Addr} {fd : FuncData} {N ps : List Str} {k : Nat} {dvs : List V} {kws : List (Str × V)} {Pc : Sto → List D → (D → Sto → Prop) → (Exn → Sto → Prop) → Prop} (F : FunD K x qual (defArgs st) (defBody st) (defScope st) dvs kws f fd) (S : FnScope N ps (defScope st)) (hl : ∀ n ds Φ X, Pc n ds Φ X → ds.length = ps.length)
    (hb : ∀ (cdv : Value) (A : Around) (outer : List Env) (s : Shared) (H : Hp) (E : XK), Room k (A.deeper (PyProof.Rows.envOfC qual (defScope st) s.heap.objs.size f cdv)) →
      ∃ t, PSs (cxOf (L2.CX P w) P w K mg base N qual (defScope st) f cdv A outer s H E) (defBody st) t ∧ ∀ n ds Φ X, Pc n ds Φ X → GS K (zOf E X) none t (startD N ds) n (fun _ n' => Φ .non n') Φ (fun _ _ => False) (fun _ _ => False)) :
    FnOk P w K mg base (L2.CX P w) (k + 1) f fd ps (spM K Pc) := by
  refine F.ok S (fun vs H Q E h => ?_) (fun cdv A outer s H vs Q E hr h => ?_)
  · obtain ⟨G, n, ds, Φ, X, _, _, _, _, hv, hp, _⟩ := h
    rw [hv.len, hl n ds Φ X hp]
  · obtain ⟨G, n, ds, Φ, X, mb, tb, gn, hs, hv, hp, q, r⟩ := h
    obtain ⟨t, h1, h2⟩ := hb cdv A outer s H E hr
    exact ⟨t, h1, h2 n ds Φ X hp n.μ G H (fun e d σ' δ' G' H' n' he en xi => r e d G' H' n' he en.out xi) G H _ _ (En.start mb tb gn hs hv) (fun σ' δ' G' H' n' hd e _ => q .non .non G' H' n' hd e.out .non) (fun v d G' H' n' hd eo hv => q v d G' H' n' hd eo hv) (fun _ _ _ _ _ z => z.elim) (fun _ _ _ _ _ z => z.elim)⟩
theorem fn_MD {x qual : Str} {st : Stmt} {f : Addr} {fd : FuncData} {N ps : List Str} {k : Nat} {dvs : List V} {kws : List (Str × V)} {Pc : Sto → List D → (D → Sto → Prop) → (Exn → Sto → Prop) → Prop} (F : FunD K x qual (defArgs st) (defBody st) (defScope st) dvs kws f fd) (S : FnScope N ps (defScope st)) (hl : ∀ n ds Φ X, Pc n ds Φ X → ds.length = ps.length)
    (hb : ∀ (cdv : Value) (A : Around) (outer : List Env) (s : Shared) (H : Hp) (E : XK), Room k (A.deeper (PyProof.Rows.envOfC qual (defScope st) s.heap.objs.size f cdv)) →
      ∃ t, PSs (cxOf CX0 P w K mg base N qual (defScope st) f cdv A outer s H E).nox (defBody st) t ∧ ∀ n ds Φ X, Pc n ds Φ X → GS K .calm none t (startD N ds) n (fun _ n' => Φ .non n') Φ (fun _ _ => False) (fun _ _ => False)) :
    FnOk P w K mg base CX0 (k + 1) f fd ps (spM K Pc) := by
  refine F.ok S (fun vs H Q E h => ?_) (fun cdv A outer s H vs Q E hr h => ?_)
  · obtain ⟨G, n, ds, Φ, X, _, _, _, _, hv, hp, _⟩ := h
    rw [hv.len, hl n ds Φ X hp]
  · obtain ⟨G, n, ds, Φ, X, mb, tb, gn, hs, hv, hp, q, _⟩ := h
    obtain ⟨t, h1, h2⟩ := hb cdv A outer s H E hr
    exact ⟨t, h1.nox, h2 n ds Φ X hp n.μ G H .calm G H _ _ (En.start mb tb gn hs hv) (fun σ' δ' G' H' n' hd e _ => q .non .non G' H' n' hd e.out .non) (fun v d G' H' n' hd eo hv => q v d G' H' n' hd eo hv) (fun _ _ _ _ _ z => z.elim) (fun _ _ _ _ _ z => z.elim)⟩
theorem pi_list_K {X : Cx} {tg l : Expr} {tl : TE} {K : PySem.W.Frag} (e : X.K = K) (hl : PE X l tl) : PI X tg l (iList K tl) := e ▸ pi_list hl
end
section
variable [Tabl] {K : PySem.W.Frag} {Z : XZ}
theorem rk_inAddD {δ : List Slot} {n : Sto} {Φ : D → Sto → Prop} {i j : Int} (k : Φ (.int (i + j)) n) : RK K Z L2.rAdd (.int i) (.int j) δ n Φ := fun B M G0 H0 xw G H σ E v w a b Q q => by
  cases a
  cases b
  exact ⟨i, j, rfl, rfl, q _ _ G H n k E (Sub.refl G) (.int _)⟩
theorem rk_inSubD {δ : List Slot} {n : Sto} {Φ : D → Sto → Prop} {i j : Int} (k : Φ (.int (i - j)) n) : RK K Z L2.rSub (.int i) (.int j) δ n Φ := fun B M G0 H0 xw G H σ E v w a b Q q => by
  cases a
  cases b
  exact ⟨i, j, rfl, rfl, q _ _ G H n k E (Sub.refl G) (.int _)⟩
theorem gs_retN {B : Option Addr} {δ : List Slot} {n : Sto} {N Bk Ct : List Slot → Sto → Prop} {R : D → Sto → Prop} (h : R .non n) : GS K Z B tRetN δ n N R Bk Ct := fun m0 G0 H0 xw G H σ E e hn hr hb hc => hr _ _ G H n h e.out .non
theorem rc_lenP {δ : List Slot} {n : Sto} {Φ : D → Sto → Prop} {p : Addr} {xs : List D} (hp : n.μ p = some (.lst xs)) (k : Φ (.int xs.length) n) : RC K Z (fun xs H Q => ∃ p ys, xs = [.ref p] ∧ (SqL K H p ys ∨ SqT K H p ys) ∧ Q (.int ys.length) H) [.ptr p] δ n Φ := fun B M G0 H0 xw G H σ E vs a Q q => by
  cases a with
  | cons a r =>
    cases r
    cases a
    obtain ⟨ws, e1, e2⟩ := E.mlst hp
    exact ⟨p, ws, rfl, .inl (SqL.of e1), by rw [e2.len]; exact q _ _ _ _ n k E (Sub.refl G) (.int _)⟩
end
end Tl

namespace Tl
open PySem PySem.Spec PyProof.Rows L2 TL LamX
/-! ### a tuple times a whole number, any -/
theorem tuple_mul1 (l : Addr) (items : Array Value) (n : Nat) (dd : Option Addr) (sl : Array (Option Value)) (u : Tok) :
    Meets (Builtin.«tuple.__mul__» ⟨[.ref l, .int 1 u], []⟩) (fun _ R s => s.heap.get? l = some { cls := .type "tuple", dict := dd, data := .seq items n, slots := sl } ∧ R (.ok (.ret (Value.ref l))) s) :=
  .of_wp fun prog w A R s h => by
    obtain ⟨hp, g, d, tk, os⟩ := s
    obtain ⟨hl, h⟩ := h
    have f1 := AutoSeq1.idx_int
    wp_walk using wpAny_loadPart' hl
    repeat (first
      | (refine wpAny_ite_false (by decide) ?_; wp_walk using wpAny_loadPart' hl)
      | (refine wpAny_ite_true (by rw [Bool.or_eq_true]; simp) ?_; wp_walk using wpAny_loadPart' hl)
      | (refine wpAny_ite_true (by simp) ?_; wp_walk using wpAny_loadPart' hl))
    exact ⟨_, rfl, h⟩
theorem tuple_mul0 (l : Addr) (items : Array Value) (n : Nat) (dd : Option Addr) (sl : Array (Option Value)) (x : Int) (u : Tok) (c0 : (decide (x < -(2 ^ 63)) || decide (x ≥ 2 ^ 63)) = false) (c1 : (items.isEmpty || x == 1) = false) (c2 : (decide (x ≤ 0) || items.isEmpty) = true) :
    Meets (Builtin.«tuple.__mul__» ⟨[.ref l, .int x u], []⟩) (fun _ R s => s.heap.get? l = some { cls := .type "tuple", dict := dd, data := .seq items n, slots := sl } ∧
      R (.ok (.ret (Value.ref s.heap.objs.size))) { s with heap := s.heap.push { cls := Value.type "tuple", data := Data.seq #[] }, toks := s.toks }) :=
  .of_wp fun prog w A R s h => by
    obtain ⟨hp, g, d, tk, os⟩ := s
    obtain ⟨hl, h⟩ := h
    have f1 := AutoSeq1.idx_int
    wp_walk using wpAny_loadPart' hl
    repeat (first
      | (refine wpAny_ite_false (decide_eq_false (by rw [c0]; exact Bool.false_ne_true)) ?_; wp_walk using wpAny_loadPart' hl)
      | (refine wpAny_ite_false (decide_eq_false (by rw [c1]; exact Bool.false_ne_true)) ?_; wp_walk using wpAny_loadPart' hl)
      | (refine wpAny_ite_true (decide_eq_true (by rw [c2])) ?_; wp_walk using wpAny_loadPart' hl)
      | (refine wpAny_ite_false (by decide) ?_; wp_walk using wpAny_loadPart' hl))
    exact ⟨_, rfl, h⟩
/-- t * k, t not empty -/
def rRepTA (K : PySem.W.Frag) : R2 := fun x y H Q => ∃ l k xs, x = .ref l ∧ y = .int k ∧ SqT K H l xs ∧ xs ≠ [] ∧ -1000000 ≤ k ∧ k ≤ 1000000 ∧ xs.length * k.toNat ≤ 100000 ∧
  (k = 1 → Q (.ref l) H) ∧ (k ≠ 1 → ∀ p, H p = none → Q (.ref p) (upd H p (.tup (List.replicate k.toNat xs).flatten)))
theorem op_repTA {X : Cx} {K : PySem.W.Frag} (hK : X.K = K) : OpR X (binaryOp .Mult) (rRepTA K) := by
  subst hK
  intro pins s σ H x y v u Q I rx ry h
  obtain ⟨l, k, xs, rfl, rfl, hT, hne, h1, h2, hz, q1, q⟩ := h
  cases rx
  obtain ⟨t, rfl⟩ := ry
  obtain ⟨its, r, ⟨⟨cls, dd, data, sl⟩, ho, hc, n, hd⟩, hs⟩ := I.tuple hT
  simp only at hc hd
  subst hc hd
  have hle : its.length = xs.length := r.length.symm
  have hn : its ≠ [] := fun e => hne (by
    rw [e] at hle
    exact List.eq_nil_of_length_eq_zero hle.symm)
  have hi : its.toArray.isEmpty = false := by
    cases its with
    | nil => exact absurd rfl hn
    | cons a b => rfl
  have hsz0 : its.toArray.size = xs.length := by rw [List.size_toArray, hle]
  have c0 : (decide (k < -(2 ^ 63)) || decide (k ≥ 2 ^ 63)) = false := by
    rw [decide_eq_false (by omega), decide_eq_false (by omega)] <;> rfl
  by_cases e1 : k = 1
  · subst e1
    refine wpAny_binaryOp_repeat_ref (T := "tuple") (U := "int") (by decide) ⟨_, ho, rfl⟩ (fun s' => typeIs_int s' 1 t) noFill_tuple_mul F.fills_int_mul F.slot_int_rmul repeat_tuple F.slot_int_index.lookup
      (call_meets F.slot_int_rmul (typeIs_int s 1 t) F.entry_int_rmul (F.args_int_rmul_2 _ _) (int_rmul_tuple 1 t l its.toArray n dd sl)
        ⟨ho, rfl, ⟨_, ho, rfl⟩, call_meets F.slot_tuple_mul ⟨_, ho, rfl⟩ F.entry_tuple_mul (F.args_tuple_mul_2 _ _) (tuple_mul1 l its.toArray n dd sl t) ⟨ho, ?_⟩⟩)
    exact ⟨.ref l, H, I, rfl, q1 rfl⟩
  have c1 : (its.toArray.isEmpty || k == 1) = false := by
    rw [hi, Bool.false_or]
    exact beq_eq_false_iff_ne.mpr e1
  by_cases e0 : k ≤ 0
  · have c2 : (decide (k ≤ 0) || its.toArray.isEmpty) = true := by rw [decide_eq_true e0]; rfl
    have kz : k.toNat = 0 := by omega
    have q := q e1
    rw [kz] at q
    refine wpAny_binaryOp_repeat_ref (T := "tuple") (U := "int") (by decide) ⟨_, ho, rfl⟩ (fun s' => typeIs_int s' k t) noFill_tuple_mul F.fills_int_mul F.slot_int_rmul repeat_tuple F.slot_int_index.lookup
      (call_meets F.slot_int_rmul (typeIs_int s k t) F.entry_int_rmul (F.args_int_rmul_2 _ _) (int_rmul_tuple k t l its.toArray n dd sl)
        ⟨ho, rfl, ⟨_, ho, rfl⟩, call_meets F.slot_tuple_mul ⟨_, ho, rfl⟩ F.entry_tuple_mul (F.args_tuple_mul_2 _ _) (tuple_mul0 l its.toArray n dd sl k t c0 c1 c2) ⟨ho, ?_⟩⟩)
    refine ⟨.ref s.heap.objs.size, _, I.laid (t' := s.toks) (o := .tup []) (fun b ob q => Heap.get?_push_of_some _ q) (Nat.le_refl _) ?_, rfl, q _ (I.hok.fresh (Nat.le_refl _))⟩
    exact ⟨by show 0 ≤ sizeLine; decide, _, .nil, IsTup.new _ _⟩
  have e0 : 2 ≤ k := by omega
  have hmn : ((its.toArray.size : Nat) : Int) * k = ((xs.length * k.toNat : Nat) : Int) := by
    rw [hsz0, Int.natCast_mul, Int.toNat_of_nonneg (by omega)]
  have hm : ((its.toArray.size : Nat) : Int) * k ≤ 100000 := by
    rw [hmn]
    omega
  have flen : (List.replicate k.toNat its).flatten.length ≤ sizeLine := by
    rw [PyProof.Rows.lm_len_rep_flat, hle, sizeLine_eq, Nat.mul_comm]
    omega
  have c2 : (decide (k ≤ 0) || its.toArray.isEmpty) = false := by
    rw [hi, Bool.or_false]
    exact decide_eq_false (by omega)
  have c4 : Builtin.Tuple.tupleTooMany (((its.toArray.size : Nat) : Int) * k) = false := by
    unfold Builtin.Tuple.tupleTooMany
    rw [sizeLine_eq]
    exact decide_eq_false (by omega)
  have q := q e1
  refine wpAny_binaryOp_repeat_ref (T := "tuple") (U := "int") (by decide) ⟨_, ho, rfl⟩ (fun s' => typeIs_int s' k t) noFill_tuple_mul F.fills_int_mul F.slot_int_rmul repeat_tuple F.slot_int_index.lookup
    (call_meets F.slot_int_rmul (typeIs_int s k t) F.entry_int_rmul (F.args_int_rmul_2 _ _) (int_rmul_tuple k t l its.toArray n dd sl)
      ⟨ho, rfl, ⟨_, ho, rfl⟩, call_meets F.slot_tuple_mul ⟨_, ho, rfl⟩ F.entry_tuple_mul (F.args_tuple_mul_2 _ _) (tuple_mulW l its.toArray n dd sl k t c0 c1 c2 (by omega) c4 (by rw [size_rep, List.size_toArray]; exact flen)) ⟨ho, ?_⟩⟩)
  rw [size_rep]
  refine ⟨.ref s.heap.objs.size, _, I.laid (t' := s.toks) (o := .tup (List.replicate k.toNat xs).flatten) (fun b ob q => Heap.get?_push_of_some _ q) (Nat.le_refl _) ?_, rfl, q _ (I.hok.fresh (Nat.le_refl _))⟩
  exact ⟨by rw [PyProof.Rows.lm_len_rep_flat, sizeLine_eq, Nat.mul_comm]; omega, _, r.rep k.toNat, IsTup.new _ _⟩
section
variable [Tabl] {K : PySem.W.Frag} {Z : XZ} {δ : List Slot} {n : Sto} {Φ : D → Sto → Prop}
theorem rk_repT {xs : List D} {m : Int} (hx : xs ≠ []) (h1 : -1000000 ≤ m) (h2 : m ≤ 1000000) (h : xs.length * m.toNat ≤ 100000) (k : Φ (.tup (List.replicate m.toNat xs).flatten) n) : RK K Z (rRepTA K) (.tup xs) (.int m) δ n Φ := fun B M G0 H0 xw G H σ E v w a b Q q => by
  cases b
  cases a with
  | @tup p vs _ h3 a1 =>
    refine ⟨p, m, vs, rfl, rfl, E.sub.seq h3, fun e => hx (by subst e; cases a1; rfl), h1, h2, by rw [a1.len]; exact h, fun e => ?_, fun e p2 hp => ?_⟩
    · subst e
      have k : Φ (.tup xs) n := by simpa using k
      exact q _ _ G H n k E (Sub.refl G) (.tup h3 a1)
    · have s2 : ∀ o, Sub G (upd G p2 o) := fun o => Sub.new (E.sub.none hp)
      exact q _ _ _ _ n k (E.laid hp) (s2 _) (.tup (SqT.of upd_same) ((a1.repF m.toNat).mono (s2 _)))
end
end Tl

namespace Tl
open PySem PySem.Spec PyProof.Rows L2 TL LamX
/-! ### equality of data without truths -/
mutual
def nb : D → Bool
  | .non => true | .int _ => true | .str _ => true | .lst xs => nbs xs | .tup xs => nbs xs | _ => false
def nbs : List D → Bool
  | [] => true
  | x :: xs => nb x && nbs xs
end
mutual
theorem eqD_iff : ∀ {x y : D}, nb x = true → nb y = true → (PyData.eqv (toP x) (toP y) = true ↔ x = y)
  | .non, y, _, hy => by cases y <;> simp_all [toP, PyData.eqv, nb]
  | .int i, y, _, hy => by cases y <;> simp_all [toP, PyData.eqv, nb]
  | .str z, y, _, hy => by cases y <;> simp_all [toP, PyData.eqv, nb]
  | .lst xs, y, hx, hy => by
    cases y with
    | lst ys =>
      have := eqDs_iff (xs := xs) (ys := ys) (by simpa [nb] using hx) (by simpa [nb] using hy)
      simp only [toP, PyData.eqv, D.lst.injEq]
      exact this
    | _ => simp_all [toP, PyData.eqv, nb]
  | .tup xs, y, hx, hy => by
    cases y with
    | tup ys =>
      have := eqDs_iff (xs := xs) (ys := ys) (by simpa [nb] using hx) (by simpa [nb] using hy)
      simp only [toP, PyData.eqv, D.tup.injEq]
      exact this
    | _ => simp_all [toP, PyData.eqv, nb]
  | .bl b, y, hx, _ => by simp [nb] at hx
  | .dic b, y, hx, _ => by simp [nb] at hx
  | .dct b, y, hx, _ => by simp [nb] at hx
  | .ptr b, y, hx, _ => by simp [nb] at hx
theorem eqDs_iff : ∀ {xs ys : List D}, nbs xs = true → nbs ys = true → (PyData.eqvAll (toPs xs) (toPs ys) = true ↔ xs = ys)
  | [], ys, _, hy => by cases ys <;> simp_all [toPs, PyData.eqvAll, nbs]
  | x :: xs, ys, hx, hy => by
    cases ys with
    | nil => simp [toPs, PyData.eqvAll]
    | cons y ys =>
      have hx : nb x = true ∧ nbs xs = true := by simpa [nbs] using hx
      have hy : nb y = true ∧ nbs ys = true := by simpa [nbs] using hy
      have h1 := eqD_iff hx.1 hy.1
      have h2 := eqDs_iff hx.2 hy.2
      simp only [toPs, PyData.eqvAll, Bool.and_eq_true, List.cons.injEq]
      rw [h1, h2]
end
theorem eqD_t {x y : D} (hx : nb x = true) (hy : nb y = true) (e : x = y) : eqD x y = true := (eqD_iff hx hy).mpr e
theorem eqD_f {x y : D} (hx : nb x = true) (hy : nb y = true) (e : x ≠ y) : eqD x y = false := by
  cases h : eqD x y with
  | false => rfl
  | true => exact absurd ((eqD_iff hx hy).mp h) e
theorem nbs_all {xs : List D} (h : ∀ x ∈ xs, nb x = true) : nbs xs = true := by
  induction xs with
  | nil => rfl
  | cons x xs ih =>
    rw [nbs, h x List.mem_cons_self, ih fun y hy => h y (List.mem_cons_of_mem _ hy)]
    rfl
theorem nb_ints {xs : List Int} : nbs (xs.map D.int) = true := nbs_all fun x hx => by
  obtain ⟨i, _, rfl⟩ := List.mem_map.mp hx
  rfl
theorem nb_strs {xs : List Str} : nbs (xs.map D.str) = true := nbs_all fun x hx => by
  obtain ⟨i, _, rfl⟩ := List.mem_map.mp hx
  rfl
theorem map_int_inj {xs ys : List Int} (h : xs.map D.int = ys.map D.int) : xs = ys := by
  induction xs generalizing ys with
  | nil => cases ys with
    | nil => rfl
    | cons y ys => cases h
  | cons x xs ih => cases ys with
    | nil => cases h
    | cons y ys =>
      simp only [List.map_cons, List.cons.injEq, D.int.injEq] at h
      rw [h.1, ih h.2]
theorem map_str_inj {xs ys : List Str} (h : xs.map D.str = ys.map D.str) : xs = ys := by
  induction xs generalizing ys with
  | nil => cases ys with
    | nil => rfl
    | cons y ys => cases h
  | cons x xs ih => cases ys with
    | nil => cases h
    | cons y ys =>
      simp only [List.map_cons, List.cons.injEq, D.str.injEq] at h
      rw [h.1, ih h.2]
theorem eqD_tI {xs ys : List Int} : eqD (.tup (xs.map D.int)) (.tup (ys.map D.int)) = decide (xs = ys) := by
  by_cases e : xs = ys
  · rw [decide_eq_true e, eqD_t (x := .tup (xs.map D.int)) (y := .tup (ys.map D.int)) (by rw [nb]; exact nb_ints) (by rw [nb]; exact nb_ints) (by rw [e])]
  · rw [decide_eq_false e, eqD_f (x := .tup (xs.map D.int)) (y := .tup (ys.map D.int)) (by rw [nb]; exact nb_ints) (by rw [nb]; exact nb_ints) (fun z => e (map_int_inj (D.tup.inj z)))]
section
variable [Tabl] {K : PySem.W.Frag} {Z : XZ} {δ : List Slot} {n : Sto} {Φ : D → Sto → Prop}
/-- == and != of tuples of whole numbers -/
theorem rk_eqTI {xs ys : List Int} (q : Φ (.bl (decide (xs = ys))) n) : RK K Z (rEqD K) (.tup (xs.map D.int)) (.tup (ys.map D.int)) δ n Φ := rk_eqD (j := 1) (k := 1) (.tup shp_ints) (.tup shp_ints) (by decide) (by decide) (by rw [eqD_tI]; exact q)
theorem rk_neTI {xs ys : List Int} (q : Φ (.bl (!decide (xs = ys))) n) : RK K Z (rNeD K) (.tup (xs.map D.int)) (.tup (ys.map D.int)) δ n Φ := rk_neD (j := 1) (k := 1) (.tup shp_ints) (.tup shp_ints) (by decide) (by decide) (by rw [eqD_tI]; exact q)
/-- isinstance of what was caught, by a class of the program -/
theorem gk_isXc {i : Nat} {a C C2 : Addr} {d : Option Addr} {fs : List (Str × D)} {b : Bool} (hi : δ[i]? = some (.exn a d fs)) (hk : PySem.W.kitOne K (.ref C) (.ref C2) = some b) (k : Φ (.bl b) n) : GK K Z (tCB (rIsX K C a (.ref C) d) (tCons (tVar i) (tCons (tC (.ref C2)) tNil))) δ n Φ := fun B M G0 H0 xw G H σ E Q q => by
  obtain ⟨e1, xi⟩ := E.slot i _ hi
  have xd : XdAt H d := by
    rcases xi with ⟨rfl, _⟩ | ⟨dd, vs, rfl, h2, _⟩
    · exact .inl rfl
    · exact .inr ⟨dd, vs, rfl, E.sub _ _ h2⟩
  exact ⟨.ref a, look_some e1, _, _, b, rfl, rfl, .own _, hk, xd, q _ _ G H n k E (Sub.refl G) (.bl b)⟩
end
end Tl

namespace Tl
open PySem PySem.Spec PyProof.Rows L2 TL LamX
/-! ### objects made by names, by defaults; len by an own def -/
def rLenO (C : Addr) (sp : Sp) (E : XK) : List V → Hp → VK → Prop := fun xs H Q => ∃ a dx fs, xs = [.ref a] ∧ H a = some (.ins C dx fs) ∧ sp [.ref a] H (fun v H2 => ∃ i : Int, v = .int i ∧ 0 ≤ i ∧ i < 2 ^ 63 ∧ Q (.int i) H2) E
theorem call_lenO {X : Cx} {CX : CXT} {k : Nat} {f C : Addr} {fd : FuncData} {ps : List Str} {sp : Sp} {E : XK} (hm : Meth X.K C "__len__" f) (F : FnOk X.prog X.w X.K X.mg X.base CX k f fd ps sp) (hr : Room (k + 1) X.A) (hb : Binds X.K fd ps []) (hx : Passes CX X E) : CallR X (.builtin "len") (rLenO C sp E) := by
  intro pins s σ H xs us Q I r h
  obtain ⟨a, dx, fs, rfl, ha, hsp⟩ := h
  obtain ⟨u, rfl, ru⟩ : ∃ u, us = [u] ∧ RelV (.ref a) u := by
    cases r with
    | cons h1 h2 => cases h2; exact ⟨_, rfl, h1⟩
  cases (show u = Value.ref a from ru)
  obtain ⟨mA, J, _⟩ := ins_get I.hok ha
  obtain ⟨od, J, _⟩ := J.look
  obtain ⟨m, hF⟩ := I.fr
  refine PySem.W.len_K hF I.ok.mod.kin J hm.at_ hm.fn ?_
  have r2 : Vals [V.ref a] [Value.ref a] := .cons rfl .nil
  have hl := F.len _ _ _ _ hsp
  refine wpAny_call (codeAny_mono (F.run X.A.in1 X.stack s H ⟨[.ref a], []⟩ [.ref a] [.ref a] _ E hr.in1 I.env0.in1 (by
    have := hb s [.ref a] I.kIn (by simpa using hl)
    simpa using this) r2 hsp) fun res s2 hq => ?_)
  cases res with
  | error e => exact hx pins σ H s e s2 I hq
  | ok fl =>
    cases fl with
    | next => exact hq.elim
    | brk => exact hq.elim
    | cont => exact hq.elim
    | ret u =>
      obtain ⟨v, H2, I2, rv, i, rfl, i0, i1, q⟩ := I.after hq
      obtain ⟨t, rfl⟩ := rv
      exact ⟨⟨i0, i1⟩, .int i, H2, I2.kept (t' := s2.toks + 1) fun _ _ z => z, ⟨_, rfl⟩, q⟩
section
variable [Tabl] {K : PySem.W.Frag} {Z : XZ} {δ : List Slot} {n : Sto} {Φ : D → Sto → Prop} {ta : TE} {aa ab : TA}
theorem gk_lenO {C : Addr} {sp : Sp} {E : XK} (h : GK K Z ta δ n fun d n1 => ∃ p dx fs, d = .ptr p ∧ n1.μ p = some (.ins C dx fs) ∧ SC K Z sp [.ptr p] δ n1 fun y n2 => ∃ i : Int, y = .int i ∧ 0 ≤ i ∧ i < 2 ^ 63 ∧ Φ (.int i) n2) : GK K Z (tCB (rLenO C sp E) (tCons ta tNil)) δ n Φ := fun B M G0 H0 xw G H σ E Q q =>
  h B M G0 H0 xw G H σ E _ fun v d G1 H1 n1 f1 E1 s1 a1 => by
    obtain ⟨p, dx, fs, rfl, hp, k⟩ := f1
    cases a1
    obtain ⟨⟨vs, hv, _⟩, _⟩ := E1.mob p _ hp
    refine ⟨p, dx, vs, rfl, hv, k B M G0 H0 xw G1 H1 σ E1 _ (.cons (.ptr p) .nil) _ _ fun u y G2 H2 n2 f2 E2 s2 a2 => ?_⟩
    obtain ⟨i, rfl, i0, i1, f2⟩ := f2
    cases a2
    exact ⟨i, rfl, i0, i1, q _ _ G2 H2 n2 f2 E2 (s1.trans s2) (.int i)⟩
theorem rc_lenO {C p dx : Addr} {fs : List (Str × D)} {sp : Sp} {E : XK} (hp : n.μ p = some (.ins C dx fs)) (k : SC K Z sp [.ptr p] δ n fun y n2 => ∃ i : Int, y = .int i ∧ 0 ≤ i ∧ i < 2 ^ 63 ∧ Φ (.int i) n2) : RC K Z (rLenO C sp E) [.ptr p] δ n Φ := fun B M G0 H0 xw G H σ E vs a Q q => by
  cases a with
  | cons a1 r =>
    cases r
    cases a1
    obtain ⟨⟨vs, hv, _⟩, _⟩ := E.mob p _ hp
    refine ⟨p, dx, vs, rfl, hv, k B M G0 H0 xw G H σ E _ (.cons (.ptr p) .nil) _ _ fun u y G2 H2 n2 f2 E2 s2 a2 => ?_⟩
    obtain ⟨i, rfl, i0, i1, f2⟩ := f2
    cases a2
    exact ⟨i, rfl, i0, i1, q _ _ G2 H2 n2 f2 E2 s2 (.int i)⟩
/-- C(..) with defaults that are data -/
theorem gk_makeD {C : Addr} {sp : Sp} {ms : List V} {es : List D} {E : XK} (hm : ∀ G, IsAll K G ms es) (h : GA K Z aa δ n fun xs n1 => ∀ p dx, n1.μ p = none → SC K Z sp (.ptr p :: (xs ++ es)) δ (n1.put p (.ins C dx [])) fun d n2 => d = .non ∧ Φ (.ptr p) n2) : GK K Z (tMake C sp ms E aa) δ n Φ := fun B M G0 H0 xw G H σ E Q q =>
  h B M G0 H0 xw G H σ E _ fun ws xs G1 H1 n1 f1 E1 s1 a1 => fun x dx hx hdx ne => by
    have hx' : upd H1 dx (.own x) x = none := by rw [upd_ne (Ne.symm ne)]; exact hx
    have E2 := (E1.newc (o := .own x) hdx).mnew (p := x) (u := .ins C dx []) (o := .ins C dx []) hx' ⟨[], upd_same, .nil⟩
    exact f1 x dx (E1.nomob hx) B M G0 H0 xw G1 _ σ E2 _ (.cons (.ptr x) (a1.app (hm G1))) _ _ fun v d G3 H3 n3 f3 E3 s3 a3 => by
      obtain ⟨rfl, f3⟩ := f3
      cases a3
      exact ⟨rfl, q _ _ G3 H3 n3 f3 E3 (s1.trans s3) (.ptr x)⟩
/-- C(.., k = v) -/
theorem gk_makeK {C : Addr} {sp : Sp} {ms : List V} {es : List D} {E : XK} {k m : Nat} {plan : List (Nat × Nat)} (hm : ∀ G, IsAll K G ms es) (h : GA K Z aa δ n fun xs n1 => GA K Z ab δ n1 fun ys n2 => xs.length = k ∧ ys.length = m ∧ ∀ p dx, n2.μ p = none → SC K Z sp (kgP plan (.ptr p :: xs) es ys) δ (n2.put p (.ins C dx [])) fun d n3 => d = .non ∧ Φ (.ptr p) n3) : GK K Z (tMakeK C k m sp (fun vs zs => kgP plan vs ms zs) E aa ab) δ n Φ := fun B M G0 H0 xw G H σ E Q q =>
  h B M G0 H0 xw G H σ E _ fun vs xs G1 H1 n1 f1 E1 s1 a1 => f1 B M G0 H0 xw G1 H1 σ E1 _ fun zs ys G2 H2 n2 f2 E2 s2 a2 => ⟨(a1.len).trans f2.1, (a2.len).trans f2.2.1, fun x dx hx hdx ne => by
    have hx' : upd H2 dx (.own x) x = none := by rw [upd_ne (Ne.symm ne)]; exact hx
    have E3 := (E2.newc (o := .own x) hdx).mnew (p := x) (u := .ins C dx []) (o := .ins C dx []) hx' ⟨[], upd_same, .nil⟩
    exact f2.2.2 x dx (E2.nomob hx) B M G0 H0 xw G2 _ σ E3 _ (kgP_is (.cons (.ptr x) (a1.mono s2)) (hm G2) a2) _ _ fun v d G3 H3 n3 f3 E4 s3 a3 => by
      obtain ⟨rfl, f3⟩ := f3
      cases a3
      exact ⟨rfl, q _ _ G3 H3 n3 f3 E4 ((s1.trans s2).trans s3) (.ptr x)⟩⟩
end
end Tl

namespace Tl
open PySem PySem.Spec PyProof.Rows L2 TL LamX
/-! ### dicts of the store, reached by a pointer; locked dicts as data -/
theorem tabs_to {T : List (Addr × Str)} {H : Hp} {c : Addr} {o u : HO} (t : Tabs T H) (e : H c = some u) (hu : (∀ ps, u ≠ .tbl ps) ∧ ∀ a q, u ≠ CodeO a q) : Tabs T (upd H c o) := fun p hp => by
  obtain ⟨ps, h1, h2, h3⟩ := t p hp
  refine ⟨ps, by rw [upd_ne fun z => by rw [z, e] at h1; exact hu.1 ps (Option.some.inj h1)]; exact h1, h2, fun pos cv hc => ?_⟩
  obtain ⟨c0, e1, e2⟩ := h3 pos cv hc
  exact ⟨c0, e1, by rw [upd_ne fun z => by rw [z, e] at e2; exact hu.2 _ _ (Option.some.inj e2)]; exact e2⟩
theorem frz_no {od : Obj} {kvs : List (Key × V)} : (∀ ps, HO.frz od (.dK kvs) ≠ .tbl ps) ∧ ∀ a q, HO.frz od (.dK kvs) ≠ CodeO a q := ⟨(fun _ z => nomatch z), fun a q z => by unfold CodeO at z; cases z⟩
theorem dK_no {kvs : List (Key × V)} : (∀ ps, HO.dK kvs ≠ .tbl ps) ∧ ∀ a q, HO.dK kvs ≠ CodeO a q := ⟨(fun _ z => nomatch z), fun a q z => by unfold CodeO at z; cases z⟩
/-- no locked dict within -/
def ndct : D → Bool
  | .lst xs => ndcts xs | .tup xs => ndcts xs | .dct _ => false | .dic _ => false | _ => true
where ndcts : List D → Bool
  | [] => true
  | x :: xs => ndct x && ndcts xs
abbrev ndcts := ndct.ndcts
theorem ndcts_and {x : D} {xs : List D} (h : ndcts (x :: xs) = true) : ndct x = true ∧ ndcts xs = true := by
  have h : (ndct x && ndcts xs) = true := h
  rwa [Bool.and_eq_true] at h
def MO.nd : MO → Bool
  | .lst xs => ndcts xs
  | .dic kvs => ndcts (kvs.map (·.2))
  | .ins _ _ fs => ndcts (fs.map (·.2))
def offp (G : Hp) (p : Addr) : Hp := fun b => if b = p then none else G b
theorem offp_ne {G : Hp} {p b : Addr} (h : b ≠ p) : offp G p b = G b := if_neg h
theorem offp_same {G : Hp} {p : Addr} : offp G p p = none := if_pos rfl
section
variable {K : PySem.W.Frag} {G : Hp} {p : Addr} {od : Obj} {kvs : List (Key × V)}
theorem seqT_offp {a : Addr} {xs : List V} (hp : G p = some (.frz od (.dK kvs))) (h : SqT K G a xs) : SqT K (offp G p) a xs := by
  have ne : ∀ u, G a = some u → (u = .tup xs ∨ ∃ o, u = .frz o (.tup xs)) → a ≠ p := fun u e hu z => by
    rw [z, hp] at e
    cases e
    rcases hu with hu | ⟨o, hu⟩ <;> cases hu
  rcases h with (h | ⟨o, h⟩) | h
  · exact .inl (.inl ((offp_ne (ne _ h (.inl rfl))).trans h))
  · exact .inl (.inr ⟨o, (offp_ne (ne _ h (.inr ⟨o, rfl⟩))).trans h⟩)
  · exact .inr h
mutual
theorem Is.offp (hp : G p = some (.frz od (.dK kvs))) : ∀ {v : V} {d : D}, Is K G v d → ndct d = true → Is K (Tl.offp G p) v d
  | _, _, .non, _ => .non
  | _, _, .bl b, _ => .bl b
  | _, _, .int i, _ => .int i
  | _, _, .str x, _ => .str x
  | _, _, .lst (p := q) h a, f => .lst ((offp_ne (b := q) fun z => by rw [z, hp] at h; cases h).trans h) (IsAll.offp hp a (by simpa [ndct] using f))
  | _, _, .tup h a, f => .tup (seqT_offp hp h) (IsAll.offp hp a (by simpa [ndct] using f))
  | _, _, .dic _ _, f => by simp [ndct] at f
  | _, _, .ptr a, _ => .ptr a
  | _, _, .dct _ _, f => by simp [ndct] at f
theorem IsAll.offp (hp : G p = some (.frz od (.dK kvs))) : ∀ {vs : List V} {ds : List D}, IsAll K G vs ds → ndcts ds = true → IsAll K (Tl.offp G p) vs ds
  | _, _, .nil, _ => .nil
  | _, _, .cons h r, f => by
    have f := ndcts_and f
    exact .cons (Is.offp hp h f.1) (IsAll.offp hp r f.2)
end
theorem IsKv.offp (hp : G p = some (.frz od (.dK kvs))) : ∀ {vs : List (Key × V)} {ds : List (Key × D)}, IsKv K G vs ds → ndcts (ds.map (·.2)) = true → IsKv K (Tl.offp G p) vs ds
  | _, _, .nil, _ => .nil
  | _, _, .cons h r, f => by
    have f := ndcts_and f
    exact .cons (Is.offp hp h f.1) (IsKv.offp hp r f.2)
theorem IsFs.offp (hp : G p = some (.frz od (.dK kvs))) : ∀ {vs : List (Str × V)} {ds : List (Str × D)}, IsFs K G vs ds → ndcts (ds.map (·.2)) = true → IsFs K (Tl.offp G p) vs ds
  | _, _, .nil, _ => .nil
  | _, _, .cons h r, f => by
    have f := ndcts_and f
    exact .cons (h.offp hp f.1) (IsFs.offp hp r f.2)
theorem MOk.offp {H H' : Hp} {a : Addr} {o : MO} (hp : G p = Option.some (.frz od (.dK kvs))) (h : MOk K G H a o) (e : H' a = H a) (f : o.nd = true) : MOk K (Tl.offp G p) H' a o := by
  cases o with
  | lst xs =>
    obtain ⟨vs, h1, h2⟩ := h
    exact ⟨vs, e.trans h1, h2.offp hp f⟩
  | dic xs =>
    obtain ⟨vs, h1, h2⟩ := h
    exact ⟨vs, e.trans h1, h2.offp hp f⟩
  | ins C dx fs =>
    obtain ⟨vs, h1, h2⟩ := h
    exact ⟨vs, e.trans h1, h2.offp hp f⟩
end
section
variable [Tabl] {K : PySem.W.Frag} {Z : XZ} {B : Option Addr} {M : Addr → Prop} {δ : List Slot} {n : Sto} {Φ : D → Sto → Prop} {te ta tb tv : TE} {aa : TA} {N Bk Ct : List Slot → Sto → Prop} {R : D → Sto → Prop} {G0 H0 G H : Hp} {σ : L2.St} {ts : TS}
theorem En.mdic {p : Addr} {es : List (Key × D)} (E : En K B M n G0 H0 G H σ δ) (h : n.μ p = some (.dic es)) : ∃ vs, H p = some (.dK vs) ∧ IsKv K G vs es := (E.mob p _ h).1
/-- a dict of the store is locked: it becomes data -/
theorem En.mlock {p : Addr} {es : List (Key × D)} {vs : List (Key × V)} (od : Obj) (E : En K B M n G0 H0 G H σ δ) (hp : n.μ p = some (.dic es)) (hu : H p = some (.dK vs)) : En K B M (n.off p) G0 H0 (upd G p (.frz od (.dK vs))) (upd H p (.frz od (.dK vs))) σ δ := by
  obtain ⟨mo, gp, mp, nb⟩ := E.mob p _ hp
  have sg : Sub G (upd G p (.frz od (.dK vs))) := Sub.new gp
  have np : ∀ (i : Nat) (x : MO) (b : Addr), δ[i]? = some (.ow x) → σ[i]? = some (some (.ref b)) → b ≠ p := fun i x b hi hs z => by
    have := E.mow i x b hi hs
    rw [z, hp] at this
    cases this
  refine ⟨E.sub0.trans sg, E.sub.up, fun b o e hb => ?_, fun b hb => ?_, fun b hb gb => ?_, fun r hr => ?_, tabs_to E.tabs hu dK_no, fun b ps hb => ?_, gnt_upd E.gnt frz_no.1, E.len, fun j t ht => ?_, E.dis, fun b z hb => ?_, fun j x b hj sj => ?_⟩
  · rw [upd_ne (ne_M mp hb)]
    exact E.same b o e hb
  · by_cases z : b = p
    · rw [z, upd_same] at hb
      cases hb
    · rw [upd_ne z] at hb
      exact E.free b hb
  · rw [upd_ne (ne_M mp hb)]
    exact E.fresh b hb gb
  · obtain ⟨b1, b2, b3⟩ := E.bagged r hr
    have ne : r ≠ p := fun z => nb (by rw [← z]; exact hr)
    exact ⟨bag_kept b1 fun xs e => by rw [upd_ne ne]; exact e, by rw [upd_ne ne]; exact b2, b3⟩
  · by_cases z : b = p
    · rw [z, upd_same] at hb
      cases hb
    · rw [upd_ne z] at hb
      exact E.tin b ps hb
  · have h := E.slot j t ht
    cases t with
    | un => trivial
    | d x =>
      obtain ⟨v, f1, f2⟩ := h
      exact ⟨v, f1, f2.mono sg⟩
    | ow x =>
      obtain ⟨r, f1, f2, f4, f5⟩ := h
      have ne := np j x r ht (look_some f1)
      exact ⟨r, f1, f2.mono sg (upd_ne ne), by rw [upd_ne ne]; exact f4, f5⟩
    | raw v => exact h
    | bag => exact h
    | scr ns => exact ⟨_, h.choose_spec.1, sg.seqL h.choose_spec.2⟩
    | exn a d fs => exact ⟨h.1, h.2.mono sg⟩
  · have e : b ≠ p := fun z => by
      rw [z, Sto.off_same] at hb
      cases hb
    rw [Sto.off_ne e] at hb
    obtain ⟨h1, h2, h3, h4⟩ := E.mob b z hb
    exact ⟨h1.mono sg (upd_ne e), by rw [upd_ne e]; exact h2, h3, h4⟩
  · rw [Sto.off_ne (np j x b hj sj)]
    exact E.mow j x b hj sj
/-- behind the lock -/
theorem En.munlock {p : Addr} {es : List (Key × D)} {vs : List (Key × V)} {od : Obj} {n' : Sto} {G' H' : Hp} {δ' : List Slot} (E : En K B M n G0 H0 G H σ δ) (hp : n.μ p = some (.dic es)) (hu : H p = some (.dK vs)) (hv : IsKv K G vs es)
    (hs : ∀ a o, n.μ a = some o → a ≠ p → o.nd = true) (ho : ∀ (i : Nat) (o : MO), δ[i]? = some (.ow o) → o.nd = true) (hδ : ∀ (i : Nat) (o : MO), δ[i]? = some (.ow o) → δ'[i]? = some (.ow o))
    (e : En K B (fun b => M b ∧ b ≠ p) n' (upd G p (.frz od (.dK vs))) (upd H p (.frz od (.dK vs))) G' H' σ δ') (sb : Sub (upd G p (.frz od (.dK vs))) G') (em : n'.μ = (n.off p).μ) :
    Sub G (offp G' p) ∧ H' p = some (.frz od (.dK vs)) ∧ G' p = some (.frz od (.dK vs)) ∧ En K B M ⟨n'.n, n.μ⟩ G0 H0 (offp G' p) (upd H' p (.dK vs)) σ δ := by
  obtain ⟨mo, gp, mp, nb⟩ := E.mob p _ hp
  have g1 : G' p = some (.frz od (.dK vs)) := sb _ _ upd_same
  have h1 : H' p = some (.frz od (.dK vs)) := e.same p _ upd_same fun z => z.2 rfl
  have sg : Sub G (offp G' p) := fun b o h => by
    have ne : b ≠ p := fun z => by rw [z, gp] at h; cases h
    rw [offp_ne ne]
    exact sb b o (by rw [upd_ne ne]; exact h)
  have np : ∀ (i : Nat) (x : MO) (b : Addr), δ[i]? = some (.ow x) → σ[i]? = some (some (.ref b)) → b ≠ p := fun i x b hi hs z => by
    have := E.mow i x b hi hs
    rw [z, hp] at this
    cases this
  refine ⟨sg, h1, g1, E.sub0.trans sg, fun b o h => ?_, fun b o h nm => ?_, fun b h => ?_, fun b nm g0 => ?_, fun r hr => ?_, tabs_to e.tabs h1 frz_no, fun b ps h => ?_, fun b ps h => ?_, E.len, fun j t ht => ?_, E.dis, fun b z hb => ?_, fun j x b hj sj => E.mow j x b hj sj⟩
  · by_cases z : b = p
    · rw [z, offp_same] at h
      cases h
    · rw [offp_ne z] at h
      rw [upd_ne z]
      exact e.sub b o h
  · have ne := ne_M mp nm
    rw [upd_ne ne]
    exact e.same b o (by rw [upd_ne ne]; exact E.same b o h nm) fun z => nm z.1
  · by_cases z : b = p
    · rw [z]
      exact mp
    · rw [upd_ne z] at h
      exact (e.free b h).1
  · have ne := ne_M mp nm
    rw [offp_ne ne]
    exact e.fresh b (fun z => nm z.1) (by rw [upd_ne ne]; exact E.fresh b nm g0)
  · obtain ⟨b1, b2, b3⟩ := e.bagged r hr
    have ne : r ≠ p := b3.2
    exact ⟨bag_kept b1 fun xs h => by rw [upd_ne ne]; exact h, by rw [offp_ne ne]; exact b2, b3.1⟩
  · by_cases z : b = p
    · rw [z]
      exact mp
    · rw [upd_ne z] at h
      exact (e.tin b ps h).1
  · by_cases z : b = p
    · rw [z, offp_same] at h
      cases h
    · rw [offp_ne z] at h
      exact e.gnt b ps h
  · cases t with
    | un => trivial
    | d x =>
      obtain ⟨v, f1, f2⟩ := E.slot j _ ht
      exact ⟨v, f1, f2.mono sg⟩
    | ow x =>
      obtain ⟨r, f1, f2, f4, f5, f6⟩ := e.slot j _ (hδ j x ht)
      exact ⟨r, f1, f2.offp g1 (upd_ne f5.2) (ho j x ht), by rw [offp_ne f5.2]; exact f4, f5.1, f6⟩
    | raw v => exact E.slot j _ ht
    | bag => exact E.slot j _ ht
    | scr ns => exact let h := E.slot j _ ht; ⟨_, h.choose_spec.1, sg.seqL h.choose_spec.2⟩
    | exn a d fs => exact let h := E.slot j _ ht; ⟨h.1, h.2.mono sg⟩
  · by_cases z2 : b = p
    · subst z2
      have : z = .dic es := Option.some.inj (hb.symm.trans hp)
      subst this
      exact ⟨⟨vs, upd_same, hv.mono sg⟩, offp_same, mp, nb⟩
    · have hb' : n'.μ b = some z := by
        rw [em]
        exact (Sto.off_ne z2).trans hb
      obtain ⟨m1, m2, m3, m4⟩ := e.mob b z hb'
      exact ⟨m1.offp g1 (upd_ne z2) (hs b z hb z2), by rw [offp_ne z2]; exact m2, m3.1, m4⟩
/-- an expression read while a dict of the store is locked and seen as data -/
theorem gk_lockB {i : Nat} {p : Addr} {es : List (Key × D)} (hi : δ[i]? = some (.d (.ptr p))) (hp : n.μ p = some (.dic es)) (hs : ∀ a o, n.μ a = some o → a ≠ p → o.nd = true) (ho : ∀ (j : Nat) (o : MO), δ[j]? = some (.ow o) → o.nd = true)
    (h : GK K .calm te (δ.set i (.d (.dct es))) (n.off p) fun d n1 => ndct d = true ∧ n1.μ = (n.off p).μ ∧ Φ d ⟨n1.n, n.μ⟩) : GK K Z (tLockE te) δ n Φ := fun B M G0 H0 xw G H σ E Q q => by
  obtain ⟨vs, hu, hv⟩ := E.mdic hp
  obtain ⟨mo, gp, mp, nb⟩ := E.mob p _ hp
  obtain ⟨v, hσ, hvp⟩ := E.var hi
  cases hvp
  refine ⟨p, .dK vs, hu, trivial, fun od => ?_⟩
  have E1 := E.mlock od hp hu
  have E2 := E1.rebase (c := p) nb Sto.off_same (fun j x hj hs2 => by
    have := E.mow j x p hj hs2
    rw [hp] at this
    cases this) ⟨_, upd_same, frz_no.1⟩
  have hil : i < δ.length := (List.getElem?_eq_some_iff.mp hi).1
  have E3 := E2.set (i := i) (o := some (.ref p)) (s := .d (.dct es)) ⟨_, rfl, .dct upd_same (hv.mono (Sub.new gp))⟩ fun _ z => nomatch z
  have es' : σ.set i (some (.ref p)) = σ := by
    apply List.ext_getElem?
    intro j
    by_cases z : i = j
    · subst z
      rw [List.getElem?_set_self (by rw [E.len]; exact hil)]
      exact hσ.symm
    · rw [List.getElem?_set_ne z]
  rw [es'] at E3
  refine h B _ _ _ WOk.calm _ _ σ E3 _ fun u d G' H' n' f e sb a => ?_
  obtain ⟨f1, f2, f3⟩ := f
  obtain ⟨sg, h1, g1, E4⟩ := E.munlock hp hu hv hs ho (fun j o hj => by
    rw [List.getElem?_set_ne (fun z => by subst z; rw [hi] at hj; cases hj)]
    exact hj) e sb f2
  exact ⟨h1, q u d _ _ _ f3 E4 sg (a.offp g1 f1)⟩
/-- new dicts -/
theorem gk_newD (k : ∀ p, n.μ p = none → Φ (.ptr p) (n.put p (.dic []))) : GK K Z tDNewK δ n Φ := fun B M G0 H0 xw G H σ E Q q p hp =>
  q _ _ G _ _ (k p (E.nomob hp)) (E.mnew (o := .dic []) hp ⟨[], upd_same, .nil⟩) (Sub.refl G) (.ptr p)
theorem gk_dgetP (h : GK K Z ta δ n fun x n1 => ∃ p, x = .ptr p ∧ GK K Z tb δ n1 fun y n2 => ∃ es k d, n2.μ p = some (.dic es) ∧ y = keyD k ∧ getD' es k = some d ∧ Φ d n2) : GK K Z (tDGet ta tb) δ n Φ := fun B M G0 H0 xw G H σ E Q q =>
  h B M G0 H0 xw G H σ E _ fun v x G1 H1 n1 f1 E1 s1 a1 => by
    obtain ⟨p, rfl, f1⟩ := f1
    cases a1
    refine f1 B M G0 H0 xw G1 H1 σ E1 _ fun w y G2 H2 n2 f2 E2 s2 a2 => ?_
    obtain ⟨es, k, d, hp, rfl, hd, f2⟩ := f2
    obtain ⟨vs, e1, e2⟩ := E2.mdic hp
    obtain ⟨u, hu, iu⟩ := e2.get hd
    rw [a2.key]
    refine ⟨p, u, rfl, ?_, q u d G2 H2 n2 f2 E2 (s1.trans s2) iu⟩
    rw [← hu]
    exact .k e1
theorem gk_dgetL (h : GK K Z ta δ n fun x n1 => ∃ es, x = .dct es ∧ GK K Z tb δ n1 fun y n2 => ∃ k d, y = keyD k ∧ getD' es k = some d ∧ Φ d n2) : GK K Z (tDGet ta tb) δ n Φ := fun B M G0 H0 xw G H σ E Q q =>
  h B M G0 H0 xw G H σ E _ fun v x G1 H1 n1 f1 E1 s1 a1 => by
    obtain ⟨es, rfl, f1⟩ := f1
    cases a1 with
    | @dct p o vs _ h1 a1 =>
      refine f1 B M G0 H0 xw G1 H1 σ E1 _ fun w y G2 H2 n2 f2 E2 s2 a2 => ?_
      obtain ⟨k, d, rfl, hd, f2⟩ := f2
      obtain ⟨u, hu, iu⟩ := a1.get hd
      rw [a2.key]
      exact ⟨p, u, rfl, .inl ⟨vs, k, .inr ⟨o, E2.sub _ _ (s2 _ _ h1)⟩, rfl, hu.symm⟩, q u d G2 H2 n2 f2 E2 (s1.trans s2) (iu.mono s2)⟩
theorem gs_putP (h : GK K Z tv δ n fun d n1 => GK K Z ta δ n1 fun x n2 => ∃ p, x = .ptr p ∧ GK K Z tb δ n2 fun y n3 => ∃ es k, n3.μ p = some (.dic es) ∧ y = keyD k ∧ es.length < 100000 ∧ N δ (n3.put p (.dic (putD es k d)))) : GS K Z B (sDPut ta tb tv) δ n N R Bk Ct := fun m0 G0 H0 xw G H σ E e hn hr hb hc =>
  h B (MOf B m0 H0) G0 H0 xw G H σ e _ fun v d G1 H1 n1 f1 E1 s1 a1 =>
    f1 B (MOf B m0 H0) G0 H0 xw G1 H1 σ E1 _ fun u x G2 H2 n2 f2 E2 s2 a2 => by
      obtain ⟨p, rfl, f2⟩ := f2
      cases a2
      refine f2 B (MOf B m0 H0) G0 H0 xw G2 H2 σ E2 _ fun w y G3 H3 n3 f3 E3 s3 a3 => ?_
      obtain ⟨es, k, hp, rfl, hl, f3⟩ := f3
      obtain ⟨vs, e1, e2⟩ := E3.mdic hp
      rw [a3.key]
      exact ⟨p, _, rfl, .k e1 (by rw [e2.len]; exact sz_lt hl), hn _ _ G3 _ _ f3 (E3.mchg hp ⟨_, upd_same, e2.put ((a1.mono s2).mono s3)⟩) ((s1.trans s2).trans s3)⟩
def dropD (es : List (Key × D)) (k : Key) : List (Key × D) := es.filter fun kv => decide (kv.1 ≠ k)
omit [Tabl] in
theorem IsKv.drop {k : Key} : ∀ {vs : List (Key × V)} {es : List (Key × D)}, IsKv K G vs es → IsKv K G (dropK vs k) (dropD es k)
  | _, _, .nil => .nil
  | _, _, .cons (k := k2) h r => by
    unfold dropK dropD
    rw [List.filter_cons, List.filter_cons]
    by_cases z : k2 = k
    · rw [if_neg (by simp [z]), if_neg (by simp [z])]
      exact IsKv.drop r
    · rw [if_pos (by simp [z]), if_pos (by simp [z])]
      exact .cons h (IsKv.drop r)
theorem gk_dpopP (h : GK K Z ta δ n fun x n1 => ∃ p es0, x = .ptr p ∧ n1.μ p = some (.dic es0) ∧ GK K Z tb δ n1 fun y n2 => ∃ es k d, n2.μ p = some (.dic es) ∧ y = keyD k ∧ getD' es k = some d ∧ Φ d (n2.put p (.dic (dropD es k)))) : GK K Z (tDPop1 ta tb) δ n Φ := fun B M G0 H0 xw G H σ E Q q =>
  h B M G0 H0 xw G H σ E _ fun v x G1 H1 n1 f1 E1 s1 a1 => by
    obtain ⟨p, es0, rfl, hp0, f1⟩ := f1
    cases a1
    obtain ⟨vs0, e0, _⟩ := E1.mdic hp0
    refine ⟨p, rfl, .inl ⟨vs0, .inl e0⟩, ?_⟩
    refine f1 B M G0 H0 xw G1 H1 σ E1 _ fun w y G2 H2 n2 f2 E2 s2 a2 => ?_
    obtain ⟨es, k, d, hp, rfl, hd, f2⟩ := f2
    obtain ⟨vs, e1, e2⟩ := E2.mdic hp
    obtain ⟨u, hu, iu⟩ := e2.get hd
    exact ⟨vs, k, u, e1, a2.key, hu, q u d G2 _ _ f2 (E2.mchg hp ⟨_, upd_same, e2.drop⟩) (s1.trans s2) iu⟩
omit [Tabl] in
theorem IsKv.keyAt {k k' : Key} {v : V} {d : D} : ∀ {vs : List (Key × V)} {es : List (Key × D)} {i : Nat}, IsKv K G vs es → vs[i]? = some (k', v) → es[i]? = some (k, d) → k' = k ∧ Is K G v d
  | _, _, _, .nil, e, _ => by simp at e
  | _, _, 0, .cons h _, e, e2 => by
    simp only [List.getElem?_cons_zero, Option.some.injEq, Prod.mk.injEq] at e e2
    obtain ⟨rfl, rfl⟩ := e
    obtain ⟨rfl, rfl⟩ := e2
    exact ⟨rfl, h⟩
  | _, _, i + 1, .cons _ r, e, e2 => IsKv.keyAt (i := i) r (by simpa using e) (by simpa using e2)
/-- walks over a locked dict -/
theorem gi_keysL {Ψ : List D → Sto → Prop} (h : GK K Z te δ n fun d n1 => ∃ es, d = .dct es ∧ Ψ (es.map fun kv => keyD kv.1) n1) : GI K Z (iKeys te) δ n Ψ := fun B M G0 H0 xw G H σ E R r =>
  h B M G0 H0 xw G H σ E _ fun v d G1 H1 n1 f1 E1 s1 a1 => by
    obtain ⟨es, rfl, f1⟩ := f1
    cases a1 with
    | @dct p o vs _ h1 a1 =>
      refine ⟨p, o, rfl, .inl ⟨vs, E1.sub _ _ h1, r _ _ G1 H1 n1 f1 E1 s1 fun G' H' s2 s3 i => ⟨fun hi => ⟨s3 _ _ (s2 _ _ h1), by rw [a1.len, hi, List.length_map]; exact Nat.le_refl _⟩, fun x hx => ?_⟩⟩⟩
      rw [List.getElem?_map] at hx
      obtain ⟨⟨k, d⟩, hd, rfl⟩ := Option.map_eq_some_iff.mp hx
      obtain ⟨hlt, _⟩ := List.getElem?_eq_some_iff.mp hd
      refine ⟨⟨s3 _ _ (s2 _ _ h1), by rw [a1.len]; exact hlt⟩, fun v H'' y => .inl ⟨y.1, ?_⟩⟩
      obtain ⟨k', v', hk, rfl⟩ := y.2
      obtain ⟨rfl, _⟩ := a1.keyAt hk hd
      cases k' with
      | inl i => exact .int i
      | inr z => exact .str z
end
end Tl

namespace Tl
open PySem PySem.Spec PyProof.Rows L2 TL LamX
/-! ### dicts compared; dicts made -/
/-- the values of the first dict against those of the second one -/
inductive HitsV (K : PySem.W.Frag) (H : Hp) (ls : List (Key × V)) : List (Key × V) → Bool → Prop
  | nil : HitsV K H ls [] true
  | miss {k : Key} {v : V} {r : List (Key × V)} (e : valV ls k = none) : HitsV K H ls ((k, v) :: r) false
  | hit {k : Key} {v u : V} {d e : PyData} {r : List (Key × V)} {b : Bool} (f : valV ls k = some u) (h1 : Dp K H v d) (h2 : Dp K H u e) (c1 : d.canLay0 = true) (c2 : e.canLay0 = true) (dd : d.depth ≤ 50) (t : HitsV K H ls r b) : HitsV K H ls ((k, v) :: r) (PyData.eqv d e && b)
theorem hitsV_run {X : Cx} {pins : List (Addr × Obj)} {σ : L2.St} {H : Hp} {s : Shared} {A : Around} (I : L2.Inv X pins σ H s) (hu : A.units + 50 < cLine) {ls : List (Key × V)} {vb : List (Key × Value)} (rb : KV ls vb) {ks : List (Key × V)} {va : List (Key × Value)} {r : Bool}
    (ra : KV ks va) (h : HitsV X.K H ls ks r) : PySem.W.KeqHits A s vb va r := by
  unfold KV at ra
  induction ra generalizing r with
  | nil =>
    cases h
    exact .nil
  | @cons p q ps qs a t ih =>
    obtain ⟨a1, a2⟩ := a
    obtain ⟨k, v⟩ := p
    obtain ⟨k2, u2⟩ := q
    have a1 : k = k2 := a1
    subst a1
    cases h with
    | miss e =>
      refine .miss (RelO.none_of ?_)
      rw [← e]
      exact rb.val k
    | @hit _ _ u d e _ b f h1 h2 c1 c2 dd t2 =>
      have rr : RelO (some u) (valueAt vb k) := by
        rw [← f]
        exact rb.val k
      obtain ⟨y, hy, ry⟩ := rr.some_of
      obtain ⟨as, r1⟩ := Dp.reads I d v u2 h1 a2
      obtain ⟨bs, r2⟩ := Dp.reads I e u y h2 ry
      exact .hit hy (PySem.SeqAt.eqAt_reads d e A s u2 y as bs r1 r2 c1 c2 (by omega)) (ih t2)
def rCmpDic (K : PySem.W.Frag) (neg : Bool) : R2 := fun x y H Q => ∃ a b ks ls r, x = .ref a ∧ y = .ref b ∧ Rd H a (.dK ks) ∧ Rd H b (.dK ls) ∧ HitsV K H ls ks r ∧ Q (.bl (neg ^^ (decide (ks.length = ls.length) && r))) H
theorem op_eqDic {X : Cx} {K : PySem.W.Frag} (hK : X.K = K) (hu : X.A.units + 64 < cLine) : OpR X (compareOp .Eq) (rCmpDic K false) := by
  subst hK
  intro pins s σ H x y v u Q I rx ry h
  obtain ⟨a, b, ks, ls, r, rfl, rfl, ea, eb, hh, q⟩ := h
  cases (show v = Value.ref a from rx)
  cases (show u = Value.ref b from ry)
  obtain ⟨_, ya, va, ra, da⟩ := (show ObjOk X.prog X.w H s.heap a (.dK ks) from ea.ok I.hok)
  obtain ⟨_, yb, vb, rb, db⟩ := (show ObjOk X.prog X.w H s.heap b (.dK ls) from eb.ok I.hok)
  refine PySem.W.keq_eq (knd := mixKind X.prog X.w) (r := r) ya yb da db (by omega) (fun _ => hitsV_run I (by show X.A.units + 1 + 50 < _; omega) rb ra hh) (fin_bl I q ?_)
  rw [← ra.length, ← rb.length, Bool.false_xor]
  rfl
theorem op_neDic {X : Cx} {K : PySem.W.Frag} (hK : X.K = K) (hu : X.A.units + 64 < cLine) : OpR X (compareOp .NotEq) (rCmpDic K true) := by
  subst hK
  intro pins s σ H x y v u Q I rx ry h
  obtain ⟨a, b, ks, ls, r, rfl, rfl, ea, eb, hh, q⟩ := h
  cases (show v = Value.ref a from rx)
  cases (show u = Value.ref b from ry)
  obtain ⟨_, ya, va, ra, da⟩ := (show ObjOk X.prog X.w H s.heap a (.dK ks) from ea.ok I.hok)
  obtain ⟨_, yb, vb, rb, db⟩ := (show ObjOk X.prog X.w H s.heap b (.dK ls) from eb.ok I.hok)
  refine PySem.W.keq_ne (knd := mixKind X.prog X.w) (r := r) ya yb da db (by omega) (fun _ => hitsV_run I (by show X.A.units + 1 + 50 < _; omega) rb ra hh) (fin_bl I q ?_)
  rw [← ra.length, ← rb.length, Bool.true_xor]
  rfl
section
variable [Tabl] {K : PySem.W.Frag} {Z : XZ} {B : Option Addr} {M : Addr → Prop} {δ : List Slot} {n : Sto} {Φ : D → Sto → Prop} {te ta tb tk tv : TE} {aa : TA} {N Bk Ct : List Slot → Sto → Prop} {R : D → Sto → Prop} {G0 H0 G H : Hp} {σ : L2.St}
/-- a dict, of the store or as data -/
def DicAt (n : Sto) (x : D) (es : List (Key × D)) : Prop := (∃ p, x = .ptr p ∧ n.μ p = some (.dic es)) ∨ x = .dct es ∨ x = .dic es
theorem DicAt.get {x : D} {es : List (Key × D)} {v : V} (h : DicAt n x es) (E : En K B M n G0 H0 G H σ δ) (a : Is K G v x) : ∃ p vs, v = .ref p ∧ Rd H p (.dK vs) ∧ IsKv K G vs es := by
  rcases h with ⟨p, rfl, hp⟩ | rfl | rfl
  · cases a
    obtain ⟨vs, e1, e2⟩ := E.mdic hp
    exact ⟨p, vs, rfl, .inl e1, e2⟩
  · cases a with
    | @dct p o vs _ h a => exact ⟨p, vs, rfl, .inr ⟨o, E.sub _ _ h⟩, a⟩
  · cases a with
    | @dic p vs _ h a => exact ⟨p, vs, rfl, E.sub.rd h, a⟩
def eqKv (fs es : List (Key × D)) : Bool := es.all fun kv => match getD' fs kv.1 with | none => false | some d => eqD kv.2 d
omit [Tabl] in
theorem IsKv.get0 {k : Key} : ∀ {vs : List (Key × V)} {es : List (Key × D)}, IsKv K G vs es → getD' es k = none → valV vs k = none
  | _, _, .nil, _ => rfl
  | _, _, .cons (k := k2) (x := x) (xs := xs) (d := d) (ds := ds) h r, e => by
    unfold getD' at e
    unfold valV
    by_cases z : k2 = k
    · rw [List.find?_cons_of_pos (by simp [z])] at e
      cases e
    · rw [List.find?_cons_of_neg (by simp [z])] at e ⊢
      exact IsKv.get0 r e
theorem hits_of {j l : Nat} (hj : j ≤ 50) (s : Sub G H) {ls : List (Key × V)} {fs : List (Key × D)} (b : IsKv K G ls fs) (sf : ∀ kv ∈ fs, Shp l kv.2) : ∀ {ks : List (Key × V)} {es : List (Key × D)}, IsKv K G ks es → (∀ kv ∈ es, Shp j kv.2) → ∃ r, HitsV K H ls ks r ∧ (r = true ↔ eqKv fs es = true)
  | _, _, .nil, _ => ⟨true, .nil, by simp [eqKv]⟩
  | _, _, .cons (k := k) (x := x) (xs := xs) (d := d) (ds := ds) h r, se => by
    obtain ⟨r0, h0, e0⟩ := hits_of hj s b sf r fun kv hkv => se kv (List.mem_cons_of_mem _ hkv)
    cases g : getD' fs k with
    | none => exact ⟨false, .miss (b.get0 g), by simp [eqKv, g]⟩
    | some d2 =>
      obtain ⟨u, hu, iu⟩ := b.get g
      have sd := se (k, d) List.mem_cons_self
      have sd2 : Shp l d2 := by
        unfold getD' at g
        obtain ⟨kv, hkv, rfl⟩ := Option.map_eq_some_iff.mp g
        exact sf kv (List.mem_of_find?_eq_some hkv)
      refine ⟨_, .hit hu (h.dp s sd) (iu.dp s sd2) sd.ok.1 sd2.ok.1 (Nat.le_trans sd.ok.2 hj) h0, ?_⟩
      unfold eqKv at e0 ⊢
      rw [List.all_cons, Bool.and_eq_true, Bool.and_eq_true, e0]
      simp only [g]
      rfl
theorem rk_cmpDic {neg : Bool} {j l : Nat} {x y : D} {es fs : List (Key × D)} (hj : j ≤ 50) (hx : DicAt n x es) (hy : DicAt n y fs) (se : ∀ kv ∈ es, Shp j kv.2) (sf : ∀ kv ∈ fs, Shp l kv.2) (k : Φ (.bl (neg ^^ (decide (es.length = fs.length) && eqKv fs es))) n) : RK K Z (rCmpDic K neg) x y δ n Φ := fun B M G0 H0 xw G H σ E v w a b Q q => by
  obtain ⟨p, vs, rfl, h1, i1⟩ := hx.get E a
  obtain ⟨p2, vs2, rfl, h2, i2⟩ := hy.get E b
  obtain ⟨r, hr, er⟩ := hits_of hj E.sub i2 sf i1 se
  refine ⟨p, p2, vs, vs2, r, rfl, rfl, h1, h2, hr, ?_⟩
  have : r = eqKv fs es := by
    cases r <;> cases e : eqKv fs es <;> simp_all
  rw [this, i1.len, i2.len]
  exact q _ _ G H n k E (Sub.refl G) (.bl _)
/-- the same keys, the same values -/
theorem eqKv_t {l : Nat} {fs es : List (Key × D)} (h : ∀ kv ∈ es, getD' fs kv.1 = some kv.2) (se : ∀ kv ∈ es, Shp l kv.2) : eqKv fs es = true := by
  unfold eqKv
  rw [List.all_eq_true]
  intro kv hkv
  rw [h kv hkv]
  exact eqD_self (se kv hkv)
/-- isinstance of a thing of the store -/
def MO.tyn : MO → Option String
  | .lst _ => some "list" | .dic _ => some "dict" | .ins _ _ _ => none
theorem gk_isiP {c t : String} (h : GK K Z te δ n fun d n1 => ∃ p o b, d = .ptr p ∧ n1.μ p = some o ∧ o.tyn = some t ∧ KitB K t c b ∧ Φ (.bl b) n1) : GK K Z (tCB (rIsi K) (tCons te (tCons (tC (.ty c)) tNil))) δ n Φ := fun B M G0 H0 xw G H σ E Q q =>
  h B M G0 H0 xw G H σ E _ fun v d G1 H1 n1 f1 E1 s1 a1 => by
    obtain ⟨p, o, b, rfl, hp, ht, hb, f1⟩ := f1
    cases a1
    have ty : TyX K H1 (.ref p) (.type t) := by
      cases o with
      | lst xs =>
        obtain ⟨vs, e1, _⟩ := E1.mlst hp
        cases ht
        exact .base (.lst e1)
      | dic xs =>
        obtain ⟨vs, e1, _⟩ := E1.mdic hp
        cases ht
        exact .base (.dK e1)
      | ins _ _ _ => cases ht
    exact ⟨_, .ty c, _, _, b, rfl, .ty c, ty, hb, q _ _ G1 H1 n1 f1 E1 s1 (.bl b)⟩
/-- a dict display of one pair -/
theorem gk_disp1 (h : GK K .calm tk δ n fun x n1 => ∃ k, x = keyD k ∧ GK K .calm tv δ n1 fun d n2 => ∀ p, n2.μ p = none → Φ (.ptr p) (n2.put p (.dic [(k, d)]))) : GK K Z (tDisp [(tk, tv)]) δ n Φ := fun B M G0 H0 xw G H σ E Q q c hc => by
  have nbc : B ≠ some c := fun z => (E.bagged c z).1.some hc
  have gc := E.sub.none hc
  have mc := E.free c hc
  have oc : ∀ (i : Nat) (x : MO), δ[i]? = some (.ow x) → σ[i]? ≠ some (some (.ref c)) := fun i xs hi z => by
    obtain ⟨p, e1, e2, _⟩ := E.owo hi
    rw [z] at e1
    cases e1
    exact e2.some hc
  have E1 := E.newc (o := .dK []) hc
  have ncm : ¬ (M c ∧ c ≠ c) := fun z => z.2 rfl
  have E2 := E1.rebase (c := c) nbc (E.nomob hc) oc ⟨_, upd_same, fun _ z => nomatch z⟩
  refine h B _ _ _ WOk.calm _ _ σ E2 _ fun v x G1 H1 n1 f1 e1 s1 a1 => ?_
  obtain ⟨k, rfl, f1⟩ := f1
  refine f1 B _ _ _ WOk.calm G1 H1 σ e1 _ fun w d G2 H2 n2 f2 e2 s2 a2 => ?_
  have h2 := e2.same c _ upd_same ncm
  have g2 := e2.fresh c ncm gc
  have m2 := e2.apart
  refine ⟨h2, [(k, w)], by rw [a1.key]; rfl, by simp, ?_⟩
  have E3 := E1.back e2
  have E4 := E3.beside (c := c) (u := .dK [(k, w)]) (.inr ⟨_, h2, trivial⟩) (fun _ z => nomatch z) nbc m2 g2 mc oc
  have E5 := E4.mtake (o := .dic [(k, d)]) g2 mc nbc oc ⟨[(k, w)], upd_same, .cons a2 .nil⟩
  exact q _ _ G2 _ _ (f2 c m2) E5 (s1.trans s2) (.ptr c)
theorem rk_ixP {p : Addr} {xs : List D} {j : Int} {x : D} (hp : n.μ p = some (.lst xs)) (h : L2.atI xs j = some x) (k : Φ x n) : RK K Z (rIxL K) (.ptr p) (.int j) δ n Φ := fun B M G0 H0 xw G H σ E v w a b Q q => by
  cases a
  cases b
  obtain ⟨vs, e1, e2⟩ := E.mlst hp
  obtain ⟨u, hu, iu⟩ := e2.atI h
  exact ⟨p, vs, j, u, rfl, rfl, SqL.of e1, hu, q u x G H n k E (Sub.refl G) iu⟩
/-- things of the store forgotten -/
theorem En.less {n' : Sto} (E : En K B M n G0 H0 G H σ δ) (hn : n'.n = n.n) (h : ∀ a o, n'.μ a = some o → n.μ a = some o) : En K B M n' G0 H0 G H σ δ :=
  ⟨E.sub0, E.sub, E.same, E.free, E.fresh, fun p hp => by rw [hn]; exact E.bagged p hp, E.tabs, E.tin, E.gnt, E.len, E.slot, E.dis, fun a o e => E.mob a o (h a o e), fun i x a hi hs => by
    have := E.mow i x a hi hs
    cases q : n'.μ a with
    | none => rfl
    | some o => rw [h a o q] at this; cases this⟩
theorem gs_sub {n' : Sto} {ts : TS} (hn : n'.n = n.n) (h : ∀ a o, n'.μ a = some o → n.μ a = some o) (g : GS K Z B ts δ n' N R Bk Ct) : GS K Z B ts δ n N R Bk Ct := fun m0 G0 H0 xw G H σ E e hn2 hr hb hc => g m0 G0 H0 xw G H σ E (e.less hn h) hn2 hr hb hc
theorem gk_sub {n' : Sto} (hn : n'.n = n.n) (h : ∀ a o, n'.μ a = some o → n.μ a = some o) (g : GK K Z te δ n' Φ) : GK K Z te δ n Φ := fun B M G0 H0 xw G H σ E Q q => g B M G0 H0 xw G H σ (E.less hn h) Q q
def noOw (δ : List Slot) : Bool := δ.all fun s => match s with | .ow _ => false | _ => true
omit [Tabl] in
theorem noOw_of (h : noOw δ = true) {P : MO → Prop} : ∀ (j : Nat) (o : MO), δ[j]? = some (.ow o) → P o := fun j o e => by
  have := List.all_eq_true.mp h _ (List.mem_of_getElem? e)
  cases this
def mergeD (es more : List (Key × D)) : List (Key × D) := more.foldl (fun acc kv => putD acc kv.1 kv.2) es
omit [Tabl] in
theorem IsKv.merge {vs : List (Key × V)} {es : List (Key × D)} (h : IsKv K G vs es) {ws : List (Key × V)} {fs : List (Key × D)} (g : IsKv K G ws fs) : IsKv K G (mergeK vs ws) (mergeD es fs) := by
  induction fs generalizing vs es ws with
  | nil =>
    cases g
    exact h
  | cons f fs ih =>
    cases g with
    | cons a r => exact ih (h.put a) r
omit [Tabl] in
theorem pairs_of : ∀ {kvs : List (Key × D)} {vs : List V}, IsAll K G vs (kvs.map fun kv => .tup [keyD kv.1, kv.2]) → ∃ (ps : List Addr) (ws : List (Key × V)), vs = ps.map V.ref ∧ Paired (fun p kv => SqT K G p [kV kv.1, kv.2]) ps ws ∧ IsKv K G ws kvs
  | [], _, h => by
    cases h
    exact ⟨[], [], rfl, .nil, .nil⟩
  | (k, d) :: kvs, _, h => by
    cases h with
    | cons a r =>
      obtain ⟨ps, ws, e, pr, iw⟩ := pairs_of r
      cases a with
      | @tup p xs _ h1 a1 =>
        cases a1 with
        | cons b1 b2 =>
          cases b2 with
          | cons b3 b4 =>
            cases b4
            rw [b1.key] at h1
            rename_i w _ _
            exact ⟨p :: ps, (k, _) :: ws, by rw [e]; rfl, .cons h1 pr, .cons b3 iw⟩
theorem rc_dictP {kvs : List (Key × D)} {ps : List D} (e : ps = kvs.map fun kv => .tup [keyD kv.1, kv.2]) (k : ∀ p, n.μ p = none → Φ (.ptr p) (n.put p (.dic (mergeD [] kvs)))) : RC K Z (fun xs H Q => ∃ (a : Addr) (ps : List Addr) (kvs : List (Key × V)), xs = [.ref a] ∧ SqL K H a (ps.map V.ref) ∧ Paired (fun p kv => SqT K H p [kV kv.1, kv.2]) ps kvs ∧
    ∀ p, H p = none → Q (.ref p) (upd H p (.dK (mergeK [] kvs)))) [.lst ps] δ n Φ := fun B M G0 H0 xw G H σ E vs a Q q => by
  subst e
  cases a with
  | cons a1 r =>
    cases r
    cases a1 with
    | @lst p ws _ h1 a1 =>
      obtain ⟨qs, us, rfl, pr, iu⟩ := pairs_of a1
      refine ⟨p, qs, us, rfl, SqL.of (E.sub _ _ h1), Paired.mapP pr fun _ _ z => E.sub.seq z, fun c hc => ?_⟩
      exact q _ _ G _ _ (k c (E.nomob hc)) (E.mnew (o := .dic (mergeD [] kvs)) hc ⟨_, upd_same, IsKv.nil.merge iu⟩) (Sub.refl G) (.ptr c)
end
end Tl

namespace Tl
open PySem PySem.Spec PyProof.Rows L2 TL LamX
open PySem.SeqAt
open AutoSeq1 (wpAny_loadPart')
open MeetsSeq
/-! ### ==, != and truth by the text's own defs -/
section
variable {prog : Program} {w : World} {A : Around} {E : Value → Shared → Prop} {s : Shared} {K : PySem.W.Frag} {x C dx : Addr}
theorem intEqIns_b (b : Bool) (l C dx : Addr) : Meets (Builtin.«int.__eq__» ⟨[.bool b, .ref l], []⟩) (fun _ R s => s.heap.get? l = some (PySem.W.instObj C dx) ∧ R (.ok (.ret .notImplemented)) s) :=
  .of_wp fun prog w A R s h => by
    obtain ⟨hp, g, d, tk, os⟩ := s
    obtain ⟨hl, h⟩ := h
    wp_walk using wpAny_loadPart' hl, wpAny_load hl
    exact ⟨_, rfl, h⟩
theorem intEqIns_i (b : Int) (u : Tok) (l C dx : Addr) : Meets (Builtin.«int.__eq__» ⟨[.int b u, .ref l], []⟩) (fun _ R s => s.heap.get? l = some (PySem.W.instObj C dx) ∧ R (.ok (.ret .notImplemented)) s) :=
  .of_wp fun prog w A R s h => by
    obtain ⟨hp, g, d, tk, os⟩ := s
    obtain ⟨hl, h⟩ := h
    wp_walk using wpAny_loadPart' hl, wpAny_load hl
    exact ⟨_, rfl, h⟩
theorem strEqIns (b : Str) (u : Tok) (l C dx : Addr) : Meets (Builtin.«str.__eq__» ⟨[.str b u, .ref l], []⟩) (fun _ R s => s.heap.get? l = some (PySem.W.instObj C dx) ∧ R (.ok (.ret .notImplemented)) s) :=
  .of_wp fun prog w A R s h => by
    obtain ⟨hp, g, d, tk, os⟩ := s
    obtain ⟨hl, h⟩ := h
    wp_walk using wpAny_loadPart' hl, wpAny_load hl
    exact ⟨_, rfl, h⟩
theorem tupEqIns {h0 : Heap} {l : Addr} {items : Array Value} {n : Nat} {dd : Option Addr} {sl : Array (Option Value)} (hsub : PySem.W.subIn K (.ref C) (.type "tuple") = some false) :
    MeetsIn prog w (Builtin.«tuple.__eq__» ⟨[.ref l, .ref x], []⟩) (fun _ R s => K.In s.heap ∧ s.heap.get? l = some { cls := .type "tuple", dict := dd, data := .seq items n, slots := sl } ∧ s.heap.get? x = some (PySem.W.instObj C dx) ∧ R (.ok (.ret .notImplemented)) s) := by
  refine .of_wp fun A R s h => ?_
  obtain ⟨hp, g, d, tk, os⟩ := s
  obtain ⟨hK, hl, hx, h⟩ := h
  have f1 := PySem.W.looks_subIn (M := model prog w) hK hsub
  wp_walk using wpAny_loadPart' hl, wpAny_load hl, wpAny_loadPart' hx, wpAny_load hx
  refine f1.here ?_
  wp_walk
  exact ⟨_, rfl, h⟩
/-- a value of a kind of the language's own -/
inductive Knd (s : Shared) : Value → String → Prop
  | non : Knd s .none "NoneType"
  | bl (b : Bool) : Knd s (.bool b) "bool"
  | int (i : Int) (t : Tok) : Knd s (.int i t) "int"
  | str (z : Str) (t : Tok) : Knd s (.str z t) "str"
  | tup (a : Addr) (items : Array Value) (h : s.heap.IsTuple a items) : Knd s (.ref a) "tuple"
theorem Knd.type {u : Value} {T : String} (k : Knd s u T) : s.TypeIs u T := by
  cases k with
  | non => rfl
  | bl b => rfl
  | int i t => rfl
  | str z t => rfl
  | tup a items h =>
    obtain ⟨o, ho, hc, _⟩ := h
    exact ⟨o, ho, hc⟩
theorem Knd.looks {u : Value} {T : String} (k : Knd s u T) : PySem.W.Looks (model prog w) s.heap (typeOf u) (.type T) := by
  cases k with
  | non => exact .now
  | bl b => exact .now
  | int i t => exact .now
  | str z t => exact .now
  | tup a items h =>
    obtain ⟨o, ho, hc, _⟩ := h
    refine (PySem.W.Looks.ld (part := none) ho).andThen ?_
    rw [hc]
    exact .now
/-- such a value declines to be equal to an object of the text -/
theorem Knd.declines {u : Value} {T : String} {Q : Option Value → Shared → Prop} (k : Knd s u T) (hK : K.In s.heap) (hsub : PySem.W.subIn K (.ref C) (.type "tuple") = some false) (hx : s.heap.get? x = some (PySem.W.instObj C dx)) (q : Q none s) : wpAny (model prog w) A (tryCompare u "__eq__" (.ref x)) Q E s := by
  cases k with
  | non => exact wpAny_tryCompare_declines (T := "NoneType") rfl F.slot_NoneType_eq (call_gives F.slot_NoneType_eq rfl F.entry_NoneType_eq (F.args_NoneType_eq_2 _ _) (NoneType___eq___none_ref_0 x) ⟨rfl, q⟩)
  | bl b => exact wpAny_tryCompare_declines (T := "bool") rfl F.slot_bool_eq (call_meets F.slot_bool_eq rfl F.entry_int_eq (F.args_int_eq_2 _ _) (intEqIns_b b x C dx) ⟨hx, rfl, q⟩)
  | int i t => exact wpAny_tryCompare_declines (T := "int") rfl F.slot_int_eq (call_meets F.slot_int_eq rfl F.entry_int_eq (F.args_int_eq_2 _ _) (intEqIns_i i t x C dx) ⟨hx, rfl, q⟩)
  | str z t => exact wpAny_tryCompare_declines (T := "str") rfl F.slot_str_eq (call_meets F.slot_str_eq rfl F.entry_str_eq (F.args_str_eq_2 _ _) (strEqIns z t x C dx) ⟨hx, rfl, q⟩)
  | tup a items h =>
    obtain ⟨⟨cls, dd, data, sl⟩, ho, hc, n, hd⟩ := id h
    simp only at hc hd
    subst hc hd
    exact wpAny_tryCompare_declines (T := "tuple") ⟨_, ho, rfl⟩ F.slot_tuple_eq (call_meetsIn F.slot_tuple_eq ⟨_, ho, rfl⟩ F.entry_tuple_eq (F.args_tuple_eq_2 _ _) (tupEqIns (h0 := s.heap) hsub) ⟨hK, ho, hx, rfl, q⟩)
variable {L f : Addr} {h₀ : Heap} {m : Str → Option Value} {ox : Obj} {od : Option Obj}
open PySem.W in
theorem lenIn {Q : Value → Shared → Prop} (F0 : PyProof.Rows.Fr h₀ L s.heap m) (kin : K.In h₀) (J : PySem.W.InstAt s.heap x ox C od) (at_ : findIn K (.ref C) "__len__" = some (some (.ref f))) (fn : isFn K (.ref f) = true)
    (go : wpAny (model prog w) A (call (.ref f) [.ref x]) (PySem.W.LenBack Q) E s) : wpAny (model prog w) A (Builtin.«len» ⟨[.ref x], []⟩) (fun fin s' => ∃ v, fin = .done (.ret v) ∧ Q v s') E s := by
  unfold Builtin.«len»
  refine wpAny_bind (m := oneArg "len" _) (wpAny_pure (wpAny_bind (m := callSpecial? (.ref x) (Str.ofString "__len__")) ?_))
  refine special_fn (kin.keeps F0.keep) J at_ (beq_iff_eq.mp fn) (wpAny_mono go ?_ fun _ _ y => y)
  rintro r s' hr
  cases r with
  | int n u =>
    obtain ⟨hn, q⟩ := hr
    refine wpAny_bind (wpAny_holding (wpAny_pure (wpAny_bind (wpAny_letGo ?_))))
    show wpAny _ _ (ite (n < 0) _ _) _ _ _
    rw [if_neg (show ¬ n < 0 by omega)]
    show wpAny _ _ (ite (n ≥ 2 ^ 63) _ _) _ _ _
    rw [if_neg (show ¬ n ≥ 2 ^ 63 by omega)]
    exact wpAny_bind (wpAny_mkInt (wpAny_pure ⟨_, rfl, q⟩))
  | _ => exact hr.elim
open PySem.W in
/-- the truth of an object with an own __len__ and no __bool__ -/
theorem truthLen {Q : Bool → Shared → Prop} (F0 : PyProof.Rows.Fr h₀ L s.heap m) (kin : K.In h₀) (J : PySem.W.InstAt s.heap x ox C od) (hb : findIn K (.ref C) "__bool__" = some none) (at_ : findIn K (.ref C) "__len__" = some (some (.ref f))) (fn : isFn K (.ref f) = true)
    (go : wpAny (model prog w) A.in1 (call (.ref f) [.ref x]) (PySem.W.LenBack fun v s' => ∃ n t, v = .int n t ∧ Q (n != 0) s') E s) : wpAny (model prog w) A (truthy (.ref x)) Q E s := by
  have kin2 := kin.keeps F0.keep
  unfold truthy
  refine wpAny_bind (m := callSpecial? (.ref x) (Str.ofString "__bool__")) (wpAny_bind (wpAny_bind (J.type.here ((looks_findIn kin2 hb).here (wpAny_pure ?_)))))
  refine wpAny_bind (wpAny_bind (J.type.here ((looks_findIn kin2 at_).here ?_)))
  rw [if_neg (by simp)]
  refine wpAny_bind (wpAny_runValue (codeAny_builtin entry_len ?_))
  rw [Around.under_plainId plain_len _]
  refine wpAny_mono (lenIn F0 kin J at_ fn go) ?_ fun _ _ y => y
  rintro fin s' ⟨v, rfl, n, t, rfl, q⟩
  exact wpAny_pure q
open PySem.W in
theorem boolLen {Q : Value → Shared → Prop} (F0 : PyProof.Rows.Fr h₀ L s.heap m) (kin : K.In h₀) (J : PySem.W.InstAt s.heap x ox C od) (hb : findIn K (.ref C) "__bool__" = some none) (at_ : findIn K (.ref C) "__len__" = some (some (.ref f))) (fn : isFn K (.ref f) = true)
    (go : wpAny (model prog w) A.in1.in1.in1 (call (.ref f) [.ref x]) (PySem.W.LenBack fun v s' => ∃ n t, v = .int n t ∧ Q (.bool (n != 0)) s') E s) : wpAny (model prog w) A (call (.type "bool") [.ref x]) Q E s := by
  refine callType_newIn (S := fun A2 R s2 => s2 = s ∧ A2 = A.in1 ∧ R = wants (fun obj s₁ => s₁.TypeIs obj "bool" ∧ Q obj s₁) E) F.called_bool F.newNe_bool (F.typeCall_bool_1 _) (F.newCall_bool_1 _) (fun obj => F.args_object_init_2 obj _) F.entry_bool_new ?_ ⟨rfl, rfl, rfl⟩
  refine .of_wp fun A2 R s2 h2 => ?_
  obtain ⟨rfl, rfl, rfl⟩ := h2
  have f1 := F.conv_sub_bool
  have key := truthLen (A := A.in1.in1) (E := E) (Q := fun b s' => Q (.bool b) s') F0 kin J hb at_ fn go
  repeat (any_goals (first | assumption | (with_reducible refine wpAny_mono key ?_ fun _ _ y => y) | wp_step))
  exact fun b s' q => wpAny_pure ⟨_, rfl, rfl, q⟩
/-- u == x where u is of a kind of the language's own: the object's own == is asked -/
theorem cmpRev {u : Value} {T : String} {Q : Value → Shared → Prop} (hu : A.units < cLine) (F0 : PyProof.Rows.Fr h₀ L s.heap m) (kin : K.In h₀) (J : PySem.W.InstAt s.heap x ox C od) (hx : s.heap.get? x = some (PySem.W.instObj C dx)) (k : Knd s u T) (hsub : PySem.W.subIn K (.ref C) (.type "tuple") = some false) (hs2 : PySem.W.subIn K (.ref C) (.type T) = some false)
    (at_ : PySem.W.findIn K (.ref C) "__eq__" = some (some (.ref f))) (fn : PySem.W.isFn K (.ref f) = true)
    (go : wpAny (model prog w) A (call (.ref f) [.ref x, u]) (PySem.W.CmpBack Q) E s) : wpAny (model prog w) A (richCompare .Eq u (.ref x)) Q E s := by
  have kin2 := kin.keeps F0.keep
  simp only [richCompare, cmpInfo_Eq, k.type.oneThing_none]
  refine wpAny_holding (wpAny_bind (wpAny_cRoomFor hu ?_))
  refine wpAny_bind (k.looks.here (wpAny_bind (J.type.here ?_)))
  rw [if_pos (by rfl)]
  refine wpAny_bind ((PySem.W.looks_subIn kin2 hs2).here ?_)
  simp only [Bool.false_eq_true, if_false, Bool.not_false, if_true]
  refine wpAny_bind (m := tryCompare u _ _) (k.declines kin2 hsub hx ?_)
  refine wpAny_bind (m := tryCompare (.ref x) _ _) ?_
  unfold tryCompare
  refine wpAny_bind (PySem.W.ifBound_K kin2 J at_ fn (wpAny_mono go (fun v s' hv => ?_) fun _ _ e => e))
  cases v <;> first | exact hv.elim | exact wpAny_pure (wpAny_pure hv)
/-- x != u by object.__ne__ and the object's own == -/
theorem cmpNe {u tb : Value} {Q : Value → Shared → Prop} (hu : A.units < cLine) (hu1 : A.in1.units < cLine) (F0 : PyProof.Rows.Fr h₀ L s.heap m) (kin : K.In h₀) (J : PySem.W.InstAt s.heap x ox C od) (hb : PySem.W.Looks (model prog w) s.heap (typeOf u) tb) (hn : PySem.W.notFirst K C tb = true)
    (ob_ : PySem.W.subIn K (.ref C) (.type "object") = some true) (ne_ : PySem.W.findIn K (.ref C) "__ne__" = some (some (.builtin "object.__ne__"))) (at_ : PySem.W.findIn K (.ref C) "__eq__" = some (some (.ref f))) (fn : PySem.W.isFn K (.ref f) = true)
    (go : wpAny (model prog w) A.in1 (call (.ref f) [.ref x, u]) (fun v s' => ∃ b, v = .bool b ∧ Q (.bool (!b)) s') E s) : wpAny (model prog w) A (richCompare .NotEq (.ref x) u) Q E s := by
  have kin2 := kin.keeps F0.keep
  have one : wpAny (model prog w) A (tryCompare (.ref x) "__ne__" u) (fun r s' => ∃ v, r = some v ∧ Q v s') E s := by
    unfold tryCompare
    simp only [callSpecialIfBound?, bindSpecialIfBound?]
    refine wpAny_bind (wpAny_holding (wpAny_bind (wpAny_bind (wpAny_bind (J.type.here ((PySem.W.looks_findIn kin2 ne_).here ?_))))))
    simp only [F.cmp_object.ne.bind]
    refine wpAny_bind (wpAny_askSetting (wpAny_ite ?_))
    have body : wpAny (model prog w) A.in1 (Builtin.«object.__ne__» ⟨[.ref x, u], []⟩) (fun fin s' => ∃ b, fin = .done (.ret (.bool (!b))) ∧ Q (.bool (!b)) s') E s := by
      unfold Builtin.«object.__ne__»
      repeat (first
        | with_reducible refine wpAny_cRoomFor hu1 ?_
        | (refine wpAny_bind (m := callSpecialIfBound? (.ref x) (Str.ofString "__eq__") [u]) (PySem.W.ifBound_K kin2 J at_ fn (wpAny_mono go (fun r s' hr => ?_) fun _ _ e => e)))
        | wp_step)
      obtain ⟨b, rfl, hq⟩ := hr
      exact wpAny_bind (wpAny_truthy_bool (wpAny_pure ⟨b, rfl, hq⟩))
    have ins : PySem.W.Looks (model prog w) s.heap (isInstance (.ref x) (.type "object")) true := J.type.andThen (PySem.W.looks_subIn kin2 ob_)
    have fin : wpAny (model prog w) A (call (.builtin "object.__ne__") [.ref x, u]) (fun v s' => ∃ b, v = .bool b ∧ Q v s') E s := by
      refine wpAny_call (codeAny_call_builtin F.cmp_object.ne.plain F.cmpEntry_ne (PySem.W.check_slot F.cmpKind_ne F.cmpSplit_ne ins (F.cmpArgs_ne _ _) (wpAny_mono body (fun fin s' z => ?_) fun _ _ e => e)))
      obtain ⟨b, rfl, q⟩ := z
      exact ⟨_, rfl, q⟩
    have fin2 : wpAny (model prog w) A (call (.builtin "object.__ne__") [.ref x, u] >>= fun v => pure (some v)) (fun r s' => ∃ b, r = some (.bool b) ∧ Q (.bool b) s') E s := wpAny_bind (wpAny_mono fin (fun v s' z => by obtain ⟨b, rfl, q⟩ := z; exact wpAny_pure ⟨b, rfl, q⟩) fun _ _ e => e)
    have fin3 := wpAny_mono fin2 (Q' := fun r s' => wpAny (model prog w) A (match r with | some .notImplemented => pure none | none => pure none | some v => pure (some v)) (fun r s' => ∃ v, r = some v ∧ Q v s') E s') (fun r s' z => by obtain ⟨b, rfl, q⟩ := z; exact wpAny_pure ⟨_, rfl, q⟩) fun _ _ e => e
    split
    · exact wpAny_bind (wpAny_pure (wpAny_pure fin3))
    · exact wpAny_tryCatch (wpAny_bind (wpAny_pure (wpAny_pure fin3)))
  unfold richCompare
  simp only [oneThing_ref, cmpInfo_NotEq]
  refine wpAny_holding (wpAny_bind (wpAny_cRoomFor hu ?_))
  refine wpAny_bind (J.type.here (wpAny_bind (hb.here ?_)))
  have two : ∀ b : Bool, b = false → wpAny (model prog w) A (tryCompare (.ref x) "__ne__" u >>= fun r => match r with | some v => pure v | none => (raiseError "TypeError" "" : Sem Value)) Q E s := fun b _ => wpAny_bind (wpAny_mono one (fun r s' z => by obtain ⟨v, rfl, q⟩ := z; exact wpAny_pure q) fun _ _ e => e)
  split
  · rename_i q
    have e : PySem.W.subIn K tb (.ref C) = some false := by
      rcases Bool.or_eq_true_iff.mp hn with e | e
      · rw [beq_iff_eq.mp e] at q
        simp at q
      · exact beq_iff_eq.mp e
    refine wpAny_bind ((PySem.W.looks_subIn kin2 e).here ?_)
    simp only [Bool.false_eq_true, if_false]
    refine wpAny_bind (wpAny_mono one (fun r s' z => ?_) fun _ _ e => e)
    obtain ⟨v, rfl, hq⟩ := z
    exact wpAny_pure hq
  · refine wpAny_bind (wpAny_pure ?_)
    simp only [Bool.false_eq_true, if_false]
    refine wpAny_bind (wpAny_mono one (fun r s' z => ?_) fun _ _ e => e)
    obtain ⟨v, rfl, hq⟩ := z
    exact wpAny_pure hq
end
end Tl

namespace Tl
open PySem PySem.Spec PyProof.Rows L2 TL LamX
/-! ### rules for ==, !=, repr and truth by the text's own defs -/
/-- the kind of a value -/
inductive KdV (K : PySem.W.Frag) (H : Hp) : V → Value → Prop
  | non : KdV K H .non (.type "NoneType")
  | bl (b : Bool) : KdV K H (.bl b) (.type "bool")
  | int (i : Int) : KdV K H (.int i) (.type "int")
  | str (z : Str) : KdV K H (.str z) (.type "str")
  | tup (a : Addr) (xs : List V) (h : SqT K H a xs) : KdV K H (.ref a) (.type "tuple")
  | ins (a C dx : Addr) (fs : List (Str × V)) (h : H a = some (.ins C dx fs)) : KdV K H (.ref a) (.ref C)
section
variable {X : Cx} {pins : List (Addr × Obj)} {σ : L2.St} {H : Hp} {s : Shared}
theorem KdV.knd {y : V} {T : String} {u : Value} (I : Inv X pins σ H s) (k : KdV X.K H y (.type T)) (r : RelV y u) : Knd s u T := by
  cases k with
  | non => cases (show u = Value.none from r); exact .non
  | bl b => cases (show u = Value.bool b from r); exact .bl b
  | int i => obtain ⟨t, rfl⟩ := r; exact .int i t
  | str z => obtain ⟨t, rfl⟩ := r; exact .str z t
  | tup a xs h =>
    cases (show u = Value.ref a from r)
    obtain ⟨its, _, e, _⟩ := I.tuple h
    exact .tup a _ e
theorem KdV.looks {y : V} {tb u : Value} (I : Inv X pins σ H s) (k : KdV X.K H y tb) (r : RelV y u) : PySem.W.Looks (model X.prog X.w) s.heap (typeOf u) tb := by
  cases k with
  | ins a C dx fs h =>
    cases (show u = Value.ref a from r)
    obtain ⟨mA, J, _⟩ := ins_get I.hok h
    obtain ⟨od, J, _⟩ := J.look
    exact J.type
  | non => exact (KdV.knd I .non r).looks
  | bl b => exact (KdV.knd I (.bl b) r).looks
  | int i => exact (KdV.knd I (.int i) r).looks
  | str z => exact (KdV.knd I (.str z) r).looks
  | tup a xs h => exact (KdV.knd I (.tup a xs h) r).looks
end
def OwnC (K : PySem.W.Frag) (C : Addr) (y : V) (H : Hp) : Prop := ∃ tb, KdV K H y tb ∧ PySem.W.notFirst K C tb = true
def rOwnE (K : PySem.W.Frag) (C : Addr) (sp : Sp) (E : XK) : R2 := fun x y H Q => ∃ a dx fs, x = .ref a ∧ H a = some (.ins C dx fs) ∧ OwnC K C y H ∧ sp [.ref a, y] H (fun v H2 => ∃ b, v = .bl b ∧ Q (.bl b) H2) E
def rOwnN (K : PySem.W.Frag) (C : Addr) (sp : Sp) (E : XK) : R2 := fun x y H Q => ∃ a dx fs, x = .ref a ∧ H a = some (.ins C dx fs) ∧ OwnC K C y H ∧ sp [.ref a, y] H (fun v H2 => ∃ b, v = .bl b ∧ Q (.bl (!b)) H2) E
def rOwnR (K : PySem.W.Frag) (C : Addr) (sp : Sp) (E : XK) : R2 := fun y x H Q => ∃ a dx fs T, x = .ref a ∧ H a = some (.ins C dx fs) ∧ KdV K H y (.type T) ∧ PySem.W.subIn K (.ref C) (.type T) = some false ∧ sp [.ref a, y] H (fun v H2 => ∃ b, v = .bl b ∧ Q (.bl b) H2) E
section
variable {X : Cx} {CX : CXT} {k : Nat} {f C : Addr} {fd : FuncData} {ps : List Str} {sp : Sp} {E : XK}
/-- the text's own def is called by the machine, with two values -/
theorem own2 {A : Around} {pins : List (Addr × Obj)} {σ : L2.St} {H : Hp} {s : Shared} {a : Addr} {y : V} {u : Value} {R : V → Hp → Prop} {Q : Value → Shared → Prop} (F : FnOk X.prog X.w X.K X.mg X.base CX k f fd ps sp) (hr : Room k A) (fr : A.frames = X.A.frames) (hb : Binds X.K fd ps []) (hx : Passes CX X E) (I : Inv X pins σ H s) (r : RelV y u) (hsp : sp [.ref a, y] H R E)
    (q : ∀ v w H2 s2, Inv X pins σ H2 s2 → RelV v w → R v H2 → Q w s2) : wpAny (model X.prog X.w) A (call (.ref f) [.ref a, u]) Q X.xe s := by
  have e0 : Env0 X.prog X.w X.K X.mg X.base A X.stack s H := by
    have e := I.env0
    exact ⟨by rw [fr]; exact e.frames, e.mod, e.bs, e.bsz, e.funs, e.frf, e.hok, e.bare⟩
  have hl := F.len _ _ _ _ hsp
  have r2 : Vals [V.ref a, y] [Value.ref a, u] := .cons rfl (.cons r .nil)
  refine wpAny_call (codeAny_mono (F.run A X.stack s H ⟨[.ref a, u], []⟩ [.ref a, u] [.ref a, y] _ E hr e0 (by
    have := hb s [.ref a, u] I.kIn (by simpa using hl)
    simpa using this) r2 hsp) fun res s2 hq => ?_)
  cases res with
  | error e => exact hx pins σ H s e s2 I hq
  | ok fl =>
    cases fl with
    | ret u2 =>
      obtain ⟨v, H2, I2, rv, hR⟩ := I.after hq
      exact q v u2 H2 s2 I2 rv hR
    | next => exact hq.elim
    | brk => exact hq.elim
    | cont => exact hq.elim
theorem op_eqO (hm : Meth X.K C "__eq__" f) (F : FnOk X.prog X.w X.K X.mg X.base CX k f fd ps sp) (hr : Room k X.A) (hb : Binds X.K fd ps []) (hx : Passes CX X E) : OpR X (compareOp .Eq) (rOwnE X.K C sp E) := by
  intro pins s σ H x y v u Q I rx ry h
  obtain ⟨a, dx, fs, rfl, ha, ⟨tb, kd, nf⟩, hsp⟩ := h
  cases (show v = Value.ref a from rx)
  obtain ⟨mA, J, _⟩ := ins_get I.hok ha
  obtain ⟨od, J, _⟩ := J.look
  obtain ⟨m, hF⟩ := I.fr
  show wpAny (model X.prog X.w) X.A (richCompare .Eq (.ref a) u) (EP X pins σ Q) X.xe s
  refine PySem.W.cmp_K (op := .Eq) hr.units0 hF I.ok.mod.kin J (kd.looks I ry) nf hm.at_ hm.fn (own2 F hr rfl hb hx I ry hsp fun v w H2 s2 I2 rv hR => ?_)
  obtain ⟨b, rfl, q⟩ := hR
  cases (show w = Value.bool b from rv)
  exact ⟨.bl b, H2, I2, rfl, q⟩
theorem op_neO (hm : Meth X.K C "__eq__" f) (hn : PySem.W.findIn X.K (.ref C) "__ne__" = some (some (.builtin "object.__ne__"))) (ho : PySem.W.subIn X.K (.ref C) (.type "object") = some true) (F : FnOk X.prog X.w X.K X.mg X.base CX k f fd ps sp) (hr : Room (k + 1) X.A) (hb : Binds X.K fd ps []) (hx : Passes CX X E) : OpR X (compareOp .NotEq) (rOwnN X.K C sp E) := by
  intro pins s σ H x y v u Q I rx ry h
  obtain ⟨a, dx, fs, rfl, ha, ⟨tb, kd, nf⟩, hsp⟩ := h
  cases (show v = Value.ref a from rx)
  obtain ⟨mA, J, _⟩ := ins_get I.hok ha
  obtain ⟨od, J, _⟩ := J.look
  obtain ⟨m, hF⟩ := I.fr
  show wpAny (model X.prog X.w) X.A (richCompare .NotEq (.ref a) u) (EP X pins σ Q) X.xe s
  refine cmpNe hr.units0 hr.in1.units0 hF I.ok.mod.kin J (kd.looks I ry) nf ho hn hm.at_ hm.fn (own2 F hr.in1 rfl hb hx I ry hsp fun v w H2 s2 I2 rv hR => ?_)
  obtain ⟨b, rfl, q⟩ := hR
  cases (show w = Value.bool b from rv)
  exact ⟨b, rfl, .bl (!b), H2, I2, rfl, q⟩
theorem op_eqR (hm : Meth X.K C "__eq__" f) (ht : PySem.W.subIn X.K (.ref C) (.type "tuple") = some false) (F : FnOk X.prog X.w X.K X.mg X.base CX k f fd ps sp) (hr : Room k X.A) (hb : Binds X.K fd ps []) (hx : Passes CX X E) : OpR X (compareOp .Eq) (rOwnR X.K C sp E) := by
  intro pins s σ H y x u v Q I ry rx h
  obtain ⟨a, dx, fs, T, rfl, ha, kd, nf, hsp⟩ := h
  cases (show v = Value.ref a from rx)
  obtain ⟨mA, J, _⟩ := ins_get I.hok ha
  have hox := J.obj
  obtain ⟨od, J, _⟩ := J.look
  obtain ⟨m, hF⟩ := I.fr
  show wpAny (model X.prog X.w) X.A (richCompare .Eq u (.ref a)) (EP X pins σ Q) X.xe s
  refine cmpRev hr.units0 hF I.ok.mod.kin J hox (kd.knd I ry) ht nf hm.at_ hm.fn (own2 F hr rfl hb hx I ry hsp fun v w H2 s2 I2 rv hR => ?_)
  obtain ⟨b, rfl, q⟩ := hR
  cases (show w = Value.bool b from rv)
  exact ⟨.bl b, H2, I2, rfl, q⟩
theorem own1 {A : Around} {pins : List (Addr × Obj)} {σ : L2.St} {H : Hp} {s : Shared} {a : Addr} {R : V → Hp → Prop} {Q : Value → Shared → Prop} (F : FnOk X.prog X.w X.K X.mg X.base CX k f fd ps sp) (hr : Room k A) (fr : A.frames = X.A.frames) (hb : Binds X.K fd ps []) (hx : Passes CX X E) (I : Inv X pins σ H s) (hsp : sp [.ref a] H R E)
    (q : ∀ v w H2 s2, Inv X pins σ H2 s2 → RelV v w → R v H2 → Q w s2) : wpAny (model X.prog X.w) A (call (.ref f) [.ref a]) Q X.xe s := by
  have e0 : Env0 X.prog X.w X.K X.mg X.base A X.stack s H := by
    have e := I.env0
    exact ⟨by rw [fr]; exact e.frames, e.mod, e.bs, e.bsz, e.funs, e.frf, e.hok, e.bare⟩
  have hl := F.len _ _ _ _ hsp
  have r2 : Vals [V.ref a] [Value.ref a] := .cons rfl .nil
  refine wpAny_call (codeAny_mono (F.run A X.stack s H ⟨[.ref a], []⟩ [.ref a] [.ref a] _ E hr e0 (by
    have := hb s [.ref a] I.kIn (by simpa using hl)
    simpa using this) r2 hsp) fun res s2 hq => ?_)
  cases res with
  | error e => exact hx pins σ H s e s2 I hq
  | ok fl =>
    cases fl with
    | ret u2 =>
      obtain ⟨v, H2, I2, rv, hR⟩ := I.after hq
      exact q v u2 H2 s2 I2 rv hR
    | next => exact hq.elim
    | brk => exact hq.elim
    | cont => exact hq.elim
def rReprO (C : Addr) (sp : Sp) (E : XK) : List V → Hp → VK → Prop := fun xs H Q => ∃ a dx fs, xs = [.ref a] ∧ H a = some (.ins C dx fs) ∧ sp [.ref a] H (fun v H2 => ∃ z : Str, v = .str z ∧ Q (.str z) H2) E
theorem call_reprO (hm : Meth X.K C "__repr__" f) (F : FnOk X.prog X.w X.K X.mg X.base CX k f fd ps sp) (hr : Room (k + 1) X.A) (hb : Binds X.K fd ps []) (hx : Passes CX X E) : CallR X (.builtin "repr") (rReprO C sp E) := by
  intro pins s σ H xs us Q I r h
  obtain ⟨a, dx, fs, rfl, ha, hsp⟩ := h
  obtain rfl := Vals.ref1 r
  obtain ⟨mA, J, _⟩ := ins_get I.hok ha
  obtain ⟨od, J, _⟩ := J.look
  obtain ⟨m, hF⟩ := I.fr
  refine PySem.W.repr_K hr.in1.units0 hF I.ok.mod.kin J hm.at_ hm.fn (own1 F hr.in1 rfl hb hx I hsp fun v w H2 s2 I2 rv hR => ?_)
  obtain ⟨z, rfl, q⟩ := hR
  obtain ⟨t, rfl⟩ := rv
  exact ⟨.str z, H2, I2, ⟨t, rfl⟩, q⟩
def rBoolO (C : Addr) (sp : Sp) (E : XK) : List V → Hp → VK → Prop := fun xs H Q => ∃ a dx fs, xs = [.ref a] ∧ H a = some (.ins C dx fs) ∧ sp [.ref a] H (fun v H2 => ∃ i : Int, v = .int i ∧ 0 ≤ i ∧ i < 2 ^ 63 ∧ Q (.bl (i != 0)) H2) E
theorem call_boolO (hb0 : PySem.W.findIn X.K (.ref C) "__bool__" = some none) (hm : Meth X.K C "__len__" f) (F : FnOk X.prog X.w X.K X.mg X.base CX k f fd ps sp) (hr : Room (k + 3) X.A) (hb : Binds X.K fd ps []) (hx : Passes CX X E) : CallR X (.type "bool") (rBoolO C sp E) := by
  intro pins s σ H xs us Q I r h
  obtain ⟨a, dx, fs, rfl, ha, hsp⟩ := h
  obtain rfl := Vals.ref1 r
  obtain ⟨mA, J, _⟩ := ins_get I.hok ha
  obtain ⟨od, J, _⟩ := J.look
  obtain ⟨m, hF⟩ := I.fr
  refine boolLen hF I.ok.mod.kin J hb0 hm.at_ hm.fn (own1 F hr.in1.in1.in1 rfl hb hx I hsp fun v w H2 s2 I2 rv hR => ?_)
  obtain ⟨i, rfl, i0, i1, q⟩ := hR
  obtain ⟨t, rfl⟩ := rv
  exact ⟨⟨i0, i1⟩, i, _, rfl, .bl (i != 0), H2, I2.kept (t' := s2.toks + 1) fun _ _ z => z, rfl, q⟩
end
section
variable [Tabl] {K : PySem.W.Frag} {Z : XZ} {δ : List Slot} {n : Sto} {Φ : D → Sto → Prop}
/-- the kind of a datum -/
inductive KdD (K : PySem.W.Frag) (n : Sto) : D → Value → Prop
  | non : KdD K n .non (.type "NoneType")
  | bl (b : Bool) : KdD K n (.bl b) (.type "bool")
  | int (i : Int) : KdD K n (.int i) (.type "int")
  | str (z : Str) : KdD K n (.str z) (.type "str")
  | tup (xs : List D) : KdD K n (.tup xs) (.type "tuple")
  | ins (p C dx : Addr) (fs : List (Str × D)) (h : n.μ p = some (.ins C dx fs)) : KdD K n (.ptr p) (.ref C)
theorem KdD.toV {y : D} {tb : Value} {w : V} {B : Option Addr} {M : Addr → Prop} {G0 H0 G H : Hp} {σ : L2.St} (E : En K B M n G0 H0 G H σ δ) (kd : KdD K n y tb) (a : Is K G w y) : KdV K H w tb := by
  cases kd with
  | non => cases a; exact .non
  | bl b => cases a; exact .bl b
  | int i => cases a; exact .int i
  | str z => cases a; exact .str z
  | tup xs =>
    cases a with
    | tup h a => exact .tup _ _ (E.sub.seq h)
  | ins p C dx fs h =>
    cases a
    obtain ⟨⟨vs, hv, _⟩, _⟩ := E.mob p _ h
    exact .ins p C dx vs hv
theorem rk_eqO {C p dx : Addr} {fs : List (Str × D)} {y : D} {tb : Value} {sp : Sp} {E : XK} (hp : n.μ p = some (.ins C dx fs)) (kd : KdD K n y tb) (nf : PySem.W.notFirst K C tb = true) (k : SC K Z sp [.ptr p, y] δ n fun d n2 => ∃ b, d = .bl b ∧ Φ (.bl b) n2) : RK K Z (rOwnE K C sp E) (.ptr p) y δ n Φ := fun B M G0 H0 xw G H σ E v w a1 a2 Q q => by
  cases a1
  obtain ⟨⟨vs, hv, _⟩, _⟩ := E.mob p _ hp
  refine ⟨p, dx, vs, rfl, hv, ⟨tb, kd.toV E a2, nf⟩, k B M G0 H0 xw G H σ E _ (.cons (.ptr p) (.cons a2 .nil)) _ _ fun u d G2 H2 n2 f2 E2 s2 a3 => ?_⟩
  obtain ⟨b, rfl, f2⟩ := f2
  cases a3
  exact ⟨b, rfl, q _ _ G2 H2 n2 f2 E2 s2 (.bl b)⟩
theorem rk_neO {C p dx : Addr} {fs : List (Str × D)} {y : D} {tb : Value} {sp : Sp} {E : XK} (hp : n.μ p = some (.ins C dx fs)) (kd : KdD K n y tb) (nf : PySem.W.notFirst K C tb = true) (k : SC K Z sp [.ptr p, y] δ n fun d n2 => ∃ b, d = .bl b ∧ Φ (.bl (!b)) n2) : RK K Z (rOwnN K C sp E) (.ptr p) y δ n Φ := fun B M G0 H0 xw G H σ E v w a1 a2 Q q => by
  cases a1
  obtain ⟨⟨vs, hv, _⟩, _⟩ := E.mob p _ hp
  refine ⟨p, dx, vs, rfl, hv, ⟨tb, kd.toV E a2, nf⟩, k B M G0 H0 xw G H σ E _ (.cons (.ptr p) (.cons a2 .nil)) _ _ fun u d G2 H2 n2 f2 E2 s2 a3 => ?_⟩
  obtain ⟨b, rfl, f2⟩ := f2
  cases a3
  exact ⟨b, rfl, q _ _ G2 H2 n2 f2 E2 s2 (.bl (!b))⟩
theorem rk_eqR {C p dx : Addr} {fs : List (Str × D)} {y : D} {T : String} {sp : Sp} {E : XK} (hp : n.μ p = some (.ins C dx fs)) (kd : KdD K n y (.type T)) (nf : PySem.W.subIn K (.ref C) (.type T) = some false) (k : SC K Z sp [.ptr p, y] δ n fun d n2 => ∃ b, d = .bl b ∧ Φ (.bl b) n2) : RK K Z (rOwnR K C sp E) y (.ptr p) δ n Φ := fun B M G0 H0 xw G H σ E w v a2 a1 Q q => by
  cases a1
  obtain ⟨⟨vs, hv, _⟩, _⟩ := E.mob p _ hp
  refine ⟨p, dx, vs, T, rfl, hv, kd.toV E a2, nf, k B M G0 H0 xw G H σ E _ (.cons (.ptr p) (.cons a2 .nil)) _ _ fun u d G2 H2 n2 f2 E2 s2 a3 => ?_⟩
  obtain ⟨b, rfl, f2⟩ := f2
  cases a3
  exact ⟨b, rfl, q _ _ G2 H2 n2 f2 E2 s2 (.bl b)⟩
theorem rc_reprO {C p dx : Addr} {fs : List (Str × D)} {sp : Sp} {E : XK} (hp : n.μ p = some (.ins C dx fs)) (k : SC K Z sp [.ptr p] δ n fun y n2 => ∃ z : Str, y = .str z ∧ Φ (.str z) n2) : RC K Z (rReprO C sp E) [.ptr p] δ n Φ := fun B M G0 H0 xw G H σ E vs a Q q => by
  cases a with
  | cons a1 r =>
    cases r
    cases a1
    obtain ⟨⟨vs, hv, _⟩, _⟩ := E.mob p _ hp
    refine ⟨p, dx, vs, rfl, hv, k B M G0 H0 xw G H σ E _ (.cons (.ptr p) .nil) _ _ fun u y G2 H2 n2 f2 E2 s2 a2 => ?_⟩
    obtain ⟨z, rfl, f2⟩ := f2
    cases a2
    exact ⟨z, rfl, q _ _ G2 H2 n2 f2 E2 s2 (.str z)⟩
theorem rc_boolO {C p dx : Addr} {fs : List (Str × D)} {sp : Sp} {E : XK} (hp : n.μ p = some (.ins C dx fs)) (k : SC K Z sp [.ptr p] δ n fun y n2 => ∃ i : Int, y = .int i ∧ 0 ≤ i ∧ i < 2 ^ 63 ∧ Φ (.bl (i != 0)) n2) : RC K Z (rBoolO C sp E) [.ptr p] δ n Φ := fun B M G0 H0 xw G H σ E vs a Q q => by
  cases a with
  | cons a1 r =>
    cases r
    cases a1
    obtain ⟨⟨vs, hv, _⟩, _⟩ := E.mob p _ hp
    refine ⟨p, dx, vs, rfl, hv, k B M G0 H0 xw G H σ E _ (.cons (.ptr p) .nil) _ _ fun u y G2 H2 n2 f2 E2 s2 a2 => ?_⟩
    obtain ⟨i, rfl, i0, i1, f2⟩ := f2
    cases a2
    exact ⟨i, rfl, i0, i1, q _ _ G2 H2 n2 f2 E2 s2 (.bl (i != 0))⟩
end
end Tl

namespace Tl
open PySem PySem.Spec PyProof.Rows L2 TL LamX
/-! ### lists of the store read as data -/
mutual
/-- what a datum reads as, lists of the store looked into -/
inductive Rdx (n : Sto) : D → D → Prop
  | self (x : D) : Rdx n x x
  | lst {p : Addr} {xs ys : List D} (h : n.μ p = some (.lst xs)) (a : Rdxs n xs ys) : Rdx n (.ptr p) (.lst ys)
inductive Rdxs (n : Sto) : List D → List D → Prop
  | nil : Rdxs n [] []
  | cons {x y : D} {xs ys : List D} (h : Rdx n x y) (r : Rdxs n xs ys) : Rdxs n (x :: xs) (y :: ys)
end
section
variable [Tabl] {K : PySem.W.Frag} {Z : XZ} {δ : List Slot} {n : Sto} {Φ : D → Sto → Prop} {B : Option Addr}
mutual
theorem Rdx.dp {M : Addr → Prop} {G0 H0 G H : Hp} {σ : L2.St} (E : En K B M n G0 H0 G H σ δ) : ∀ {x y : D} {v : V} {k : Nat}, Rdx n x y → Is K G v x → Shp k y → Dp K H v (toP y)
  | _, _, _, _, .self x, a, hs => a.dp E.sub hs
  | _, _, _, _, .lst h r, a, hs => by
    cases a
    obtain ⟨vs, hv, is⟩ := E.mlst h
    unfold toP
    cases hs with
    | lst hs => exact .lst (SqL.of hv) (Rdxs.dp E r is hs)
theorem Rdxs.dp {M : Addr → Prop} {G0 H0 G H : Hp} {σ : L2.St} (E : En K B M n G0 H0 G H σ δ) : ∀ {xs ys : List D} {vs : List V} {k : Nat}, Rdxs n xs ys → IsAll K G vs xs → (∀ y ∈ ys, Shp k y) → DpAll K H vs (toPs ys)
  | _, _, _, _, .nil, a, _ => by
    cases a
    unfold toPs
    exact .nil
  | _, _, _, _, .cons h r, a, hs => by
    cases a with
    | cons a1 a2 =>
      unfold toPs
      exact .cons (Rdx.dp E h a1 (hs _ List.mem_cons_self)) (Rdxs.dp E r a2 fun y hy => hs y (List.mem_cons_of_mem _ hy))
end
theorem Rdxs.refl : ∀ xs : List D, Rdxs n xs xs
  | [] => .nil
  | x :: xs => .cons (.self x) (Rdxs.refl xs)
theorem rk_eqRd {j k : Nat} {x y x' y' : D} (rx : Rdx n x x') (ry : Rdx n y y') (hx : Shp j x') (hy : Shp k y') (hj : j ≤ 64) (hk : k ≤ 64) (q : Φ (.bl (eqD x' y')) n) : RK K Z (rEqD K) x y δ n Φ := fun B M G0 H0 xw G H σ E v w a b Q qq =>
  ⟨_, _, rx.dp E a hx, ry.dp E b hy, hx.shaped hj, hy.shaped hk, qq _ _ G H n q E (Sub.refl G) (.bl _)⟩
/-- isinstance by a class of the text, of an object -/
theorem gk_isiO {ta : TE} {C C2 : Addr} (cl : Cls K C) (ha : PySem.W.findIn K (.ref C) "__class__" = some (some (.builtin "object.__class__"))) (hn : PySem.W.specialIn K (.builtin "object.__class__") "__get__" = some (some (.builtin "getset_descriptor.__get__"))) (htk : PySem.W.takesIn K (.builtin "object.__class__") = some true) (hm : PySem.W.mroIn K C (.type "object") = some true)
    (h : GK K Z ta δ n fun d n1 => ∃ p dx fs b, d = .ptr p ∧ n1.μ p = some (.ins C dx fs) ∧ PySem.W.kitOne K (.ref C) (.ref C2) = some b ∧ Φ (.bl b) n1) : GK K Z (tCB (rIsi K) (tCons ta (tCons (tC (.ref C2)) tNil))) δ n Φ := fun B M G0 H0 xw G H σ E Q q =>
  h B M G0 H0 xw G H σ E _ fun v d G1 H1 n1 f1 E1 s1 a1 => by
    obtain ⟨p, dx, fs, b, rfl, hp, hb, f1⟩ := f1
    cases a1
    obtain ⟨⟨vs, hv, _⟩, _⟩ := E1.mob p _ hp
    exact ⟨.ref p, .ref C2, _, _, b, rfl, .own C2, .base (.ins hv cl ha hn htk hm), hb, q _ _ G1 H1 n1 f1 E1 s1 (.bl b)⟩
/-- the same, of data -/
theorem gk_isiC {ta : TE} {C2 : Addr} (h : GK K Z ta δ n fun d n1 => ∃ b, isPtr d = false ∧ PySem.W.kitOne K (.type (tyn d)) (.ref C2) = some b ∧ Φ (.bl b) n1) : GK K Z (tCB (rIsi K) (tCons ta (tCons (tC (.ref C2)) tNil))) δ n Φ := fun B M G0 H0 xw G H σ E Q q =>
  h B M G0 H0 xw G H σ E _ fun v d G1 H1 n1 f1 E1 s1 a1 => by
    obtain ⟨b, np, hb, f1⟩ := f1
    exact ⟨v, .ref C2, _, _, b, rfl, .own C2, a1.ty E1.sub np, hb, q _ _ G1 H1 n1 f1 E1 s1 (.bl b)⟩
end
end Tl

namespace Tl
open PySem PySem.Spec PyProof.Rows L2 TL LamX
/-! ### o.m(k = v, ..) -/
def tMethK (C : Addr) (m : Str) (j : Nat) (sp : Sp) (gV : List V → List V → List V) (E : XK) (ta : TE) (tk : TA) : TE := fun σ H Q => ta σ H fun x H1 => ∃ a dx fs, x = .ref a ∧ H1 a = some (.ins C dx fs) ∧ fs.lookup m = none ∧ tk σ H1 fun zs H2 => zs.length = j ∧ sp (gV [.ref a] zs) H2 Q E
section
variable {X : Cx} {CX : CXT} {k : Nat} {f C : Addr} {fd : FuncData} {ps ks : List Str} {sp : Sp} {E : XK} {m : Str} {pos apos : Pos} {o : Expr} {kws : List Keyword} {ta : TE} {tk : TA} {g : List Value → List Value → List Value} {gV : List V → List V → List V}
theorem pe_methK0 {pl : Sem Bool} (he : PE X o ta) (c : Cls X.K C) (hm : Meth X.K C m f) (F : FnOk X.prog X.w X.K X.mg X.base CX k f fd ps sp) (hr : Room k X.A) (hb : KBn X.K fd ps 1 ks g gV) (hx : Passes CX X E) (hkw : PK X kws tk)
    (hall : (backToKw pos (keywordEach kws X.env)).all (·.1.isSome) = true := by rfl) (hks : (backToKw pos (keywordEach kws X.env)).filterMap (·.1) = ks := by rfl)
    (hpl : ((backTo pos (starEach [] X.env)).any (·.1) || (backToKw pos (keywordEach kws X.env)).any (·.1.isNone)) = false := by rfl)
    (ht : eval (.Call (.Attribute o m apos) [] kws pos) X.env = (do
      let w ← eval o X.env
      standAt apos.atName
      let (q, first) ← holding [w] (getMethod w m pl)
      callWith pos q first (backTo pos (starEach [] X.env)) (backToKw pos (keywordEach kws X.env))) := by rfl) :
    PE X (.Call (.Attribute o m apos) [] kws pos) (tMethK C m ks.length sp gV E ta tk) := by
  refine ⟨fun pins s σ H Q I h => ?_⟩
  refine PySem.W.methodCall_KW (pl := pl) (thn (he.run pins s σ H _ I h) fun u s1 ⟨x, H1, I1, rx, a, dx, fs, ex, ea, l, q⟩ => ?_) ht
  subst ex
  obtain rfl : u = Value.ref a := rx
  refine getmeth_ok I1 ea c hm l ?_
  refine PySem.W.callWith_KW0 (first := [.ref a]) (h₀ := X.base) I.ok.mod.kin hm.kp hall ?_ hpl
  refine thn (hkw.run pos pins s1 σ H1 _ I1 q) fun ws s2 ⟨zs, H2, I2, rz, l2, q2⟩ => ⟨I2.kIn, ?_⟩
  rw [hks]
  have r1 : Vals [V.ref a] [Value.ref a] := .cons rfl .nil
  have r2 := hb.rel r1 rz
  refine wpAny_call (codeAny_mono (F.run X.A X.stack s2 H2 ⟨[.ref a], ks.zip ws⟩ (g [.ref a] ws) (gV [.ref a] zs) Q E hr I2.env0 (hb.to s2 [.ref a] ws I2.kIn rfl (rz.length.symm.trans l2)) r2 q2) fun res s3 hq => ?_)
  cases res with
  | error e => exact hx pins σ H2 s2 e s3 I2 hq
  | ok fl =>
    cases fl with
    | ret u => exact I2.after hq
    | next => exact hq.elim
    | brk => exact hq.elim
    | cont => exact hq.elim
end
section
variable [Tabl] {K : PySem.W.Frag} {Z : XZ} {δ : List Slot} {n : Sto} {Φ : D → Sto → Prop} {ta : TE} {ab : TA}
theorem gk_methK {C : Addr} {m : Str} {sp : Sp} {ms : List V} {es : List D} {E : XK} {j : Nat} {plan : List (Nat × Nat)} (hm : ∀ G, IsAll K G ms es) (h : GK K Z ta δ n fun d n1 => ∃ p dx fs, d = .ptr p ∧ n1.μ p = some (.ins C dx fs) ∧ fs.lookup m = none ∧ GA K Z ab δ n1 fun ys n2 => ys.length = j ∧ SC K Z sp (kgP plan [.ptr p] es ys) δ n2 Φ) : GK K Z (tMethK C m j sp (fun vs zs => kgP plan vs ms zs) E ta ab) δ n Φ := fun B M G0 H0 xw G H σ E Q q =>
  h B M G0 H0 xw G H σ E _ fun v d G1 H1 n1 f1 E1 s1 a1 => by
    obtain ⟨p, dx, fs, rfl, hp, hl, f1⟩ := f1
    cases a1
    obtain ⟨⟨vs, e1, e2⟩, _⟩ := E1.mob p _ hp
    refine ⟨p, dx, vs, rfl, e1, e2.look0 hl, ?_⟩
    exact f1 B M G0 H0 xw G1 H1 σ E1 _ fun zs ys G2 H2 n2 f2 E2 s2 a2 => ⟨(a2.len).trans f2.1, f2.2 B M G0 H0 xw G2 H2 σ E2 _ (kgP_is (.cons (.ptr p) .nil) (hm G2) a2) Q _ fun u d G3 H3 n3 f3 E3 s3 a3 => q u d G3 H3 n3 f3 E3 ((s1.trans s2).trans s3) a3⟩
end
end Tl

namespace Tl
open PySem PySem.Spec PyProof.Rows L2 TL LamX
/-! ### f-strings over data -/
section
variable [Tabl] {K : PySem.W.Frag} {Z : XZ} {δ : List Slot} {n : Sto} {Φ : D → Sto → Prop} {ta : TE} {ts : List TE} {acc : Str}
theorem gk_fmt (h : GK K Z ta δ n fun d n1 => ∃ i : Int, d = .int i ∧ i.natAbs.log2 < 1920 ∧ Φ (.str (toString i)) n1) : GK K Z (tFmt ta) δ n Φ := fun B M G0 H0 xw G H σ E Q q =>
  h B M G0 H0 xw G H σ E _ fun v d G1 H1 n1 f1 E1 s1 a1 => by
    obtain ⟨i, rfl, hi, f1⟩ := f1
    cases a1
    exact .inr ⟨i, rfl, hi, q _ _ G1 H1 n1 f1 E1 s1 (.str _)⟩
theorem gk_js0 (k : Φ (.str acc) n) : GK K Z (fun σ H Q => tJs [] acc σ H fun out H1 => Q (.str out) H1) δ n Φ := fun B M G0 H0 xw G H σ E Q q => q _ _ G H n k E (Sub.refl G) (.str _)
theorem gk_js (h : GK K Z ta δ n fun d n1 => ∃ y : Str, d = .str y ∧ (acc ++ y).length ≤ sizeLine ∧ GK K Z (fun σ H Q => tJs ts (acc ++ y) σ H fun out H1 => Q (.str out) H1) δ n1 Φ) : GK K Z (fun σ H Q => tJs (ta :: ts) acc σ H fun out H1 => Q (.str out) H1) δ n Φ := fun B M G0 H0 xw G H σ E Q q =>
  h B M G0 H0 xw G H σ E _ fun v d G1 H1 n1 f1 E1 s1 a1 => by
    obtain ⟨y, rfl, hy, f1⟩ := f1
    cases a1
    exact ⟨y, rfl, hy, f1 B M G0 H0 xw G1 H1 σ E1 _ fun u d G2 H2 n2 f2 E2 s2 a2 => q u d G2 H2 n2 f2 E2 (s1.trans s2) a2⟩
/-- str(i) -/
theorem rc_strI {i : Int} (hi : i.natAbs.log2 < 1920) (k : Φ (.str (toString i)) n) : RC K Z (fun xs H Q => ∃ i : Int, xs = [.int i] ∧ i.natAbs.log2 < 1920 ∧ Q (.str (toString i)) H) [.int i] δ n Φ := fun B M G0 H0 xw G H σ E vs a Q q => by
  cases a with
  | cons a1 r =>
    cases r
    cases a1
    exact ⟨i, rfl, hi, q _ _ G H n k E (Sub.refl G) (.str _)⟩
end
end Tl

namespace Tl
open PySem PySem.Spec PyProof.Rows L2 TL LamX
/-! ### sets of texts: set(xs) of a list, sorted of such a set, how many it has -/
/-- the text that an entry of a set's table bears -/
def txOf (z : Int × Value) : Str := match z.2 with
  | .str y _ => y
  | _ => Str.empty
def TxE (w : World) (z : Int × Value) : Prop := ∃ y tk, z.2 = Value.str y tk ∧ z.1 = hashStr w y
/-- at a a set whose members are just those of ys -/
def TxSet (w : World) (h : Heap) (a : Addr) (ys : List Str) : Prop :=
  ∃ ob tb ep tt, h.get? a = some ob ∧ ob.ExactSet ∧ ob.data = .set tb ep tt ∧ ((∀ z ∈ tb.toList, TxE w z) ∧ (tb.toList.map txOf).Nodup ∧ ∀ y, y ∈ ys ↔ y ∈ tb.toList.map txOf) ∧ tb.size < scanBound ∧ tt.fits tb.size = true ∧ tb.size ≤ ys.length ∧ Ris tt.place.toList ∧
    (w.params.followText "set-order" = true ∨ tt.led = true)
section
variable {P : Program} {w : World} {h h' : Heap} {a : Addr} {ys : List Str}
theorem TxSet.at (R : TxSet w h a ys) (k : ∀ ob, h.get? a = some ob → h'.get? a = some ob) : TxSet w h' a ys := by
  obtain ⟨ob, tb, ep, tt, q, r⟩ := R
  exact ⟨ob, tb, ep, tt, k ob q, r⟩
theorem tx_elems {l : List (Int × Value)} (g : ∀ z ∈ l, TxE w z) : ElemsOf (PySem.strKind P w) l := fun z hz => by
  obtain ⟨y, tk, e1, e2⟩ := g z hz
  refine ⟨⟨y, by rw [e1]; exact strKind_is P w y tk, e2⟩, ?_⟩
  rw [e1]
  rfl
theorem tx_is {z : Int × Value} (g : TxE w z) (y : Str) : (PySem.strKind P w).is y z.2 = true ↔ txOf z = y := by
  obtain ⟨y0, tk, e1, _⟩ := g
  unfold txOf
  rw [e1]
  show (Value.isStrOf y (Value.str y0 tk)) = true ↔ y0 = y
  simp only [Value.isStrOf, beq_iff_eq]
theorem tx_mem {l : List (Int × Value)} (g : ∀ z ∈ l, TxE w z) (y : Str) : y ∈ l.map txOf ↔ ∃ z ∈ l, (PySem.strKind P w).is y z.2 = true :=
  List.mem_map.trans ⟨fun ⟨z, hz, q⟩ => ⟨z, hz, (tx_is (g z hz) y).2 q⟩, fun ⟨z, hz, q⟩ => ⟨z, hz, (tx_is (g z hz) y).1 q⟩⟩
theorem TxSet.nil (ho : h.get? a = some { cls := .type "set", dict := none, data := .set #[] 0 (.fresh 0 0 (!w.params.followText "set-order")) }) : TxSet w h a [] := by
  refine ⟨_, #[], 0, _, ho, ⟨rfl, rfl, rfl⟩, rfl, ⟨fun z hz => absurd hz (by simp), List.nodup_nil, fun y => by simp⟩, by decide, rfl, Nat.le_refl 0, List.Pairwise.nil, ?_⟩
  rcases Bool.eq_false_or_eq_true (w.params.followText "set-order") with q | q
  · exact .inl q
  · exact .inr (by show (!w.params.followText "set-order") = true; rw [q]; rfl)
end
section
variable {P : Program} {w : World} {A : Around} {E : Value → Shared → Prop} {s : Shared} {a : Addr} {ys : List Str}
/-- the table is written behind an entry more, and laid anew where it is too full -/
theorem tx_tail {g : Bool → Sem Unit} (hg : ∀ (b : Bool) (s₁ : Shared) (Q' : Unit → Shared → Prop), Q' () s₁ → wpAny (model P w) A (g b) Q' E s₁)
    {ob : Obj} {tb : Array (Int × Value)} {ep : Nat} {tt : SetTable} (ho : s.heap.get? a = some ob) (hex : ob.ExactSet) (hd : ob.data = .set tb ep tt)
    {tb1 : Array (Int × Value)} {tt2 : SetTable} {ys' : List Str} (gm : (∀ z ∈ tb1.toList, TxE w z) ∧ (tb1.toList.map txOf).Nodup ∧ ∀ y, y ∈ ys' ↔ y ∈ tb1.toList.map txOf) (hn : tb1.size ≤ ys'.length)
    (hb : tb1.size < scanBound) (hf : tt2.fits tb1.size = true) (hr : Ris tt2.place.toList) (hl : w.params.followText "set-order" = true ∨ tt2.led = true) {wasDummy : Bool} {R : Option Bool → Shared → Prop}
    (hR : ∀ h', Heap.SameBut a s.heap h' → TxSet w h' a ys' → R (some true) { s with heap := h' }) :
    wpAny (model P w) A (do
        storeSet a tb1 tt2
        if (!wasDummy && tt2.tooFull) = true then do
            g (relayAll tt2 tb1 (SetTable.grown tb1.size)).2.2
            storeSet a (relayAll tt2 tb1 (SetTable.grown tb1.size)).1 (relayAll tt2 tb1 (SetTable.grown tb1.size)).2.1
            pure (some true)
          else pure (some true)) R E s := by
  have o1 := store_at (es' := tb1) (t' := tt2) ho hd
  have b1 := Heap.SameBut.update s.heap a (Obj.putSet tb1 tt2)
  refine wpAny_bind (wpAny_storeSet_of ho hd ?_ (fits_of_scanBound hb))
  split
  · have pm := relayAll_perm tt2 tb1 (SetTable.grown tb1.size)
    have f3 := relayAll_fits tt2 tb1 (SetTable.grown tb1.size)
    have r3 := relayAll_ris tt2 tb1 (SetTable.grown tb1.size)
    have l3 := relayAll_led tt2 tb1 (SetTable.grown tb1.size)
    generalize relayAll tt2 tb1 (SetTable.grown tb1.size) = Y at pm f3 r3 l3 ⊢
    obtain ⟨tb2, tt3, gv⟩ := Y
    dsimp only at pm f3 r3 l3 ⊢
    have sz : tb2.size = tb1.size := by
      have := pm.length_eq
      simpa using this
    refine wpAny_bind (hg _ _ _ (wpAny_bind (wpAny_storeSet_of o1 rfl ?_ (fits_of_scanBound (sz ▸ hb)))))
    have o2 := store_at (es' := tb2) (t' := tt3) o1 rfl
    have pk := pm.map txOf
    exact wpAny_pure (hR _ (b1.trans (Heap.SameBut.update _ a _)) ⟨_, tb2, _, tt3, o2, hex, rfl, ⟨fun z hz => gm.1 z (pm.mem_iff.mp hz), pk.nodup_iff.mpr gm.2.1, fun y => (gm.2.2 y).trans pk.mem_iff.symm⟩, sz ▸ hb, f3, sz ▸ hn, r3, hl.imp id fun q => l3.trans q⟩)
  · exact wpAny_pure (hR _ b1 ⟨_, tb1, _, tt2, o1, hex, rfl, gm, hb, hf, hn, hr, hl⟩)
theorem tx_add {y : Str} {tk : Tok} {Q : Bool → Shared → Prop} (R : TxSet w s.heap a ys) (room : ys.length + 1 < scanBound)
    (hQ : ∀ b h', Heap.SameBut a s.heap h' → TxSet w h' a (ys ++ [y]) → Q b { s with heap := h' }) :
    wpAny (model P w) A (setAddHashed a (.str y tk) ((PySem.strKind P w).hash y)) Q E s := by
  obtain ⟨ob, tb, ep, tt, ho, hex, hd, ⟨g, nd, hm⟩, hb, hf, hn, hr, hl⟩ := R
  have key : (PySem.strKind P w).is y (.str y tk) = true := strKind_is P w y tk
  have sc : (Value.str y tk).scannable = true := rfl
  have el : ElemsOf (PySem.strKind P w) tb.toList := tx_elems g
  unfold setAddHashed setAddHashedIn
  refine wpAny_holding (wpAny_bind (wpAny_setState_of ho hd hf ?_))
  dsimp only
  rw [byScan_of sc hb el]
  simp only [↓reduceIte]
  unfold setAddByScan
  refine wpAny_bind (wpAny_bind (wpAny_rule (wpAny_bind (wpAny_setScan_of key ho hd hf el ?_))))
  cases hfi : List.findIdx? (fun z => (PySem.strKind P w).is y z.2) tb.toList with
  | some j =>
    obtain ⟨hj, pj, _⟩ := List.findIdx?_eq_some_iff_getElem.mp hfi
    have inn : y ∈ tb.toList.map txOf := (tx_mem (P := P) g y).2 ⟨tb.toList[j], List.getElem_mem hj, pj⟩
    refine wpAny_pure (wpAny_pure (hQ _ s.heap (Heap.SameBut.refl a s.heap) ⟨ob, tb, ep, tt, ho, hex, hd, ⟨g, nd, fun u => ?_⟩, hb, hf, ?_, hr, hl⟩))
    · rw [List.mem_append, List.mem_singleton, hm u]
      exact ⟨fun q => q.elim id fun e => e ▸ inn, .inl⟩
    · rw [List.length_append]
      exact Nat.le_add_right_of_le hn
  | none =>
    have out : y ∉ tb.toList.map txOf := fun q => by
      obtain ⟨z, hz, e⟩ := (tx_mem (P := P) g y).1 q
      exact absurd (List.findIdx?_eq_none_iff.mp hfi z hz) (by rw [e]; decide)
    have gw : ∀ (b : Bool) {s₁ : Shared} {Q' : Unit → Shared → Prop}, Q' () s₁ → wpAny (model P w) A (match b with | true => rule "set.scan.the-table-gave-way" | false => pure ()) Q' E s₁ := fun b s₁ Q' q => by
      cases b
      · exact wpAny_pure q
      · exact wpAny_rule q
    dsimp only
    have pm := layNew_perm tt tb ((PySem.strKind P w).hash y) (.str y tk)
    have f1 := layNew_fits tt tb ((PySem.strKind P w).hash y) (.str y tk)
    have r1 := layNew_ris tt tb ((PySem.strKind P w).hash y) (.str y tk) hr
    have l1 := layNew_led tt tb ((PySem.strKind P w).hash y) (.str y tk)
    generalize layNew tt tb ((PySem.strKind P w).hash y) (.str y tk) = Y at pm f1 r1 l1 ⊢
    obtain ⟨tb1, tt1, wd, gv⟩ := Y
    dsimp only at pm f1 r1 l1 ⊢
    have pc : tb1.toList.Perm ((hashStr w y, Value.str y tk) :: tb.toList) := by
      rw [Array.toList_push] at pm
      exact pm.trans (List.perm_append_singleton _ _)
    have pk : (tb1.toList.map txOf).Perm (y :: tb.toList.map txOf) := pc.map txOf
    have gm : (∀ z ∈ tb1.toList, TxE w z) ∧ (tb1.toList.map txOf).Nodup ∧ ∀ u, u ∈ ys ++ [y] ↔ u ∈ tb1.toList.map txOf := by
      refine ⟨fun z hz => ?_, pk.nodup_iff.mpr (List.nodup_cons.mpr ⟨out, nd⟩), fun u => ?_⟩
      · rcases List.mem_cons.mp (pc.mem_iff.mp hz) with q | q
        · exact ⟨y, tk, by rw [q], by rw [q]⟩
        · exact g z q
      · rw [pk.mem_iff, List.mem_append, List.mem_singleton, List.mem_cons, hm u]
        exact Or.comm
    have sz : tb1.size = tb.size + 1 := by
      have := pc.length_eq
      simpa using this
    have n1 : tb1.size ≤ (ys ++ [y]).length := by
      rw [sz, List.length_append]
      exact Nat.succ_le_succ hn
    have b1 : tb1.size < scanBound := by omega
    have ld : w.params.followText "set-order" = true ∨ tt1.led = true := hl.imp id fun q => l1.trans q
    refine wpAny_bind (gw _ ?_)
    split
    · refine wpAny_bind ?_
      rw [hashByValue_scannable 8 sc]
      refine wpAny_pure (tx_tail ?_ ho hex hd gm n1 b1 ?_ ?_ ?_ fun h' sb r => ?_)
      · intro b s₁ Q' q
        cases b
        · exact wpAny_pure q
        · exact wpAny_rule q
      · first | exact f1 | (split; exact SetTable.fits_plain_off f1; exact f1) | (split; exact f1; exact SetTable.fits_plain_off f1)
      · first | exact r1 | (split <;> exact r1)
      · first | exact ld | (split <;> exact ld)
      · exact wpAny_pure (hQ true h' sb r)
    · refine wpAny_bind (wpAny_pure ?_)
      simp only [↓reduceIte]
      refine tx_tail ?_ ho hex hd gm n1 b1 f1 r1 ld fun h' sb r => ?_
      · intro b s₁ Q' q
        cases b
        · exact wpAny_pure q
        · exact wpAny_rule q
      · exact wpAny_pure (hQ true h' sb r)
end
/-! the loop over what is handed in -/
section
variable {P : Program} {w : World} {A : Around} {E : Value → Shared → Prop} {s : Shared}
theorem tx_loop {I : Addr} {fp wr : List Addr} {G : Array GenState → Array GenState → Prop} {n : Nat} {Pv : Nat → Value → Prop} {St : Nat → Shared → Prop} {R : Result → Shared → Prop}
    (W : WalksS P w A.in1 I fp wr G n Pv St) (D : Addr) (nD : D ∉ fp) (ys : List Str) (hn : n = ys.length) (hb : ys.length + 1 < scanBound) (hv : ∀ i v, Pv i v → ∃ y t, ys[i]? = some y ∧ v = .str y t) :
    ∀ (m i : Nat) (s : Shared), n - i = m → i ≤ n → St i s → TxSet w s.heap D (ys.take i) → (∀ s', Moved (D :: wr) G s s' → TxSet w s'.heap D ys → R (.ok (.ret .none)) s') →
      codeAny (model P w) A (.builtin "set.update.loop" ⟨[.ref D, .ref I], []⟩) R s := by
  have nW : D ∉ wr := fun q => nD (W.sub _ q)
  have up : ∀ b ∈ wr, b ∈ D :: wr := fun b hb => List.mem_cons_of_mem _ hb
  intro m
  induction m with
  | zero =>
    intro i s hm hi st hS hR
    obtain rfl : i = n := by omega
    refine codeAny_builtin F.entry_set_update_loop ?_
    rw [Around.under_plainId F.plain_set_update_loop _]
    show wpAny _ A.in1 (pyNext (.ref I) >>= _) _ _ s
    refine wpAny_bind (W.done s _ _ st fun s' mv => ?_)
    rw [List.take_of_length_le (by omega)] at hS
    show wpAny _ A.in1 (ret Value.none) _ _ s'
    exact wpAny_pure (hR s' (mv.mono up) (hS.at fun o e => mv.heap D o nW e))
  | succ m ih =>
    intro i s hm hi st hS hR
    have lt : i < n := by omega
    refine codeAny_builtin F.entry_set_update_loop ?_
    rw [Around.under_plainId F.plain_set_update_loop _]
    show wpAny _ A.in1 (pyNext (.ref I) >>= _) _ _ s
    refine wpAny_bind (W.item i s _ _ lt st fun v s' hP st' mv => ?_)
    obtain ⟨y, t, hy, rfl⟩ := hv i v hP
    have hS2 : TxSet w s'.heap D (ys.take i) := hS.at fun o e => mv.heap D o nW e
    show wpAny _ A.in1 (holding [Value.str y t] (setAdd D (.str y t)) >>= _) _ _ s'
    refine wpAny_bind (wpAny_holding ?_)
    unfold setAdd
    refine wpAny_holding (wpAny_bind ((PySem.strKind P w).pyHash (k := y) (strKind_is _ _ _ _) ?_))
    refine tx_add (s := { s' with toks := s'.toks + 1 }) hS2 (by rw [List.length_take]; omega) fun b h' sb hS3 => ?_
    have e3 : ys.take i ++ [y] = ys.take (i + 1) := by rw [List.take_add_one, hy]; rfl
    rw [e3] at hS3
    refine wpAny_pure ⟨plainId_quiet F.plain_set_update_loop _, ih (i + 1) _ (by omega) lt (W.frame _ s' _ _ st' (Nat.le_succ _) fun b hb o e => ?_) hS3 fun s2 mv2 hS4 => ?_⟩
    · rw [sb.2 b fun q : b = D => nD (q ▸ hb)]
      exact e
    · refine hR s2 (Moved.trans W.gtrans ((mv.mono up).then_heap (Nat.le_succ _) fun b o hb e => ?_) mv2) hS4
      rw [sb.2 b fun q : b = D => hb (q ▸ List.mem_cons_self)]
      exact e
abbrev newSet (w : World) : Obj := { cls := .type "set", dict := none, data := .set #[] 0 (.fresh 0 0 (!w.params.followText "set-order")) }
set_option maxHeartbeats 3200000 in
theorem tx_of_list {l : Addr} {items : Array Value} (ys : List Str) {Q : Value → Shared → Prop} (hh : A.handled = none) (hl : s.heap.IsList l items) (hit : StrsAre items.toList ys) (hb : ys.length + 1 < scanBound)
    (k : ∀ (h' : Heap) (tk : Nat), TxSet w h' s.heap.objs.size ys → (∀ b o, s.heap.get? b = some o → h'.get? b = some o) → Q (.ref s.heap.objs.size) { s with heap := h', toks := tk }) : wpAny (model P w) A (call (.type "set") [.ref l]) Q E s := by
  have isz : items.size = ys.length := by rw [← StrsAre.len_eq hit, Array.length_toList]
  obtain ⟨c, tl, hmro⟩ := F.called_set.mro
  have m1 := F.called_set.made
  have m2 := F.called_set.sub
  refine wpAny_call (codeAny_of_tree ?_)
  show wpAny _ _ (callAny (.type "set") _) _ _ _
  refine wpAny_pure ⟨Code.quiet_builtin _ (by decide +kernel), codeAny_builtin F.entry_type_call ?_⟩
  rw [Around.under_plain (weight_type_call_type "set" [.ref l] []) rfl]
  have m3 := F.called_set.notType
  have m4 := F.called_set.canCreate
  have m5 := F.typeCall_set_1 (.ref l)
  repeat (any_goals (first | assumption | wp_step))
  refine codeAny_mono (code_set_led1 (.ref l) (E := E) (Q₁ := fun ob t => ob = .ref s.heap.objs.size ∧ t = { s with heap := s.heap.push (newSet w) }) ⟨rfl, rfl⟩) fun r t hr => ?_
  cases r with
  | error e => exact hr
  | ok fl =>
    cases fl with
    | ret ob =>
      obtain ⟨rfl, rfl⟩ := hr
      have gS : (s.heap.push (newSet w)).get? s.heap.objs.size = some (newSet w) := Heap.get?_push_size _ rfl
      have gT : Shared.TypeIs { s with heap := s.heap.push (newSet w) } (.ref s.heap.objs.size) "set" := ⟨_, gS, rfl⟩
      have m6 := F.called_set.init.lookup
      have m7 := F.called_set.init.bind (.ref s.heap.objs.size)
      repeat (any_goals (first | assumption | wp_step))
      refine codeAny_mono (codeAny_call_builtin (R := wants (fun r t => r = .none ∧ ∃ h' tk, t = { s with heap := h', toks := tk } ∧ TxSet w h' s.heap.objs.size ys ∧ ∀ b o, s.heap.get? b = some o → h'.get? b = some o) E) F.called_set.init.plain F.entry_set_init (check_set_init_1 gT ?_)) fun r2 t2 hr2 => ?_
      · obtain ⟨⟨ocls, odict, odata, oslots⟩, hol, hcl, nl, hdl⟩ := hl
        simp only at hcl hdl
        subst hcl
        subst hdl
        have hol2 : (s.heap.push (newSet w)).get? l = some { cls := .type "list", dict := odict, data := .seq items nl, slots := oslots } := Heap.get?_push_of_some _ hol
        have z1 := F.sub_list_set
        have z2 := F.sub_list_frozenset
        have z3 : (Value.type "list" == Value.type "dict") = false := by decide
        have hl1 : (s.heap.push (newSet w)).IsList l items := ⟨_, hol2, rfl, nl, rfl⟩
        unfold Builtin.«set.__init__» noKeywords Builtin.Frozenset.updateFrom
        generalize hPI : pyIter = PI
        wp_walk
        subst hPI
        refine wpAny_pyIter_list hl1 (wpAny_bind (wpAny_runValue ?_))
        have lS : l < s.heap.objs.size := Heap.lt_size hol
        have h3 : A.in1.in1.in1.handled = none := by simp [hh]
        have z4 : (s.heap.push (newSet w)).objs.size = s.heap.objs.size + 1 := Heap.size_push ..
        have z5 : l ≠ (s.heap.push (newSet w)).objs.size := by
          rw [z4]
          exact Nat.ne_of_lt (Nat.lt_succ_of_lt lS)
        have z6 : s.heap.objs.size ∉ [(s.heap.push (newSet w)).objs.size, l] := by
          rw [z4]
          simp only [List.mem_cons, List.not_mem_nil, or_false, not_or]
          exact ⟨Nat.ne_of_lt (Nat.lt_succ_self _), Nat.ne_of_gt lS⟩
        have hv : ∀ (i : Nat) (v : Value), items[i]? = some v → ∃ y t, ys[i]? = some y ∧ v = .str y t := fun i v q => by
          have hi : i < ys.length := isz ▸ (Array.getElem?_eq_some_iff.mp q).1
          obtain ⟨t, e⟩ := SS.strs_at hit i v (by rw [Array.getElem?_toList]; exact q)
          exact ⟨ys[i], t, List.getElem?_eq_getElem hi, by rw [e, List.getD_eq_getElem?_getD, List.getElem?_eq_getElem hi] <;> rfl⟩
        refine tx_loop ((Walks.list h3 _ l z5 items).toS) s.heap.objs.size z6 ys isz hb hv (items.size - 0) 0 _ (by omega) (Nat.zero_le _) ⟨⟨_, Heap.get?_push_size _ rfl, rfl, rfl⟩, (hl1.push _)⟩ ?tx0 ?tx1
        case tx0 => exact TxSet.nil (Heap.get?_push_of_some _ gS)
        case tx1 =>
          rintro ⟨h', g2, d', tk', os'⟩ mv hS
          obtain rfl : g2 = s.gens := mv.gens
          obtain rfl : d' = s.drawn := mv.drawn
          obtain rfl : os' = s.os := mv.os
          refine wpAny_pure ?_
          show wpAny _ _ (ret Value.none) _ _ _
          refine wpAny_pure ⟨rfl, h', tk', rfl, hS, fun b o e => ?_⟩
          have z7 : b < s.heap.objs.size := Heap.lt_size e
          refine mv.heap b o ?_ (Heap.get?_push_of_some _ (Heap.get?_push_of_some _ e))
          rw [z4]
          simp only [List.mem_cons, List.not_mem_nil, or_false, not_or]
          exact ⟨Nat.ne_of_lt z7, Nat.ne_of_lt (Nat.lt_succ_of_lt z7)⟩
      · cases r2 with
        | error e => exact hr2
        | ok fl2 =>
          cases fl2 with
          | ret r =>
            obtain ⟨rfl, h', tk, rfl, hS, hk⟩ := hr2
            repeat (any_goals (first | assumption | wp_step))
            exact k _ _ hS hk
          | _ => exact hr2.elim
    | _ => exact hr.elim
end
end Tl

namespace Tl
open PySem PySem.Spec PyProof.Rows L2 TL LamX
/-! ### sorted(s), len(s) of a set of texts -/
def nubS : List Str → List Str
  | [] => []
  | x :: r => if x ∈ r then nubS r else x :: nubS r
theorem nubS_mem {y : Str} : ∀ {ys : List Str}, y ∈ nubS ys ↔ y ∈ ys
  | [] => Iff.rfl
  | x :: r => by
    unfold nubS
    by_cases q : x ∈ r
    · rw [if_pos q, nubS_mem, List.mem_cons]
      exact ⟨.inr, fun z => z.elim (fun e => e ▸ q) id⟩
    · rw [if_neg q, List.mem_cons, List.mem_cons, nubS_mem]
theorem nubS_nd : ∀ {ys : List Str}, (nubS ys).Nodup
  | [] => List.nodup_nil
  | x :: r => by
    unfold nubS
    by_cases q : x ∈ r
    · rw [if_pos q]
      exact nubS_nd
    · rw [if_neg q]
      exact List.nodup_cons.mpr ⟨fun z => q (nubS_mem.mp z), nubS_nd⟩
theorem nubS_perm {xs ys : List Str} (hn : xs.Nodup) (h : ∀ y, y ∈ ys ↔ y ∈ xs) : xs.Perm (nubS ys) :=
  (List.perm_ext_iff_of_nodup hn nubS_nd).mpr fun y => (h y).symm.trans nubS_mem.symm
theorem nubS_self {xs : List Str} (h : xs.Nodup) : nubS xs = xs := by
  induction xs with
  | nil => rfl
  | cons x r ih =>
    obtain ⟨h1, h2⟩ := List.nodup_cons.mp h
    unfold nubS
    rw [if_neg h1, ih h2]
/-- the rising texts of a list, each once -/
def setS (ys : List Str) : List Str := srtS (nubS ys)
theorem setS_mem {y : Str} {ys : List Str} : y ∈ setS ys ↔ y ∈ ys := (srtS_perm (zs := nubS ys)).mem_iff.trans nubS_mem
theorem setS_nd {ys : List Str} : (setS ys).Nodup := (srtS_perm (zs := nubS ys)).nodup_iff.mpr nubS_nd
theorem setS_one {xs ys : List Str} (h : ∀ y, y ∈ xs ↔ y ∈ ys) : setS xs = setS ys := srtS_one (nubS_perm nubS_nd fun y => (h y).symm.trans nubS_mem.symm)
def unS (v : Value) : Str := match v with
  | .str y _ => y
  | _ => Str.empty
theorem each_strs {h : Heap} : ∀ {vs : List Value}, (∀ v ∈ vs, ∃ y t, v = Value.str y t) → PySem.W.EachIs (fun v k => ∃ as, Reads h v k as) vs ((vs.map unS).map PyData.str)
  | [], _ => .nil
  | v :: vs, g => by
    obtain ⟨y, t, rfl⟩ := g v List.mem_cons_self
    exact .cons ⟨_, .str y t⟩ (each_strs fun u hu => g u (List.mem_cons_of_mem _ hu))
theorem vals_strs : ∀ {vs : List Value}, (∀ v ∈ vs, ∃ y t, v = Value.str y t) → Vals ((vs.map unS).map V.str) vs
  | [], _ => .nil
  | v :: vs, g => by
    obtain ⟨y, t, rfl⟩ := g v List.mem_cons_self
    exact .cons ⟨t, rfl⟩ (vals_strs fun u hu => g u (List.mem_cons_of_mem _ hu))
theorem keyed_strs (zs : List Str) : keyed (zs.map V.str) (zs.map PyData.str) = (srtS zs).map V.str := by
  unfold keyed srtS
  have e : (zs.map V.str).zip (zs.map PyData.str) = zs.map fun x => (V.str x, PyData.str x) := by
    induction zs with
    | nil => rfl
    | cons x r ih => rw [List.map_cons, List.map_cons, List.map_cons, List.zip_cons_cons, ih]
  have f : ∀ x y : Str, leS x y = PySem.W.dataLe false (Prod.snd : V × PyData → PyData) (.str x, .str x) (.str y, .str y) := fun x y => (leS_data x y).symm
  rw [e, ← PySem.W.sort_maps (r := leS) (fun x => (V.str x, PyData.str x)) fun a _ b _ => f a b, List.map_map]
  rfl
theorem nubS_len : ∀ l : List Str, (nubS l).length ≤ l.length
  | [] => Nat.le_refl 0
  | x :: r => by
    unfold nubS
    split
    · exact Nat.le_succ_of_le (nubS_len r)
    · exact Nat.succ_le_succ (nubS_len r)
theorem setS_len (ys : List Str) : (setS ys).length ≤ ys.length := by
  rw [setS, (srtS_perm (zs := nubS ys)).length_eq]
  exact nubS_len ys
theorem IsAll.unstr {K : PySem.W.Frag} {G : Hp} : ∀ {xs : List V} {zs : List Str}, IsAll K G xs (zs.map D.str) → xs = zs.map V.str
  | [], [], _ => rfl
  | [], _ :: _, h => nomatch h
  | _ :: _, [], h => nomatch h
  | x :: xs, z :: zs, .cons h r => by
    cases h
    rw [IsAll.unstr r]
    rfl
section
variable {P : Program} {w : World} {A : Around} {E : Value → Shared → Prop} {s : Shared} {a : Addr} {ys : List Str}
theorem tx_sorted {Q : Value → Shared → Prop} (R : TxSet w s.heap a ys) (hh : A.handled = none) (hu : A.units + 64 < cLine)
    (k : ∀ s' p (out : Array Value) c, (∀ b o, s.heap.get? b = some o → s'.heap.get? b = some o) → s'.gens = s.gens → s'.os = s.os → s.heap.objs.size ≤ p → s'.heap.get? p = some (seqObj "list" out c) → Vals ((setS ys).map V.str) out.toList → Q (.ref p) s') :
    wpAny (model P w) A (call (.builtin "sorted") [.ref a]) Q E s := by
  obtain ⟨ob, tb, ep, tt, ho, hex, hd, ⟨g, nd, hm⟩, hb, hf, hn, hr, hl⟩ := R
  refine Calls.call_function_entry kind_sorted plain_sorted entry_sorted (args_sorted1 _) ?_
  unfold Builtin.«sorted»
  refine wpAny_bind (m := checkCount "sorted" 1 1 _) (wpAny_pure (wpAny_bind (collect_set (A := A.in1) hh ⟨ob, ho, hex.1, hd⟩ hf hb hr hl fun s1 vs k1 hz g1 o1 pm => ?_)))
  have vl : vs.length = tb.size := by rw [pm.length_eq, List.length_map, Array.length_toList]
  have vz : vs.length ≤ sizeLine := by
    rw [vl, sizeLine_eq]
    exact Nat.le_trans (Nat.le_of_lt hb) (by decide)
  have st : ∀ v ∈ vs, ∃ y t, v = Value.str y t := fun v hv => by
    obtain ⟨z, hz, rfl⟩ := List.mem_map.mp (pm.mem_iff.mp hv)
    obtain ⟨y, t, e, _⟩ := g z hz
    exact ⟨y, t, e⟩
  have ku : (vs.map unS).Perm (tb.toList.map txOf) := by
    have q := pm.map unS
    rw [List.map_map] at q
    exact q
  have one : srtS (vs.map unS) = setS ys := srtS_one (ku.trans (nubS_perm nd hm))
  refine wpAny_bind (wpAny_newList ?_ vz)
  have oL : (s1.heap.push (seqObj "list" vs.toArray 0)).get? s1.heap.objs.size = some (seqObj "list" vs.toArray 0) := Heap.get?_push_size _ rfl
  have hal : PySem.W.AllAlike ((vs.map unS).map PyData.str) := fun d h1 d' h2 => by
    obtain ⟨x, _, rfl⟩ := List.mem_map.mp h1
    obtain ⟨y, _, rfl⟩ := List.mem_map.mp h2
    simp [PySem.W.alike]
  have hso : PySem.W.Sortable ((vs.map unS).map PyData.str) := .inr fun d h1 => by
    obtain ⟨x, _, rfl⟩ := List.mem_map.mp h1
    exact ⟨(fun z => nomatch z), fun _ z => nomatch z⟩
  refine wpAny_bind (wpAny_holding (wpAny_call_entry slot_list_sort ⟨_, oL, rfl⟩ entry_list_sort ?_ (args_list_sort _)))
  refine PySem.W.list_sort_vals (κ := PySem.W.dataKind (PySem.W.sortingHeap (s1.heap.push (seqObj "list" vs.toArray 0)) s1.heap.objs.size vs) ((vs.map unS).map PyData.str)) oL (PySem.W.SortsAt.data (s := { s1 with heap := PySem.W.sortingHeap (s1.heap.push (seqObj "list" vs.toArray 0)) s1.heap.objs.size vs }) (each_strs st) hal hso fun d h1 => ?_) vz ?_
  · obtain ⟨x, _, rfl⟩ := List.mem_map.mp h1
    have : (PyData.str x).depth ≤ 1 := by simp [PyData.depth]
    show A.units + 1 + 1 + _ < cLine
    omega
  generalize hout : PySem.W.sortVals (PySem.W.dataKind (PySem.W.sortingHeap (s1.heap.push (seqObj "list" vs.toArray 0)) s1.heap.objs.size vs) ((vs.map unS).map PyData.str)) false vs vs = out
  have vv : Vals ((setS ys).map V.str) out := by
    have hb : ((((vs.map unS).map V.str).zip ((vs.map unS).map PyData.str)).map Prod.snd) = (vs.map unS).map PyData.str := List.map_snd_zip (by simp)
    have ko : PySem.W.KeyedOut false ((((vs.map unS).map V.str).zip ((vs.map unS).map PyData.str)).map Prod.snd) vs out := by
      rw [hb]
      exact ⟨_, vs, hal, hout.symm, each_strs st⟩
    have q : Vals (keyed ((vs.map unS).map V.str) ((vs.map unS).map PyData.str)) out := vals_each (PySem.W.keyedOut_each Prod.snd ko (each_zip (vals_strs st) (by simp)))
    rw [keyed_strs, one] at q
    exact q
  obtain ⟨c, hc⟩ := sortedHeap_at (vs := vs) (out := out.toArray) oL
  refine ⟨_, rfl, wpAny_pure ⟨_, rfl, k _ s1.heap.objs.size out.toArray c (fun b o e => ?_) g1 o1 hz hc (by simpa using vv)⟩⟩
  have q := k1 b o e
  have lt := Heap.lt_size q
  show (sortedHeap (s1.heap.push (seqObj "list" vs.toArray 0)) s1.heap.objs.size vs out.toArray).get? b = some o
  rw [sortedHeap_old (Nat.ne_of_lt lt) (by rw [size_push']; exact Nat.lt_succ_of_lt lt)]
  exact Heap.get?_push_of_some _ q
end
def TxO (w : World) (a : Addr) (ys : List Str) : HO := .ext fun h => TxSet w h a ys
theorem txO_new {w : World} {P : Program} {H : Hp} {h : Heap} {a : Addr} {ys : List Str} (R : TxSet w h a ys) : ObjOk P w H h a (TxO w a ys) :=
  ⟨R, by obtain ⟨ob, _, _, _, q, _⟩ := R; exact ⟨ob, q⟩, fun h1 h2 r st => TxSet.at r fun o q => st o q⟩
def rSetTx (K : PySem.W.Frag) (w : World) : List V → Hp → VK → Prop := fun vs H Q => ∃ (l : Addr) (ys : List Str), vs = [V.ref l] ∧ SqL K H l (ys.map V.str) ∧ ys.length < 4000 ∧ ∀ p, H p = none → Q (.ref p) (upd H p (TxO w p ys))
theorem cr_setTx {X : Cx} {K : PySem.W.Frag} (hK : X.K = K) (hc : X.calm = true) : CallR X (.type "set") (rSetTx K X.w) := by
  subst hK
  intro pins s σ H vs us Q I r h
  obtain ⟨l, ys, rfl, hs, hl, q⟩ := h
  obtain ⟨its, rv, hL, hz⟩ := I.list hs
  rw [Vals.ref1 r]
  refine tx_of_list ys (I.ok.hd hc) hL.isList (by simpa using strsAre_of rv) (Nat.lt_of_lt_of_le (Nat.succ_lt_succ hl) (by decide)) fun h' tk R hk => ?_
  exact ⟨.ref _, upd H s.heap.objs.size (TxO X.w s.heap.objs.size ys), I.laid (fun b u e => hk b u e) (Nat.le_refl _) (txO_new R), rfl, q _ (I.hok.fresh (Nat.le_refl _))⟩
def rSortTx (w : World) : List V → Hp → VK → Prop := fun vs H Q => ∃ (a : Addr) (ys : List Str), vs = [V.ref a] ∧ H a = some (TxO w a ys) ∧ ys.length < 4000 ∧ ∀ p, H p = none → Q (.ref p) (upd H p (.lst ((setS ys).map V.str)))
theorem cr_sortTx {X : Cx} (hc : X.calm = true) (hu : X.A.units + 64 < cLine) : CallR X (.builtin "sorted") (rSortTx X.w) := by
  intro pins s σ H vs us Q I r h
  obtain ⟨a, ys, rfl, ha, hl, q⟩ := h
  rw [Vals.ref1 r]
  have R : TxSet X.w s.heap a ys := (I.hok a _ ha).1
  refine tx_sorted R (I.ok.hd hc) hu fun s' p out c hk hg hos hp hat vv => ?_
  have n0 : H p = none := I.hok.fresh hp
  have z : ((setS ys).map V.str).length ≤ sizeLine := by
    rw [List.length_map, sizeLine_eq]
    have := setS_len ys
    omega
  have J : Inv X pins σ (upd H p (.lst ((setS ys).map V.str))) { s with heap := s'.heap, gens := s'.gens, drawn := s'.drawn, toks := s'.toks } := I.call (ch := []) (Un.laid hk hp n0) (I.hok.laid hk hp ⟨z, out.toList, c, vv, by simpa using hat⟩) (by rw [hg]; exact I.bare) fun _ q => nomatch q
  have e : s' = { s with heap := s'.heap, gens := s'.gens, drawn := s'.drawn, toks := s'.toks } := by
    cases s'
    cases s
    cases hos
    rfl
  rw [e]
  exact ⟨.ref p, _, J, rfl, q p n0⟩
def rLenTx (w : World) : List V → Hp → VK → Prop := fun vs H Q => ∃ (a : Addr) (ys : List Str), vs = [V.ref a] ∧ H a = some (TxO w a ys) ∧ Q (.int (setS ys).length) H
theorem cr_lenTx {X : Cx} : CallR X (.builtin "len") (rLenTx X.w) := by
  intro pins s σ H vs us Q I r h
  obtain ⟨a, ys, rfl, ha, q⟩ := h
  rw [Vals.ref1 r]
  obtain ⟨ob, tb, ep, tt, ho, hex, hd, ⟨g, nd, hm⟩, hb, hf, hn, hr, hl⟩ : TxSet X.w s.heap a ys := (I.hok a _ ha).1
  have e : tb.size = (setS ys).length := by
    have p1 := (nubS_perm nd hm).length_eq
    rw [List.length_map, Array.length_toList] at p1
    rw [p1, setS, (srtS_perm (zs := nubS ys)).length_eq]
  exact call_len_set ho hex hd hf (by rw [show scanBound = 4096 from rfl] at hb; omega) ⟨.int (setS ys).length, H, I.tok _, ⟨_, by rw [e]⟩, q⟩
section
variable [Tabl] {K : PySem.W.Frag} {Z : XZ} {B : Option Addr} {δ : List Slot} {n : Sto} {Φ : D → Sto → Prop} {ta : TE}
/-- sorted(set(xs)) of texts -/
theorem gk_sortSet {w : World} (h : GK K Z ta δ n fun d n1 => ∃ zs : List Str, d = .lst (zs.map D.str) ∧ zs.length < 4000 ∧ Φ (.lst ((setS zs).map D.str)) n1) : GK K Z (tCB (rSortTx w) (tCons (tCB (rSetTx K w) (tCons ta tNil)) tNil)) δ n Φ := fun B M G0 H0 xw G H σ E Q q =>
  h B M G0 H0 xw G H σ E _ fun v d G1 H1 n1 f1 E1 s1 a1 => by
    obtain ⟨zs, rfl, hl, f1⟩ := f1
    cases a1 with
    | @lst p xs _ h1 a1 =>
      have e : xs = zs.map V.str := a1.unstr
      subst e
      refine ⟨p, zs, rfl, SqL.of (E1.sub _ _ h1), hl, fun c hc => ?_⟩
      have E2 := E1.newc (o := TxO w c zs) hc
      refine ⟨c, zs, rfl, upd_same, hl, fun c2 hc2 => ?_⟩
      have s2 : ∀ o, Sub G1 (upd G1 c2 o) := fun o => Sub.new (E2.sub.none hc2)
      exact q _ _ _ _ n1 f1 (E2.laid hc2) (s1.trans (s2 _)) (.lst upd_same (IsAll.strs _))
end
end Tl

namespace Tl
open PySem PySem.Spec PyProof.Rows L2 TL LamX
/-! ### a walk over what is a list or a tuple -/
def iSeq (K : PySem.W.Frag) (tl : TE) : TI := fun σ H R => tl σ H fun x H1 => ∃ a, x = .ref a ∧ (((∃ xs, SqL K H1 a xs) ∧ R (Itl K a) H1) ∨ ((∃ xs, SqT K H1 a xs) ∧ R (Itt K a) H1))
theorem pi_seq {X : Cx} {tg l : Expr} {tl : TE} (hl : PE X l tl) : PI X tg l (iSeq X.K tl) := by
  refine ⟨fun pins s σ H R I h => thn (hl.run pins s σ H _ I h) fun v s1 ⟨x, H1, I1, r1, a, ex, q⟩ => ?_⟩
  subst ex
  cases r1
  have fr : ∀ b, b ∈ [s1.heap.objs.size] → FpOk X pins H1 b := fun b hb => by
    rw [List.mem_singleton.mp hb]
    exact I1.fpOk (Nat.le_refl _) (I1.hok.fresh (Nat.le_refl _))
  rcases q with ⟨⟨xs, hq⟩, q⟩ | ⟨⟨xs, hq⟩, q⟩
  · obtain ⟨its, _, p, _⟩ := I1.list hq
    exact wpAny_pyIter_list p.isList ⟨_, [s1.heap.objs.size], _, _, H1, rfl, I1.kept (t' := s1.toks) fun b o e => Heap.get?_push_of_some _ e, turn_list a _, ⟨_, Heap.get?_push_size _ rfl, rfl, rfl⟩, fr, q⟩
  · obtain ⟨its, _, p, _⟩ := I1.tuple hq
    exact wpAny_pyIter_tuple (show s1.heap.IsTuple a its.toArray from p) ⟨_, [s1.heap.objs.size], _, _, H1, rfl, I1.kept (t' := s1.toks) fun b o e => Heap.get?_push_of_some _ e, turn_tuple a _, ⟨_, Heap.get?_push_size _ rfl, rfl, rfl⟩, fr, q⟩
section
variable [Tabl] {K : PySem.W.Frag} {Z : XZ} {δ : List Slot} {n : Sto} {te : TE}
theorem gi_seq {Ψ : List D → Sto → Prop} (h : GK K Z te δ n fun d n1 => ∃ xs, (d = .lst xs ∨ d = .tup xs) ∧ Ψ xs n1) : GI K Z (iSeq K te) δ n Ψ := fun B M G0 H0 xw G H σ E R r => by
  refine h B M G0 H0 xw G H σ E _ fun v d G1 H1 n1 ⟨xs, hd, f⟩ E1 s1 a1 => ?_
  rcases hd with rfl | rfl
  · cases a1 with
    | @lst p vs _ h1 a1 =>
      have at_ : ∀ {G' H' : Hp}, Sub G1 G' → Sub G' H' → SqL K H' p vs := fun s2 s3 => SqL.of (s3 _ _ (s2 _ _ h1))
      refine ⟨p, rfl, .inl ⟨⟨vs, SqL.of (E1.sub _ _ h1)⟩, r _ xs G1 H1 n1 f E1 s1 fun G' H' s2 s3 i => ⟨fun hi => ⟨vs, at_ s2 s3, Nat.le_of_eq (by rw [a1.len, hi])⟩, fun x hx => ?_⟩⟩⟩
      obtain ⟨u, hu, iu⟩ := a1.at hx
      refine ⟨⟨vs, u, at_ s2 s3, hu⟩, fun v H2 y => .inl ⟨y.1, ?_⟩⟩
      obtain rfl : u = v := Option.some.inj (hu.symm.trans (y.2 vs (at_ s2 s3)))
      exact iu.mono s2
  · cases a1 with
    | @tup p vs _ h1 a1 =>
      have at_ : ∀ {G' H' : Hp}, Sub G1 G' → Sub G' H' → SqT K H' p vs := fun s2 s3 => s3.seq (s2.seq h1)
      refine ⟨p, rfl, .inr ⟨⟨vs, E1.sub.seq h1⟩, r _ xs G1 H1 n1 f E1 s1 fun G' H' s2 s3 i => ⟨fun hi => ⟨vs, at_ s2 s3, Nat.le_of_eq (by rw [a1.len, hi])⟩, fun x hx => ?_⟩⟩⟩
      obtain ⟨u, hu, iu⟩ := a1.at hx
      refine ⟨⟨vs, u, at_ s2 s3, hu⟩, fun v H2 y => .inl ⟨y.1, ?_⟩⟩
      obtain rfl : u = v := Option.some.inj (hu.symm.trans (y.2 vs (at_ s2 s3)))
      exact iu.mono s2
end
end Tl

namespace Tl
open PySem PySem.Spec PyProof.Rows L2 TL LamX
/-! ### zip of two lists; isinstance by two classes; a promise that promises nothing -/
def zipD : List D → List D → List D
  | x :: xs, y :: ys => .tup [x, y] :: zipD xs ys
  | _, _ => []
theorem zipD_at : ∀ {xs ys : List D} {i : Nat} {d : D}, (zipD xs ys)[i]? = some d → ∃ x y, d = .tup [x, y] ∧ xs[i]? = some x ∧ ys[i]? = some y
  | [], _, i, d, h => by simp [zipD] at h
  | x :: xs, [], i, d, h => by simp [zipD] at h
  | x :: xs, y :: ys, 0, d, h => ⟨x, y, (Option.some.inj h).symm, rfl, rfl⟩
  | x :: xs, y :: ys, i + 1, d, h => zipD_at (xs := xs) (ys := ys) (i := i) h
theorem zipD_len : ∀ {xs ys : List D}, (zipD xs ys).length = min xs.length ys.length
  | [], ys => by simp [zipD]
  | x :: xs, [] => by simp [zipD]
  | x :: xs, y :: ys => by
    rw [zipD, List.length_cons, zipD_len, List.length_cons, List.length_cons]
    omega
section
variable [Tabl] {K : PySem.W.Frag} {Z : XZ} {δ : List Slot} {n : Sto} {te : TE} {aa : TA} {Φ : D → Sto → Prop}
theorem gi_zip {Ψ : List D → Sto → Prop} (h : GA K Z aa δ n fun ds n1 => ∃ xs ys, ds = [.lst xs, .lst ys] ∧ Ψ (zipD xs ys) n1) : GI K Z (iZip K aa) δ n Ψ := fun B M G0 H0 xw G H σ E R r =>
  h B M G0 H0 xw G H σ E _ fun vs ds G1 H1 n1 ⟨xs, ys, ed, f⟩ E1 s1 a1 => by
    subst ed
    cases a1 with
    | cons a b =>
      cases b with
      | cons b c =>
        cases c
        cases a with
        | @lst p us _ h1 a1 =>
          cases b with
          | @lst q ws _ h2 a2 =>
            have at1 : ∀ {G' H' : Hp}, Sub G1 G' → Sub G' H' → SqL K H' p us := fun s2 s3 => SqL.of (s3 _ _ (s2 _ _ h1))
            have at2 : ∀ {G' H' : Hp}, Sub G1 G' → Sub G' H' → SqL K H' q ws := fun s2 s3 => SqL.of (s3 _ _ (s2 _ _ h2))
            refine ⟨p, q, us, ws, rfl, SqL.of (E1.sub _ _ h1), SqL.of (E1.sub _ _ h2), r _ _ G1 H1 n1 f E1 s1 fun G' H' s2 s3 i => ⟨fun hi => ⟨us, ws, at1 s2 s3, at2 s2 s3, ?_⟩, fun d hd => ?_⟩⟩
            · rw [zipD_len] at hi
              rw [a1.len, a2.len]
              omega
            · obtain ⟨x, y, rfl, hx, hy⟩ := zipD_at hd
              obtain ⟨u, hu, iu⟩ := a1.at hx
              obtain ⟨w, hw, iw⟩ := a2.at hy
              refine ⟨⟨us, ws, u, w, at1 s2 s3, at2 s2 s3, hu, hw⟩, fun v H2 yl => .inr ?_⟩
              obtain ⟨T, u', w', rfl, y1, y2, y3, y4⟩ := yl
              obtain rfl : u = u' := Option.some.inj (hu.symm.trans (y3 us (at1 s2 s3)))
              obtain rfl : w = w' := Option.some.inj (hw.symm.trans (y4 ws (at2 s2 s3)))
              have sn := Sub.new (o := .tup [u, w]) (s3.none y1)
              exact ⟨T, _, y1, y2, (fun _ z => nomatch z), .tup (SqT.of upd_same) (.cons ((iu.mono s2).mono sn) (.cons ((iw.mono s2).mono sn) .nil))⟩
theorem gk_isi2 {c1 c2 : String} (h : GK K Z te δ n fun d n1 => ∃ b, isPtr d = false ∧ PySem.W.kitAny K (.type (tyn d)) [.type c1, .type c2] = some b ∧ Φ (.bl b) n1) :
    GK K Z (tCB (rIsiT K) (tCons te (tCons (tTup (tCons (tC (.ty c1)) (tCons (tC (.ty c2)) tNil))) tNil))) δ n Φ := fun B M G0 H0 xw G H σ E Q q =>
  h B M G0 H0 xw G H σ E _ fun v d G1 H1 n1 ⟨b, np, hb, f⟩ E1 s1 a1 => by
    refine ⟨(by decide : (2 : Nat) ≤ sizeLine), fun T hT => ?_⟩
    have sn : Sub G1 (upd G1 T (.tup [.ty c1, .ty c2])) := Sub.new (E1.sub.none hT)
    have E2 := E1.laid (o := .tup [.ty c1, .ty c2]) hT
    exact ⟨v, T, _, _, _, b, rfl, upd_same, .cons (.ty c1) (.cons (.ty c2) .nil), (a1.mono sn).ty E2.sub np, hb, q _ _ _ _ n1 f E2 (s1.trans sn) (.bl b)⟩
end
theorem fn_none {P : Program} {w : World} {K : PySem.W.Frag} {mg : Str → Option Value} {base : Heap} {CX : CXT} {k : Nat} {f : Addr} {fd : FuncData} {ps : List Str} : FnOk P w K mg base CX k f fd ps (fun _ _ _ _ => False) :=
  ⟨fun _ _ _ _ h => h.elim, fun _ _ _ _ _ _ _ _ _ _ _ _ _ h => h.elim⟩
end Tl

namespace Tl
open PySem PySem.Spec PyProof.Rows L2 TL LamX
/-! ### lists of the store: list(xs), x.pop(i), x != y; frozen at the end -/
section
variable [Tabl] {K : PySem.W.Frag} {Z : XZ} {B : Option Addr} {δ : List Slot} {n : Sto} {Φ : D → Sto → Prop} {ta te : TE} {N Bk Ct : List Slot → Sto → Prop} {R : D → Sto → Prop} {ts : TS}
theorem rc_listLP {xs : List D} (k : ∀ p, n.μ p = none → Φ (.ptr p) (n.put p (.lst xs))) : RC K Z (fun ws H Q => ∃ p ys, ws = [.ref p] ∧ (SqL K H p ys ∨ SqT K H p ys) ∧ ∀ l, H l = none → Q (.ref l) (upd H l (.lst ys))) [.lst xs] δ n Φ := fun B M G0 H0 xw G H σ E vs a Q q => by
  cases a with
  | cons a r =>
    cases r
    cases a with
    | lst h1 a1 => exact ⟨_, _, rfl, .inl (SqL.of (E.sub _ _ h1)), fun p hp => q _ _ _ _ _ (k p (E.nomob hp)) (E.mnew hp ⟨_, upd_same, a1⟩) (Sub.refl G) (.ptr p)⟩
theorem rk_neRd {j k : Nat} {x y x' y' : D} (rx : Rdx n x x') (ry : Rdx n y y') (hx : Shp j x') (hy : Shp k y') (hj : j ≤ 64) (hk : k ≤ 64) (q : Φ (.bl (!eqD x' y')) n) : RK K Z (rNeD K) x y δ n Φ := fun B M G0 H0 xw G H σ E v w a b Q qq =>
  ⟨_, _, rx.dp E a hx, ry.dp E b hy, hx.shaped hj, hy.shaped hk, qq _ _ G H n q E (Sub.refl G) (.bl _)⟩
theorem gk_popP (h : GK K Z ta δ n fun d n1 => ∃ p xs0, d = .ptr p ∧ n1.μ p = some (.lst xs0) ∧ GK K Z te δ n1 fun x n2 => ∃ (i : Nat) (xs : List D) (z : D), x = .int i ∧ n2.μ p = some (.lst xs) ∧ xs.length ≤ 100000 ∧ xs[i]? = some z ∧ Φ z (n2.put p (.lst (xs.eraseIdx i)))) :
    GK K Z (tBM K "list" rPopAt ta (tCons te tNil)) δ n Φ := fun B M G0 H0 xw G H σ E Q q =>
  h B M G0 H0 xw G H σ E _ fun v d G1 H1 n1 ⟨p, xs0, ed, hp0, f1⟩ E1 s1 a1 => by
    subst ed
    cases a1
    obtain ⟨vs0, g1, _⟩ := E1.mlst hp0
    refine ⟨.inl ⟨rfl, _, SqL.of g1⟩, f1 B M G0 H0 xw G1 H1 σ E1 _ fun w x G2 H2 n2 ⟨i, xs, z, ex, hp, hl, hz, f2⟩ E2 s2 a2 => ?_⟩
    subst ex
    cases a2
    obtain ⟨vs, e1, e2⟩ := E2.mlst hp
    obtain ⟨u, hu, iu⟩ := e2.at hz
    have hi := (List.getElem?_eq_some_iff.mp hu).1
    have hl2 := e2.len
    exact ⟨p, vs, (i : Int), i, u, rfl, rfl, e1, by omega, by omega, seqIx_nat hi, hu, q u z G2 _ _ f2 (E2.mchg hp ⟨_, upd_same, e2.erase i⟩) (s1.trans s2) iu⟩
/-- a list of the store is told as data: it stays as it is from then on -/
theorem gs_retF {i : Nat} {p : Addr} {o : MO} {d : D} (hi : δ[i]? = some (.d (.ptr p))) (hp : n.μ p = some o) (hd : o.frz = some d) (k : R d (n.off p)) : GS K Z B (tRet (tVar i)) δ n N R Bk Ct := fun m0 G0 H0 xw G H σ D e hn hr hb hc => by
  obtain ⟨v, e1, a⟩ := e.var hi
  cases a
  obtain ⟨G', s, e2, a2⟩ := e.mfrz hp hd
  exact ⟨_, e1, hr _ _ _ _ _ k e2.out a2⟩
end
theorem erase_perm' {α : Type} : ∀ (l : List α) (i : Nat) (y : α), l[i]? = some y → (y :: l.eraseIdx i).Perm l
  | [], i, y, h => by simp at h
  | x :: l, 0, y, h => by
    obtain rfl : x = y := by simpa using h
    exact List.Perm.refl _
  | x :: l, i + 1, y, h => (List.Perm.swap x y _).trans ((erase_perm' l i y (by simpa using h)).cons x)
theorem eqD_nil {xs : List D} : eqD (.lst xs) (.lst []) = xs.isEmpty := by
  cases xs with
  | nil => rfl
  | cons x r => rfl
end Tl

namespace Tl
open PySem PySem.Spec PyProof.Rows L2 TL LamX
/-! ### dicts of the store locked for good: they become data that can be walked -/
def lkS : List Addr → TS → TS
  | [], ts => ts
  | d :: r, ts => fun D σ H => ∃ u, H d = some u ∧ Mut (some u) ∧ ∀ od, lkS r ts D σ (upd H d (.frz od u))
def tLockS (ts : TS) : TS := fun D σ H => ∃ L, lkS L ts D σ H
section
variable {X : Cx} {st : Stmt} {t : TS}
theorem ps_lkS (h : PS X st t) : ∀ L, PS X st (lkS L t)
  | [] => h
  | d :: r => ⟨fun pins s σ H D I hw => by
    obtain ⟨u, hd, mu, hw⟩ := hw
    obtain ⟨od, I1⟩ := I.lock hd mu
    exact (ps_lkS h r).run pins s σ _ D I1 (hw od)⟩
theorem ps_lockS (h : PS X st t) : PS X st (tLockS t) := ⟨fun pins s σ H D I ⟨L, hw⟩ => (ps_lkS h L).run pins s σ H D I hw⟩
end
/-- what a pointer to q becomes -/
def Up (q : Addr) (e x y : D) : Prop := x = y ∨ (x = .ptr q ∧ y = e)
inductive UpKv (q : Addr) (e : D) : List (Key × D) → List (Key × D) → Prop
  | nil : UpKv q e [] []
  | cons {k : Key} {x y : D} {xs ys : List (Key × D)} (h : Up q e x y) (r : UpKv q e xs ys) : UpKv q e ((k, x) :: xs) ((k, y) :: ys)
theorem UpKv.refl {q : Addr} {e : D} : ∀ xs : List (Key × D), UpKv q e xs xs
  | [] => .nil
  | (k, x) :: xs => .cons (.inl rfl) (UpKv.refl xs)
theorem UpKv.app {q : Addr} {e : D} {xs ys us vs : List (Key × D)} (h : UpKv q e xs ys) (g : UpKv q e us vs) : UpKv q e (xs ++ us) (ys ++ vs) := by
  induction h with
  | nil => exact g
  | cons h _ ih => exact .cons h ih
def UpO (q : Addr) (e : D) (o o' : MO) : Prop := o = o' ∨ ∃ es es', o = .dic es ∧ o' = .dic es' ∧ UpKv q e es es'
def UpS (q : Addr) (e : D) (s s' : Slot) : Prop := s = s' ∨ ∃ x y, s = .d x ∧ s' = .d y ∧ Up q e x y
theorem Up.is {K : PySem.W.Frag} {G : Hp} {q : Addr} {e x y : D} {v : V} (h : Up q e x y) (a : Is K G v x) (b : Is K G (.ref q) e) : Is K G v y := by
  rcases h with rfl | ⟨rfl, rfl⟩
  · exact a
  · cases a
    exact b
theorem UpKv.is {K : PySem.W.Frag} {G : Hp} {q : Addr} {e : D} {xs ys : List (Key × D)} (h : UpKv q e xs ys) (b : Is K G (.ref q) e) : ∀ {vs : List (Key × V)}, IsKv K G vs xs → IsKv K G vs ys := by
  induction h with
  | nil => exact fun a => a
  | cons h _ ih =>
    intro vs a
    cases a with
    | cons a1 a2 => exact .cons (h.is a1 b) (ih a2)
section
variable [Tabl] {K : PySem.W.Frag} {Z : XZ} {B : Option Addr} {M : Addr → Prop} {δ δ' : List Slot} {n n' : Sto} {N Bk Ct : List Slot → Sto → Prop} {R : D → Sto → Prop} {ts : TS} {G0 H0 G H : Hp} {σ : L2.St} {q : Addr} {e : D}
theorem En.up (E : En K B M n G0 H0 G H σ δ) (b : Is K G (.ref q) e) (hl : δ'.length = δ.length) (hδ : ∀ (i : Nat) (s' : Slot), δ'[i]? = some s' → ∃ s, δ[i]? = some s ∧ UpS q e s s') (hn : n'.n = n.n) (hμ : ∀ a o', n'.μ a = some o' → ∃ o, n.μ a = some o ∧ UpO q e o o') : En K B M n' G0 H0 G H σ δ' := by
  have ow : ∀ {i : Nat} {x : MO}, δ'[i]? = some (.ow x) → δ[i]? = some (.ow x) := fun {i x} h => by
    obtain ⟨s, h1, h2⟩ := hδ i _ h
    rcases h2 with rfl | ⟨_, _, _, z, _⟩
    · exact h1
    · cases z
  refine ⟨E.sub0, E.sub, E.same, E.free, E.fresh, fun p hp => ?_, E.tabs, E.tin, E.gnt, by rw [hl]; exact E.len, fun i s' hs' => ?_, fun i j p x y hi hj => E.dis i j p x y (ow hi) (ow hj), fun a o' ha => ?_, fun i x a hi hs => ?_⟩
  · rw [hn]
    exact E.bagged p hp
  · obtain ⟨s, h1, h2⟩ := hδ i s' hs'
    have ok := E.slot i s h1
    rcases h2 with rfl | ⟨x, y, rfl, rfl, u⟩
    · exact ok
    · obtain ⟨v, e1, a⟩ := ok
      exact ⟨v, e1, u.is a b⟩
  · obtain ⟨o, h1, h2⟩ := hμ a o' ha
    obtain ⟨m1, m2⟩ := E.mob a o h1
    refine ⟨?_, m2⟩
    rcases h2 with rfl | ⟨es, es', rfl, rfl, u⟩
    · exact m1
    · obtain ⟨vs, w1, w2⟩ := m1
      exact ⟨vs, w1, u.is b w2⟩
  · cases z : n'.μ a with
    | none => rfl
    | some o' =>
      obtain ⟨o, h1, _⟩ := hμ a o' z
      have := E.mow i x a (ow hi) hs
      rw [this] at h1
      cases h1
theorem gs_lk1 {r : List Addr} {es : List (Key × D)} (hq : n.μ q = some (.dic es)) (δ' : List Slot) (n' : Sto) (hl : δ'.length = δ.length) (hδ : ∀ (i : Nat) (s' : Slot), δ'[i]? = some s' → ∃ s, δ[i]? = some s ∧ UpS q (.dct es) s s') (hn : n'.n = n.n) (hμ : ∀ a o', n'.μ a = some o' → a ≠ q ∧ ∃ o, n.μ a = some o ∧ UpO q (.dct es) o o')
    (h : GS K Z B (lkS r ts) δ' n' N R Bk Ct) : GS K Z B (lkS (q :: r) ts) δ n N R Bk Ct := fun m0 G0 H0 xw G H σ D E hn' hr hb hc => by
  obtain ⟨vs, hu, hv⟩ := E.mdic hq
  refine ⟨_, hu, trivial, fun od => ?_⟩
  have gp := (E.mob q _ hq).2.1
  have sg : Sub G (upd G q (.frz od (.dK vs))) := Sub.new gp
  have E1 := (E.mlock od hq hu).up (n' := n') (δ' := δ') (q := q) (e := .dct es) (.dct upd_same (hv.mono sg)) hl hδ hn fun a o' ha => by
    obtain ⟨ne, o, h1, h2⟩ := hμ a o' ha
    exact ⟨o, (Sto.off_ne ne).trans h1, h2⟩
  exact h m0 G0 H0 xw _ _ σ D E1 (fun σ2 δ2 G2 H2 n2 q2 e2 s2 => hn' σ2 δ2 G2 H2 n2 q2 e2 (sg.trans s2)) hr (fun σ2 δ2 G2 H2 n2 q2 e2 s2 => hb σ2 δ2 G2 H2 n2 q2 e2 (sg.trans s2)) (fun σ2 δ2 G2 H2 n2 q2 e2 s2 => hc σ2 δ2 G2 H2 n2 q2 e2 (sg.trans s2))
theorem gs_lockS (L : List Addr) (h : GS K Z B (lkS L ts) δ n N R Bk Ct) : GS K Z B (tLockS ts) δ n N R Bk Ct := fun m0 G0 H0 xw G H σ D E hn hr hb hc => ⟨L, h m0 G0 H0 xw G H σ D E hn hr hb hc⟩
end
end Tl

namespace Tl
open PySem PySem.Spec PyProof.Rows L2 TL LamX
/-! ### dicts read: len, sorted, list, dict, get, in; walks over values and pairs -/
def rLenD (H0 : List V → Hp → VK → Prop) : List V → Hp → VK → Prop := H0
def rLenRd : List V → Hp → VK → Prop := fun xs H Q => ∃ a kvs, xs = [V.ref a] ∧ Rd H a (.dK kvs) ∧ Q (.int kvs.length) H
theorem cr_lenRd {X : Cx} : CallR X (.builtin "len") rLenRd := by
  intro pins s σ H xs us Q I r h
  obtain ⟨a, kvs, rfl, ha, q⟩ := h
  rw [Vals.ref1 r]
  exact d_len I ha fun t s' I' => ⟨.int kvs.length, H, I', ⟨t, rfl⟩, q⟩
def rSortDk : List V → Hp → VK → Prop := fun vs H Q => ∃ (a : Addr) (kvs : List (Key × V)) (ks : List Str), vs = [V.ref a] ∧ Rd H a (.dK kvs) ∧ kvs.map (·.1) = ks.map Sum.inr ∧ ∀ p, H p = none → Q (.ref p) (upd H p (.lst ((srtS ks).map V.str)))
theorem cr_sortDk {X : Cx} (hc : X.calm = true) (hu : X.A.units + 64 < cLine) : CallR X (.builtin "sorted") rSortDk := by
  intro pins s σ H us0 us Q I r h
  obtain ⟨a, kvs, ks, rfl, ha, hks, q⟩ := h
  rw [Vals.ref1 r]
  obtain ⟨z, lo, ws, rel, dd⟩ := dk_rd I.hok ha
  obtain ⟨ep, hat⟩ := dd.dictAt
  have wk : ws.map (·.1) = ks.map Sum.inr := rel.keys.symm.trans hks
  have wl : ws.length = ks.length := by
    have e := congrArg List.length wk
    simpa using e
  have kl : ks.length = kvs.length := by
    have e := congrArg List.length hks
    simpa using e.symm
  refine Calls.call_function_entry kind_sorted plain_sorted entry_sorted (args_sorted1 _) ?_
  unfold Builtin.«sorted»
  refine wpAny_bind (m := checkCount "sorted" 1 1 _) (wpAny_pure (wpAny_bind (PySem.W.kdu_collect (A := X.A.in1) (PySem.W.kdl_dict (knd := mixKind X.prog X.w) (kvs := ws) (ep := ep) lo) (I.ok.hd hc) hat (by rw [wl, kl]; exact z) fun h' tk acc hk hacc => ?_)))
  generalize hvs : acc.toList = vs
  have vl : vs.length = ks.length := by rw [← hvs, Array.length_toList, hacc.1, wl]
  have vz : vs.length ≤ sizeLine := by
    rw [vl, kl]
    exact z
  have at_ : ∀ (j : Nat) (v : Value), vs[j]? = some v → ∃ y t, ks[j]? = some y ∧ v = Value.str y t := fun j v e => by
    obtain ⟨k, x, e1, e2⟩ := hacc.2 j v (by rw [← Array.getElem?_toList, hvs]; exact e)
    have e3 : (ws.map (·.1))[j]? = some k := by rw [List.getElem?_map, e1]; rfl
    rw [wk, List.getElem?_map] at e3
    obtain ⟨y, e4, e5⟩ := Option.map_eq_some_iff.mp e3
    subst e5
    obtain ⟨t, ev⟩ := Value.isStrOf_shape (x := y) (v := v) e2
    exact ⟨y, t, e4, ev⟩
  have st : ∀ v ∈ vs, ∃ y t, v = Value.str y t := fun v hv => by
    obtain ⟨j, hj⟩ := List.mem_iff_getElem?.mp hv
    obtain ⟨y, t, _, e⟩ := at_ j v hj
    exact ⟨y, t, e⟩
  have ku : vs.map unS = ks := by
    refine List.ext_getElem? fun j => ?_
    rw [List.getElem?_map]
    cases e : vs[j]? with
    | none =>
      have := List.getElem?_eq_none_iff.mp e
      rw [List.getElem?_eq_none (by omega)]
      rfl
    | some v =>
      obtain ⟨y, t, e1, rfl⟩ := at_ j v e
      rw [e1]
      rfl
  have I1 : Inv X pins σ H { s with heap := h', toks := tk } := I.kept hk
  refine wpAny_bind (wpAny_newList ?_ vz)
  have oL : (h'.push (seqObj "list" vs.toArray 0)).get? h'.objs.size = some (seqObj "list" vs.toArray 0) := Heap.get?_push_size _ rfl
  show wpAny _ _ _ _ _ { s with heap := h'.push (seqObj "list" vs.toArray 0), toks := tk }
  have hal : PySem.W.AllAlike ((vs.map unS).map PyData.str) := fun d h1 d' h2 => by
    obtain ⟨x, _, rfl⟩ := List.mem_map.mp h1
    obtain ⟨y, _, rfl⟩ := List.mem_map.mp h2
    simp [PySem.W.alike]
  have hso : PySem.W.Sortable ((vs.map unS).map PyData.str) := .inr fun d h1 => by
    obtain ⟨x, _, rfl⟩ := List.mem_map.mp h1
    exact ⟨(fun z => nomatch z), fun _ z => nomatch z⟩
  refine wpAny_bind (wpAny_holding (wpAny_call_entry slot_list_sort ⟨_, oL, rfl⟩ entry_list_sort ?_ (args_list_sort _)))
  refine PySem.W.list_sort_vals (κ := PySem.W.dataKind (PySem.W.sortingHeap (h'.push (seqObj "list" vs.toArray 0)) h'.objs.size vs) ((vs.map unS).map PyData.str)) oL (PySem.W.SortsAt.data (s := { s with heap := PySem.W.sortingHeap (h'.push (seqObj "list" vs.toArray 0)) h'.objs.size vs, toks := tk }) (each_strs st) hal hso fun d h1 => ?_) vz ?_
  · obtain ⟨x, _, rfl⟩ := List.mem_map.mp h1
    have : (PyData.str x).depth ≤ 1 := by simp [PyData.depth]
    show X.A.units + 1 + 1 + _ < cLine
    omega
  generalize hout : PySem.W.sortVals (PySem.W.dataKind (PySem.W.sortingHeap (h'.push (seqObj "list" vs.toArray 0)) h'.objs.size vs) ((vs.map unS).map PyData.str)) false vs vs = out
  have vv : Vals ((srtS ks).map V.str) out := by
    have hb : ((((vs.map unS).map V.str).zip ((vs.map unS).map PyData.str)).map Prod.snd) = (vs.map unS).map PyData.str := List.map_snd_zip (by simp)
    have ko : PySem.W.KeyedOut false ((((vs.map unS).map V.str).zip ((vs.map unS).map PyData.str)).map Prod.snd) vs out := by
      rw [hb]
      exact ⟨_, vs, hal, hout.symm, each_strs st⟩
    have q : Vals (keyed ((vs.map unS).map V.str) ((vs.map unS).map PyData.str)) out := vals_each (PySem.W.keyedOut_each Prod.snd ko (each_zip (vals_strs st) (by simp)))
    rw [keyed_strs, ku] at q
    exact q
  obtain ⟨c, hcc⟩ := sortedHeap_at (vs := vs) (out := out.toArray) oL
  have sz : ((srtS ks).map V.str).length ≤ sizeLine := by
    rw [List.length_map, srtS_perm.length_eq, kl]
    exact z
  refine ⟨_, rfl, wpAny_pure ⟨_, rfl, .ref h'.objs.size, upd H h'.objs.size (.lst ((srtS ks).map V.str)), I1.laid (t' := tk) (fun b o e => ?_) (Nat.le_refl _) ⟨sz, out, c, vv, hcc⟩, rfl, q _ (I1.hok.fresh (Nat.le_refl _))⟩⟩
  have lt := Heap.lt_size e
  rw [sortedHeap_old (Nat.ne_of_lt lt) (by rw [size_push']; exact Nat.lt_succ_of_lt lt)]
  exact Heap.get?_push_of_some _ e
end Tl

namespace Tl
open PySem PySem.Spec PyProof.Rows L2 TL LamX
section
variable [Tabl] {K : PySem.W.Frag} {Z : XZ} {B : Option Addr} {δ : List Slot} {n : Sto} {Φ : D → Sto → Prop} {ta tb tc te : TE} {N Bk Ct : List Slot → Sto → Prop} {R : D → Sto → Prop} {ts : TS}
theorem rc_lenDA {x : D} {es : List (Key × D)} (hx : DicAt n x es) (k : Φ (.int es.length) n) : RC K Z rLenRd [x] δ n Φ := fun B M G0 H0 xw G H σ E vs a Q q => by
  cases a with
  | cons a r =>
    cases r
    obtain ⟨p, ws, rfl, rd, kv⟩ := hx.get E a
    exact ⟨p, ws, rfl, rd, q _ _ G H n (by rw [kv.len]; exact k) E (Sub.refl G) (.int _)⟩
theorem rc_sortDA {x : D} {es : List (Key × D)} {ks : List Str} (hx : DicAt n x es) (hk : es.map (·.1) = ks.map Sum.inr) (k : Φ (.lst ((srtS ks).map D.str)) n) : RC K Z rSortDk [x] δ n Φ := fun B M G0 H0 xw G H σ E vs a Q q => by
  cases a with
  | cons a r =>
    cases r
    obtain ⟨p, ws, rfl, rd, kv⟩ := hx.get E a
    have keys : ∀ {ws : List (Key × V)} {es : List (Key × D)}, IsKv K G ws es → ws.map (·.1) = es.map (·.1) := fun {ws es} h => by
      clear kv rd hx hk
      induction ws generalizing es with
      | nil => cases h; rfl
      | cons w ws ih =>
        cases h with
        | cons _ r => rw [List.map_cons, List.map_cons, ih r]
    refine ⟨p, ws, ks, rfl, rd, (keys kv).trans hk, fun c hc => ?_⟩
    have s2 : ∀ o, Sub G (upd G c o) := fun o => Sub.new (E.sub.none hc)
    exact q _ _ _ _ n k (E.laid hc) (s2 _) (.lst upd_same (IsAll.strs _))
theorem rc_listDA {x : D} {es : List (Key × D)} (hx : DicAt n x es) (k : Φ (.lst (es.map fun kv => keyD kv.1)) n) :
    RC K Z (fun xs H Q => ∃ (a : Addr) (kvs : List (Key × V)), xs = [.ref a] ∧ Rd H a (.dK kvs) ∧ ∀ p, H p = none → Q (.ref p) (upd H p (.lst (kvs.map fun kv => kV kv.1)))) [x] δ n Φ := fun B M G0 H0 xw G H σ E vs a Q q => by
  cases a with
  | cons a r =>
    cases r
    obtain ⟨p, ws, rfl, rd, kv⟩ := hx.get E a
    have keys : ∀ {ws : List (Key × V)} {es : List (Key × D)} {G' : Hp}, IsKv K G ws es → IsAll K G' (ws.map fun kv => kV kv.1) (es.map fun kv => keyD kv.1) := fun {ws es G'} h => by
      clear kv rd hx k
      induction ws generalizing es with
      | nil => cases h; exact .nil
      | cons w ws ih =>
        cases h with
        | @cons kk _ _ _ _ _ r =>
          refine .cons ?_ (ih r)
          cases kk with
          | inl i => exact .int i
          | inr z => exact .str z
    refine ⟨p, ws, rfl, rd, fun c hc => ?_⟩
    have s2 : ∀ o, Sub G (upd G c o) := fun o => Sub.new (E.sub.none hc)
    exact q _ _ _ _ n k (E.laid hc) (s2 _) (.lst upd_same (keys kv))
theorem rc_dictDA {x : D} {es : List (Key × D)} (hx : DicAt n x es) (k : ∀ p, n.μ p = none → Φ (.ptr p) (n.put p (.dic es))) :
    RC K Z (fun xs H Q => ∃ (a : Addr) (kvs : List (Key × V)), xs = [.ref a] ∧ Rd H a (.dK kvs) ∧ ∀ p, H p = none → Q (.ref p) (upd H p (.dK kvs))) [x] δ n Φ := fun B M G0 H0 xw G H σ E vs a Q q => by
  cases a with
  | cons a r =>
    cases r
    obtain ⟨p, ws, rfl, rd, kv⟩ := hx.get E a
    exact ⟨p, ws, rfl, rd, fun c hc => q _ _ _ _ _ (k c (E.nomob hc)) (E.mnew hc ⟨_, upd_same, kv⟩) (Sub.refl G) (.ptr c)⟩
def optD (o : Option D) (d : D) : D := o.getD d
theorem dget_any {M : Addr → Prop} {G0 H0 G H : Hp} {σ : L2.St} {x : D} {es : List (Key × D)} {k : Key} {v : V} (E : En K B M n G0 H0 G H σ δ) (hx : DicAt n x es) (a : Is K G v x) :
    ∃ p, v = .ref p ∧ IsD H p ∧ ∃ o, DGet H p (kV k) o ∧ ((o = none ∧ getD' es k = none) ∨ ∃ u d, o = some u ∧ getD' es k = some d ∧ Is K G u d) := by
  obtain ⟨p, ws, rfl, rd, kv⟩ := hx.get E a
  refine ⟨p, rfl, .inl ⟨ws, rd⟩, valV ws k, .inl ⟨ws, k, rd, rfl, rfl⟩, ?_⟩
  cases g : getD' es k with
  | none => exact .inl ⟨kv.get0 g, rfl⟩
  | some d =>
    obtain ⟨u, hu, iu⟩ := kv.get g
    exact .inr ⟨u, d, hu, rfl, iu⟩
theorem gk_dgetA (h : GK K Z ta δ n fun x n1 => ∃ es, DicAt n1 x es ∧ GK K Z tb δ n1 fun y n2 => ∃ k d, n2 = n1 ∧ y = keyD k ∧ getD' es k = some d ∧ Φ d n2) : GK K Z (tDGet ta tb) δ n Φ := fun B M G0 H0 xw G H σ E Q q =>
  h B M G0 H0 xw G H σ E _ fun v x G1 H1 n1 ⟨es, hx, f1⟩ E1 s1 a1 =>
    f1 B M G0 H0 xw G1 H1 σ E1 _ fun w y G2 H2 n2 ⟨k, d, e2, ey, hd, f2⟩ E2 s2 a2 => by
      subst e2 ey
      obtain ⟨p, rfl, _, o, g, c⟩ := dget_any (k := k) E2 hx (a1.mono s2)
      rcases c with ⟨_, c⟩ | ⟨u, d2, rfl, c, iu⟩
      · rw [hd] at c
        cases c
      · rw [hd] at c
        cases c
        rw [a2.key]
        exact ⟨p, u, rfl, g, q u d G2 H2 _ f2 E2 (s1.trans s2) iu⟩
theorem gk_get1A (h : GK K Z ta δ n fun x n1 => ∃ es, DicAt n1 x es ∧ GK K Z tb δ n1 fun y n2 => ∃ k, n2 = n1 ∧ y = keyD k ∧ Φ ((getD' es k).getD .non) n2) : GK K Z (tDGet1 ta tb) δ n Φ := fun B M G0 H0 xw G H σ E Q q =>
  h B M G0 H0 xw G H σ E _ fun v x G1 H1 n1 ⟨es, hx, f1⟩ E1 s1 a1 => by
    obtain ⟨p0, e0, id0, _⟩ := dget_any (k := .inl 0) E1 hx a1
    subst e0
    refine ⟨p0, rfl, id0, f1 B M G0 H0 xw G1 H1 σ E1 _ fun w y G2 H2 n2 ⟨k, e2, ey, f2⟩ E2 s2 a2 => ?_⟩
    subst e2 ey
    obtain ⟨p, e, _, o, g, c⟩ := dget_any (k := k) E2 hx (a1.mono s2)
    cases e
    rw [a2.key]
    refine ⟨o, g, ?_⟩
    rcases c with ⟨rfl, c⟩ | ⟨u, d2, rfl, c, iu⟩
    · rw [c] at f2
      exact q _ _ G2 H2 _ f2 E2 (s1.trans s2) .non
    · rw [c] at f2
      exact q _ _ G2 H2 _ f2 E2 (s1.trans s2) iu
theorem gk_get2A (h : GK K Z ta δ n fun x n1 => ∃ es, DicAt n1 x es ∧ GK K Z tb δ n1 fun y n2 => ∃ k, n2 = n1 ∧ y = keyD k ∧ GK K Z tc δ n2 fun z n3 => ∃ es3, DicAt n3 x es3 ∧ Φ ((getD' es3 k).getD z) n3) : GK K Z (tDGet2 ta tb tc) δ n Φ := fun B M G0 H0 xw G H σ E Q q =>
  h B M G0 H0 xw G H σ E _ fun v x G1 H1 n1 ⟨es, hx, f1⟩ E1 s1 a1 => by
    obtain ⟨p0, e0, id0, _⟩ := dget_any (k := .inl 0) E1 hx a1
    subst e0
    refine ⟨p0, rfl, id0, f1 B M G0 H0 xw G1 H1 σ E1 _ fun w y G2 H2 n2 ⟨k, e2, ey, f2⟩ E2 s2 a2 => f2 B M G0 H0 xw G2 H2 σ E2 _ fun w3 z G3 H3 n3 ⟨es3, hx3, f3⟩ E3 s3 a3 => ?_⟩
    subst e2 ey
    obtain ⟨p, e, _, o, g, c⟩ := dget_any (k := k) E3 hx3 ((a1.mono s2).mono s3)
    cases e
    rw [a2.key]
    refine ⟨o, g, ?_⟩
    rcases c with ⟨rfl, c⟩ | ⟨u, d2, rfl, c, iu⟩
    · rw [c] at f3
      exact q _ _ G3 H3 _ f3 E3 ((s1.trans s2).trans s3) a3
    · rw [c] at f3
      exact q _ _ G3 H3 _ f3 E3 ((s1.trans s2).trans s3) iu
theorem gk_inA (h : GK K Z ta δ n fun y n1 => GK K Z tb δ n1 fun x n2 => ∃ es k, DicAt n2 x es ∧ y = keyD k ∧ Φ (.bl (getD' es k).isSome) n2) : GK K Z (tDIn ta tb) δ n Φ := fun B M G0 H0 xw G H σ E Q q =>
  h B M G0 H0 xw G H σ E _ fun w y G1 H1 n1 f1 E1 s1 a1 => f1 B M G0 H0 xw G1 H1 σ E1 _ fun v x G2 H2 n2 ⟨es, k, hx, ey, f2⟩ E2 s2 a2 => by
    subst ey
    obtain ⟨p, rfl, _, o, g, c⟩ := dget_any (k := k) E2 hx a2
    rw [a1.key]
    refine ⟨p, o, rfl, g, ?_⟩
    have e : o.isSome = (getD' es k).isSome := by rcases c with ⟨rfl, c⟩ | ⟨u, d, rfl, c, _⟩ <;> rw [c] <;> rfl
    rw [e]
    exact q _ _ G2 H2 n2 f2 E2 (s1.trans s2) (.bl _)
theorem gk_notinA (h : GK K Z ta δ n fun y n1 => GK K Z tb δ n1 fun x n2 => ∃ es k, DicAt n2 x es ∧ y = keyD k ∧ Φ (.bl (!(getD' es k).isSome)) n2) : GK K Z (tDNotIn ta tb) δ n Φ := fun B M G0 H0 xw G H σ E Q q =>
  h B M G0 H0 xw G H σ E _ fun w y G1 H1 n1 f1 E1 s1 a1 => f1 B M G0 H0 xw G1 H1 σ E1 _ fun v x G2 H2 n2 ⟨es, k, hx, ey, f2⟩ E2 s2 a2 => by
    subst ey
    obtain ⟨p, rfl, _, o, g, c⟩ := dget_any (k := k) E2 hx a2
    rw [a1.key]
    refine ⟨p, o, rfl, g, ?_⟩
    have e : o.isSome = (getD' es k).isSome := by rcases c with ⟨rfl, c⟩ | ⟨u, d, rfl, c, _⟩ <;> rw [c] <;> rfl
    rw [e]
    exact q _ _ G2 H2 n2 f2 E2 (s1.trans s2) (.bl _)
theorem gk_setdP (h : GK K Z ta δ n fun x n1 => ∃ p es0, x = .ptr p ∧ n1.μ p = some (.dic es0) ∧ GK K Z tb δ n1 fun y n2 => GK K Z tc δ n2 fun z n3 => ∃ es k, n3.μ p = some (.dic es) ∧ y = keyD k ∧ es.length < 100000 ∧ (∀ d, getD' es k = some d → Φ d n3) ∧ (getD' es k = none → Φ z (n3.put p (.dic (putD es k z))))) :
    GK K Z (tDSetd ta tb tc) δ n Φ := fun B M G0 H0 xw G H σ E Q q =>
  h B M G0 H0 xw G H σ E _ fun v x G1 H1 n1 ⟨p, es0, ex, hp0, f1⟩ E1 s1 a1 => by
    subst ex
    cases a1
    obtain ⟨ws0, e0, _⟩ := E1.mdic hp0
    refine ⟨p, rfl, .inl ⟨ws0, .inl e0⟩, f1 B M G0 H0 xw G1 H1 σ E1 _ fun w y G2 H2 n2 f2 E2 s2 a2 => f2 B M G0 H0 xw G2 H2 σ E2 _ fun u z G3 H3 n3 ⟨es, k, hp, ey, hl, g1, g2⟩ E3 s3 a3 => ?_⟩
    subst ey
    obtain ⟨ws, e1, kv⟩ := E3.mdic hp
    refine ⟨ws, k, e1, a2.key, by rw [kv.len]; exact sz_lt hl, fun u2 hu2 => ?_, fun hn => ?_⟩
    · cases g : getD' es k with
      | none =>
        rw [kv.get0 g] at hu2
        cases hu2
      | some d =>
        obtain ⟨u3, hu3, iu⟩ := kv.get g
        rw [hu3] at hu2
        cases hu2
        exact q _ _ G3 H3 n3 (g1 d g) E3 ((s1.trans s2).trans s3) iu
    · cases g : getD' es k with
      | none => exact q _ _ G3 _ _ (g2 g) (E3.mchg hp ⟨_, upd_same, kv.put a3⟩) ((s1.trans s2).trans s3) a3
      | some d =>
        obtain ⟨u3, hu3, _⟩ := kv.get g
        rw [hn] at hu3
        cases hu3
theorem gi_valsL {Ψ : List D → Sto → Prop} (h : GK K Z te δ n fun d n1 => ∃ es, d = .dct es ∧ Ψ (es.map (·.2)) n1) : GI K Z (iVals te) δ n Ψ := fun B M G0 H0 xw G H σ E R r =>
  h B M G0 H0 xw G H σ E _ fun v d G1 H1 n1 ⟨es, ed, f1⟩ E1 s1 a1 => by
    subst ed
    cases a1 with
    | @dct p o vs _ h1 a1 =>
      refine ⟨p, o, vs, rfl, E1.sub _ _ h1, r _ _ G1 H1 n1 f1 E1 s1 fun G' H' s2 s3 i => ⟨fun hi => ⟨s3 _ _ (s2 _ _ h1), by rw [a1.len, hi, List.length_map]; exact Nat.le_refl _⟩, fun x hx => ?_⟩⟩
      rw [List.getElem?_map] at hx
      obtain ⟨⟨k, d⟩, hd, rfl⟩ := Option.map_eq_some_iff.mp hx
      obtain ⟨hlt, _⟩ := List.getElem?_eq_some_iff.mp hd
      refine ⟨⟨s3 _ _ (s2 _ _ h1), by rw [a1.len]; exact hlt⟩, fun v H2 y => .inl ⟨y.1, ?_⟩⟩
      obtain ⟨k', hk⟩ := y.2
      exact (a1.keyAt hk hd).2.mono s2
theorem gi_itemsL {Ψ : List D → Sto → Prop} (h : GK K Z te δ n fun d n1 => ∃ es, d = .dct es ∧ Ψ (es.map fun kv => .tup [keyD kv.1, kv.2]) n1) : GI K Z (iItems te) δ n Ψ := fun B M G0 H0 xw G H σ E R r =>
  h B M G0 H0 xw G H σ E _ fun v d G1 H1 n1 ⟨es, ed, f1⟩ E1 s1 a1 => by
    subst ed
    cases a1 with
    | @dct p o vs _ h1 a1 =>
      refine ⟨p, o, vs, rfl, E1.sub _ _ h1, r _ _ G1 H1 n1 f1 E1 s1 fun G' H' s2 s3 i => ⟨fun hi => ⟨s3 _ _ (s2 _ _ h1), by rw [a1.len, hi, List.length_map]; exact Nat.le_refl _⟩, fun x hx => ?_⟩⟩
      rw [List.getElem?_map] at hx
      obtain ⟨⟨k, d⟩, hd, rfl⟩ := Option.map_eq_some_iff.mp hx
      obtain ⟨hlt, _⟩ := List.getElem?_eq_some_iff.mp hd
      refine ⟨⟨s3 _ _ (s2 _ _ h1), by rw [a1.len]; exact hlt⟩, fun v H2 y => .inr ?_⟩
      obtain ⟨T, k', v', hk, rfl, y1, y2⟩ := y
      obtain ⟨rfl, iv⟩ := a1.keyAt hk hd
      have sn := Sub.new (o := .tup [kV k', v']) (s3.none y1)
      refine ⟨T, _, y1, y2, (fun _ z => nomatch z), .tup (SqT.of upd_same) (.cons ?_ (.cons ((iv.mono s2).mono sn) .nil))⟩
      cases k' with
      | inl i => exact .int i
      | inr z => exact .str z
end
end Tl

namespace Tl
open PySem PySem.Spec PyProof.Rows L2 TL LamX
/-! ### contents: dicts of dicts of texts -/
abbrev Cont := List (Str × List (Str × Str))
def rowE (rs : List (Str × Str)) : List (Key × D) := rs.map fun kv => (Sum.inr kv.1, D.str kv.2)
def rowD (rs : List (Str × Str)) : D := .dct (rowE rs)
def cntE (c : Cont) : List (Key × D) := c.map fun b => (Sum.inr b.1, rowD b.2)
def cntD (c : Cont) : D := .dct (cntE c)
/-- the boxes of a content in the store, each in its place -/
def ptE : List Addr → Cont → List (Key × D)
  | q :: qs, b :: c => (Sum.inr b.1, .ptr q) :: ptE qs c
  | _, _ => []
inductive Rws (n : Sto) : List Addr → Cont → Prop
  | nil : Rws n [] []
  | cons {q : Addr} {qs : List Addr} {b : Str × List (Str × Str)} {c : Cont} (h : n.μ q = some (.dic (rowE b.2))) (r : Rws n qs c) : Rws n (q :: qs) (b :: c)
theorem Rws.len {n : Sto} {qs : List Addr} {c : Cont} (h : Rws n qs c) : qs.length = c.length := by
  induction h with
  | nil => rfl
  | cons _ _ ih => rw [List.length_cons, List.length_cons, ih]
theorem Rws.keep {n n' : Sto} {qs : List Addr} {c : Cont} (h : Rws n qs c) (k : ∀ q ∈ qs, n'.μ q = n.μ q) : Rws n' qs c := by
  induction h with
  | nil => exact .nil
  | cons h _ ih => exact .cons ((k _ List.mem_cons_self).trans h) (ih fun q hq => k q (List.mem_cons_of_mem _ hq))
theorem Rws.app {n : Sto} {qs rs : List Addr} {c d : Cont} (h : Rws n qs c) (g : Rws n rs d) : Rws n (qs ++ rs) (c ++ d) := by
  induction h with
  | nil => exact g
  | cons h _ ih => exact .cons h ih
theorem ptE_app : ∀ {qs rs : List Addr} {c d : Cont}, qs.length = c.length → ptE (qs ++ rs) (c ++ d) = ptE qs c ++ ptE rs d
  | [], rs, [], d, _ => rfl
  | [], rs, _ :: _, d, h => by simp at h
  | _ :: _, rs, [], d, h => by simp at h
  | q :: qs, rs, b :: c, d, h => by
    show (Sum.inr b.1, D.ptr q) :: ptE (qs ++ rs) (c ++ d) = _
    rw [ptE_app (by simpa using h)]
    rfl
theorem ptE_keys : ∀ {qs : List Addr} {c : Cont}, qs.length = c.length → (ptE qs c).map (·.1) = c.map fun b => Sum.inr b.1
  | [], [], _ => rfl
  | [], _ :: _, h => by simp at h
  | _ :: _, [], h => by simp at h
  | q :: qs, b :: c, h => by
    show Sum.inr b.1 :: (ptE qs c).map (·.1) = _
    rw [ptE_keys (by simpa using h)]
    rfl
section
variable [Tabl] {K : PySem.W.Frag} {Z : XZ} {B : Option Addr} {δ : List Slot} {n : Sto} {N Bk Ct : List Slot → Sto → Prop} {R : D → Sto → Prop} {ts : TS}
/-- all boxes are locked: each is data from then on -/
theorem gs_lockI {p : Addr} {r : List Addr} : ∀ (qs : List Addr) (c d : Cont) (n : Sto), n.μ p = some (.dic (cntE d ++ ptE qs c)) → Rws n qs c → (p :: qs).Nodup → GS K Z B (lkS r ts) δ ((⟨n.n, m00⟩ : Sto).put p (.dic (cntE (d ++ c)))) N R Bk Ct → GS K Z B (lkS (qs ++ r) ts) δ n N R Bk Ct
  | [], [], d, n, hp, _, _, h => by
    refine gs_sub (n' := (⟨n.n, m00⟩ : Sto).put p (.dic (cntE (d ++ [])))) rfl (fun a o ha => ?_) h
    by_cases e : a = p
    · subst e
      rw [Sto.put_same] at ha
      cases ha
      rw [hp, List.append_nil]
      show some (MO.dic (cntE d ++ [])) = _
      rw [List.append_nil]
    · rw [Sto.put_ne e] at ha
      cases ha
  | q :: qs, b :: c, d, n, hp, .cons hq hr, nd, h => by
    have nd' := nd
    rw [List.nodup_cons, List.nodup_cons, List.mem_cons, not_or] at nd'
    obtain ⟨⟨n1, n2⟩, n3, n4⟩ := nd'
    refine gs_lk1 hq δ ((n.off q).put p (.dic (cntE (d ++ [b]) ++ ptE qs c))) rfl (fun i s h => ⟨s, h, .inl rfl⟩) rfl (fun a o' ha => ?_) ?_
    · by_cases e : a = p
      · subst e
        rw [Sto.put_same] at ha
        cases ha
        refine ⟨n1, _, hp, .inr ⟨_, _, rfl, rfl, ?_⟩⟩
        rw [show cntE (d ++ [b]) ++ ptE qs c = cntE d ++ ((Sum.inr b.1, rowD b.2) :: ptE qs c) by simp [cntE]]
        exact (UpKv.refl _).app (.cons (.inr ⟨rfl, rfl⟩) (UpKv.refl _))
      · rw [Sto.put_ne e] at ha
        have ne : a ≠ q := fun z => by rw [z, Sto.off_same] at ha; cases ha
        rw [Sto.off_ne ne] at ha
        exact ⟨ne, o', ha, .inl rfl⟩
    · have k : ∀ x ∈ qs, ((n.off q).put p (.dic (cntE (d ++ [b]) ++ ptE qs c))).μ x = n.μ x := fun x hx => by
        have e1 : x ≠ p := fun z => n2 (z ▸ hx)
        have e2 : x ≠ q := fun z => n3 (z ▸ hx)
        rw [Sto.put_ne e1, Sto.off_ne e2]
      refine gs_lockI qs c (d ++ [b]) _ Sto.put_same (hr.keep k) (List.nodup_cons.mpr ⟨n2, n4⟩) ?_
      rw [List.append_assoc]
      exact h
/-- the whole content is locked and told -/
theorem gs_lockRet {p : Addr} {qs : List Addr} {c : Cont} {i : Nat} (hi : δ[i]? = some (.d (.ptr p))) (hp : n.μ p = some (.dic (ptE qs c))) (hr : Rws n qs c) (nd : (p :: qs).Nodup) (k : R (cntD c) ⟨n.n, m00⟩) : GS K Z B (tLockS (tRet (tVar i))) δ n N R Bk Ct := by
  refine gs_lockS (qs ++ [p]) (gs_lockI qs c [] n (by simpa [cntE] using hp) hr nd ?_)
  have hil : i < δ.length := (List.getElem?_eq_some_iff.mp hi).1
  refine gs_lk1 (r := []) Sto.put_same (δ.set i (.d (cntD c))) ⟨n.n, m00⟩ (by rw [List.length_set]) (fun j s' hs => ?_) rfl (fun a o' ha => by cases ha) ?_
  · by_cases e : i = j
    · subst e
      rw [List.getElem?_set_self hil] at hs
      cases hs
      exact ⟨_, hi, .inr ⟨_, _, rfl, rfl, .inr ⟨rfl, rfl⟩⟩⟩
    · rw [List.getElem?_set_ne e] at hs
      exact ⟨s', hs, .inl rfl⟩
  · exact gs_ret (gk_var (List.getElem?_set_self hil) k)
end
end Tl

namespace Tl
open PySem PySem.Spec PyProof.Rows L2 TL LamX
/-! ### repr(x) of data with dicts within, where no other telling is under way -/
def keyP : Key → PyData
  | .inl i => .int i
  | .inr x => .str x
mutual
inductive Dq (K : PySem.W.Frag) (H : Hp) : V → PyData → Prop
  | non : Dq K H .non .none
  | bl (b : Bool) : Dq K H (.bl b) (.bool b)
  | int (i : Int) : Dq K H (.int i) (.int i)
  | str (x : Str) : Dq K H (.str x) (.str x)
  | lst {a : Addr} {xs : List V} {ds : List PyData} : SqL K H a xs → DqAll K H xs ds → Dq K H (.ref a) (.list ds)
  | tup {a : Addr} {xs : List V} {ds : List PyData} : SqT K H a xs → DqAll K H xs ds → Dq K H (.ref a) (.tuple ds)
  | dct {a : Addr} {kvs : List (Key × V)} {ds : List (PyData × PyData)} : Rd H a (.dK kvs) → DqKv K H kvs ds → Dq K H (.ref a) (.dict ds)
inductive DqAll (K : PySem.W.Frag) (H : Hp) : List V → List PyData → Prop
  | nil : DqAll K H [] []
  | cons {v : V} {vs : List V} {d : PyData} {ds : List PyData} : Dq K H v d → DqAll K H vs ds → DqAll K H (v :: vs) (d :: ds)
inductive DqKv (K : PySem.W.Frag) (H : Hp) : List (Key × V) → List (PyData × PyData) → Prop
  | nil : DqKv K H [] []
  | cons {k : Key} {v : V} {vs : List (Key × V)} {d : PyData} {ds : List (PyData × PyData)} : Dq K H v d → DqKv K H vs ds → DqKv K H ((k, v) :: vs) ((keyP k, d) :: ds)
end
section
variable {P : Program} {w : World} {h : Heap}
theorem key_rk {k : Key} {v : Value} (e : keyIs k v = true) (hs : (keyP k).showable = true) (hz : (keyP k).shown.length ≤ sizeLine) : Reads h v (keyP k) [] ∧ ReprK P w [] h (keyP k).depth v (keyP k).shown := by
  rcases keyIs_shape e with ⟨i, t, rfl, rfl⟩ | ⟨x, t, rfl, rfl⟩
  · refine ⟨.int i t, ?_⟩
    simp only [keyP, PyData.shown]
    exact .of_is (ReprIs.int t (by simpa [keyP, PyData.showable] using hs)) _ _ _
  · refine ⟨.str x t, ?_⟩
    simp only [keyP, PyData.shown]
    exact .of_is (ReprIs.str x t (by simpa only [keyP, PyData.shown] using hz)) _ _ _
theorem keys_rk {K : PySem.W.Frag} {H : Hp} {es : List DictEntry} {ws : List (Key × Value)} (pr : Pairs (mixKind P w) es ws) : ∀ {kvs : List (Key × V)} {ds : List (PyData × PyData)}, KV kvs ws → DqKv K H kvs ds → PyData.showableAll (ds.map (·.1)) = true → (∀ t ∈ PyData.shownAll (ds.map (·.1)), t.length ≤ sizeLine) →
    ReadsAll h (es.map (·.key)) (ds.map (·.1)) [] ∧ ReprAllK P w [] h (PyData.depthAll (ds.map (·.1))) (es.map (·.key)) (PyData.shownAll (ds.map (·.1))) := by
  induction pr with
  | nil =>
    intro kvs ds rel dq _ _
    cases rel
    cases dq
    exact ⟨.nil, by simp only [List.map_nil, PyData.shownAll]; exact .nil⟩
  | cons h1 _ _ ih =>
    intro kvs ds rel dq hs hz
    cases rel with
    | cons e er =>
      cases dq with
      | @cons k v vs d ds _ dr =>
        have hs' : (keyP k).showable = true ∧ PyData.showableAll (ds.map (·.1)) = true := by simpa [PyData.showableAll] using hs
        have ek := e.1
        dsimp only at ek
        obtain ⟨r1, k1⟩ := key_rk (P := P) (w := w) (h := h) (k := k) (ek ▸ h1) hs'.1 (hz _ (by simp only [List.map_cons, PyData.shownAll]; exact List.mem_cons_self))
        obtain ⟨r2, k2⟩ := ih er dr hs'.2 fun t ht => hz t (by simp only [List.map_cons, PyData.shownAll]; exact List.mem_cons_of_mem _ ht)
        refine ⟨.cons (as := []) (bs := []) r1 r2, ?_⟩
        simp only [List.map_cons, PyData.shownAll, PyData.depthAll]
        exact .cons (k1.level_le (Nat.le_max_left _ _)) (k2.more_le (fun _ x => x) (Nat.le_max_right _ _))
theorem vals_eq : ∀ {es : List DictEntry} {ws : List (Key × Value)}, Pairs (mixKind P w) es ws → es.map (·.val) = ws.map (·.2)
  | _, _, .nil => rfl
  | _, _, .cons _ e r => by rw [List.map_cons, List.map_cons, e, vals_eq r]
end
section
variable {X : Cx} {pins : List (Addr × Obj)} {σ : List (Option V)} {H : Hp} {s : Shared}
mutual
theorem Dq.rk (I : Inv X pins σ H s) : ∀ {v : V} {d : PyData}, Dq X.K H v d → ∀ u, RelV v u → d.showable = true → d.shown.length ≤ sizeLine → ∃ as bs, Reads s.heap u d as ∧ ReadAtMost s.heap d.depth bs ∧ ReprK X.prog X.w bs s.heap d.depth u d.shown
  | _, _, .non, u, r, _, _ => by
    cases r
    exact ⟨_, [], .none, (fun _ h => nomatch h), by simp only [PyData.shown]; exact .of_is ReprIs.none _ _ _⟩
  | _, _, .bl b, u, r, _, _ => by
    cases r
    exact ⟨_, [], .bool b, (fun _ h => nomatch h), by simp only [PyData.shown]; exact .of_is (ReprIs.bool b) _ _ _⟩
  | _, _, .int i, u, r, hs, _ => by
    obtain ⟨t, rfl⟩ := r
    exact ⟨_, [], .int i t, (fun _ h => nomatch h), by simp only [PyData.shown]; exact .of_is (ReprIs.int t (by simpa [PyData.showable] using hs)) _ _ _⟩
  | _, _, .str x, u, r, _, hz => by
    obtain ⟨t, rfl⟩ := r
    exact ⟨_, [], .str x t, (fun _ h => nomatch h), by simp only [PyData.shown]; exact .of_is (ReprIs.str x t (by simpa only [PyData.shown] using hz)) _ _ _⟩
  | _, _, .lst (a := a) (ds := ds) hl ha, u, r, hs, hz => by
    cases r
    have hz' : (listText (PyData.shownAll ds)).length ≤ sizeLine := by simpa only [PyData.shown] using hz
    obtain ⟨its, rv, ⟨o, n, ho, hc, _, hd⟩, _⟩ := I.list hl
    obtain ⟨as, bs, rs, hb, hk⟩ := DqAll.rk I ha its rv (by simpa [PyData.showable] using hs) fun t ht => Nat.le_trans (listText_mem_le ht) hz'
    have r : Reads s.heap (.ref a) (.list ds) _ := .list ho hc hd rs
    have hna : a ∉ bs := not_mem_of_deeper r (by simp only [PyData.depth]; omega) hb
    refine ⟨_, a :: bs, r, ReadAtMost.cons r (by simp only [PyData.depth]; omega) hb, ?_⟩
    simp only [PyData.depth, PyData.shown]
    cases its with
    | nil =>
      cases rs
      simp only [PyData.shownAll, listText_nil]
      exact ReprK.listEmpty ho hc hd
    | cons x l => exact ReprK.list ho hc hd hna (by simpa using hk.length_eq) (fun i y e => hk.item i y (by simpa using e))
  | _, _, .tup (a := a) (ds := ds) hl ha, u, r, hs, hz => by
    cases r
    have hz' : (tupleText (PyData.shownAll ds)).length ≤ sizeLine := by simpa only [PyData.shown] using hz
    obtain ⟨its, rv, ⟨o, ho, hc, n, hd⟩, _⟩ := I.tuple hl
    obtain ⟨as, bs, rs, hb, hk⟩ := DqAll.rk I ha its rv (by simpa [PyData.showable] using hs) fun t ht => Nat.le_trans (tupleText_mem_le ht) hz'
    have r : Reads s.heap (.ref a) (.tuple ds) _ := .tuple ho hc hd rs
    have hna : a ∉ bs := not_mem_of_deeper r (by simp only [PyData.depth]; omega) hb
    refine ⟨_, a :: bs, r, ReadAtMost.cons r (by simp only [PyData.depth]; omega) hb, ?_⟩
    simp only [PyData.depth, PyData.shown]
    exact ReprK.tuple ho hc hd hna hk
  | _, _, .dct (a := a) (ds := ds) hl ha, u, r, hs, hz => by
    cases r
    have hz' : (dictText (PyData.shownKv ds)).length ≤ sizeLine := by simpa only [PyData.shown] using hz
    obtain ⟨_, lo, ws, rel, o, es, ep, ho, ex, hd, _, pr, _⟩ := dk_rd I.hok hl
    have hsys : (a == sysModules) = false := lo
    obtain ⟨hs1, hs2⟩ := PyData.showableKv_split ds (by simpa [PyData.showable] using hs)
    obtain ⟨r1, k1⟩ := keys_rk (P := X.prog) (w := X.w) (h := s.heap) pr rel ha hs1 fun t ht => let ⟨p, hp, hl⟩ := PyData.shownKv_key_le ds t ht; Nat.le_trans hl (Nat.le_trans (dictText_mem_le hp) hz')
    obtain ⟨as, bs, r2, hb, k2⟩ := DqKv.rk I ha ws rel hs2 fun t ht => let ⟨p, hp, hl⟩ := PyData.shownKv_val_le ds t ht; Nat.le_trans hl (Nat.le_trans (dictText_mem_le hp) hz')
    rw [← vals_eq pr] at r2 k2
    have r : Reads s.heap (.ref a) (.dict ds) _ := .dict ho ex.1 hd r1 r2
    have hb : ReadAtMost s.heap (PyData.depthKv ds) bs := hb.mono (PyData.depthAll_vals_le ds)
    have hna : a ∉ bs := not_mem_of_deeper r (by simp only [PyData.depth]; omega) hb
    refine ⟨_, a :: bs, r, ReadAtMost.cons r (by simp only [PyData.depth]; omega) hb, ?_⟩
    simp only [PyData.depth, PyData.shown, PyData.shownKv_eq]
    exact ReprK.dict ho ex.1 hd hsys hna (ReprEntriesK.of_two es.toList _ _ (k1.more_le (fun b (hb : b ∈ ([] : List Addr)) => absurd hb List.not_mem_nil) (PyData.depthAll_keys_le ds)) (k2.more_le (fun b hb => hb) (PyData.depthAll_vals_le ds)))
theorem DqAll.rk (I : Inv X pins σ H s) : ∀ {vs : List V} {ds : List PyData}, DqAll X.K H vs ds → ∀ us, Vals vs us → PyData.showableAll ds = true → (∀ t ∈ PyData.shownAll ds, t.length ≤ sizeLine) → ∃ as bs, ReadsAll s.heap us ds as ∧ ReadAtMost s.heap (PyData.depthAll ds) bs ∧ ReprAllK X.prog X.w bs s.heap (PyData.depthAll ds) us (PyData.shownAll ds)
  | _, _, .nil, us, r, _, _ => by
    cases r
    exact ⟨[], [], .nil, (fun _ h => nomatch h), by simp only [PyData.shownAll]; exact .nil⟩
  | _, _, .cons (d := d) (ds := ds) h1 h2, us, r, hs, hz => by
    cases r with
    | cons e er =>
      have hs' : d.showable = true ∧ PyData.showableAll ds = true := by simpa [PyData.showableAll] using hs
      obtain ⟨as, b1, r1, hb1, k1⟩ := Dq.rk I h1 _ e hs'.1 (hz _ (by simp only [PyData.shownAll]; exact List.mem_cons_self))
      obtain ⟨bs, b2, r2, hb2, k2⟩ := DqAll.rk I h2 _ er hs'.2 fun t ht => hz t (by simp only [PyData.shownAll]; exact List.mem_cons_of_mem _ ht)
      refine ⟨_, b1 ++ b2, .cons r1 r2, ?_, ?_⟩
      · simp only [PyData.depthAll]
        exact (hb1.mono (Nat.le_max_left _ _)).append (hb2.mono (Nat.le_max_right _ _))
      · simp only [PyData.depthAll, PyData.shownAll]
        exact .cons ((k1.more fun b hb => List.mem_append_left _ hb).level_le (Nat.le_max_left _ _)) (k2.more_le (fun b hb => List.mem_append_right _ hb) (Nat.le_max_right _ _))
theorem DqKv.rk (I : Inv X pins σ H s) : ∀ {vs : List (Key × V)} {ds : List (PyData × PyData)}, DqKv X.K H vs ds → ∀ us : List (Key × Value), KV vs us → PyData.showableAll (ds.map (·.2)) = true → (∀ t ∈ PyData.shownAll (ds.map (·.2)), t.length ≤ sizeLine) → ∃ as bs, ReadsAll s.heap (us.map (·.2)) (ds.map (·.2)) as ∧ ReadAtMost s.heap (PyData.depthAll (ds.map (·.2))) bs ∧ ReprAllK X.prog X.w bs s.heap (PyData.depthAll (ds.map (·.2))) (us.map (·.2)) (PyData.shownAll (ds.map (·.2)))
  | _, _, .nil, us, r, _, _ => by
    cases r
    exact ⟨[], [], .nil, (fun _ h => nomatch h), by simp only [List.map_nil, PyData.shownAll]; exact .nil⟩
  | _, _, .cons (d := d) (ds := ds) h1 h2, us, r, hs, hz => by
    cases r with
    | cons e er =>
      have hs' : d.showable = true ∧ PyData.showableAll (ds.map (·.2)) = true := by simpa [PyData.showableAll] using hs
      obtain ⟨as, b1, r1, hb1, k1⟩ := Dq.rk I h1 _ e.2 hs'.1 (hz _ (by simp only [List.map_cons, PyData.shownAll]; exact List.mem_cons_self))
      obtain ⟨bs, b2, r2, hb2, k2⟩ := DqKv.rk I h2 _ er hs'.2 fun t ht => hz t (by simp only [List.map_cons, PyData.shownAll]; exact List.mem_cons_of_mem _ ht)
      refine ⟨_, b1 ++ b2, .cons r1 r2, ?_, ?_⟩
      · simp only [List.map_cons, PyData.depthAll]
        exact (hb1.mono (Nat.le_max_left _ _)).append (hb2.mono (Nat.le_max_right _ _))
      · simp only [List.map_cons, PyData.depthAll, PyData.shownAll]
        exact .cons ((k1.more fun b hb => List.mem_append_left _ hb).level_le (Nat.le_max_left _ _)) (k2.more_le (fun b hb => List.mem_append_right _ hb) (Nat.le_max_right _ _))
end
end
def rReprQ (K : PySem.W.Frag) : List V → Hp → VK → Prop := fun vs H Q => ∃ (v : V) (d : PyData), vs = [v] ∧ Dq K H v d ∧ d.showable = true ∧ d.depth ≤ 50 ∧ d.shown.length ≤ sizeLine ∧ Q (.str d.shown) H
theorem cr_reprQ {X : Cx} {K : PySem.W.Frag} (hK : X.K = K) (hg : X.A.guards = some []) (hu : X.A.units + 64 < cLine) : CallR X (.builtin "repr") (rReprQ K) := by
  subst hK
  intro pins s σ H vs us Q I r h
  obtain ⟨v, d, rfl, dp, hs, hp, hl, q⟩ := h
  obtain ⟨u, rfl, ru⟩ := r.one
  have go : ∀ (h' : Heap) (t tk : Tok), (∀ b o, s.heap.get? b = some o → h'.get? b = some o) → EP X pins σ Q (.str d.shown t) { s with heap := h', toks := tk } := fun h' t tk kp => ⟨.str d.shown, H, I.kept kp, ⟨t, rfl⟩, q⟩
  have hg1 : X.A.in1.guards = some [] := hg
  have hu1 : X.A.in1.units + d.depth < cLine := by
    show X.A.units + 1 + d.depth < cLine
    omega
  cases dp with
  | non =>
    cases ru
    refine PySem.P.repr_of_none ?_
    rw [PyData.shown_none] at go
    exact go s.heap _ _ fun _ _ e => e
  | bl b =>
    cases ru
    refine PySem.P.repr_of_bool ?_
    rw [PyData.shown_bool] at go
    exact go s.heap _ _ fun _ _ e => e
  | int i =>
    obtain ⟨t, rfl⟩ := ru
    refine PySem.P.repr_of_int (by simpa [PyData.showable] using hs) ?_
    rw [PyData.shown_int] at go
    exact go s.heap _ _ fun _ _ e => e
  | str x =>
    obtain ⟨t, rfl⟩ := ru
    rw [PyData.shown_str] at go hl
    exact PySem.P.repr_of_str (go s.heap _ _ fun _ _ e => e) hl
  | @lst a xs ds hL ha =>
    cases ru
    have hz' : (listText (PyData.shownAll ds)).length ≤ sizeLine := by simpa only [PyData.shown] using hl
    obtain ⟨its, rv, ⟨o, n, ho, hc, _, hd⟩, _⟩ := I.list hL
    obtain ⟨as, bs, rs, hb, hk⟩ := DqAll.rk I ha its rv (by simpa [PyData.showable] using hs) fun t ht => Nat.le_trans (listText_mem_le ht) hz'
    have hna : a ∉ bs := not_mem_of_deeper (.list ho hc hd rs) (by simp only [PyData.depth]; omega) hb
    simp only [PyData.depth] at hu1
    simp only [PyData.shown] at go
    refine call_repr_slot (by omega) ⟨o, ho, hc⟩ F.slot_list_repr.toG ?_
    cases its with
    | nil =>
      cases rs
      simp only [PyData.shownAll, listText_nil] at go
      exact call_list_repr_empty ⟨o, ho, hc⟩ ho hd ⟨_, _, rfl, go s.heap _ _ fun _ _ e => e⟩
    | cons x l => exact call_list_reprK ho hc hd hna (by simpa using hk.length_eq) (fun i y e => hk.item i y (by simpa using e)) hg1 (fun b _ => Clear.nil b) hu1 (fun _ _ e => e) (fun h' t tk kp => ⟨_, _, rfl, go h' t tk kp⟩) hz'
  | @tup a xs ds hL ha =>
    cases ru
    have hz' : (tupleText (PyData.shownAll ds)).length ≤ sizeLine := by simpa only [PyData.shown] using hl
    obtain ⟨its, rv, ⟨o, ho, hc, n, hd⟩, _⟩ := I.tuple hL
    obtain ⟨as, bs, rs, hb, hk⟩ := DqAll.rk I ha its rv (by simpa [PyData.showable] using hs) fun t ht => Nat.le_trans (tupleText_mem_le ht) hz'
    have hna : a ∉ bs := not_mem_of_deeper (.tuple ho hc hd rs) (by simp only [PyData.depth]; omega) hb
    simp only [PyData.depth] at hu1
    simp only [PyData.shown] at go
    refine call_repr_slot (by omega) ⟨o, ho, hc⟩ F.slot_tuple_repr ?_
    exact call_tuple_reprK ho hc hd hna hk hg1 (fun b _ => Clear.nil b) hu1 (fun _ _ e => e) (fun h' t tk kp => ⟨_, _, rfl, go h' t tk kp⟩) hz'
  | @dct a kvs ds hL ha =>
    cases ru
    have hz' : (dictText (PyData.shownKv ds)).length ≤ sizeLine := by simpa only [PyData.shown] using hl
    obtain ⟨_, lo, ws, rel, o, es, ep, ho, ex, hd, _, pr, _⟩ := dk_rd I.hok hL
    obtain ⟨hs1, hs2⟩ := PyData.showableKv_split ds (by simpa [PyData.showable] using hs)
    obtain ⟨r1, k1⟩ := keys_rk (P := X.prog) (w := X.w) (h := s.heap) pr rel ha hs1 fun t ht => let ⟨p, hp, hl⟩ := PyData.shownKv_key_le ds t ht; Nat.le_trans hl (Nat.le_trans (dictText_mem_le hp) hz')
    obtain ⟨as, bs, r2, hb, k2⟩ := DqKv.rk I ha ws rel hs2 fun t ht => let ⟨p, hp, hl⟩ := PyData.shownKv_val_le ds t ht; Nat.le_trans hl (Nat.le_trans (dictText_mem_le hp) hz')
    rw [← vals_eq pr] at r2 k2
    have r : Reads s.heap (.ref a) (.dict ds) _ := .dict ho ex.1 hd r1 r2
    have hb : ReadAtMost s.heap (PyData.depthKv ds) bs := hb.mono (PyData.depthAll_vals_le ds)
    have hna : a ∉ bs := not_mem_of_deeper r (by simp only [PyData.depth]; omega) hb
    simp only [PyData.depth] at hu1
    simp only [PyData.shown, PyData.shownKv_eq] at go
    refine call_repr_slot (by omega) ⟨o, ho, ex.1⟩ F.slot_dict_repr ?_
    exact call_dict_reprK ho ex.1 hd lo hna (ReprEntriesK.of_two es.toList _ _ (k1.more_le (fun b (hb : b ∈ ([] : List Addr)) => absurd hb List.not_mem_nil) (PyData.depthAll_keys_le ds)) (k2.more_le (fun b hb => hb) (PyData.depthAll_vals_le ds))) hg1 (fun b _ => Clear.nil b) hu1 (fun _ _ e => e) (fun h' t tk kp => ⟨_, _, rfl, go h' t tk kp⟩) (by rw [← PyData.shownKv_eq]; exact hz')
/-- texts well, k deep at most; dicts may lie within -/
inductive Shq : Nat → D → Prop where
  | non {k : Nat} : Shq k .non
  | bl {k : Nat} (b : Bool) : Shq k (.bl b)
  | int {k : Nat} {i : Int} (h : i.natAbs.log2 < 1920) : Shq k (.int i)
  | str {k : Nat} (x : Str) : Shq k (.str x)
  | lst {k : Nat} {xs : List D} (h : ∀ x ∈ xs, Shq k x) : Shq (k + 1) (.lst xs)
  | tup {k : Nat} {xs : List D} (h : ∀ x ∈ xs, Shq k x) : Shq (k + 1) (.tup xs)
  | dct {k : Nat} {es : List (Key × D)} (h1 : ∀ kv ∈ es, (keyP kv.1).showable = true) (h2 : ∀ kv ∈ es, Shq k kv.2) : Shq (k + 1) (.dct es)
theorem toPk_cons {k : Key} {d : D} {es : List (Key × D)} : toPk ((k, d) :: es) = (keyP k, toP d) :: toPk es := by
  cases k <;> simp only [toPk, keyP]
theorem isAll_dq {K : PySem.W.Frag} {G H : Hp} : ∀ {ds : List D} {vs : List V}, IsAll K G vs ds → (∀ x ∈ ds, ∀ v, Is K G v x → Dq K H v (toP x)) → DqAll K H vs (toPs ds)
  | [], _, a, _ => by
    cases a
    unfold toPs
    exact .nil
  | d :: ds, _, a, hx => by
    cases a with
    | cons h r =>
      unfold toPs
      exact .cons (hx _ List.mem_cons_self _ h) (isAll_dq r fun x m => hx x (List.mem_cons_of_mem _ m))
theorem isKv_dq {K : PySem.W.Frag} {G H : Hp} : ∀ {ds : List (Key × D)} {vs : List (Key × V)}, IsKv K G vs ds → (∀ x ∈ ds, ∀ v, Is K G v x.2 → Dq K H v (toP x.2)) → DqKv K H vs (toPk ds)
  | [], _, a, _ => by
    cases a
    unfold toPk
    exact .nil
  | d :: ds, _, a, hx => by
    cases a with
    | cons h r =>
      rw [toPk_cons]
      exact .cons (hx _ List.mem_cons_self _ h) (isKv_dq r fun x m => hx x (List.mem_cons_of_mem _ m))
theorem Shq.dq {K : PySem.W.Frag} {G H : Hp} {k : Nat} {d : D} (s : Sub G H) (h : Shq k d) : ∀ v, Is K G v d → Dq K H v (toP d) := by
  induction h with
  | non =>
    intro v hv
    cases hv
    unfold toP
    exact .non
  | bl =>
    intro v hv
    cases hv
    unfold toP
    exact .bl _
  | int =>
    intro v hv
    cases hv
    unfold toP
    exact .int _
  | str =>
    intro v hv
    cases hv
    unfold toP
    exact .str _
  | lst _ ih =>
    intro v hv
    cases hv with
    | lst h a =>
      unfold toP
      exact .lst (SqL.of (s _ _ h)) (isAll_dq a ih)
  | tup _ ih =>
    intro v hv
    cases hv with
    | tup h a =>
      unfold toP
      exact .tup (s.seq h) (isAll_dq a ih)
  | dct _ _ ih =>
    intro v hv
    cases hv with
    | dct h a =>
      unfold toP
      exact .dct (.inr ⟨_, s _ _ h⟩) (isKv_dq a ih)
theorem toPs_show {xs : List D} (h : ∀ x ∈ xs, (toP x).showable = true) : PyData.showableAll (toPs xs) = true := by
  induction xs with
  | nil => unfold toPs PyData.showableAll; rfl
  | cons x r ih =>
    unfold toPs PyData.showableAll
    rw [h x List.mem_cons_self, ih fun y m => h y (List.mem_cons_of_mem _ m)]
    rfl
theorem toPk_show {xs : List (Key × D)} (h1 : ∀ x ∈ xs, (keyP x.1).showable = true) (h : ∀ x ∈ xs, (toP x.2).showable = true) : PyData.showableKv (toPk xs) = true := by
  induction xs with
  | nil => unfold toPk PyData.showableKv; rfl
  | cons x r ih =>
    obtain ⟨k, d⟩ := x
    rw [toPk_cons]
    unfold PyData.showableKv
    rw [h1 _ List.mem_cons_self, h _ List.mem_cons_self, ih (fun y m => h1 y (List.mem_cons_of_mem _ m)) fun y m => h y (List.mem_cons_of_mem _ m)]
    rfl
theorem keyP_depth {k : Key} : (keyP k).depth = 0 := by
  cases k <;> simp [keyP, PyData.depth]
theorem toPk_depth {xs : List (Key × D)} {k : Nat} (h : ∀ x ∈ xs, (toP x.2).depth ≤ k) : PyData.depthKv (toPk xs) ≤ k := by
  induction xs with
  | nil => unfold toPk PyData.depthKv; exact Nat.zero_le _
  | cons x r ih =>
    obtain ⟨kk, d⟩ := x
    rw [toPk_cons]
    unfold PyData.depthKv
    rw [keyP_depth]
    have h1 := h _ List.mem_cons_self
    have h2 := ih fun y m => h y (List.mem_cons_of_mem _ m)
    simp only at h1
    omega
theorem Shq.ok [Tabl] {k : Nat} {d : D} (h : Shq k d) : (toP d).showable = true ∧ (toP d).depth ≤ k := by
  induction h with
  | non => unfold toP; simp [PyData.showable, PyData.depth]
  | bl => unfold toP; simp [PyData.showable, PyData.depth]
  | int h => unfold toP; simp [PyData.showable, PyData.depth, h]
  | str => unfold toP; simp [PyData.showable, PyData.depth]
  | lst _ ih =>
    unfold toP
    unfold PyData.showable PyData.depth
    exact ⟨toPs_show fun x hx => (ih x hx).1, Nat.succ_le_succ (toPs_depth fun x hx => (ih x hx).2)⟩
  | tup _ ih =>
    unfold toP
    unfold PyData.showable PyData.depth
    exact ⟨toPs_show fun x hx => (ih x hx).1, Nat.succ_le_succ (toPs_depth fun x hx => (ih x hx).2)⟩
  | dct h1 _ ih =>
    unfold toP
    unfold PyData.showable PyData.depth
    exact ⟨toPk_show h1 fun x hx => (ih x hx).1, Nat.succ_le_succ (toPk_depth fun x hx => (ih x hx).2)⟩
section
variable [Tabl] {K : PySem.W.Frag} {Z : XZ} {δ : List Slot} {n : Sto} {Φ : D → Sto → Prop}
theorem rc_reprQ {m : Nat} {d : D} (hs : Shq m d) (hm : m ≤ 50) (h3 : (toP d).shown.length ≤ sizeLine) (k : Φ (.str (toP d).shown) n) : RC K Z (rReprQ K) [d] δ n Φ := fun B M G0 H0 xw G H σ E vs a Q q => by
  cases a with
  | cons a r =>
    cases r
    exact ⟨_, _, rfl, hs.dq E.sub _ a, hs.ok.1, Nat.le_trans hs.ok.2 hm, h3, q _ _ G H n k E (Sub.refl G) (.str _)⟩
end
end Tl

namespace Tl
open PySem PySem.Spec PyProof.Rows L2 TL LamX
/-! ### a new dict is made data at once -/
def tFz (te : TE) : TE := fun σ H Q => te σ H fun v H' => ∃ (p : Addr) (kvs : List (Key × V)), v = .ref p ∧ H' p = some (.dK kvs) ∧ ∀ od, Q v (upd H' p (.frz od (.dK kvs)))
theorem pe_fz {X : Cx} {e : Expr} {t : TE} (h : PE X e t) : PE X e (tFz t) := ⟨fun pins s σ H Q I hw => wpAny_mono (h.run pins s σ H _ I hw) (fun u s' z => by
  obtain ⟨v, H', I', r, p, kvs, rfl, hp, q⟩ := z
  obtain ⟨od, I1⟩ := I'.lock hp trivial
  exact ⟨_, _, I1, r, q od⟩) fun _ _ z => z⟩
section
variable [Tabl] {K : PySem.W.Frag} {Z : XZ} {δ : List Slot} {n : Sto} {Φ : D → Sto → Prop} {te tk tv : TE}
theorem gk_fz (h : GK K Z te δ n fun d n1 => ∃ p es, d = .ptr p ∧ n1.μ p = some (.dic es) ∧ Φ (.dct es) (n1.off p)) : GK K Z (tFz te) δ n Φ := fun B M G0 H0 xw G H σ E Q q =>
  h B M G0 H0 xw G H σ E _ fun v d G1 H1 n1 f1 E1 s1 a1 => by
    obtain ⟨p, es, rfl, hp, f⟩ := f1
    cases a1
    obtain ⟨vs, hu, hv⟩ := E1.mdic hp
    have sg : Sub G1 (upd G1 p (.frz (default : Obj) (.dK vs))) := Sub.new (E1.mob p _ hp).2.1
    refine ⟨p, vs, rfl, hu, fun od => ?_⟩
    have sg : Sub G1 (upd G1 p (.frz od (.dK vs))) := Sub.new (E1.mob p _ hp).2.1
    exact q _ _ _ _ _ f (E1.mlock od hp hu) (s1.trans sg) (.dct upd_same (hv.mono sg))
theorem gk_newF (k : Φ (.dct []) n) : GK K Z (tFz tDNewK) δ n Φ := gk_fz (gk_newD fun p hp => ⟨p, _, rfl, Sto.put_same, by rw [Sto.off_put hp]; exact k⟩)
theorem gk_disp1F (h : GK K .calm tk δ n fun x n1 => ∃ k, x = keyD k ∧ GK K .calm tv δ n1 fun d n2 => Φ (.dct [(k, d)]) n2) : GK K Z (tFz (tDisp [(tk, tv)])) δ n Φ := by
  refine gk_fz (gk_disp1 (gk_weak h fun x n1 h => ?_))
  obtain ⟨k, e, h⟩ := h
  exact ⟨k, e, gk_weak h fun d n2 h p hp => ⟨p, _, rfl, Sto.put_same, by rw [Sto.off_put hp]; exact h⟩⟩
end
end Tl

namespace Tl
open PySem PySem.Spec PyProof.Rows L2 TL LamX
/-! ### zip of two texts -/
def ItZT (x y : Str) : It :=
  ⟨fun i _ => ∃ c d, x.cps[i]? = some c ∧ y.cps[i]? = some d, fun i H v H' => ∃ T c d, v = .ref T ∧ H T = none ∧ H' = upd H T (.tup [.str (S [c]), .str (S [d])]) ∧ x.cps[i]? = some c ∧ y.cps[i]? = some d, fun i _ => i = min x.cps.size y.cps.size⟩
def ZTst (x y : Str) (t u : Tok) (z TI TO i1 i2 : Addr) (i : Nat) (h : Heap) : Prop := IsZip h z TI TO .none ∧ IsTupOf2 h TI (.ref i1) (.ref i2) ∧ (∃ a b, IsTupOf2 h TO a b) ∧ h.IsStrIter i1 (strIterType x) x t i ∧ h.IsStrIter i2 (strIterType y) y u i
theorem turn_zipS {P : Program} {w : World} {K : PySem.W.Frag} {elts : List Expr} {kk : Nat} {tpos : Pos} {x y : Str} {t u : Tok} {z TI TO i1 i2 : Addr} (D : ZipSep2 z TI TO i1 i2 [i1] [i2]) :
    Turn P w K (.Tuple elts kk tpos) (ItZT x y) [z, TI, TO, i1, i2] z (ZTst x y t u z TI TO i1 i2) where
  mem := by simp
  obj := fun i h st c hc => by
    obtain ⟨hz, hTI, ⟨a, b, hTO⟩, ⟨o1, e1, _, d1⟩, ⟨o2, e2, _, d2⟩⟩ := st
    have e' : c = z ∨ c = TI ∨ c = TO ∨ c = i1 ∨ c = i2 := by simpa using hc
    rcases e' with q | q | q | q | q
    · rw [q]; exact ⟨_, hz, fun v q => nomatch q⟩
    · rw [q]; exact ⟨_, hTI, fun v q => nomatch q⟩
    · rw [q]; exact ⟨_, hTO, fun v q => nomatch q⟩
    · rw [q]; exact ⟨o1, e1, fun v q => by rw [d1] at q; cases q⟩
    · rw [q]; exact ⟨o2, e2, fun v q => by rw [d2] at q; cases q⟩
  keep := fun i h h' st k => by
    obtain ⟨hz, hTI, ⟨a, b, hTO⟩, h1, h2⟩ := st
    exact ⟨k z (by simp) _ hz, k TI (by simp) _ hTI, ⟨a, b, k TO (by simp) _ hTO⟩, let ⟨o, e, cc, dd⟩ := h1; ⟨o, k i1 (by simp) o e, cc, dd⟩, let ⟨o, e, cc, dd⟩ := h2; ⟨o, k i2 (by simp) o e, cc, dd⟩⟩
  item := by
    intro X hP hw hK hc i pins s σ H E I hf st hg
    subst hP hw hK
    obtain ⟨hz, hTI, ⟨x0, y0, hTO⟩, h1, h2⟩ := st
    obtain ⟨c, d, hx, hy⟩ := hg
    have D1 := Draws.text (prog := X.prog) (w := X.w) (A := X.A.in1) (I.ok.hd hc) i1 x t
    have D2 := Draws.text (prog := X.prog) (w := X.w) (A := X.A.in1) (I.ok.hd hc) i2 y u
    have hzl : z < s.heap.objs.size := Heap.lt_size hz
    refine wpAny_pyNext_zipD2_item D D1 D2 hz hTI hTO h1 h2 (Array.getElem?_eq_some_iff.mp hx).1 (Array.getElem?_eq_some_iff.mp hy).1 fun x1 x2 h' tk p1 p2 z' TO' h1' h2' hT hsz hk => ?_
    obtain ⟨c', u1, hc', rfl⟩ := p1
    obtain ⟨d', u2, hd', rfl⟩ := p2
    obtain rfl : c = c' := Option.some.inj (hx.symm.trans hc')
    obtain rfl : d = d' := Option.some.inj (hy.symm.trans hd')
    refine ⟨_, rfl, wpAny_letOwnedTupleGo_zip (s := { s with heap := h', toks := tk }) z' fun h'' z'' sb => ?_⟩
    have hT2 : h''.get? s.heap.objs.size = some { cls := .type "tuple", data := .seq #[.str ⟨#[c]⟩ u1, .str ⟨#[d]⟩ u2] } := (sb.2 _ (Nat.ne_of_gt hzl)).trans hT
    have new : ObjOk X.prog X.w (upd H s.heap.objs.size (.tup [.str (S [c]), .str (S [d])])) h'' s.heap.objs.size (.tup [.str (S [c]), .str (S [d])]) :=
      ⟨by show 2 ≤ sizeLine; decide, [.str ⟨#[c]⟩ u1, .str ⟨#[d]⟩ u2], .cons ⟨_, rfl⟩ (.cons ⟨_, rfl⟩ .nil), ⟨_, hT2, rfl, _, rfl⟩⟩
    have I1 : Inv X pins σ (upd H s.heap.objs.size (.tup [.str (S [c]), .str (S [d])])) { s with heap := h'', toks := tk } :=
      I.turnedNew (ch := [z, TI, TO, i1, i2]) (fun c o hb q => (sb.2 c (fun q' => hb (by simp [q']))).trans (hk c o (fun q' => hb (by simp [q'])) (fun q' => hb (by simp [q'])) (fun q' => hb (by simp [q'])) (fun q' => hb (by simp [q'])) q)) hf (Nat.le_refl _) new
    refine ⟨.ref s.heap.objs.size, _, I1, rfl, ⟨_, c, d, rfl, I.hok.fresh (Nat.le_refl _), rfl, hx, hy⟩, ⟨z'', ?_, ⟨_, _, (sb.2 _ D.TOz).trans TO'⟩, ?_, ?_⟩, fun c hcm => ?_⟩
    · exact (sb.2 _ D.TIz).trans (hk _ _ D.TIz D.TITO D.TIi1 D.TIi2 hTI)
    · obtain ⟨o, e, cc, dd⟩ := h1'
      exact ⟨o, (sb.2 _ (Ne.symm D.zi1)).trans e, cc, dd⟩
    · obtain ⟨o, e, cc, dd⟩ := h2'
      exact ⟨o, (sb.2 _ (Ne.symm D.zi2)).trans e, cc, dd⟩
    · have hlt : c < s.heap.objs.size := by
        have e' : c = z ∨ c = TI ∨ c = TO ∨ c = i1 ∨ c = i2 := by simpa using hcm
        rcases e' with q | q | q | q | q
        · rw [q]; exact hzl
        · rw [q]; exact Heap.lt_size hTI
        · rw [q]; exact Heap.lt_size hTO
        · rw [q]; obtain ⟨_, e1, _⟩ := h1; exact Heap.lt_size e1
        · rw [q]; obtain ⟨_, e2, _⟩ := h2; exact Heap.lt_size e2
      rw [upd_ne (Nat.ne_of_lt hlt)]
      exact (hf c hcm).1
  done := by
    intro X hP hw hK hc i pins s σ H E I hf st hg
    subst hP hw hK
    obtain ⟨hz, hTI, ⟨x0, y0, hTO⟩, h1, h2⟩ := st
    have hend : i = min x.cps.size y.cps.size := hg
    have D1 := Draws.text (prog := X.prog) (w := X.w) (A := X.A.in1) (I.ok.hd hc) i1 x t
    have D2 := Draws.text (prog := X.prog) (w := X.w) (A := X.A.in1) (I.ok.hd hc) i2 y u
    exact wpAny_pyNext_zipD2_end D D1 D2 hz hTI hTO h1 h2 (by omega) (by omega) (by omega) fun h' tk hk => ⟨rfl, I.turnedL (t' := tk) (ch := [z, TI, TO, i1, i2]) (fun c o hb q =>
      hk c o (fun q' => hb (by simp [q'])) (fun q' => hb (by simp [q'])) (fun q' => hb (by simp [q'])) (fun q' => hb (by simp [q'])) q) hf⟩
  self := fun A i s Q E st h => wpAny_pyIter_zip st.1 h
def iZipS (ta : TA) : TI := fun σ H R => ta σ H fun vs H1 => ∃ x y, vs = [.str x, .str y] ∧ R (ItZT x y) H1
theorem pi_zipS {X : Cx} {e e2 : Expr} {ta : TA} {p pos tpos : Pos} {elts : List Expr} {kk : Nat} (hg : Gl X "zip") (hm : X.mg "zip" = none) (ha : PA X [e, e2] ta)
    (hs : starEach [e, e2] X.env = (false, eval e X.env) :: starEach [e2] X.env := by rfl) (hpl : (backTo pos (starEach [e2] X.env)).any (·.1) = false := by rfl) :
    PI X (.Tuple elts kk tpos) (.Call (.Name "zip" p) [e, e2] [] pos) (iZipS ta) := by
  refine ⟨fun pins s σ H R I h => ?_⟩
  refine Call_ (ld_blt I hg hm PyProof.Rows.boot_zip (PyProof.Rows.callWith_type1 (thn (ha.run pos pins s σ H _ I h) fun us s1 ⟨vs, H1, I1, r1, q1⟩ => ?_) hs hpl))
  obtain ⟨x, y, rfl, q⟩ := q1
  cases r1 with
  | cons r rr =>
    cases rr with
    | cons r' rr =>
      cases rr
      obtain ⟨t, rfl⟩ := r
      obtain ⟨u, rfl⟩ := r'
      refine zip_begins2 (begins_text x t) (begins_text y u) trivial trivial fun h' hz hTI hTO h1 h2 hsz hk => wpAny_pyIter_zip hz ?_
      have I2 : Inv X pins σ H1 { s1 with heap := h' } := I1.kept (t' := s1.toks) hk
      refine ⟨s1.heap.objs.size + 4, [s1.heap.objs.size + 4, s1.heap.objs.size + 2, s1.heap.objs.size + 3, s1.heap.objs.size, s1.heap.objs.size + 1], ZTst x y t u (s1.heap.objs.size + 4) (s1.heap.objs.size + 2) (s1.heap.objs.size + 3) s1.heap.objs.size (s1.heap.objs.size + 1), _, H1, rfl, I2, turn_zipS (zip_sep2 (N := s1.heap.objs.size) (fp1 := []) (fp2 := []) (fun _ h => nomatch h) (fun _ h => nomatch h)), ⟨hz, hTI, ⟨_, _, hTO⟩, ⟨_, h1, rfl, rfl⟩, ⟨_, h2, rfl, rfl⟩⟩, fun c hcm => ?_, q⟩
      have e' : c = s1.heap.objs.size + 4 ∨ c = s1.heap.objs.size + 2 ∨ c = s1.heap.objs.size + 3 ∨ c = s1.heap.objs.size ∨ c = s1.heap.objs.size + 1 := by simpa using hcm
      have hle : s1.heap.objs.size ≤ c := by
        rcases e' with z | z | z | z | z
        · rw [z]; exact Nat.le_add_right _ _
        · rw [z]; exact Nat.le_add_right _ _
        · rw [z]; exact Nat.le_add_right _ _
        · rw [z]; exact Nat.le_refl _
        · rw [z]; exact Nat.le_add_right _ _
      exact I1.fpOk hle (I1.hok.fresh hle)
section
variable [Tabl] {K : PySem.W.Frag} {Z : XZ} {δ : List Slot} {n : Sto} {aa : TA}
theorem charsD_at {z : Str} {i : Nat} {d : D} (h : (charsD z)[i]? = some d) : ∃ c, z.cps[i]? = some c ∧ d = .str (S [c]) := by
  unfold charsD at h
  rw [List.getElem?_map] at h
  obtain ⟨c, hc, rfl⟩ := Option.map_eq_some_iff.mp h
  exact ⟨c, by simpa [tl] using hc, rfl⟩
theorem gi_zipS {Ψ : List D → Sto → Prop} (h : GA K Z aa δ n fun ds n1 => ∃ x y, ds = [.str x, .str y] ∧ Ψ (zipD (charsD x) (charsD y)) n1) : GI K Z (iZipS aa) δ n Ψ := fun B M G0 H0 xw G H σ E R r =>
  h B M G0 H0 xw G H σ E _ fun vs ds G1 H1 n1 ⟨x, y, ed, f⟩ E1 s1 a1 => by
    subst ed
    cases a1 with
    | cons a b =>
      cases b with
      | cons b c =>
        cases c
        cases a
        cases b
        refine ⟨x, y, rfl, r _ _ G1 H1 n1 f E1 s1 fun G' H' s2 s3 i => ⟨fun hi => ?_, fun d hd => ?_⟩⟩
        · rw [zipD_len] at hi
          show i = min x.cps.size y.cps.size
          have e : ∀ z : Str, (charsD z).length = z.cps.size := fun z => by
            unfold charsD
            rw [List.length_map]
            exact Array.length_toList
          rw [e, e] at hi
          exact hi
        · obtain ⟨d1, d2, rfl, hx, hy⟩ := zipD_at hd
          obtain ⟨c1, h1, rfl⟩ := charsD_at hx
          obtain ⟨c2, h2, rfl⟩ := charsD_at hy
          refine ⟨⟨c1, c2, h1, h2⟩, fun v H2 yl => .inr ?_⟩
          obtain ⟨T, c', d', rfl, y1, y2, y3, y4⟩ := yl
          obtain rfl : c1 = c' := Option.some.inj (h1.symm.trans y3)
          obtain rfl : c2 = d' := Option.some.inj (h2.symm.trans y4)
          have sn := Sub.new (o := .tup [.str (S [c1]), .str (S [c2])]) (s3.none y1)
          exact ⟨T, _, y1, y2, (fun _ z => nomatch z), .tup (SqT.of upd_same) (.cons (.str _) (.cons (.str _) .nil))⟩
end
end Tl

namespace Tl
open PySem PySem.Spec PyProof.Rows L2 TL LamX
/-! ### a dict of the store with dicts of the store within: what it is once all are locked -/
inductive Ent (n : Sto) : List Addr → List (Key × D) → List (Key × D) → Prop
  | nil : Ent n [] [] []
  | ptr {k : Key} {q : Addr} {fs : List (Key × D)} {qs : List Addr} {es es' : List (Key × D)} (h : n.μ q = some (.dic fs)) (r : Ent n qs es es') : Ent n (q :: qs) ((k, .ptr q) :: es) ((k, .dct fs) :: es')
  | val {k : Key} {d : D} {qs : List Addr} {es es' : List (Key × D)} (r : Ent n qs es es') : Ent n qs ((k, d) :: es) ((k, d) :: es')
theorem Ent.keep {n n' : Sto} {qs : List Addr} {es es' : List (Key × D)} (h : Ent n qs es es') (k : ∀ q ∈ qs, n'.μ q = n.μ q) : Ent n' qs es es' := by
  induction h with
  | nil => exact .nil
  | ptr h _ ih => exact .ptr ((k _ List.mem_cons_self).trans h) (ih fun q hq => k q (List.mem_cons_of_mem _ hq))
  | val _ ih => exact .val (ih k)
theorem Ent.snoc {n : Sto} {qs : List Addr} {es es' : List (Key × D)} {k : Key} {d : D} (h : Ent n qs es es') : Ent n qs (es ++ [(k, d)]) (es' ++ [(k, d)]) := by
  induction h with
  | nil => exact .val .nil
  | ptr h _ ih => exact .ptr h ih
  | val _ ih => exact .val ih
theorem Ent.keys {n : Sto} {qs : List Addr} {es es' : List (Key × D)} (h : Ent n qs es es') : es.map Prod.fst = es'.map Prod.fst := by
  induction h with
  | nil => rfl
  | ptr _ _ ih => rw [List.map_cons, List.map_cons, ih]
  | val _ ih => rw [List.map_cons, List.map_cons, ih]
theorem Ent.len {n : Sto} {qs : List Addr} {es es' : List (Key × D)} (h : Ent n qs es es') : es.length = es'.length := by
  have := congrArg List.length h.keys
  rwa [List.length_map, List.length_map] at this
theorem Ent.rep {n : Sto} {qs : List Addr} {es es' : List (Key × D)} {k : Key} {d : D} (h : Ent n qs es es') : ∃ rs, rs.Sublist qs ∧ Ent n rs (es.map fun kv => if kv.1 = k then (kv.1, d) else kv) (es'.map fun kv => if kv.1 = k then (kv.1, d) else kv) := by
  induction h with
  | nil => exact ⟨[], .slnil, .nil⟩
  | @ptr k0 q fs qs es es' h _ ih =>
    obtain ⟨rs, s, e⟩ := ih
    rw [List.map_cons, List.map_cons]
    by_cases z : k0 = k
    · exact ⟨rs, s.cons _, by rw [if_pos z, if_pos z]; exact .val e⟩
    · exact ⟨q :: rs, s.cons_cons _, by rw [if_neg z, if_neg z]; exact .ptr h e⟩
  | @val k0 d0 qs es es' _ ih =>
    obtain ⟨rs, s, e⟩ := ih
    rw [List.map_cons, List.map_cons]
    by_cases z : k0 = k
    · exact ⟨rs, s, by rw [if_pos z]; exact .val e⟩
    · exact ⟨rs, s, by rw [if_neg z]; exact .val e⟩
theorem any_keys {es : List (Key × D)} {k : Key} : (es.any fun kv => decide (kv.1 = k)) = (es.map Prod.fst).any fun x => decide (x = k) := by
  rw [List.any_map]
  rfl
theorem Ent.put {n : Sto} {qs : List Addr} {es es' : List (Key × D)} {k : Key} {d : D} (h : Ent n qs es es') : ∃ rs, rs.Sublist qs ∧ Ent n rs (putD es k d) (putD es' k d) := by
  unfold putD
  rw [any_keys, any_keys, h.keys]
  split
  · exact h.rep
  · exact ⟨qs, .refl _, h.snoc⟩
theorem putD_ok {es : List (Key × D)} {k : Key} {d : D} (nd : (es.map Prod.fst).Nodup) : ((putD es k d).map Prod.fst).Nodup ∧ (putD es k d).length ≤ es.length + 1 ∧ ∀ kv ∈ putD es k d, kv ∈ es ∨ kv = (k, d) := by
  unfold putD
  split
  · refine ⟨?_, ?_, fun kv hkv => ?_⟩
    · rw [List.map_map, show (Prod.fst ∘ fun kv : Key × D => if kv.1 = k then (kv.1, d) else kv) = Prod.fst from funext fun kv => by
        show (if kv.1 = k then (kv.1, d) else kv).1 = kv.1
        split <;> rfl]
      exact nd
    · rw [List.length_map]
      omega
    · obtain ⟨kw, hw, rfl⟩ := List.mem_map.mp hkv
      by_cases z : kw.1 = k
      · rw [if_pos z, z]
        exact .inr rfl
      · rw [if_neg z]
        exact .inl hw
  · rename_i na
    refine ⟨?_, by rw [List.length_append]; simp, fun kv hkv => ?_⟩
    · rw [List.map_append, List.nodup_append]
      refine ⟨nd, by simp, fun a ha b hb => ?_⟩
      have : b = k := by simpa using hb
      subst this
      intro z
      subst z
      refine na ?_
      rw [any_keys, List.any_eq_true]
      exact ⟨a, ha, by simp⟩
    · rcases List.mem_append.mp hkv with hkv | hkv
      · exact .inl hkv
      · exact .inr (by simpa using hkv)
theorem Ent.setQ {n n' : Sto} {qs : List Addr} {es es' : List (Key × D)} {q : Addr} {fs : List (Key × D)} (h : Ent n qs es es') (hq : n'.μ q = some (.dic fs)) (hk : ∀ a ∈ qs, a ≠ q → n'.μ a = n.μ a) : ∃ es2, Ent n' qs es es2 ∧ es2.map Prod.fst = es'.map Prod.fst ∧ ∀ kv ∈ es2, kv ∈ es' ∨ kv.2 = .dct fs ∧ kv.1 ∈ es'.map Prod.fst := by
  induction h with
  | nil => exact ⟨[], .nil, rfl, fun _ h => nomatch h⟩
  | @ptr k0 q0 fs0 qs es es' h _ ih =>
    obtain ⟨es2, e, k2, m⟩ := ih fun a ha => hk a (List.mem_cons_of_mem _ ha)
    by_cases z : q0 = q
    · subst z
      refine ⟨(k0, .dct fs) :: es2, .ptr hq e, by rw [List.map_cons, List.map_cons, k2], fun kv hkv => ?_⟩
      rcases List.mem_cons.mp hkv with rfl | hkv
      · exact .inr ⟨rfl, List.mem_cons_self⟩
      · rcases m kv hkv with m | ⟨m1, m2⟩
        · exact .inl (List.mem_cons_of_mem _ m)
        · exact .inr ⟨m1, List.mem_cons_of_mem _ m2⟩
    · refine ⟨(k0, .dct fs0) :: es2, .ptr ((hk q0 List.mem_cons_self z).trans h) e, by rw [List.map_cons, List.map_cons, k2], fun kv hkv => ?_⟩
      rcases List.mem_cons.mp hkv with rfl | hkv
      · exact .inl List.mem_cons_self
      · rcases m kv hkv with m | ⟨m1, m2⟩
        · exact .inl (List.mem_cons_of_mem _ m)
        · exact .inr ⟨m1, List.mem_cons_of_mem _ m2⟩
  | @val k0 d0 qs es es' _ ih =>
    obtain ⟨es2, e, k2, m⟩ := ih hk
    refine ⟨(k0, d0) :: es2, .val e, by rw [List.map_cons, List.map_cons, k2], fun kv hkv => ?_⟩
    rcases List.mem_cons.mp hkv with rfl | hkv
    · exact .inl List.mem_cons_self
    · rcases m kv hkv with m | ⟨m1, m2⟩
      · exact .inl (List.mem_cons_of_mem _ m)
      · exact .inr ⟨m1, List.mem_cons_of_mem _ m2⟩
theorem Ent.rws {n : Sto} {qs : List Addr} {c : Cont} (h : Rws n qs c) : Ent n qs (ptE qs c) (cntE c) := by
  induction h with
  | nil => exact .nil
  | cons h _ ih => exact .ptr h ih
section
variable [Tabl] {K : PySem.W.Frag} {Z : XZ} {B : Option Addr} {δ : List Slot} {n : Sto} {N Bk Ct : List Slot → Sto → Prop} {R : D → Sto → Prop} {ts : TS}
theorem gs_lockE {p : Addr} {r : List Addr} : ∀ {es : List (Key × D)} {qs : List Addr} {es' pre : List (Key × D)} {n : Sto}, n.μ p = some (.dic (pre ++ es)) → Ent n qs es es' → (p :: qs).Nodup → GS K Z B (lkS r ts) δ ((⟨n.n, m00⟩ : Sto).put p (.dic (pre ++ es'))) N R Bk Ct → GS K Z B (lkS (qs ++ r) ts) δ n N R Bk Ct
  | [], _, _, pre, n, hp, .nil, _, h => by
    refine gs_sub (n' := (⟨n.n, m00⟩ : Sto).put p (.dic (pre ++ []))) rfl (fun a o ha => ?_) h
    by_cases e : a = p
    · subst e
      rw [Sto.put_same] at ha
      cases ha
      exact hp
    · rw [Sto.put_ne e] at ha
      cases ha
  | e :: es, _, _, pre, n, hp, hE, nd, h => by
    cases hE with
    | @val k d _ _ es' hr =>
      refine gs_lockE (pre := pre ++ [(k, d)]) (es := es) (es' := es') (by rw [List.append_assoc]; exact hp) hr nd ?_
      rw [List.append_assoc]
      exact h
    | @ptr k q fs qs _ es' hq hr =>
      have nd' := nd
      rw [List.nodup_cons, List.nodup_cons, List.mem_cons, not_or] at nd'
      obtain ⟨⟨n1, n2⟩, n3, n4⟩ := nd'
      refine gs_lk1 hq δ ((n.off q).put p (.dic ((pre ++ [(k, .dct fs)]) ++ es))) rfl (fun i s h => ⟨s, h, .inl rfl⟩) rfl (fun a o' ha => ?_) ?_
      · by_cases e : a = p
        · subst e
          rw [Sto.put_same] at ha
          cases ha
          refine ⟨n1, _, hp, .inr ⟨_, _, rfl, rfl, ?_⟩⟩
          rw [List.append_assoc]
          exact (UpKv.refl _).app (.cons (.inr ⟨rfl, rfl⟩) (UpKv.refl _))
        · rw [Sto.put_ne e] at ha
          have ne : a ≠ q := fun z => by rw [z, Sto.off_same] at ha; cases ha
          rw [Sto.off_ne ne] at ha
          exact ⟨ne, o', ha, .inl rfl⟩
      · have hk : ∀ x ∈ qs, ((n.off q).put p (.dic ((pre ++ [(k, .dct fs)]) ++ es))).μ x = n.μ x := fun x hx => by
          have e1 : x ≠ p := fun z => n2 (z ▸ hx)
          have e2 : x ≠ q := fun z => n3 (z ▸ hx)
          rw [Sto.put_ne e1, Sto.off_ne e2]
        refine gs_lockE Sto.put_same (hr.keep hk) (List.nodup_cons.mpr ⟨n2, n4⟩) ?_
        have e : (pre ++ [(k, D.dct fs)]) ++ es' = pre ++ ((k, .dct fs) :: es') := by simp
        rw [e]
        exact h
theorem gs_lockRetE {p : Addr} {qs : List Addr} {es es' : List (Key × D)} {i : Nat} (hi : δ[i]? = some (.d (.ptr p))) (hp : n.μ p = some (.dic es)) (hr : Ent n qs es es') (nd : (p :: qs).Nodup) (k : R (.dct es') ⟨n.n, m00⟩) : GS K Z B (tLockS (tRet (tVar i))) δ n N R Bk Ct := by
  refine gs_lockS (qs ++ [p]) (gs_lockE (pre := []) hp hr nd ?_)
  have hil : i < δ.length := (List.getElem?_eq_some_iff.mp hi).1
  refine gs_lk1 (r := []) Sto.put_same (δ.set i (.d (.dct es'))) ⟨n.n, m00⟩ (by rw [List.length_set]) (fun j s' hs => ?_) rfl (fun a o' ha => by cases ha) ?_
  · by_cases e : i = j
    · subst e
      rw [List.getElem?_set_self hil] at hs
      cases hs
      exact ⟨_, hi, .inr ⟨_, _, rfl, rfl, .inr ⟨rfl, rfl⟩⟩⟩
    · rw [List.getElem?_set_ne e] at hs
      exact ⟨s', hs, .inl rfl⟩
  · exact gs_ret (gk_var (List.getElem?_set_self hil) k)
end
end Tl

namespace Tl
open PySem PySem.Spec PyProof.Rows L2 TL LamX
/-! ### set comprehensions whose members are texts, of one clause or of two; list comprehensions of two clauses over data -/
/-- what a turn of a clause leaves: nothing known off its own names is lost -/
def KeepB (vs : List Nat) (σ σ' : L2.St) : Prop := σ'.length = σ.length ∧ ∀ (j : Nat) (v : V), (L2.wipe σ vs)[j]? = some (some v) → σ'[j]? = some (some v)
/-- a clause's body: D the thing that grows, Nx what a turn is to reach -/
abbrev TBd := Addr → L2.St → Hp → (Hp → Prop) → Prop
section
variable {X : Cx}
theorem addTx_ok {pins : List (Addr × Obj)} {σ : L2.St} {H : Hp} {s : Shared} {E : Value → Shared → Prop} {D : Addr} {ys : List Str} {y : Str} {tk : Tok} {Q : Value → Shared → Prop} (I : Inv X pins σ H s) (hD : H D = some (TxO X.w D ys)) (room : ys.length + 1 < scanBound)
    (h : ∀ s', Inv X pins σ (upd H D (TxO X.w D (ys ++ [y]))) s' → Q .none s') : wpAny (model X.prog X.w) X.A (call (.builtin "set.add") [.ref D, .str y tk]) Q E s := by
  have R : TxSet X.w s.heap D ys := (I.hok D _ hD).1
  have hT : s.TypeIs (.ref D) "set" := by
    obtain ⟨ob, _, _, _, ho, hex, _⟩ := R
    exact ⟨ob, ho, hex.1⟩
  refine wpAny_call_entry F.slot_set_add hT F.entry_set_add ?_ (F.args_set_add_2 _ _)
  unfold Builtin.«set.add» Builtin.Frozenset.oneOther
  simp only [List.isEmpty_nil, bind_assoc]
  unfold Builtin.Frozenset.addrOf setAdd
  refine wpAny_bind (wpAny_pure ?_)
  try dsimp only
  refine wpAny_bind (wpAny_pure ?_)
  try dsimp only
  refine wpAny_bind (wpAny_holding (wpAny_bind ((PySem.strKind X.prog X.w).pyHash (k := y) (strKind_is _ _ _ _) ?_)))
  refine tx_add (s := { s with toks := s.toks + 1 }) R room fun b h' sb new => ?_
  have he : ∃ u, h'.get? D = some u := by
    obtain ⟨ob, _, _, _, ho, _⟩ := new
    exact ⟨ob, ho⟩
  show wpAny _ _ (ret Value.none) _ _ _
  exact wpAny_pure ⟨_, rfl, h _ (I.write (e := D) (t' := s.toks + 1) (by rw [hD]; trivial) (.inl rfl) (fun b u hb hu => (sb.2 b hb).trans hu) he (txO_new new))⟩
theorem thnX {α : Type} {t : Sem α} {Q Q' : α → Shared → Prop} {M : Model} {A : Around} {E E' : Value → Shared → Prop} {s : Shared} (hx : ∀ v s, E v s → False) (h : wpAny M A t Q E s) (hQ : ∀ a s, Q a s → Q' a s) : wpAny M A t Q' E' s := wpAny_mono h hQ fun v s z => (hx v s z).elim
/-- the turn of a clause, in one form -/
abbrev turnOf (p : Pos) (tg : Expr) (ifs : List Expr) (body : Sem Unit) (e : Expr) (k : Nat) (it acc : Value) (env : Env) : Sem Fin := do
  standAt p
  match ← pyNext it with
  | none => pure (.done .next)
  | some v =>
    letOwnedTupleGo tg it v
    assign tg env v
    let mut ok := true
    for c in ifs do
      if ok then ok ← isTrue c env (eval c env)
    if ok then
      body
    again (.compLoop e k it acc env)
/-- a clause's loop -/
theorem cl_core {pins : List (Addr × Obj)} {σ : L2.St} {e : Expr} {k : Nat} {tg : Expr} {ifs : List Expr} {it : Addr} {fp : List Addr} {tn : Nat → Heap → Prop} {J : It} {acc : Value} {p : Pos} {body : Sem Unit} {g : TG} {tt : TT} {vs : List Nat} {tb : L2.St → Hp → (Hp → Prop) → Prop}
    {R : Result → Shared → Prop} {s : Shared} {H : Hp} {Qd : Hp → Prop} {W : Nat → Nat → Hp → Prop} {m0 : Nat} (hc : X.calm = true) (hx : ∀ v s, X.xe v s → False) (hu : X.A.under (.compLoop e k (.ref it) acc X.env) = X.A) (hd : (model X.prog X.w).den (.compLoop e k (.ref it) acc X.env) = (compTurn e k (.ref it) acc X.env).onRaise (fun x => do noteFrame x X.env; theTreesLotGoes x)) (heq : compTurn e k (.ref it) acc X.env = turnOf p tg ifs body e k (.ref it) acc X.env)
    (T : Turn X.prog X.w X.K tg J fp it tn) (pg : PG X tg g) (pt : PTs X ifs tt) (hfp : ∀ H', (∀ b ∈ fp, H' b = none) → ∀ b ∈ fp, FpOk X pins H' b)
    (hb : ∀ pins s σ H Nx, Inv X pins σ H s → tb σ H Nx → wpAny (model X.prog X.w) X.A body (fun _ s' => ∃ σ' H', Inv X pins σ' H' s' ∧ KeepB vs σ σ' ∧ Nx H') (fun _ _ => False) s)
    (turn : ∀ i m H, W i m H → (J.stop i H ∧ Qd H) ∨ (J.go i H ∧ ∃ Nx : Hp → Prop, (∀ H', Nx H' → ∃ m', m' < m ∧ W (i + 1) m' H') ∧ ∀ x H', J.yld i H x H' → g x (L2.wipe σ vs) H' fun σ2 H2 => L2.wipe σ2 vs = L2.wipe σ vs ∧ tt σ2 H2 fun b H3 => if b = true then tb σ2 H3 Nx else Nx H3))
    (hR : ∀ H' s', Inv X pins (L2.wipe σ vs) H' s' → Qd H' → R (.ok .next) s') (I : Inv X pins (L2.wipe σ vs) H s) (st : tn 0 s.heap) (hn : ∀ b ∈ fp, H b = none) (w0 : W 0 m0 H) :
    codeAny (model X.prog X.w) X.A (.compLoop e k (.ref it) acc X.env) R s := by
  refine codeAny_loop rfl (fun n s' => ∃ i H', Inv X pins (L2.wipe σ vs) H' s' ∧ tn i s'.heap ∧ (∀ b ∈ fp, H' b = none) ∧ W i n H') (fun n s1 hI => ?_) m0 ⟨0, H, I, st, hn, w0⟩
  obtain ⟨i, H1, I1, st1, n1, w1⟩ := hI
  rw [hu, hd]
  refine wpAny_noted ?_
  rw [heq]
  refine wpAny_bind (wpAny_standAt (wpAny_bind ?_))
  rcases turn i n H1 w1 with ⟨stop, qq⟩ | ⟨go, Nx, hNx, step⟩
  · refine thnF (T.done X rfl rfl rfl hc i pins s1 _ H1 (fun _ _ => False) I1 (hfp H1 n1) st1 stop) fun r s2 ⟨hr, I2⟩ => ?_
    subst hr
    exact wpAny_pure (hR H1 s2 I2 qq)
  · refine thnF (T.item X rfl rfl rfl hc i pins s1 _ H1 (fun _ _ => False) I1 (hfp H1 n1) st1 go) fun r s2 ⟨u, hr, h2⟩ => ?_
    subst hr
    refine wpAny_bind (thnF h2 fun _ s3 ⟨x, H3, I3, r3, y3, st3, n3⟩ => ?_)
    have I3' := I3.pinned (hfp H3 n3) (T.obj _ _ st3)
    refine wpAny_bind (thnX hx (pg.run _ s3 _ H3 x u _ I3' r3 (step x H3 y3)) fun _ s4 ⟨σ4, H4, I4, hw4, q4⟩ => ?_)
    refine wpAny_bind (thnX hx (pt.run _ s4 σ4 H4 _ I4 q4) fun b s5 ⟨H5, I5, q5⟩ => ?_)
    have fin : ∀ {s' : Shared} {σ' : L2.St} {H' : Hp}, Inv X (pins ++ pinsAt fp s3.heap) σ' H' s' → KeepB vs σ4 σ' → Nx H' → ∃ m, m < n ∧ ∃ i H', Inv X pins (L2.wipe σ vs) H' s' ∧ tn i s'.heap ∧ (∀ b ∈ fp, H' b = none) ∧ W i m H' := fun {s' σ' H'} I' kb nx => by
      obtain ⟨m', hm, w'⟩ := hNx H' nx
      have pin' : ∀ b ∈ fp, ∀ o, s3.heap.get? b = some o → s'.heap.get? b = some o ∧ H' b = none := fun b hb o e =>
        let z := I'.pin (b, o) (List.mem_append_right _ (List.mem_append_right _ (mem_pinsAt hb e)))
        ⟨z.1, z.2.1⟩
      refine ⟨m', hm, i + 1, H', I'.unpinned.weak ?_ (fun j v e => kb.2 j v (by rw [hw4]; exact e)), T.keep _ _ _ st3 fun b hb o e => (pin' b hb o e).1, fun b hb => ?_, w'⟩
      · rw [kb.1, ← hw4, wipe_length]
      · obtain ⟨o, e, _⟩ := T.obj _ _ st3 b hb
        exact (pin' b hb o e).2
    have kr : KeepB vs σ4 σ4 := ⟨rfl, fun j v e => (wipe_some e).1⟩
    cases b with
    | false =>
      simp only [Bool.false_eq_true, if_false] at q5 ⊢
      exact wpAny_pure ⟨rfl, fin I5 kr q5⟩
    | true =>
      simp only [if_true] at q5 ⊢
      exact wpAny_bind (thnF (hb _ s5 σ4 H5 Nx I5 q5) fun _ s6 ⟨σ6, H6, I6, k6, nx⟩ => wpAny_pure ⟨rfl, fin I6 k6 nx⟩)
/-- the last clause's body: a text into the set -/
def tbOne (w : World) (te : TE) : TBd := fun D σ H Nx => te σ H fun y H1 => ∃ (z : Str) (ys : List Str), y = V.str z ∧ H1 D = some (TxO w D ys) ∧ ys.length + 1 < scanBound ∧ Nx (upd H1 D (TxO w D (ys ++ [z])))
/-- a further clause within -/
def tbTwo (wi : TI) (g : TG) (tt : TT) (tb : TBd) (vs : List Nat) : TBd := fun D σ H Nx => wi σ H fun J H1 => ∃ W : Nat → Nat → Hp → Prop, (∃ m, W 0 m H1) ∧ ∀ i m H, W i m H → (J.stop i H ∧ Nx H) ∨ (J.go i H ∧ ∃ Ny : Hp → Prop, (∀ H', Ny H' → ∃ m', m' < m ∧ W (i + 1) m' H') ∧ ∀ x H', J.yld i H x H' →
  g x (L2.wipe σ vs) H' fun σ2 H2 => L2.wipe σ2 vs = L2.wipe σ vs ∧ tt σ2 H2 fun b H3 => if b = true then tb D σ2 H3 Ny else Ny H3)
/-- {.. for tg in iter if .. ..}: D the new set -/
def tSx (w : World) (wi : TI) (g : TG) (tt : TT) (tb : TBd) (vs : List Nat) : TE := fun σ H Q => wi σ H fun J H1 => ∀ D, H1 D = none → ∃ W : Nat → Nat → Hp → Prop, (∃ m, W 0 m (upd H1 D (TxO w D []))) ∧ ∀ i m H, W i m H → (J.stop i H ∧ Q (.ref D) H) ∨ (J.go i H ∧ ∃ Nx : Hp → Prop, (∀ H', Nx H' → ∃ m', m' < m ∧ W (i + 1) m' H') ∧ ∀ x H', J.yld i H x H' →
  g x (L2.wipe σ vs) H' fun σ2 H2 => L2.wipe σ2 vs = L2.wipe σ vs ∧ tt σ2 H2 fun b H3 => if b = true then tb D σ2 H3 Nx else Nx H3)
abbrev bodyOne (elt : Expr) (acc : Value) (env : Env) : Sem Unit := do
  let v ← eval elt env
  standAt elt.pos
  let _ ← call (.builtin "set.add") [acc, v]
abbrev bodyTwo (e i1 : Expr) (acc : Value) (env : Env) : Sem Unit := do
  let x ← eval i1 env
  standAt i1.pos
  let x ← foldedSetIterable i1 env x
  let _ ← runOwn (.compStart e 1 (← holding [x] (pyIter x)) acc env) env
theorem turn_two {elt t0 i0 t1 i1 : Expr} {ifs0 ifs1 : List Expr} {scope : Scope} {pos : Pos} {it acc : Value} {env : Env} : compTurn (.SetComp elt [⟨t0, i0, ifs0, 0⟩, ⟨t1, i1, ifs1, 0⟩] scope pos) 0 it acc env = turnOf i0.pos t0 ifs0 (bodyTwo (.SetComp elt [⟨t0, i0, ifs0, 0⟩, ⟨t1, i1, ifs1, 0⟩] scope pos) i1 acc env) (.SetComp elt [⟨t0, i0, ifs0, 0⟩, ⟨t1, i1, ifs1, 0⟩] scope pos) 0 it acc env := by
  have e : compTurn (.SetComp elt [⟨t0, i0, ifs0, 0⟩, ⟨t1, i1, ifs1, 0⟩] scope pos) 0 it acc env = (do
      standAt i0.pos
      match ← pyNext it with
      | none => pure (.done .next)
      | some v =>
        letOwnedTupleGo t0 it v
        assign t0 env v
        let mut ok := true
        for c in ifs0 do
          if ok then ok ← isTrue c env (eval c env)
        if ok then
          let x ← eval i1 env
          standAt i1.pos
          let x ← foldedSetIterable i1 env x
          let _ ← runOwn (.compStart (.SetComp elt [⟨t0, i0, ifs0, 0⟩, ⟨t1, i1, ifs1, 0⟩] scope pos) 1 (← holding [x] (pyIter x)) acc env) env
        again (.compLoop (.SetComp elt [⟨t0, i0, ifs0, 0⟩, ⟨t1, i1, ifs1, 0⟩] scope pos) 0 it acc env)) := rfl
  rw [e]
  unfold turnOf bodyTwo
  simp only [bind_assoc, pure_bind]
theorem bd_one {pins : List (Addr × Obj)} {σ : L2.St} {H : Hp} {s : Shared} {D : Addr} {elt : Expr} {te : TE} {vs : List Nat} {Nx : Hp → Prop} (hx : ∀ v s, X.xe v s → False) (pe : PE X elt te) (I : Inv X pins σ H s) (h : tbOne X.w te D σ H Nx) :
    wpAny (model X.prog X.w) X.A (bodyOne elt (.ref D) X.env) (fun _ s' => ∃ σ' H', Inv X pins σ' H' s' ∧ KeepB vs σ σ' ∧ Nx H') (fun _ _ => False) s := by
  refine wpAny_bind (thnX hx (pe.run pins s σ H _ I h) fun z s1 ⟨yv, H1, I1, r1, z0, ys, ey, hD, room, nx⟩ => ?_)
  subst ey
  obtain ⟨tk, rfl⟩ := (show ∃ t, z = Value.str z0 t from r1)
  refine wpAny_bind (wpAny_standAt (wpAny_bind (addTx_ok I1 hD room fun s2 I2 => wpAny_pure ⟨σ, _, I2, ⟨rfl, fun j v e => (wipe_some e).1⟩, nx⟩)))
/-- the second clause's start -/
theorem start_two {elt : Expr} {g0 : Comprehension} {t1 i1 : Expr} {ifs1 : List Expr} {scope : Scope} {pos : Pos} {it acc : Value} {env : Env} {prog : Program} {w : World} {A : Around} {R : Result → Shared → Prop} {s : Shared}
    (h0 : codeAny (model prog w) A (.compLoop (.SetComp elt [g0, ⟨t1, i1, ifs1, 0⟩] scope pos) 1 it acc env) R s)
    (h : wpAny (model prog w) A (pyIter it) (fun it' s' => codeAny (model prog w) A (.compLoop (.SetComp elt [g0, ⟨t1, i1, ifs1, 0⟩] scope pos) 1 it' acc env) R s') (notedBy (model prog w) A env fun x s' => R (.error x) s') s) :
    codeAny (model prog w) A (.compStart (.SetComp elt [g0, ⟨t1, i1, ifs1, 0⟩] scope pos) 1 it acc env) R s := by
  refine codeAny_of_tree ?_
  show wpAny _ _ ((compStart (.SetComp elt [g0, ⟨t1, i1, ifs1, 0⟩] scope pos) 1 it acc env).onRaise (fun x => do noteFrame x env; standAt theWindowsPlace)) _ _ s
  refine wpAny_notedAt ?_
  unfold compStart
  show wpAny _ _ (ask >>= _) _ _ s
  refine wpAny_bind (wpAny_askSetting (wpAny_ite ?_))
  split
  · first
      | exact wpAny_bind (wpAny_pure (wpAny_pure (And.intro rfl h0)))
      | exact wpAny_pure (And.intro rfl h0)
  · have more := wpAny_mono h (fun it' s' h' => wpAny_pure (M := model prog w) (A := A) (E := notedBy (model prog w) A env fun x s' => R (.error x) s') (a := Fin.again (.compLoop (.SetComp elt [g0, ⟨t1, i1, ifs1, 0⟩] scope pos) 1 it' acc env)) (Q := fun fin s' => match fin with | .done f => R (.ok f) s' | .again c' => c'.quiet = true ∧ codeAny (model prog w) A c' R s') (And.intro rfl h')) fun _ _ x => x
    first
      | exact wpAny_bind (wpAny_rule (wpAny_bind (wpAny_standAt (wpAny_bind more))))
      | (refine wpAny_bind (wpAny_rule ?_); show wpAny _ _ (standAt i1.pos >>= _) _ _ s; exact wpAny_bind (wpAny_standAt (wpAny_bind more)))
theorem bd_two {pins : List (Addr × Obj)} {σ : L2.St} {H : Hp} {s : Shared} {D : Addr} {elt t1 i1 : Expr} {g0 : Comprehension} {ifs1 : List Expr} {scope : Scope} {pos : Pos} {wi : TI} {g : TG} {tt : TT} {te : TE} {vs vs1 : List Nat} {Nx : Hp → Prop} (hc : X.calm = true) (hx : ∀ v s, X.xe v s → False) (hs : ∀ x, foldedSetIterable i1 X.env x = pure x)
    (hv : ∀ i ∈ vs1, i ∈ vs) (hi : PI X t1 i1 wi) (pg : PG X t1 g) (pt : PTs X ifs1 tt) (pe : PE X elt te) (I : Inv X pins σ H s) (h : tbTwo wi g tt (tbOne X.w te) vs1 D σ H Nx) :
    wpAny (model X.prog X.w) X.A (bodyTwo (.SetComp elt [g0, ⟨t1, i1, ifs1, 0⟩] scope pos) i1 (.ref D) X.env) (fun _ s' => ∃ σ' H', Inv X pins σ' H' s' ∧ KeepB vs σ σ' ∧ Nx H') (fun _ _ => False) s := by
  refine wpAny_bind (thnX hx (hi.run pins s σ H _ I h) fun xv s1 h1 => ?_)
  refine wpAny_bind (wpAny_standAt (wpAny_bind (wpAny_of_eq (hs xv) (wpAny_bind (wpAny_holding (thnX hx h1 fun itv s2 h2 => ?_))))))
  obtain ⟨it1, fp1, tn1, J1, H2, e1, I2, T1, st2, f2, W, ⟨m, w0⟩, turn⟩ := h2
  subst e1
  refine wpAny_bind (wpAny_runOwn ?_)
  rw [Around.mark_none]
  have kb : KeepB vs σ (L2.wipe σ vs1) := ⟨wipe_length _ _, fun j v e => by
    obtain ⟨e1, e2⟩ := wipe_some e
    rw [wipe_out fun z => e2 (hv j z)]
    exact e1⟩
  have loop : codeAny (model X.prog X.w) X.A (.compLoop (.SetComp elt [g0, ⟨t1, i1, ifs1, 0⟩] scope pos) 1 (.ref it1) (.ref D) X.env) (fun r s' => match r with
      | .ok _ => ∃ σ' H', Inv X pins σ' H' s' ∧ KeepB vs σ σ' ∧ Nx H'
      | .error _ => False) s2 :=
    cl_core (p := i1.pos) (body := bodyOne elt (.ref D) X.env) (vs := vs1) (tb := tbOne X.w te D) (σ := σ) (Qd := Nx) (W := W) (m0 := m) hc hx rfl rfl rfl T1 pg pt (fun H' hn b hb => ⟨hn b hb, (f2 b hb).2⟩) (fun pins s σ H Ny I h => bd_one hx pe I h) turn
      (fun H' s' I' nx => ⟨_, H', I', kb, nx⟩) (I2.weak (wipe_length _ _) fun j v e => (wipe_some e).1) st2 (fun b hb => (f2 b hb).1) w0
  refine codeAny_mono (start_two loop (T1.self X.A 0 _ _ _ st2 loop)) fun r s' hr => ?_
  cases r with
  | ok f => first | exact wpAny_pure hr | exact wpAny_bind (wpAny_pure (wpAny_pure hr))
  | error e => exact hr.elim
/-- the block: its iterator, its new set, its first clause's loop -/
theorem sx_core {pins : List (Addr × Obj)} {s : Shared} {σ : L2.St} {H : Hp} {Q : VK} {elt tg iter : Expr} {ifs : List Expr} {rest : List Comprehension} {scope : Scope} {own : List (Str × Nat)} {pos pos' : Pos} {wi : TI} {g : TG} {tt : TT} {tb : TBd} {use : Option (Value → Sem Unit)} {Qf : Value → Shared → Prop}
    {body : Value → Env → Sem Unit} (hc : X.calm = true) (hN : X.N.Nodup) (I : Inv X pins σ H s) (hi : PI X tg iter wi) (ok : BlkOk X.N X.env.scope scope own)
    (heq : ∀ (it acc : Value) (env : Env), compTurn (.SetComp elt (⟨tg, iter, ifs, 0⟩ :: rest) scope pos) 0 it acc env = turnOf iter.pos tg ifs (body acc env) (.SetComp elt (⟨tg, iter, ifs, 0⟩ :: rest) scope pos) 0 it acc env)
    (hg : ∀ (s : Shared) (H : Hp) (C : Addr) (cl : List (Str × Addr)) (fp : List Addr), PG (X.blk s H scope (compEnvC scope cl C X.env) fp) tg g) (ht : ∀ (s : Shared) (H : Hp) (C : Addr) (cl : List (Str × Addr)) (fp : List Addr), PTs (X.blk s H scope (compEnvC scope cl C X.env) fp) ifs tt)
    (hb : ∀ (s0 : Shared) (H0 : Hp) (C : Addr) (cl : List (Str × Addr)) (fp : List Addr) (D : Addr) pins s σ H Nx, Inv (X.blk s0 H0 scope (compEnvC scope cl C X.env) fp) pins σ H s → tb D σ H Nx →
      wpAny (model X.prog X.w) X.A (body (.ref D) (compEnvC scope cl C X.env)) (fun _ s' => ∃ σ' H', Inv (X.blk s0 H0 scope (compEnvC scope cl C X.env) fp) pins σ' H' s' ∧ KeepB (own.map (·.2)) σ σ' ∧ Nx H') (fun _ _ => False) s)
    (hs : ∀ x, foldedSetIterable iter X.env x = pure x) (h : tSx X.w wi g tt tb (own.map (·.2)) σ H Q)
    (hRR : ∀ D C s' m H', Inv X pins σ H' s' → Q (.ref D) H' → s'.heap.Ns C m → FpOk X pins H' C → compPost (model X.prog X.w) X.A X.xe use Qf (.ref D) C (.ok .next) s') :
    wpAny (model X.prog X.w) X.A (comprehension (.SetComp elt (⟨tg, iter, ifs, 0⟩ :: rest) scope pos) scope X.env pos' (PySem.newSet (.type "set")) false (eval iter X.env) use) Qf X.xe s := by
  have hfree : ∀ y ∈ scope.names, y.2 = .free → ∃ c, X.env.cells.lookup y.1 = some c := fun y hy e => (ok.free y hy e).elim (fun k => I.ok.has _ (.inl k)) fun k => I.ok.has _ (.inr k)
  refine wpAny_comprehension_free (use := use) rfl hs (closure_ok hfree) ok.kind (fun y hy e => by rw [ok.uniq y hy, e]) (thn (hi.run pins s σ H _ I h) fun xv s1 hx => thn hx fun itv s2 h2 => ?_)
  obtain ⟨it, fp, tn, J, H2, e, I2, T, st2, f2, q⟩ := h2
  subst e
  refine PpSet.newSet_ok (newEnv_comp ?_)
  obtain ⟨W, ⟨m0, w0⟩, turn⟩ := q s2.heap.objs.size (I2.hok.fresh (Nat.le_refl _))
  generalize hD : s2.heap.objs.size = D at w0 turn
  generalize ho : ({ cls := .type "set", dict := none, data := .set #[] 0 (.fresh 0 0 (!X.w.params.followText "set-order")) } : Obj) = ob
  generalize hH3 : upd H2 D (TxO X.w D []) = H3 at w0
  generalize hs3 : ({ s2 with heap := s2.heap.push ob } : Shared) = s3
  have I3 : Inv X pins σ H3 s3 := by
    rw [← hs3, ← hH3]
    refine I2.laid (t' := s2.toks) (fun b o e => Heap.get?_push_of_some _ e) (Nat.le_of_eq hD) (txO_new (TxSet.nil ?_))
    rw [← hD, ← ho]
    exact Heap.get?_push_size _ rfl
  have k3 : ∀ b o, s2.heap.get? b = some o → s3.heap.get? b = some o := fun b o e => by
    rw [← hs3]
    exact Heap.get?_push_of_some _ e
  have z3 : s3.heap.objs.size = s2.heap.objs.size + 1 := by
    rw [← hs3]
    exact Heap.size_push ..
  have f3 : ∀ b ∈ fp, FpOk X pins H3 b ∧ b < s3.heap.objs.size := fun b hb => by
    obtain ⟨o, e, _⟩ := T.obj _ _ st2 b hb
    have hlt := Heap.lt_size e
    refine ⟨⟨?_, (f2 b hb).2⟩, by rw [z3]; exact Nat.lt_succ_of_lt hlt⟩
    rw [← hH3, upd_ne (by rw [← hD]; exact Nat.ne_of_lt hlt)]
    exact (f2 b hb).1
  have I4 := block_start I3 ok hN f3
  have pg := hg s3 H3 s3.heap.objs.size (cellsFrom (s3.heap.objs.size + 1) scope.names (cloFrom X.env.cells scope.names [])) fp
  have pt := ht s3 H3 s3.heap.objs.size (cellsFrom (s3.heap.objs.size + 1) scope.names (cloFrom X.env.cells scope.names [])) fp
  have pb := hb s3 H3 s3.heap.objs.size (cellsFrom (s3.heap.objs.size + 1) scope.names (cloFrom X.env.cells scope.names [])) fp D
  show codeAny _ _ (.compStart (.SetComp elt (⟨tg, iter, ifs, 0⟩ :: rest) scope pos) 0 (.ref it) (.ref D) (compEnvC scope (cellsFrom (s3.heap.objs.size + 1) scope.names (cloFrom X.env.cells scope.names [])) s3.heap.objs.size X.env)) (compPost (model X.prog X.w) X.A X.xe use Qf (.ref D) s3.heap.objs.size) { s3 with heap := pushCells (s3.heap.push { cls := .type "dict", data := .dict #[] }) scope.names }
  generalize hce : compEnvC scope (cellsFrom (s3.heap.objs.size + 1) scope.names (cloFrom X.env.cells scope.names [])) s3.heap.objs.size X.env = ce at I4 pg pt pb ⊢
  have cL : ce.locals = s3.heap.objs.size := by
    subst hce
    rfl
  generalize hs4 : ({ s3 with heap := pushCells (s3.heap.push { cls := .type "dict", data := .dict #[] }) scope.names } : Shared) = s4 at I4 ⊢
  have st4 : tn 0 s4.heap := T.keep _ _ _ st2 fun b _ o e => by
    rw [← hs4]
    exact pushCells_keeps _ _ _ _ (Heap.get?_push_of_some _ (k3 b o e))
  have loop : codeAny (model X.prog X.w) X.A (.compLoop (.SetComp elt (⟨tg, iter, ifs, 0⟩ :: rest) scope pos) 0 (.ref it) (.ref D) ce) (compPost (model X.prog X.w) X.A X.xe use Qf (.ref D) s3.heap.objs.size) s4 := by
    refine cl_core (X := X.blk s3 H3 scope ce fp) (pins := []) (p := iter.pos) (body := body (.ref D) ce) (vs := own.map (·.2)) (tb := tb D) (σ := σ) (Qd := Q (.ref D)) (W := W) (m0 := m0) hc (fun _ _ z => z) rfl rfl (heq _ _ _) T pg pt (fun H' hn b hb => ?_) pb turn (fun H' s' I' qq => ?_) I4 st4 (fun b hb => (f3 b hb).1.1) w0
    · exact ⟨hn b hb, (I4.ok.exf b hb).1, I4.ok.exfs b hb, .inl hb, fun x c e => (I4.ok.exf b hb).2 x c e, fun p hp => absurd (show p ∈ ([] : List (Addr × Obj)) ++ [] from hp) (by simp)⟩
    · have I7 : Inv X pins σ H' s' := I3.call' (ch := fp) I'.os I'.base I'.hok I'.bare fun b hb => ⟨(f3 b hb).1.2.2.2.1, (f3 b hb).1.2.1, (f3 b hb).1.2.2.2.2.1, (f3 b hb).1.2.2.2.2.2⟩
      have nC : H' s3.heap.objs.size = none := by
        have z : H' ce.locals = none := I'.free
        rwa [cL] at z
      obtain ⟨m, hn, _⟩ := I'.loc
      have hn : s'.heap.Ns ce.locals m := hn
      rw [cL] at hn
      exact hRR D s3.heap.objs.size s' m H' I7 qq hn (I3.fpOk (Nat.le_refl _) nC)
  exact PpSet.codeAny_compStart_set loop (T.self X.A 0 _ _ _ st4 loop)
theorem pe_sx {elt tg iter : Expr} {ifs : List Expr} {rest : List Comprehension} {scope : Scope} {own : List (Str × Nat)} {pos : Pos} {wi : TI} {g : TG} {tt : TT} {tb : TBd} {body : Value → Env → Sem Unit} (hc : X.calm = true) (hN : X.N.Nodup) (hi : PI X tg iter wi) (ok : BlkOk X.N X.env.scope scope own)
    (heq : ∀ (it acc : Value) (env : Env), compTurn (.SetComp elt (⟨tg, iter, ifs, 0⟩ :: rest) scope pos) 0 it acc env = turnOf iter.pos tg ifs (body acc env) (.SetComp elt (⟨tg, iter, ifs, 0⟩ :: rest) scope pos) 0 it acc env)
    (hg : ∀ (s : Shared) (H : Hp) (C : Addr) (cl : List (Str × Addr)) (fp : List Addr), PG (X.blk s H scope (compEnvC scope cl C X.env) fp) tg g) (ht : ∀ (s : Shared) (H : Hp) (C : Addr) (cl : List (Str × Addr)) (fp : List Addr), PTs (X.blk s H scope (compEnvC scope cl C X.env) fp) ifs tt)
    (hb : ∀ (s0 : Shared) (H0 : Hp) (C : Addr) (cl : List (Str × Addr)) (fp : List Addr) (D : Addr) pins s σ H Nx, Inv (X.blk s0 H0 scope (compEnvC scope cl C X.env) fp) pins σ H s → tb D σ H Nx →
      wpAny (model X.prog X.w) X.A (body (.ref D) (compEnvC scope cl C X.env)) (fun _ s' => ∃ σ' H', Inv (X.blk s0 H0 scope (compEnvC scope cl C X.env) fp) pins σ' H' s' ∧ KeepB (own.map (·.2)) σ σ' ∧ Nx H') (fun _ _ => False) s)
    (hs : ∀ x, foldedSetIterable iter X.env x = pure x) : PE X (.SetComp elt (⟨tg, iter, ifs, 0⟩ :: rest) scope pos) (tSx X.w wi g tt tb (own.map (·.2))) := by
  refine ⟨fun pins s σ H Q I h => ?_⟩
  rw [PpSet.eval_SetComp]
  refine sx_core hc hN I hi ok heq hg ht hb hs h fun D C s' m H' I' q hn f => ⟨m, hn, fun h'' sb => ?_⟩
  obtain ⟨f0, f1, f2, f3, f4, f5⟩ := f
  exact ⟨.ref D, H', I'.turned (t' := s'.toks) (fun b o hb e => (sb.2 b hb).trans e) f0 f1 f3 f4 f5, rfl, q⟩
/-- {elt for tg in iter if ..} -/
theorem pe_sx1 {elt tg iter : Expr} {ifs : List Expr} {scope : Scope} {own : List (Str × Nat)} {pos : Pos} {wi : TI} {g : TG} {tt : TT} {te : TE} (hc : X.calm = true) (hN : X.N.Nodup) (hi : PI X tg iter wi) (ok : BlkOk X.N X.env.scope scope own)
    (hg : ∀ (s : Shared) (H : Hp) (C : Addr) (cl : List (Str × Addr)) (fp : List Addr), PG (X.blk s H scope (compEnvC scope cl C X.env) fp) tg g) (ht : ∀ (s : Shared) (H : Hp) (C : Addr) (cl : List (Str × Addr)) (fp : List Addr), PTs (X.blk s H scope (compEnvC scope cl C X.env) fp) ifs tt)
    (he : ∀ (s : Shared) (H : Hp) (C : Addr) (cl : List (Str × Addr)) (fp : List Addr), PE (X.blk s H scope (compEnvC scope cl C X.env) fp) elt te) (hs : ∀ x, foldedSetIterable iter X.env x = pure x := by intro _; rfl) :
    PE X (.SetComp elt [⟨tg, iter, ifs, 0⟩] scope pos) (tSx X.w wi g tt (tbOne X.w te) (own.map (·.2))) :=
  pe_sx (body := fun acc env => bodyOne elt acc env) hc hN hi ok (fun _ _ _ => rfl) hg ht (fun s0 H0 C cl fp D pins s σ H Nx I h => bd_one (X := X.blk s0 H0 scope (compEnvC scope cl C X.env) fp) (fun _ _ z => z) (he s0 H0 C cl fp) I h) hs
/-- {elt for tg in iter if .. for tg1 in iter1 if ..} -/
theorem pe_sx2 {elt tg iter tg1 iter1 : Expr} {ifs ifs1 : List Expr} {scope : Scope} {own : List (Str × Nat)} {vs1 : List Nat} {pos : Pos} {wi wi1 : TI} {g g1 : TG} {tt tt1 : TT} {te : TE} (hc : X.calm = true) (hN : X.N.Nodup) (hi : PI X tg iter wi) (ok : BlkOk X.N X.env.scope scope own) (hv : ∀ i ∈ vs1, i ∈ own.map (·.2))
    (hg : ∀ (s : Shared) (H : Hp) (C : Addr) (cl : List (Str × Addr)) (fp : List Addr), PG (X.blk s H scope (compEnvC scope cl C X.env) fp) tg g) (ht : ∀ (s : Shared) (H : Hp) (C : Addr) (cl : List (Str × Addr)) (fp : List Addr), PTs (X.blk s H scope (compEnvC scope cl C X.env) fp) ifs tt)
    (hi1 : ∀ (s : Shared) (H : Hp) (C : Addr) (cl : List (Str × Addr)) (fp : List Addr), PI (X.blk s H scope (compEnvC scope cl C X.env) fp) tg1 iter1 wi1)
    (hg1 : ∀ (s : Shared) (H : Hp) (C : Addr) (cl : List (Str × Addr)) (fp : List Addr), PG (X.blk s H scope (compEnvC scope cl C X.env) fp) tg1 g1) (ht1 : ∀ (s : Shared) (H : Hp) (C : Addr) (cl : List (Str × Addr)) (fp : List Addr), PTs (X.blk s H scope (compEnvC scope cl C X.env) fp) ifs1 tt1)
    (he : ∀ (s : Shared) (H : Hp) (C : Addr) (cl : List (Str × Addr)) (fp : List Addr), PE (X.blk s H scope (compEnvC scope cl C X.env) fp) elt te) (hs : ∀ x, foldedSetIterable iter X.env x = pure x := by intro _; rfl) (hs1 : ∀ env x, foldedSetIterable iter1 env x = pure x := by intro _ _; rfl) :
    PE X (.SetComp elt [⟨tg, iter, ifs, 0⟩, ⟨tg1, iter1, ifs1, 0⟩] scope pos) (tSx X.w wi g tt (tbTwo wi1 g1 tt1 (tbOne X.w te) vs1) (own.map (·.2))) :=
  pe_sx (body := fun acc env => bodyTwo (.SetComp elt [⟨tg, iter, ifs, 0⟩, ⟨tg1, iter1, ifs1, 0⟩] scope pos) iter1 acc env) hc hN hi ok (fun _ _ _ => turn_two) hg ht
    (fun s0 H0 C cl fp D pins s σ H Nx I h => bd_two (X := X.blk s0 H0 scope (compEnvC scope cl C X.env) fp) hc (fun _ _ z => z) (hs1 _) hv (hi1 s0 H0 C cl fp) (hg1 s0 H0 C cl fp) (ht1 s0 H0 C cl fp) (he s0 H0 C cl fp) I h) hs
end
end Tl

namespace Tl
open PySem PySem.Spec PyProof.Rows L2 TL LamX
/-! ### comprehensions of several clauses over data: what grows stands apart, by clauses -/
theorem txO_no {w : World} {c : Addr} {ys : List Str} : (∀ ps, TxO w c ys ≠ .tbl ps) ∧ ∀ a q, TxO w c ys ≠ CodeO a q := by
  refine ⟨(fun _ z => nomatch z), fun a q z => ?_⟩
  unfold TxO CodeO at z
  have z := HO.ext.inj z
  let ob : Obj := { cls := .none, data := .fields #[.none, .str q default] }
  let h : Heap := { objs := Array.replicate (a + 1) ob }
  have at_ : ∀ b o, h.get? b = some o → o = ob := fun b o e => by
    unfold Heap.get? at e
    cases hb : h.objs[b]? with
    | none => rw [hb] at e; cases e
    | some o' =>
      rw [hb] at e
      have : o' = ob := by
        have hb : (Array.replicate (a + 1) ob)[b]? = some o' := hb
        rw [Array.getElem?_replicate] at hb
        split at hb
        · exact (Option.some.inj hb).symm
        · cases hb
      subst this
      exact (Option.some.inj e).symm
  have ha : h.get? a = some ob := by
    unfold Heap.get?
    have : h.objs[a]? = some ob := by
      show (Array.replicate (a + 1) ob)[a]? = some ob
      rw [Array.getElem?_replicate, if_pos (Nat.lt_succ_self a)]
    rw [this]
  have q2 : TxSet w h c ys := by
    rw [show TxSet w h c ys = _ from congrFun z h]
    exact ⟨ob, _, _, ha, rfl, rfl⟩
  obtain ⟨o, tb, ep, tt, ho, _, hd, _⟩ := q2
  rw [at_ c o ho] at hd
  cases hd
section
variable [Tabl] {K : PySem.W.Frag} {Z : XZ} {B : Option Addr} {M : Addr → Prop} {δ δ2 : List Slot} {n n' n2 : Sto} {Φ : D → Sto → Prop} {te : TE} {tt : TT} {wi : TI} {g : TG} {vs : List Nat} {G0 H0 G H G2 H2 : Hp} {σ σ2 : L2.St}
theorem En.besideT {c : Addr} {u : HO} (E : En K B M n G0 H0 G H σ δ) (ht : Tabs Tabl.T (upd H c u)) (hu : ∀ ps, u ≠ .tbl ps) (hc : B ≠ some c) (hm : n.μ c = none) (gc : G c = none) (mc : M c) (ho : ∀ (i : Nat) (x : MO), δ[i]? = some (.ow x) → σ[i]? ≠ some (some (.ref c))) : En K B M n G0 H0 G (upd H c u) σ δ where
  sub0 := E.sub0
  sub := E.sub.off gc
  same := fun b u e nm => by
    rw [upd_ne (ne_M mc nm)]
    exact E.same b u e nm
  free := fun b hb => by
    by_cases z : b = c
    · rw [z]
      exact mc
    · rw [upd_ne z] at hb
      exact E.free b hb
  fresh := E.fresh
  bagged := fun p hp => ⟨(E.bagged p hp).1.mut fun z => hc (z ▸ hp), (E.bagged p hp).2⟩
  tabs := ht
  gnt := E.gnt
  tin := fun b ps hb => by
    by_cases z : b = c
    · rw [z]
      exact mc
    · rw [upd_ne z] at hb
      exact E.tin b ps hb
  len := E.len
  slot := fun i s hs => by
    have h := E.slot i s hs
    cases s with
    | un => trivial
    | d x => exact h
    | ow x =>
      obtain ⟨p, e, hp, r⟩ := h
      exact ⟨p, e, hp.mono (Sub.refl G) (upd_ne (fun (z : p = c) => ho i x hs (by rw [← z]; exact look_some e))), r⟩
    | raw v => exact h
    | bag => exact h
    | scr ns => exact h
    | exn a d fs => exact h
  dis := E.dis
  mob := fun a o h => by
    obtain ⟨h1, h2⟩ := E.mob a o h
    exact ⟨h1.mono (Sub.refl G) (upd_ne fun z => by rw [z, hm] at h; cases h), h2⟩
  mow := E.mow
/-- back to the slots of ahead of a clause -/
theorem En.home2 (E : En K B M n' G0 H0 G H σ δ) (e : En K B M n2 G0 H0 G2 H2 σ2 δ2) (s : Sub G G2) (so : SameOff vs σ2 σ) (sd : OffD vs δ2 δ) (ho : ∀ i ∈ vs, ∀ x, δ[i]? ≠ some (.ow x)) : En K B M n2 G0 H0 G2 H2 σ δ := by
  refine ⟨e.sub0, e.sub, e.same, e.free, e.fresh, e.bagged, e.tabs, e.tin, e.gnt, E.len, fun m t ht => ?_, E.dis, e.mob, fun i x a hi hs => ?_⟩
  · have old := E.slot m t ht
    cases t with
    | un => trivial
    | d y =>
      obtain ⟨u, f1, f2⟩ := old
      exact ⟨u, f1, f2.mono s⟩
    | ow ys =>
      have hm : m ∉ vs := fun z => ho m z ys ht
      have h2 := e.slot m (.ow ys) ((sd m hm).trans ht)
      rw [so.2 m hm] at h2
      exact h2
    | raw u => exact old
    | bag => exact old
    | scr ns => exact ⟨_, old.choose_spec.1, s.seqL old.choose_spec.2⟩
    | exn a d fs => exact ⟨old.1, old.2.mono s⟩
  · have hm : i ∉ vs := fun z => ho i z x hi
    exact e.mow i x a ((sd i hm).trans hi) ((so.2 i hm).trans hs)
theorem wipeD_in {i : Nat} : ∀ {vs : List Nat}, i ∈ vs → ∀ x, (wipeD δ vs)[i]? ≠ some (.ow x)
  | v :: vs, h, x => by
    unfold wipeD
    by_cases z : v = i
    · subst z
      by_cases l : v < (wipeD δ vs).length
      · rw [List.getElem?_set_self l]
        exact fun z => nomatch z
      · rw [List.getElem?_eq_none (by rw [List.length_set]; exact Nat.le_of_not_lt l)]
        exact fun z => nomatch z
    · rw [List.getElem?_set_ne z]
      exact wipeD_in ((List.mem_cons.mp h).resolve_left fun y => z y.symm) x
theorem setD_no {i j : Nat} {x : D} (h : ∀ x, δ[i]? ≠ some (.ow x)) (y : MO) : (δ.set j (.d x))[i]? ≠ some (.ow y) := by
  by_cases z : j = i
  · subst z
    by_cases l : j < δ.length
    · rw [List.getElem?_set_self l]
      exact fun z => nomatch z
    · rw [List.getElem?_eq_none (by rw [List.length_set]; exact Nat.le_of_not_lt l)]
      exact fun z => nomatch z
  · rw [List.getElem?_set_ne z]
    exact h y
/-- a thing that grows at c: C G H c ys, it holds ys -/
structure Grows (C : Hp → Hp → Addr → List D → Prop) : Prop where
  mono : ∀ {G G' H H' : Hp} {c : Addr} {ys : List D}, C G H c ys → Sub G G' → H' c = H c → C G' H' c ys
  some : ∀ {G H : Hp} {c : Addr} {ys : List D}, C G H c ys → ∃ u, H c = some u ∧ (∀ ps, u ≠ .tbl ps) ∧ ∀ a q, u ≠ CodeO a q
abbrev OwNot (σ : L2.St) (δ : List Slot) (c : Addr) : Prop := ∀ (i : Nat) (x : MO), δ[i]? = some (.ow x) → σ[i]? ≠ some (some (.ref c))
/-- by slots δ the body adds ys -/
def BdOk (K : PySem.W.Frag) (C : Hp → Hp → Addr → List D → Prop) (L : Nat) (n : Sto) (bd : List Slot → List D → Prop) (tb : TBd) : Prop :=
  ∀ (B : Option Addr) (M : Addr → Prop) (G0 H0 G H : Hp) (σ : L2.St) (δ : List Slot) (c : Addr) (zs ys : List D), En K B M n G0 H0 G H σ δ → C G H c zs → G c = none → n.μ c = none → B ≠ some c → M c → OwNot σ δ c → zs.length + ys.length ≤ L → bd δ ys →
    ∀ Nx : Hp → Prop, (∀ G' H', En K B M n G0 H0 G' H' σ δ → Sub G G' → C G' H' c (zs ++ ys) → G' c = none → Nx H') → tb c σ H Nx
/-- the last clause's element -/
def ElX (K : PySem.W.Frag) (P : D → Prop) (te : TE) (n : Sto) (δ : List Slot) (ys : List D) : Prop := GK K .calm te δ n fun y n' => n' = n ∧ P y ∧ ys = [y]
/-- a clause, for x of its source -/
def ClX (K : PySem.W.Frag) (g : TG) (tt : TT) (bd : List Slot → List D → Prop) (vs : List Nat) (δ : List Slot) (n : Sto) (x : D) (ys : List D) : Prop :=
  ∃ δ2, GG K g x (wipeD δ vs) δ2 vs ∧ OffD vs δ2 δ ∧ (∀ i ∈ vs, ∀ x, δ2[i]? ≠ some (.ow x)) ∧ GT K .calm tt δ2 n fun b n2 => n2 = n ∧ (b = true → bd δ2 ys) ∧ (b = false → ys = [])
/-- a further clause within -/
def InX (K : PySem.W.Frag) (wi : TI) (g : TG) (tt : TT) (bd : List Slot → List D → Prop) (vs : List Nat) (n : Sto) (δ : List Slot) (ys : List D) : Prop :=
  (∀ i ∈ vs, ∀ x, δ[i]? ≠ some (.ow x)) ∧ GI K .calm wi δ n fun xs n3 => n3 = n ∧ ∃ f : D → List D, ys = xs.flatMap f ∧ ∀ x ∈ xs, ClX K g tt bd vs δ n x (f x)
theorem clx_name {bd : List Slot → List D → Prop} {j : Nat} {x : D} {ys : List D} (hj : j ∈ vs) (h : GT K .calm tt ((wipeD δ vs).set j (.d x)) n fun b n2 => n2 = n ∧ (b = true → bd ((wipeD δ vs).set j (.d x)) ys) ∧ (b = false → ys = [])) : ClX K (gName j) tt bd vs δ n x ys :=
  ⟨_, gg_name hj, OffD.wipe.set hj, fun i hi => setD_no (wipeD_in hi), h⟩
theorem clx_two {bd : List Slot → List D → Prop} {i j : Nat} {x y : D} {ys : List D} (hi : i ∈ vs) (hj : j ∈ vs) (h : GT K .calm tt (((wipeD δ vs).set i (.d x)).set j (.d y)) n fun b n2 => n2 = n ∧ (b = true → bd (((wipeD δ vs).set i (.d x)).set j (.d y)) ys) ∧ (b = false → ys = [])) :
    ClX K (gTup K 2 (gCons (gName i) (gCons (gName j) gNil))) tt bd vs δ n (.tup [x, y]) ys :=
  ⟨_, gg_tup rfl (ggs_cons (gg_name hi) (ggs_cons (gg_name hj) ggs_nil)), (OffD.wipe.set hi).set hj, fun l hl => setD_no fun x => setD_no (wipeD_in hl) x, h⟩
theorem lp_ok {C : Hp → Hp → Addr → List D → Prop} {L : Nat} (hC : Grows C) {bd : List Slot → List D → Prop} {tb : TBd} (hb : BdOk K C L n bd tb) {f : D → List D} {xs : List D} {J : It} {G1 H1 : Hp} {c : Addr} {zs : List D} {Nx : Hp → Prop} (E1 : En K B M n G0 H0 G1 H1 σ δ)
    (ho : ∀ i ∈ vs, ∀ x, δ[i]? ≠ some (.ow x)) {Gi : Hp} (it : IterD K J Gi xs) (sI : Sub Gi G1) (hx : ∀ x ∈ xs, ClX K g tt bd vs δ n x (f x)) (h1 : C G1 H1 c zs) (gc : G1 c = none) (nm : n.μ c = none) (nb : B ≠ some c) (mc : M c) (oc : OwNot σ δ c) (hl : zs.length + (xs.flatMap f).length ≤ L)
    (hN : ∀ G' H', En K B M n G0 H0 G' H' σ δ → Sub G1 G' → C G' H' c (zs ++ xs.flatMap f) → G' c = none → Nx H') :
    ∃ W : Nat → Nat → Hp → Prop, (∃ m, W 0 m H1) ∧ ∀ i m H, W i m H → (J.stop i H ∧ Nx H) ∨ (J.go i H ∧ ∃ Ny : Hp → Prop, (∀ H', Ny H' → ∃ m', m' < m ∧ W (i + 1) m' H') ∧ ∀ x H', J.yld i H x H' →
      g x (L2.wipe σ vs) H' fun σ2 H2 => L2.wipe σ2 vs = L2.wipe σ vs ∧ tt σ2 H2 fun b H3 => if b = true then tb c σ2 H3 Ny else Ny H3) := by
  refine ⟨fun i m H => m = xs.length - i ∧ i ≤ xs.length ∧ ∃ G, En K B M n G0 H0 G H σ δ ∧ Sub G1 G ∧ C G H c (zs ++ (xs.take i).flatMap f) ∧ G c = none, ⟨xs.length, by simp, Nat.zero_le _, G1, E1, Sub.refl G1, by simpa using h1, gc⟩, ?_⟩
  rintro i m H ⟨rfl, hi, G, e, s, hc, gc'⟩
  obtain ⟨j1, j2⟩ := it G H (sI.trans s) e.sub i
  by_cases hlt : i < xs.length
  · obtain ⟨x, hx'⟩ : ∃ x, xs[i]? = some x := ⟨xs[i], by simp [hlt]⟩
    obtain ⟨jg, jy⟩ := j2 x hx'
    refine .inr ⟨jg, fun H2 => ∃ G, En K B M n G0 H0 G H2 σ δ ∧ Sub G1 G ∧ C G H2 c (zs ++ (xs.take (i + 1)).flatMap f) ∧ G c = none, fun H2 q => ⟨xs.length - (i + 1), by omega, rfl, hlt, q⟩, fun v H' y => ?_⟩
    obtain ⟨G2, s2, e2, a2, kc⟩ := e.yld (jy v H' y)
    obtain ⟨u0, hu0, _⟩ := hC.some hc
    obtain ⟨k1, k2⟩ := kc c (not_none hu0)
    have hc2 := hC.mono hc s2 k1
    have gc2 : G2 c = none := k2.trans gc'
    obtain ⟨δ2, gg, od, no, ht⟩ := hx x (List.mem_of_getElem? hx')
    refine gg B M n G0 H0 G2 H' _ (e2.wipe vs) v a2 _ fun σ3 e3 s3 => ?_
    have so : SameOff vs σ3 σ := s3.trans SameOff.off
    have oc3 : OwNot σ3 δ2 c := fun i x hi => by
      by_cases z : i ∈ vs
      · exact absurd hi (no i z x)
      · rw [so.2 i z]
        exact oc i x ((od i z).symm.trans hi)
    refine ⟨by rw [s3.wipe]; exact SameOff.off.wipe, ?_⟩
    obtain ⟨u2, hu2, hnt, _⟩ := hC.some hc2
    have e3r := e3.rebase (c := c) nb nm oc3 ⟨u2, hu2, hnt⟩
    refine ht B _ G2 H' .calm G2 H' σ3 e3r _ fun b G4 H4 n4 f4 e4 s4 => ?_
    obtain ⟨rfl, ft, ff⟩ := f4
    have ncm : ¬ (M c ∧ c ≠ c) := fun z => z.2 rfl
    have h4 : H4 c = H' c := (e4.same c _ hu2 ncm).trans hu2.symm
    have g4 : G4 c = none := e4.fresh c ncm gc2
    have hc4 := hC.mono hc2 s4 h4
    have tk : (xs.take (i + 1)).flatMap f = (xs.take i).flatMap f ++ f x := by
      rw [take_snoc hx', List.flatMap_append]
      simp
    have E4 := e3.back e4
    cases b with
    | false =>
      refine ⟨G4, e2.home2 E4 s4 so od ho, (s.trans s2).trans s4, ?_, g4⟩
      rw [tk, ff rfl, List.append_nil]
      exact hc4
    | true =>
      refine hb B M G0 H0 G4 H4 σ3 δ2 c _ (f x) E4 hc4 g4 nm nb mc oc3 ?_ (ft rfl) _ fun G5 H5 e5 s5 h5 g5 => ⟨G5, e2.home2 e5 (s4.trans s5) so od ho, ((s.trans s2).trans s4).trans s5, ?_, g5⟩
      · have q : xs.flatMap f = (xs.take (i + 1)).flatMap f ++ (xs.drop (i + 1)).flatMap f := by rw [← List.flatMap_append, List.take_append_drop]
        rw [q, tk, List.length_append, List.length_append] at hl
        rw [List.length_append]
        omega
      · rw [tk, ← List.append_assoc]
        exact h5
  · have ei : i = xs.length := by omega
    subst ei
    rw [List.take_length] at hc
    exact .inl ⟨j1 rfl, hN G H e s hc gc'⟩
theorem bd_in {C : Hp → Hp → Addr → List D → Prop} {L : Nat} (hC : Grows C) {bd : List Slot → List D → Prop} {tb : TBd} (hb : BdOk K C L n bd tb) : BdOk K C L n (InX K wi g tt bd vs n) (tbTwo wi g tt tb vs) := by
  intro B M G0 H0 G H σ δ c zs ys E hc gc nm nb mc oc hl hbd Nx hN
  obtain ⟨ho, hg⟩ := hbd
  obtain ⟨u, hu, hnt, _⟩ := hC.some hc
  refine hg B _ G H .calm G H σ (E.rebase (c := c) nb nm oc ⟨u, hu, hnt⟩) _ fun J xs G5 H5 n5 f5 e5 s5 it => ?_
  obtain ⟨rfl, f, rfl, hx⟩ := f5
  have ncm : ¬ (M c ∧ c ≠ c) := fun z => z.2 rfl
  exact lp_ok hC hb (E.back e5) ho it (Sub.refl _) hx (hC.mono hc s5 ((e5.same c _ hu ncm).trans hu.symm)) (e5.fresh c ncm gc) nm nb mc oc hl fun G' H' e s h g => hN G' H' e (s5.trans s) h g
/-! sets of texts -/
def CTx (w : World) (_ H : Hp) (c : Addr) (ys : List D) : Prop := ∃ zs : List Str, ys = zs.map D.str ∧ H c = some (TxO w c zs)
omit [Tabl] in
theorem grows_tx {w : World} : Grows (CTx w) where
  mono := fun ⟨zs, e, h⟩ _ k => ⟨zs, e, k.trans h⟩
  some := fun ⟨zs, _, h⟩ => ⟨_, h, txO_no⟩
theorem bd_tx {w : World} : BdOk K (CTx w) 4000 n (ElX K (fun y => ∃ z, y = .str z) te n) (tbOne w te) := by
  intro B M G0 H0 G H σ δ c zs ys E hc gc nm nb mc oc hl hbd Nx hN
  obtain ⟨zs, rfl, hz⟩ := hc
  refine hbd B _ G H .calm G H σ (E.rebase (c := c) nb nm oc ⟨_, hz, txO_no.1⟩) _ fun v d G5 H5 n5 f5 e5 s5 a5 => ?_
  obtain ⟨rfl, ⟨z, rfl⟩, rfl⟩ := f5
  have ncm : ¬ (M c ∧ c ≠ c) := fun z => z.2 rfl
  have h5 := e5.same c _ hz ncm
  have g5 := e5.fresh c ncm gc
  cases a5
  rw [List.length_map, List.length_singleton] at hl
  refine ⟨z, zs, rfl, h5, Nat.lt_of_le_of_lt hl (by decide), hN G5 _ ((E.back e5).besideT (tabs_to e5.tabs h5 txO_no) txO_no.1 nb nm g5 mc oc) s5 ⟨zs ++ [z], by simp, upd_same⟩ g5⟩
theorem En.freshc {c : Addr} (E : En K B M n G0 H0 G H σ δ) (hc : H c = none) : G c = none ∧ n.μ c = none ∧ B ≠ some c ∧ M c ∧ OwNot σ δ c :=
  ⟨E.sub.none hc, E.nomob hc, (fun z => (E.bagged c z).1.some hc), E.free c hc, fun i xs hi z => by
    obtain ⟨p, e1, e2, _⟩ := E.owo hi
    rw [z] at e1
    cases e1
    exact e2.some hc⟩
/-- a set of texts, and what comes of it -/
theorem gk_sx {w : World} {bd : Sto → List Slot → List D → Prop} {tb : TBd} (hb : ∀ n, BdOk K (CTx w) 4000 n (bd n) tb) (ho : ∀ i ∈ vs, ∀ x, δ[i]? ≠ some (.ow x)) {r : List V → Hp → VK → Prop}
    (h : GI K Z wi δ n fun xs n1 => ∃ (f : D → List D) (zs : List Str), (∀ x ∈ xs, ClX K g tt (bd n1) vs δ n1 x (f x)) ∧ xs.flatMap f = zs.map D.str ∧ zs.length ≤ 4000 ∧
      ∀ (B : Option Addr) (M : Addr → Prop) (G0 H0 G H : Hp) (σ : L2.St) (c : Addr), En K B M n1 G0 H0 G H σ δ → H c = some (TxO w c zs) → ∀ Q : VK, (∀ (v : V) (d : D) (G' H' : Hp) (n' : Sto), Φ d n' → En K B M n' G0 H0 G' H' σ δ → Sub G G' → Is K G' v d → Q v H') → r [.ref c] H Q) :
    GK K Z (tCB r (tCons (tSx w wi g tt tb vs) tNil)) δ n Φ := fun B M G0 H0 xw G H σ E Q q =>
  h B M G0 H0 xw G H σ E _ fun J xs G1 H1 n1 f1 E1 s1 it => by
    obtain ⟨f, zs, hx, ez, hl, hr⟩ := f1
    intro c hc
    obtain ⟨gc, nm, nb, mc, oc⟩ := E1.freshc hc
    refine lp_ok (C := CTx w) (L := 4000) (zs := []) grows_tx (hb n1) (E1.newc (o := TxO w c []) hc) ho it (Sub.refl _) hx ⟨[], rfl, upd_same⟩ gc nm nb mc oc ?_ fun G' H' e s hz g' => ?_
    · rw [ez, List.length_map, List.length_nil]
      omega
    · obtain ⟨zs', e1, hz⟩ := hz
      rw [List.nil_append, ez] at e1
      have : zs = zs' := by
        have := congrArg (List.map fun d => match d with | D.str s => s | _ => Str.empty) e1
        simpa [Function.comp_def] using this
      subst this
      exact hr B M G0 H0 G' H' σ c e hz Q fun v d G2 H2 n2 f2 e2 s2 a2 => q v d G2 H2 n2 f2 e2 ((s1.trans s).trans s2) a2
theorem sx_sort {w : World} {zs : List Str} (hl : zs.length < 4000) (h : Φ (.lst ((setS zs).map D.str)) n) : ∀ (B : Option Addr) (M : Addr → Prop) (G0 H0 G H : Hp) (σ : L2.St) (c : Addr), En K B M n G0 H0 G H σ δ → H c = some (TxO w c zs) → ∀ Q : VK, (∀ (v : V) (d : D) (G' H' : Hp) (n' : Sto), Φ d n' → En K B M n' G0 H0 G' H' σ δ → Sub G G' → Is K G' v d → Q v H') → rSortTx w [.ref c] H Q :=
  fun B M G0 H0 G H σ c E hc Q q => ⟨c, zs, rfl, hc, hl, fun p hp => q _ _ _ _ n h (E.laid hp) (Sub.new (E.sub.none hp)) (.lst upd_same (IsAll.strs _))⟩
theorem sx_len {w : World} {zs : List Str} (h : Φ (.int (setS zs).length) n) : ∀ (B : Option Addr) (M : Addr → Prop) (G0 H0 G H : Hp) (σ : L2.St) (c : Addr), En K B M n G0 H0 G H σ δ → H c = some (TxO w c zs) → ∀ Q : VK, (∀ (v : V) (d : D) (G' H' : Hp) (n' : Sto), Φ d n' → En K B M n' G0 H0 G' H' σ δ → Sub G G' → Is K G' v d → Q v H') → rLenTx w [.ref c] H Q :=
  fun B M G0 H0 G H σ c E hc Q q => ⟨c, zs, rfl, hc, q _ _ _ _ n h E (Sub.refl _) (.int _)⟩
/-- sorted({.. for .. for .. if ..}) of texts -/
theorem gk_sortSx2 {w : World} {wi1 : TI} {g1 : TG} {tt1 : TT} {vs1 : List Nat} (ho : ∀ i ∈ vs, ∀ x, δ[i]? ≠ some (.ow x))
    (h : GI K Z wi δ n fun xs n1 => ∃ (f : D → List D) (zs : List Str), (∀ x ∈ xs, ClX K g tt (InX K wi1 g1 tt1 (ElX K (fun y => ∃ z, y = .str z) te n1) vs1 n1) vs δ n1 x (f x)) ∧ xs.flatMap f = zs.map D.str ∧ zs.length < 4000 ∧ Φ (.lst ((setS zs).map D.str)) n1) :
    GK K Z (tCB (rSortTx w) (tCons (tSx w wi g tt (tbTwo wi1 g1 tt1 (tbOne w te) vs1) vs) tNil)) δ n Φ :=
  gk_sx (bd := fun n1 => InX K wi1 g1 tt1 (ElX K (fun y => ∃ z, y = .str z) te n1) vs1 n1) (fun n => bd_in grows_tx bd_tx) ho fun B M G0 H0 xw G H σ E R r => h B M G0 H0 xw G H σ E R fun J xs G' H' n' q e s it => by
    obtain ⟨f, zs, h1, h2, h3, h4⟩ := q
    exact r J xs G' H' n' ⟨f, zs, h1, h2, Nat.le_of_lt h3, sx_sort h3 h4⟩ e s it
theorem gk_sortSx1 {w : World} (ho : ∀ i ∈ vs, ∀ x, δ[i]? ≠ some (.ow x))
    (h : GI K Z wi δ n fun xs n1 => ∃ (f : D → List D) (zs : List Str), (∀ x ∈ xs, ClX K g tt (ElX K (fun y => ∃ z, y = .str z) te n1) vs δ n1 x (f x)) ∧ xs.flatMap f = zs.map D.str ∧ zs.length < 4000 ∧ Φ (.lst ((setS zs).map D.str)) n1) :
    GK K Z (tCB (rSortTx w) (tCons (tSx w wi g tt (tbOne w te) vs) tNil)) δ n Φ :=
  gk_sx (bd := fun n1 => ElX K (fun y => ∃ z, y = .str z) te n1) (fun n => bd_tx) ho fun B M G0 H0 xw G H σ E R r => h B M G0 H0 xw G H σ E R fun J xs G' H' n' q e s it => by
    obtain ⟨f, zs, h1, h2, h3, h4⟩ := q
    exact r J xs G' H' n' ⟨f, zs, h1, h2, Nat.le_of_lt h3, sx_sort h3 h4⟩ e s it
theorem gk_lenSx1 {w : World} (ho : ∀ i ∈ vs, ∀ x, δ[i]? ≠ some (.ow x))
    (h : GI K Z wi δ n fun xs n1 => ∃ (f : D → List D) (zs : List Str), (∀ x ∈ xs, ClX K g tt (ElX K (fun y => ∃ z, y = .str z) te n1) vs δ n1 x (f x)) ∧ xs.flatMap f = zs.map D.str ∧ zs.length ≤ 4000 ∧ Φ (.int (setS zs).length) n1) :
    GK K Z (tCB (rLenTx w) (tCons (tSx w wi g tt (tbOne w te) vs) tNil)) δ n Φ :=
  gk_sx (bd := fun n1 => ElX K (fun y => ∃ z, y = .str z) te n1) (fun n => bd_tx) ho fun B M G0 H0 xw G H σ E R r => h B M G0 H0 xw G H σ E R fun J xs G' H' n' q e s it => by
    obtain ⟨f, zs, h1, h2, h3, h4⟩ := q
    exact r J xs G' H' n' ⟨f, zs, h1, h2, h3, sx_len h4⟩ e s it
/-! lists -/
def CLs (K : PySem.W.Frag) (G H : Hp) (c : Addr) (ys : List D) : Prop := ∃ va, H c = some (.lst va) ∧ IsAll K G va ys
omit [Tabl] in
theorem grows_ls : Grows (CLs K) where
  mono := fun ⟨va, h, a⟩ s k => ⟨va, k.trans h, a.mono s⟩
  some := fun ⟨va, h, _⟩ => ⟨_, h, (fun _ z => nomatch z), fun a q z => by unfold CodeO at z; cases z⟩
def tbLs (te : TE) : TBd := fun D σ H Nx => te σ H fun y H1 => ∃ acc, H1 D = some (.lst acc) ∧ acc.length < sizeLine ∧ Nx (upd H1 D (.lst (acc ++ [y])))
theorem bd_ls : BdOk K (CLs K) 50000 n (ElX K (fun _ => True) te n) (tbLs te) := by
  intro B M G0 H0 G H σ δ c zs ys E hc gc nm nb mc oc hl hbd Nx hN
  obtain ⟨va, hz, ia⟩ := hc
  refine hbd B _ G H .calm G H σ (E.rebase (c := c) nb nm oc ⟨_, hz, (fun _ z => nomatch z)⟩) _ fun v d G5 H5 n5 f5 e5 s5 a5 => ?_
  obtain ⟨rfl, _, rfl⟩ := f5
  have ncm : ¬ (M c ∧ c ≠ c) := fun z => z.2 rfl
  have h5 := e5.same c _ hz ncm
  have g5 := e5.fresh c ncm gc
  rw [List.length_singleton] at hl
  exact ⟨va, h5, by rw [ia.len]; exact sz_lt (by omega), hN G5 _ ((E.back e5).beside (.inr ⟨_, h5, trivial⟩) (fun _ z => nomatch z) nb nm g5 mc oc) s5 ⟨va ++ [v], upd_same, (ia.mono s5).app (.cons a5 .nil)⟩ g5⟩
/-- [.. for .. if .. for .. if ..] -/
theorem gk_lc2 {wi1 : TI} {g1 : TG} {tt1 : TT} {vs1 : List Nat} (ho : ∀ i ∈ vs, ∀ x, δ[i]? ≠ some (.ow x))
    (h : GI K Z wi δ n fun xs n1 => ∃ f : D → List D, (∀ x ∈ xs, ClX K g tt (InX K wi1 g1 tt1 (ElX K (fun _ => True) te n1) vs1 n1) vs δ n1 x (f x)) ∧ (xs.flatMap f).length ≤ 50000 ∧ Φ (.lst (xs.flatMap f)) n1) :
    GK K Z (tLc2 wi g tt wi1 g1 tt1 te vs vs1) δ n Φ := fun B M G0 H0 xw G H σ E Q q =>
  h B M G0 H0 xw G H σ E _ fun J xs G1 H1 n1 f1 E1 s1 it => by
    obtain ⟨f, hx, hl, fd⟩ := f1
    intro c hc
    obtain ⟨gc, nm, nb, mc, oc⟩ := E1.freshc hc
    exact lp_ok (C := CLs K) (L := 50000) (zs := []) (tb := tbTwo wi1 g1 tt1 (tbLs te) vs1) (Nx := Q (.ref c)) grows_ls (bd_in grows_ls bd_ls) (E1.newc (o := .lst []) hc) ho it (Sub.refl _) hx ⟨[], upd_same, .nil⟩ gc nm nb mc oc (by rw [List.length_nil]; omega) fun G' H' e s ⟨va, hz, ia⟩ g' => by
      have sn := Sub.new (o := .lst va) g'
      exact q _ (.lst (xs.flatMap f)) _ H' n1 fd (e.settle hz g' mc nb nm oc) ((s1.trans s).trans sn) (.lst upd_same (ia.mono sn))
/-- x = [.. for .. if ..], the list owned -/
theorem gs_ownLc {B : Option Addr} {i : Nat} {N Bk Ct : List Slot → Sto → Prop} {R : D → Sto → Prop} (ho : ∀ i ∈ vs, ∀ x, δ[i]? ≠ some (.ow x))
    (h : GI K Z wi δ n fun xs n1 => ∃ f : D → List D, (∀ x ∈ xs, ClX K g tt (ElX K (fun _ => True) te n1) vs δ n1 x (f x)) ∧ (xs.flatMap f).length ≤ 50000 ∧ N (δ.set i (.own (xs.flatMap f))) n1) :
    GS K Z B (tAsg (tLc wi g tt te vs) (gName i)) δ n N R Bk Ct := fun m0 G0 H0 xw G H σ E e hn hr hb hc =>
  h B (MOf B m0 H0) G0 H0 xw G H σ e _ fun J xs G1 H1 n1 f1 E1 s1 it => by
    obtain ⟨f, hx, hl, fd⟩ := f1
    intro c hc
    obtain ⟨gc, nm, nb, mc, oc⟩ := E1.freshc hc
    exact lp_ok (C := CLs K) (L := 50000) (zs := []) (tb := tbLs te) (Nx := fun H' => E.nx (σ.set i (some (.ref c))) H') grows_ls bd_ls (E1.newc (o := .lst []) hc) ho it (Sub.refl _) hx ⟨[], upd_same, .nil⟩ gc nm nb mc oc (by rw [List.length_nil]; omega) fun G' H' e s ⟨va, hz, ia⟩ g' =>
      hn _ _ G' H' n1 fd ((e.mtake g' mc nb oc (o := .lst (xs.flatMap f)) ⟨va, hz, ia⟩).setO nm) (s1.trans s)
omit [Tabl] in
theorem flatMap_one {f : D → D} : ∀ xs : List D, (xs.flatMap fun x => [f x]) = xs.map f
  | [] => rfl
  | x :: xs => by
    rw [List.flatMap_cons, flatMap_one xs]
    rfl
omit [Tabl] in
theorem flatMap_flt {c : D → Bool} : ∀ xs : List D, (xs.flatMap fun x => if c x = true then [x] else []) = xs.filter c
  | [] => rfl
  | x :: xs => by
    rw [List.flatMap_cons, flatMap_flt xs, List.filter_cons]
    split <;> rfl
theorem gs_ownMap1 {B : Option Addr} {i j : Nat} {f : D → D} {N Bk Ct : List Slot → Sto → Prop} {R : D → Sto → Prop} (ho : ∀ x, δ[j]? ≠ some (.ow x))
    (h : GI K Z wi δ n fun xs n1 => xs.length ≤ 50000 ∧ (∀ x ∈ xs, GK K .calm te ((wipeD δ [j]).set j (.d x)) n1 fun y n2 => y = f x ∧ n2 = n1) ∧ N (δ.set i (.own (xs.map f))) n1) :
    GS K Z B (tAsg (tLc wi (gName j) tYes te [j]) (gName i)) δ n N R Bk Ct :=
  gs_ownLc (fun i hi => by rw [List.mem_singleton.mp hi]; exact ho) fun B M G0 H0 xw G H σ E Q r => h B M G0 H0 xw G H σ E Q fun J xs G' H' n' q e s it => by
    obtain ⟨q1, q2, q3⟩ := q
    refine r J xs G' H' n' ⟨fun x => [f x], fun x hx => clx_name (List.mem_singleton.mpr rfl) (gt_yes ⟨rfl, fun _ => ?_, fun z => nomatch z⟩), ?_, ?_⟩ e s it
    · exact fun B M G0 H0 xw G H σ E Q k => q2 x hx B M G0 H0 xw G H σ E Q fun v d G' H' n' z => k v d G' H' n' ⟨z.2, trivial, by rw [z.1]⟩
    · rw [flatMap_one, List.length_map]
      exact q1
    · rw [flatMap_one]
      exact q3
end
end Tl

namespace Tl
open PySem PySem.Spec PyProof.Rows L2 TL LamX
/-! ### d[k], x = .. of a dict of the store; sorted(..) as a new list of the store -/
section
variable [Tabl] {K : PySem.W.Frag} {Z : XZ} {B : Option Addr} {δ : List Slot} {n : Sto} {Φ : D → Sto → Prop} {te ta tb : TE} {N Bk Ct : List Slot → Sto → Prop} {R : D → Sto → Prop}
theorem rc_sortDAN {x : D} {es : List (Key × D)} {ks : List Str} (hx : DicAt n x es) (hk : es.map (·.1) = ks.map Sum.inr) (k : ∀ p, n.μ p = none → Φ (.ptr p) (n.put p (.lst ((srtS ks).map D.str)))) : RC K Z rSortDk [x] δ n Φ := fun B M G0 H0 xw G H σ E vs a Q q => by
  cases a with
  | cons a r =>
    cases r
    obtain ⟨p, ws, rfl, rd, kv⟩ := hx.get E a
    have keys : ∀ {ws : List (Key × V)} {es : List (Key × D)}, IsKv K G ws es → ws.map (·.1) = es.map (·.1) := fun {ws es} h => by
      clear kv rd hx hk
      induction ws generalizing es with
      | nil => cases h; rfl
      | cons w ws ih =>
        cases h with
        | cons _ r => rw [List.map_cons, List.map_cons, ih r]
    exact ⟨p, ws, ks, rfl, rd, (keys kv).trans hk, fun c hc => q _ _ _ _ _ (k c (E.nomob hc)) (E.mnew hc ⟨_, upd_same, IsAll.strs _⟩) (Sub.refl G) (.ptr c)⟩
theorem rc_sortDN {m : Nat} {ds : List D} (hm : m ≤ 50) (hs : ∀ x ∈ ds, Shp m x) (hal : PySem.W.AllAlike (ds.map toP)) (hso : PySem.W.Sortable (ds.map toP)) (k : ∀ p, n.μ p = none → Φ (.ptr p) (n.put p (.lst (keyedD ds (ds.map toP))))) : RC K Z (rSortedD K) [.lst ds] δ n Φ := fun B M G0 H0 xw G H σ E vs a Q q => by
  cases a with
  | cons a r =>
    cases r
    cases a with
    | @lst p xs _ h1 a1 =>
      refine ⟨p, xs, ds.map toP, rfl, SqL.of (E.sub _ _ h1), a1.dpD E.sub hs, by rw [List.length_map, a1.len], hal, hso, fun d hd => ?_, fun p' hp' => ?_⟩
      · obtain ⟨x, hx, rfl⟩ := List.mem_map.mp hd
        exact Nat.le_trans (hs x hx).ok.2 hm
      · exact q _ _ _ _ _ (k p' (E.nomob hp')) (E.mnew hp' ⟨_, upd_same, isAll_keyed a1⟩) (Sub.refl G) (.ptr p')
theorem rc_sortSN {zs : List Str} (hc : ∀ z ∈ zs, ∀ c ∈ tl z, c < 1114112) (k : ∀ p, n.μ p = none → Φ (.ptr p) (n.put p (.lst ((srtS zs).map D.str)))) : RC K Z (rSortedD K) [.lst (zs.map D.str)] δ n Φ := by
  refine rc_sortDN (m := 1) (by decide) (fun x hx => ?_) (fun d hd d' hd' => ?_) (.inr fun d hd => ?_) (by rw [keyedD_str]; exact k)
  · obtain ⟨z, mz, rfl⟩ := List.mem_map.mp hx
    exact .str (hc z mz)
  · rw [List.map_map] at hd hd'
    obtain ⟨x, _, rfl⟩ := List.mem_map.mp hd
    obtain ⟨y, _, rfl⟩ := List.mem_map.mp hd'
    simp [toP, PySem.W.alike]
  · rw [List.map_map] at hd
    obtain ⟨x, _, rfl⟩ := List.mem_map.mp hd
    simp [toP]
/-- d[k], x = .. -/
theorem gs_unpDN {m M : Nat} (hM : M = 2) (h : GK K Z te δ n fun d n1 => ∃ x y, d = .tup [x, y] ∧ GK K Z ta δ n1 fun d2 n2 => ∃ p, d2 = .ptr p ∧ GK K Z tb δ n2 fun y2 n3 => ∃ es k, n3.μ p = some (.dic es) ∧ y2 = keyD k ∧ es.length < 100000 ∧ N (δ.set m (.d y)) (n3.put p (.dic (putD es k x)))) :
    GS K Z B (tAsg te (gTup K M (gCons (gSub ta tb rSetD) (gCons (gName m) gNil)))) δ n N R Bk Ct := fun m0 G0 H0 xw G H σ E e hn hr hb hc => by
  refine h B (MOf B m0 H0) G0 H0 xw G H σ e _ fun v d G1 H1 n1 f1 E1 s1 a1 => ?_
  obtain ⟨x, y, rfl, f1⟩ := f1
  cases a1 with
  | @tup p0 vs0 _ t1 at1 =>
    cases at1 with
    | @cons vx _ _ _ ax r =>
      cases r with
      | @cons vy _ _ _ ay r =>
        cases r
        refine ⟨p0, [vx, vy], rfl, E1.sub.seq t1, hM.symm, vx, [vy], rfl, ?_⟩
        refine f1 B (MOf B m0 H0) G0 H0 xw G1 H1 σ E1 _ fun u d2 G2 H2 n2 f2 E2 s2 a2 => ?_
        obtain ⟨p, rfl, f2⟩ := f2
        cases a2
        refine f2 B (MOf B m0 H0) G0 H0 xw G2 H2 σ E2 _ fun w y2 G3 H3 n3 f3 E3 s3 a3 => ?_
        obtain ⟨es, k, hp, rfl, hl, f3⟩ := f3
        obtain ⟨vs, e1, e2⟩ := E3.mdic hp
        rw [a3.key]
        refine ⟨p, _, rfl, .k e1 (by rw [e2.len]; exact sz_lt hl), vy, [], rfl, rfl, ?_⟩
        have E4 := E3.mchg (o' := .dic (putD es k x)) hp ⟨_, upd_same, e2.put ((ax.mono s2).mono s3)⟩
        exact hn _ _ G3 _ _ f3 (E4.set (i := m) (s := .d y) ⟨vy, rfl, (ay.mono s2).mono s3⟩ fun _ z => nomatch z) ((s1.trans s2).trans s3)
end
end Tl

namespace Tl
open PySem L2 TL
def top (i : Nat) : Stmt := PySem.Challenge.pw_taleless_k37_titles_of_contents.main.body.getD i (.Pass ⟨0, 0, 0, 0⟩)
abbrev s_box_title : Stmt := top 4
theorem sc_box_title : FnScope ["name"] ["name"] (defScope s_box_title) := ⟨rfl, rfl, rfl, by decide +kernel, rfl, by decide +kernel, by decide +kernel⟩
abbrev s_row_title : Stmt := top 5
theorem sc_row_title : FnScope ["box", "key"] ["box", "key"] (defScope s_row_title) := ⟨rfl, rfl, rfl, by decide +kernel, rfl, by decide +kernel, by decide +kernel⟩
abbrev s_text_title : Stmt := top 6
theorem sc_text_title : FnScope ["text"] ["text"] (defScope s_text_title) := ⟨rfl, rfl, rfl, by decide +kernel, rfl, by decide +kernel, by decide +kernel⟩
abbrev s_is_long : Stmt := top 9
theorem sc_is_long : FnScope ["text"] ["text"] (defScope s_is_long) := ⟨rfl, rfl, rfl, by decide +kernel, rfl, by decide +kernel, by decide +kernel⟩
abbrev s_long_texts : Stmt := top 11
theorem sc_long_texts : FnScope ["content", "rows", "text"] ["content"] (defScope s_long_texts) := ⟨rfl, rfl, rfl, by decide +kernel, rfl, by decide +kernel, by decide +kernel⟩
abbrev s_titles : Stmt := top 12
theorem sc_titles : FnScope ["content", "found", "box", "rows", "key", "text"] ["content"] (defScope s_titles) := ⟨rfl, rfl, rfl, by decide +kernel, rfl, by decide +kernel, by decide +kernel⟩
abbrev s_law_bag : Stmt := top 14
theorem sc_law_bag : FnScope ["_law_script", "_law_at", "_law_cell", "_law_far"] ["_law_script", "_law_at"] (defScope s_law_bag) := ⟨rfl, rfl, rfl, by decide +kernel, rfl, by decide +kernel, by decide +kernel⟩
abbrev s_law_take : Stmt := top 15
theorem sc_law_take : FnScope ["_law_bag_here", "_law_many", "_law_digit", "_law_base", "_law_mixed"] ["_law_bag_here", "_law_many"] (defScope s_law_take) := ⟨rfl, rfl, rfl, by decide +kernel, rfl, by decide +kernel, by decide +kernel⟩
abbrev s_law_name : Stmt := top 16
theorem sc_law_name : FnScope ["_law_bag_here", "_law_letters", "_law_size", "_law_spot"] ["_law_bag_here"] (defScope s_law_name) := ⟨rfl, rfl, rfl, by decide +kernel, rfl, by decide +kernel, by decide +kernel⟩
abbrev s_law_words : Stmt := top 17
theorem sc_law_words : FnScope ["_law_bag_here", "_law_some", "_law_kind", "_law_size", "_law_spot"] ["_law_bag_here"] (defScope s_law_words) := ⟨rfl, rfl, rfl, by decide +kernel, rfl, by decide +kernel, by decide +kernel⟩
abbrev s_law_cards_in : Stmt := top 18
theorem sc_law_cards_in : FnScope ["_law_held_here", "_law_found", "_law_crate"] ["_law_held_here"] (defScope s_law_cards_in) := ⟨rfl, rfl, rfl, by decide +kernel, rfl, by decide +kernel, by decide +kernel⟩
abbrev s_law_longs : Stmt := top 19
theorem sc_law_longs : FnScope ["_law_held_here", "_law_found", "_law_crate", "_law_words_here"] ["_law_held_here"] (defScope s_law_longs) := ⟨rfl, rfl, rfl, by decide +kernel, rfl, by decide +kernel, by decide +kernel⟩
abbrev s_law_held : Stmt := top 20
theorem sc_law_held : FnScope ["_law_bag_here", "_law_cap", "_law_held_here", "_law_crates", "_law_spot", "_law_pool", "_law_crate", "_law_kind"] ["_law_bag_here", "_law_cap"] (defScope s_law_held) := ⟨rfl, rfl, rfl, by decide +kernel, rfl, by decide +kernel, by decide +kernel⟩
abbrev s_law_titles : Stmt := top 21
theorem sc_law_titles : FnScope ["_law_held_here", "_law_found", "_law_words_here", "_law_crate", "_law_label"] ["_law_held_here"] (defScope s_law_titles) := ⟨rfl, rfl, rfl, by decide +kernel, rfl, by decide +kernel, by decide +kernel⟩
abbrev s_law_same : Stmt := top 22
theorem sc_law_same : FnScope ["_law_told", "_law_due", "_law_one", "_law_other"] ["_law_told", "_law_due"] (defScope s_law_same) := ⟨rfl, rfl, rfl, by decide +kernel, rfl, by decide +kernel, by decide +kernel⟩
abbrev s_law_other_order : Stmt := top 23
theorem sc_law_other_order : FnScope ["_law_bag_here", "_law_held_here", "_law_found", "_law_left", "_law_crate", "_law_labels", "_law_label"] ["_law_bag_here", "_law_held_here"] (defScope s_law_other_order) := ⟨rfl, rfl, rfl, by decide +kernel, rfl, by decide +kernel, by decide +kernel⟩
abbrev s_law : Stmt := top 24
theorem sc_law : FnScope ["_law_script", "_law_at", "_law_bag_here", "_law_held_here", "_law_other", "_law_kept", "_law_due", "_law_one", "_law_told"] ["_law_script"] (defScope s_law) := ⟨rfl, rfl, rfl, by decide +kernel, rfl, by decide +kernel, by decide +kernel⟩
structure Txt (K : PySem.W.Frag) (mg : Str → Option Value) where
  f_box_title : Addr
  fd_box_title : FuncData
  F_box_title : Fun K "box_title" "box_title" s_box_title f_box_title fd_box_title
  m_box_title : mg "box_title" = some (.ref f_box_title)
  b_box_title : Binds K fd_box_title ["name"] []
  f_row_title : Addr
  fd_row_title : FuncData
  F_row_title : Fun K "row_title" "row_title" s_row_title f_row_title fd_row_title
  m_row_title : mg "row_title" = some (.ref f_row_title)
  b_row_title : Binds K fd_row_title ["box", "key"] []
  f_text_title : Addr
  fd_text_title : FuncData
  F_text_title : Fun K "text_title" "text_title" s_text_title f_text_title fd_text_title
  m_text_title : mg "text_title" = some (.ref f_text_title)
  b_text_title : Binds K fd_text_title ["text"] []
  f_is_long : Addr
  fd_is_long : FuncData
  F_is_long : Fun K "is_long" "is_long" s_is_long f_is_long fd_is_long
  m_is_long : mg "is_long" = some (.ref f_is_long)
  b_is_long : Binds K fd_is_long ["text"] []
  f_long_texts : Addr
  fd_long_texts : FuncData
  F_long_texts : Fun K "long_texts" "long_texts" s_long_texts f_long_texts fd_long_texts
  m_long_texts : mg "long_texts" = some (.ref f_long_texts)
  b_long_texts : Binds K fd_long_texts ["content"] []
  f_titles : Addr
  fd_titles : FuncData
  F_titles : Fun K "titles" "titles" s_titles f_titles fd_titles
  m_titles : mg "titles" = some (.ref f_titles)
  b_titles : Binds K fd_titles ["content"] []
  f_law_bag : Addr
  fd_law_bag : FuncData
  F_law_bag : Fun K "_law_bag" "_law_bag" s_law_bag f_law_bag fd_law_bag
  m_law_bag : mg "_law_bag" = some (.ref f_law_bag)
  b_law_bag : Binds K fd_law_bag ["_law_script", "_law_at"] []
  f_law_take : Addr
  fd_law_take : FuncData
  F_law_take : Fun K "_law_take" "_law_take" s_law_take f_law_take fd_law_take
  m_law_take : mg "_law_take" = some (.ref f_law_take)
  b_law_take : Binds K fd_law_take ["_law_bag_here", "_law_many"] []
  f_law_name : Addr
  fd_law_name : FuncData
  F_law_name : Fun K "_law_name" "_law_name" s_law_name f_law_name fd_law_name
  m_law_name : mg "_law_name" = some (.ref f_law_name)
  b_law_name : Binds K fd_law_name ["_law_bag_here"] []
  f_law_words : Addr
  fd_law_words : FuncData
  F_law_words : Fun K "_law_words" "_law_words" s_law_words f_law_words fd_law_words
  m_law_words : mg "_law_words" = some (.ref f_law_words)
  b_law_words : Binds K fd_law_words ["_law_bag_here"] []
  f_law_cards_in : Addr
  fd_law_cards_in : FuncData
  F_law_cards_in : Fun K "_law_cards_in" "_law_cards_in" s_law_cards_in f_law_cards_in fd_law_cards_in
  m_law_cards_in : mg "_law_cards_in" = some (.ref f_law_cards_in)
  b_law_cards_in : Binds K fd_law_cards_in ["_law_held_here"] []
  f_law_longs : Addr
  fd_law_longs : FuncData
  F_law_longs : Fun K "_law_longs" "_law_longs" s_law_longs f_law_longs fd_law_longs
  m_law_longs : mg "_law_longs" = some (.ref f_law_longs)
  b_law_longs : Binds K fd_law_longs ["_law_held_here"] []
  f_law_held : Addr
  fd_law_held : FuncData
  F_law_held : Fun K "_law_held" "_law_held" s_law_held f_law_held fd_law_held
  m_law_held : mg "_law_held" = some (.ref f_law_held)
  b_law_held : Binds K fd_law_held ["_law_bag_here", "_law_cap"] []
  f_law_titles : Addr
  fd_law_titles : FuncData
  F_law_titles : Fun K "_law_titles" "_law_titles" s_law_titles f_law_titles fd_law_titles
  m_law_titles : mg "_law_titles" = some (.ref f_law_titles)
  b_law_titles : Binds K fd_law_titles ["_law_held_here"] []
  f_law_same : Addr
  fd_law_same : FuncData
  F_law_same : Fun K "_law_same" "_law_same" s_law_same f_law_same fd_law_same
  m_law_same : mg "_law_same" = some (.ref f_law_same)
  b_law_same : Binds K fd_law_same ["_law_told", "_law_due"] []
  f_law_other_order : Addr
  fd_law_other_order : FuncData
  F_law_other_order : Fun K "_law_other_order" "_law_other_order" s_law_other_order f_law_other_order fd_law_other_order
  m_law_other_order : mg "_law_other_order" = some (.ref f_law_other_order)
  b_law_other_order : Binds K fd_law_other_order ["_law_bag_here", "_law_held_here"] []
  f_law : Addr
  fd_law : FuncData
  F_law : Fun K "law" "law" s_law f_law fd_law
  m_law : mg "law" = some (.ref f_law)
  b_law : Binds K fd_law ["_law_script"] []
  z_abs : mg "abs" = none
  z_all : mg "all" = none
  z_bool : mg "bool" = none
  z_dict : mg "dict" = none
  z_int : mg "int" = none
  z_isinstance : mg "isinstance" = none
  z_len : mg "len" = none
  z_list : mg "list" = none
  z_max : mg "max" = none
  z_min : mg "min" = none
  z_range : mg "range" = none
  z_repr : mg "repr" = none
  z_set : mg "set" = none
  z_sorted : mg "sorted" = none
  z_str : mg "str" = none
  z_sum : mg "sum" = none
  z_tuple : mg "tuple" = none
  z_zip : mg "zip" = none
  t_BOX_SIGN : Tok
  g_BOX_SIGN : mg "BOX_SIGN" = some (.str "b:" t_BOX_SIGN)
  t_MOST_SHORT : Tok
  g_MOST_SHORT : mg "MOST_SHORT" = some (.int 8 t_MOST_SHORT)
  t_ROW_SIGN : Tok
  g_ROW_SIGN : mg "ROW_SIGN" = some (.str "r:" t_ROW_SIGN)
  t_TEXT_SIGN : Tok
  g_TEXT_SIGN : mg "TEXT_SIGN" = some (.str "t:" t_TEXT_SIGN)
abbrev lq (x : Str) : Str := x ++ ".<locals>." ++ "<lambda>"
section
variable {P : Program} {w : World} {K : PySem.W.Frag} {mg : Str → Option Value} {base : Heap} [Tabl] {Z : XZ}
/-! steps of the walk over data -/
local macro_rules | `(tactic| walk_at "ls") => `(tactic| first
  | decide
  | assumption
  | omega
  | (simp only [List.length_append, List.length_map, List.length_cons, List.length_nil, List.length_replicate, List.length_take, List.length_drop]; omega))
local macro_rules | `(tactic| walk_at "e1") => `(tactic| first
  | ((with_reducible apply gk_var); (focus (exact rfl)))
  | with_reducible refine dN.mk ?_
  | with_reducible refine gk_i ?_
  | with_reducible refine gk_s ?_
  | with_reducible refine gk_b ?_
  | with_reducible refine gk_n ?_
  | ((with_reducible apply gk_ownIx); (focus (exact rfl)))
  | ((with_reducible apply gk_ownLen); (focus (exact rfl)))
  | ((with_reducible apply gk_scrLen); (focus (exact rfl)))
  | with_reducible refine gk_isi ?_
  | refine ⟨true, rfl, kit_ty (by kernel_rfl), ?_⟩
  | refine ⟨false, rfl, kit_ty (by kernel_rfl), ?_⟩
  | ((with_reducible apply gk_inOwn); (focus (exact rfl)); (focus (exact flat_strs)))
  | with_reducible refine gk_op ?_
  | with_reducible refine gk_un ?_
  | with_reducible refine gk_cb ?_
  | ((with_reducible refine gk_callB ?_ ?_); (focus (exact rfl)))
  | with_reducible refine gk_call ?_
  | ((with_reducible refine gk_dfl ?_ ?_); (focus (exact rfl)))
  | ((with_reducible refine gk_kw ?_ ?_); (focus (exact rfl)))
  | with_reducible refine gk_tup ?_
  | with_reducible refine gk_lst ?_
  | with_reducible refine gk_ifE ?_
  | with_reducible refine gk_andV ?_
  | with_reducible refine gk_orV ?_
  | with_reducible refine gk_notV ?_
  | with_reducible refine gk_chain ?_
  | with_reducible refine gk_sl ?_
  | with_reducible refine gk_m1 ?_
  | with_reducible refine gk_index ?_
  | with_reducible refine go_none ?_
  | with_reducible refine go_some ?_
  | with_reducible refine ga_cons ?_
  | with_reducible refine ga_nil ?_
  | with_reducible refine gt_test ?_
  | with_reducible refine gt_B ?_
  | with_reducible refine gt_not ?_
  | with_reducible refine gt_and ?_
  | with_reducible refine gt_or ?_
  | with_reducible refine gt_yes ?_
  | ((with_reducible apply gt_truOwn); (focus (exact rfl)))
  | with_reducible refine gt_tru ?_
  | with_reducible refine rk_add ?_
  | with_reducible refine rk_sub ?_
  | with_reducible refine rk_lt ?_
  | with_reducible refine rk_le ?_
  | with_reducible refine rk_gt ?_
  | with_reducible refine rk_ge ?_
  | ((with_reducible refine rk_mul ?_ ?_); (focus (first | exact .inl ⟨by decide, by decide⟩ | exact .inr ⟨by decide, by decide⟩ | exact .inl ⟨by omega, by omega⟩ | exact .inr ⟨by omega, by omega⟩)))
  | ((with_reducible refine rk_fdiv ?_ ?_); (focus (first | exact ⟨by decide, by decide⟩ | exact ⟨by omega, by omega⟩)))
  | ((with_reducible refine rk_mod ?_ ?_); (focus (first | decide | omega)))
  | with_reducible refine rk_eqI ?_
  | with_reducible refine rk_neI ?_
  | with_reducible refine rk_eqS ?_
  | with_reducible refine rk_neS ?_
  | with_reducible refine rk_eqB ?_
  | with_reducible refine rk_neB ?_
  | with_reducible refine rk_ltS ?_
  | with_reducible refine rk_gtS ?_
  | with_reducible refine rk_leS ?_
  | with_reducible refine rk_leIS ?_
  | with_reducible refine rk_gtIS ?_
  | with_reducible refine rk_ltIS ?_
  | with_reducible refine rk_isN ?_
  | with_reducible refine rk_notN ?_
  | with_reducible refine ru_neg ?_
  | ((with_reducible refine rk_addS ?_ ?_); (focus (exact sz_ (by (try simp only [str_app_len]); omega))))
  | ((with_reducible refine rk_cat ?_ ?_); (focus (walk_at "ls")))
  | ((with_reducible refine rk_catT ?_ ?_); (focus (walk_at "ls")))
  | ((with_reducible refine rc_lenS ?_ ?_); (focus (walk_at "ls")))
  | with_reducible refine rc_lenL ?_
  | with_reducible refine rc_lenT ?_
  | with_reducible refine rc_ord ?_
  | with_reducible refine rc_abs ?_
  | with_reducible refine rc_all ?_
  | with_reducible refine rc_any ?_
  | with_reducible refine rc_sum ?_
  | with_reducible refine rc_int1 ?_
  | with_reducible refine rc_intB ?_
  | with_reducible refine rc_max2 ?_
  | with_reducible refine rc_max2S ?_
  | with_reducible refine rc_min2S ?_
  | with_reducible refine rc_min2 ?_
  | with_reducible refine rc_tupL ?_
  | with_reducible refine rc_tupT ?_
  | with_reducible refine rc_listL ?_
  | with_reducible refine rc_listT ?_
  | ((with_reducible refine rs_tupTo ?_ ?_); (focus (first | decide | omega)))
  | ((with_reducible refine rs_tupFrom ?_ ?_); (focus (first | decide | omega)))
  | ((with_reducible refine rs_lstTo ?_ ?_); (focus (first | decide | omega)))
  | ((with_reducible refine rs_lstFrom ?_ ?_); (focus (first | decide | omega)))
  | with_reducible refine rs_lst ?_
  | with_reducible refine rs_tup ?_
  | ((with_reducible refine rs_str ?_ ?_); (focus (walk_at "ls")))
  | with_reducible refine gi_list ?_
  | with_reducible refine gi_tup ?_
  | with_reducible refine gi_str ?_
  | with_reducible refine gi_rng1 ?_
  | with_reducible refine gi_rng2 ?_
  | with_reducible refine gi_enum ?_
  | with_reducible refine ⟨_, rfl, ?_⟩
  | with_reducible refine ⟨_, _, rfl, ?_⟩
  | with_reducible refine ⟨_, _, _, rfl, ?_⟩
  | ((with_reducible apply rk_ixL); (focus (exact rfl)))
  | ((with_reducible apply rk_ixT); (focus (exact rfl)))
  | ((with_reducible refine And.intro (a := List.length _ ≤ 100000) ?_ ?_); (focus (walk_at "ls")))
  | with_reducible refine ⟨fun h => absurd h Bool.false_ne_true, fun _ => ?_⟩
  | with_reducible refine ⟨fun h => absurd h not_tt, fun _ => ?_⟩
  | with_reducible refine ⟨fun _ => ?_, fun h => absurd h not_ff⟩
  | with_reducible refine ⟨fun _ => ?_, fun h => absurd h.symm Bool.false_ne_true⟩)
local macro_rules | `(tactic| walk_at "s1") => `(tactic| first
  | with_reducible refine gs_seq ?_
  | with_reducible refine gs_next ?_
  | with_reducible refine gs_brk ?_
  | with_reducible refine gs_cont ?_
  | with_reducible refine gs_ret ?_
  | with_reducible refine gs_par ?_
  | with_reducible refine gs_par3 ?_
  | with_reducible refine gs_asg ?_
  | ((with_reducible refine gs_unp2 ?_ ?_); (focus (exact rfl)))
  | ((with_reducible refine gs_unp3 ?_ ?_); (focus (exact rfl)))
  | with_reducible refine gs_if ?_
  | ((with_reducible apply gs_app); (focus (exact rfl)); (focus (walk_at "ls")))
  | with_reducible refine gs_drop ?_)
local macro_rules | `(tactic| walk_at "e") => `(tactic| repeat (walk_at "e1"))
local macro_rules | `(tactic| walk_at "g") => `(tactic| repeat (first | walk_at "e1" | walk_at "s1"))
local macro_rules | `(tactic| walk_at "k") => `(tactic| try dsimp only [cxOf, Cx.nox])
local macro_rules | `(tactic| walk_at "wk") => `(tactic| repeat (first | exact Wk.nil | refine Wk.kp ?_ | refine Wk.un ?_))
local macro_rules | `(tactic| walk_at "no") => `(tactic| (intro _ h; cases h))
/-! str -/
/-- all codes small -/
def Cd (z : Str) : Prop := ∀ c ∈ tl z, c < 1000
theorem Cd.ok {z : Str} (h : Cd z) : ∀ c ∈ z.cps.toList, c < 2 ^ 30 := fun c m => Nat.lt_trans (h c m) (by decide)
theorem Cd.app {x y : Str} (h : Cd x) (h2 : Cd y) : Cd (x ++ y) := fun c m => by
  rw [tl_append] at m
  rcases List.mem_append.mp m with m | m
  · exact h c m
  · exact h2 c m
theorem Cd.cut {z : Str} (h : Cd z) (lo hi : Option Int) : Cd (cutS z lo hi) := fun c m => h c (List.mem_of_mem_drop (List.mem_of_mem_take m))
theorem Cd.one {c : Nat} (h : c < 1000) : Cd (S [c]) := fun x m => by
  rw [tl_S] at m
  rw [List.mem_singleton.mp m]
  exact h
theorem Cd.of {cs : List Nat} (h : ∀ c ∈ cs, c < 1000) : Cd (S cs) := fun x m => by
  rw [tl_S] at m
  exact h x m
theorem one_len (c : Nat) : (S [c]).length = 1 := by rw [S_len]; rfl
/-! name -/
theorem letters_ok : ∀ c ∈ tl "abcdefghijklmnopqrstuvwxyz", 97 ≤ c ∧ c ≤ 122 := by decide
/-- so many letters -/
def Nm (cs : List Nat) (most : Int) : Prop := 1 ≤ cs.length ∧ (cs.length : Int) ≤ most ∧ ∀ c ∈ cs, 97 ≤ c ∧ c ≤ 122
/-! wt -/
/-- a worth: forty signs at most, each from the blank on, no percent sign -/
def Wt (z : Str) : Prop := z.length ≤ 40 ∧ ∀ c ∈ tl z, 32 ≤ c ∧ c ≤ 126 ∧ c ≠ 37
theorem Wt.cd {z : Str} (h : Wt z) : Cd z := fun c m => Nat.lt_of_le_of_lt (h.2 c m).2.1 (by decide)
theorem Wt.of {cs : List Nat} (h : cs.length ≤ 40) (g : ∀ c ∈ cs, 32 ≤ c ∧ c ≤ 126 ∧ c ≠ 37) : Wt (S cs) := ⟨by rw [S_len]; exact h, fun c m => g c (by rwa [tl_S] at m)⟩
theorem num_tl (m : Nat) : tl (Str.ofString (toString (m : Int))) = (Nat.toDigits 10 m).map Char.toNat := by
  rw [PySem.Str.ofString_eq_toList]
  show ((toString ((m : Nat) : Int)).toList.map Char.toNat).toArray.toList = _
  rw [List.toList_toArray]
  congr 1
  show (Nat.repr m).toList = _
  unfold Nat.repr
  simp
theorem digits_of (m : Nat) (hm : m < 6000) : (Str.ofString (toString (m : Int))).length ≤ 4 ∧ ∀ c ∈ tl (Str.ofString (toString (m : Int))), 48 ≤ c ∧ c ≤ 57 := by
  have hl : (Str.ofString (toString (m : Int))).length = (tl (Str.ofString (toString (m : Int)))).length := (Array.length_toList (xs := (Str.ofString (toString (m : Int))).cps)).symm
  rw [hl, num_tl, List.length_map]
  refine ⟨(Nat.length_toDigits_le_iff (by decide) (by decide)).mpr (by omega), fun c hc => ?_⟩
  obtain ⟨x, hx, rfl⟩ := List.mem_map.mp hc
  have := Nat.isDigit_of_mem_toDigits (by decide) (by decide) hx
  unfold Char.isDigit at this
  rw [Bool.and_eq_true, decide_eq_true_eq, decide_eq_true_eq] at this
  exact ⟨this.1, this.2⟩
theorem log_small {m : Nat} (h : m < 6000) : ((m : Int).natAbs).log2 < 1920 := by
  rw [Int.natAbs_natCast]
  by_cases e : m = 0
  · subst e
    decide
  · have := (Nat.log2_lt e (k := 13)).mpr (by omega)
    omega
/-! cont -/
/-! contents, plainly -/
def Nmz (z : Str) : Prop := 1 ≤ z.length ∧ z.length ≤ 8 ∧ ∀ c ∈ tl z, 97 ≤ c ∧ c ≤ 122
def WfR (rs : List (Str × Str)) : Prop := (rs.map (·.1)).Nodup ∧ ∀ kv ∈ rs, Nmz kv.1 ∧ Wt kv.2
def WfC (c : Cont) : Prop := (c.map (·.1)).Nodup ∧ ∀ b ∈ c, Nmz b.1 ∧ WfR b.2
def rowsN (c : Cont) : Nat := (c.map fun b => b.2.length).sum
def longR (rs : List (Str × Str)) : List Str := (rs.map (·.2)).filter fun y => decide (8 < y.length)
def longL (c : Cont) : List Str := c.flatMap fun b => longR b.2
def cardsN (c : Cont) : Nat := c.length + rowsN c + (setS (longL c)).length
def putR (rs : List (Str × Str)) (k z : Str) : List (Str × Str) := if k ∈ rs.map (·.1) then rs.map fun kv => if kv.1 = k then (kv.1, z) else kv else rs ++ [(k, z)]
def updC (c : Cont) (x : Str) (f : List (Str × Str) → List (Str × Str)) : Cont := c.map fun b => if b.1 = x then (b.1, f b.2) else b
theorem Nmz.top {z : Str} (h : Nmz z) : ∀ c ∈ tl z, c < 1114112 := fun c m => Nat.lt_of_le_of_lt (h.2.2 c m).2 (by decide)
theorem rowsN_app (c d : Cont) : rowsN (c ++ d) = rowsN c + rowsN d := by
  unfold rowsN
  rw [List.map_append, List.sum_append]
theorem rows_le : ∀ {c : Cont} {b : Str × List (Str × Str)}, b ∈ c → b.2.length ≤ rowsN c
  | b0 :: c, b, h => by
    show b.2.length ≤ b0.2.length + rowsN c
    rcases List.mem_cons.mp h with rfl | m
    · omega
    · have := rows_le m
      omega
theorem longL_le : ∀ c : Cont, (longL c).length ≤ rowsN c
  | [] => Nat.le_refl 0
  | b :: c => by
    have ih := longL_le c
    have h1 : (longR b.2).length ≤ b.2.length := by
      unfold longR
      exact Nat.le_trans (List.length_filter_le _ _) (by rw [List.length_map]; exact Nat.le_refl _)
    show ((longR b.2) ++ longL c).length ≤ b.2.length + rowsN c
    rw [List.length_append]
    omega
theorem getD_none {es : List (Key × D)} {k : Key} (h : getD' es k = none) : ∀ kv ∈ es, kv.1 ≠ k := fun kv hk e => by
  unfold getD' at h
  rw [Option.map_eq_none_iff, List.find?_eq_none] at h
  exact h kv hk (decide_eq_true e)
theorem putD_new {es : List (Key × D)} {k : Key} {d : D} (h : ∀ kv ∈ es, kv.1 ≠ k) : putD es k d = es ++ [(k, d)] := by
  unfold putD
  rw [if_neg]
  rw [List.any_eq_true]
  rintro ⟨kv, hk, e⟩
  exact h kv hk (of_decide_eq_true e)
theorem rowE_put {rs : List (Str × Str)} {k z : Str} : putD (rowE rs) (Sum.inr k) (.str z) = rowE (putR rs k z) := by
  unfold putR
  by_cases h : k ∈ rs.map (·.1)
  · rw [if_pos h]
    obtain ⟨kv, hk, e⟩ := List.mem_map.mp h
    unfold putD rowE
    rw [if_pos (List.any_eq_true.mpr ⟨(Sum.inr kv.1, D.str kv.2), List.mem_map.mpr ⟨kv, hk, rfl⟩, decide_eq_true (by rw [e])⟩), List.map_map, List.map_map]
    refine List.map_congr_left fun x _ => ?_
    show (if (Sum.inr x.1 : Key) = Sum.inr k then _ else _) = _
    by_cases q : x.1 = k
    · rw [if_pos (by rw [q])]
      show _ = (Sum.inr (if x.1 = k then (x.1, z) else x).1, D.str (if x.1 = k then (x.1, z) else x).2)
      rw [if_pos q]
    · rw [if_neg (fun w => q (Sum.inr.inj w))]
      show _ = (Sum.inr (if x.1 = k then (x.1, z) else x).1, D.str (if x.1 = k then (x.1, z) else x).2)
      rw [if_neg q]
  · rw [if_neg h, putD_new]
    · unfold rowE
      rw [List.map_append]
      rfl
    · intro kv hk e
      obtain ⟨x, hx, rfl⟩ := List.mem_map.mp hk
      exact h (List.mem_map.mpr ⟨x, hx, Sum.inr.inj e⟩)
theorem putR_len {rs : List (Str × Str)} {k z : Str} : rs.length ≤ (putR rs k z).length ∧ (putR rs k z).length ≤ rs.length + 1 := by
  unfold putR
  split
  · rw [List.length_map]
    omega
  · rw [List.length_append]
    simp
theorem WfR.put {rs : List (Str × Str)} {k z : Str} (h : WfR rs) (hk : Nmz k) (hz : Wt z) : WfR (putR rs k z) := by
  unfold putR
  split
  · refine ⟨?_, fun kv hkv => ?_⟩
    · rw [List.map_map, show ((·.1) ∘ fun kv : Str × Str => if kv.1 = k then (kv.1, z) else kv) = (·.1) from funext fun kv => by
        show (if kv.1 = k then (kv.1, z) else kv).1 = kv.1
        split <;> rfl]
      exact h.1
    · obtain ⟨x, hx, rfl⟩ := List.mem_map.mp hkv
      have := h.2 x hx
      split
      · exact ⟨this.1, hz⟩
      · exact this
  · rename_i n
    refine ⟨?_, fun kv hkv => ?_⟩
    · rw [List.map_append, List.nodup_append]
      refine ⟨h.1, by simp, fun a ha b hb => ?_⟩
      have : b = k := by simpa using hb
      exact fun e => n (this ▸ e ▸ ha)
    · rcases List.mem_append.mp hkv with q | q
      · exact h.2 kv q
      · rw [List.mem_singleton.mp q]
        exact ⟨hk, hz⟩
theorem updC_keys {c : Cont} {x : Str} {f : List (Str × Str) → List (Str × Str)} : (updC c x f).map (·.1) = c.map (·.1) := by
  unfold updC
  rw [List.map_map]
  refine List.map_congr_left fun b _ => ?_
  show (if b.1 = x then (b.1, f b.2) else b).1 = b.1
  split <;> rfl
theorem updC_no {c : Cont} {x : Str} {f : List (Str × Str) → List (Str × Str)} (h : x ∉ c.map (·.1)) : updC c x f = c := by
  unfold updC
  refine (List.map_congr_left fun b hb => ?_).trans (List.map_id c)
  rw [if_neg fun e => h (List.mem_map.mpr ⟨b, hb, e⟩)]
  rfl
theorem WfC.upd {c : Cont} {x : Str} {f : List (Str × Str) → List (Str × Str)} (h : WfC c) (hf : ∀ rs, WfR rs → WfR (f rs)) : WfC (updC c x f) := by
  refine ⟨by rw [updC_keys]; exact h.1, fun b hb => ?_⟩
  obtain ⟨b0, h0, rfl⟩ := List.mem_map.mp hb
  have := h.2 b0 h0
  split
  · exact ⟨this.1, hf _ this.2⟩
  · exact this
theorem updC_rows {c : Cont} {x : Str} {f : List (Str × Str) → List (Str × Str)} (nd : (c.map (·.1)).Nodup) (hf : ∀ rs, (f rs).length ≤ rs.length + 1) : rowsN (updC c x f) ≤ rowsN c + 1 := by
  induction c with
  | nil => exact Nat.le_succ 0
  | cons b c ih =>
    rw [List.map_cons, List.nodup_cons] at nd
    by_cases e : b.1 = x
    · have : updC (b :: c) x f = (b.1, f b.2) :: c := by
        show (if b.1 = x then (b.1, f b.2) else b) :: updC c x f = _
        rw [if_pos e, updC_no (e ▸ nd.1)]
      rw [this]
      show (f b.2).length + rowsN c ≤ b.2.length + rowsN c + 1
      have := hf b.2
      omega
    · have : updC (b :: c) x f = b :: updC c x f := by
        show (if b.1 = x then (b.1, f b.2) else b) :: updC c x f = _
        rw [if_neg e]
      rw [this]
      show b.2.length + rowsN (updC c x f) ≤ b.2.length + rowsN c + 1
      have := ih nd.2
      omega
/-- the place of a box in the store -/
theorem Rws.find {n : Sto} {qs : List Addr} {c : Cont} {x : Str} (h : Rws n qs c) (nq : qs.Nodup) (nd : (c.map (·.1)).Nodup) (hx : x ∈ c.map (·.1)) :
    ∃ q rs, q ∈ qs ∧ (x, rs) ∈ c ∧ getD' (ptE qs c) (Sum.inr x) = some (.ptr q) ∧ n.μ q = some (.dic (rowE rs)) ∧
      ∀ (f : List (Str × Str) → List (Str × Str)) (n' : Sto), n'.μ q = some (.dic (rowE (f rs))) → (∀ a ∈ qs, a ≠ q → n'.μ a = n.μ a) → Rws n' qs (updC c x f) ∧ ptE qs (updC c x f) = ptE qs c := by
  induction h with
  | nil => simp at hx
  | @cons q qs b c h r ih =>
    rw [List.map_cons, List.nodup_cons] at nd
    rw [List.nodup_cons] at nq
    by_cases e : b.1 = x
    · subst e
      refine ⟨q, b.2, List.mem_cons_self, List.mem_cons_self, ?_, h, fun f n' h1 h2 => ?_⟩
      · unfold getD' ptE
        rw [List.find?_cons_of_pos (by simp)]
        rfl
      · have u : updC (b :: c) b.1 f = (b.1, f b.2) :: c := by
          show (if b.1 = b.1 then (b.1, f b.2) else b) :: updC c b.1 f = _
          rw [if_pos rfl, updC_no nd.1]
        rw [u]
        exact ⟨.cons h1 (r.keep fun a ha => h2 a (List.mem_cons_of_mem _ ha) fun z => nq.1 (z ▸ ha)), rfl⟩
    · have hx' : x ∈ c.map (·.1) := by
        rw [List.map_cons, List.mem_cons] at hx
        exact hx.elim (fun z => absurd z.symm e) id
      obtain ⟨q', rs, m1, m2, g, w, k⟩ := ih nq.2 nd.2 hx'
      refine ⟨q', rs, List.mem_cons_of_mem _ m1, List.mem_cons_of_mem _ m2, ?_, w, fun f n' h1 h2 => ?_⟩
      · unfold getD' ptE
        rw [List.find?_cons_of_neg (by simpa using e)]
        exact g
      · have u : updC (b :: c) x f = b :: updC c x f := by
          show (if b.1 = x then (b.1, f b.2) else b) :: updC c x f = _
          rw [if_neg e]
        obtain ⟨k1, k2⟩ := k f n' h1 fun a ha ne => h2 a (List.mem_cons_of_mem _ ha) ne
        rw [u]
        refine ⟨.cons ((h2 q List.mem_cons_self fun z => nq.1 (z ▸ m1)).trans h) k1, ?_⟩
        show (Sum.inr b.1, D.ptr q) :: ptE qs (updC c x f) = _
        rw [k2]
        rfl
theorem ptE_none {qs : List Addr} {c : Cont} {x : Str} (hl : qs.length = c.length) (h : getD' (ptE qs c) (Sum.inr x) = none) : x ∉ c.map (·.1) := fun m => by
  have k := ptE_keys hl
  obtain ⟨b, hb, e⟩ := List.mem_map.mp m
  have m2 : (Sum.inr x : Key) ∈ (ptE qs c).map (·.1) := by
    rw [k]
    exact List.mem_map.mpr ⟨b, hb, by rw [e]⟩
  obtain ⟨kv, hk, e2⟩ := List.mem_map.mp m2
  exact getD_none h kv hk e2
theorem dropD_cntE {c : Cont} {x : Str} : dropD (cntE c) (Sum.inr x) = cntE (c.filter fun b => decide (b.1 ≠ x)) := by
  unfold dropD cntE
  rw [List.filter_map]
  congr 1
  refine List.filter_congr fun b _ => ?_
  show decide ((Sum.inr b.1 : Key) ≠ Sum.inr x) = decide (b.1 ≠ x)
  by_cases e : b.1 = x
  · simp [e]
  · simp [e]
theorem getD_cnt {c : Cont} {x : Str} {rs : List (Str × Str)} (nd : (c.map (·.1)).Nodup) (h : (x, rs) ∈ c) : getD' (cntE c) (Sum.inr x) = some (rowD rs) := by
  induction c with
  | nil => cases h
  | cons b c ih =>
    rw [List.map_cons, List.nodup_cons] at nd
    unfold getD' cntE
    rcases List.mem_cons.mp h with rfl | m
    · rw [List.map_cons, List.find?_cons_of_pos (by simp)]
      rfl
    · have ne : b.1 ≠ x := fun e => nd.1 (e ▸ List.mem_map.mpr ⟨(x, rs), m, rfl⟩)
      rw [List.map_cons, List.find?_cons_of_neg (by simpa using ne)]
      exact ih nd.2 m
theorem strs_ofD {Pc : Str → Prop} : ∀ {ys : List D}, (∀ y ∈ ys, ∃ z, Pc z ∧ y = .str z) → ∃ zs : List Str, ys = zs.map D.str ∧ (∀ z ∈ zs, Pc z) ∧ zs.length = ys.length
  | [], _ => ⟨[], rfl, fun _ z => (nomatch z), rfl⟩
  | y :: ys, h => by
    obtain ⟨z, hz, rfl⟩ := h y List.mem_cons_self
    obtain ⟨zs, rfl, h2, h3⟩ := strs_ofD (ys := ys) fun y hy => h y (List.mem_cons_of_mem _ hy)
    exact ⟨z :: zs, rfl, fun u hu => (List.mem_cons.mp hu).elim (fun e => e ▸ hz) (h2 u), congrArg (· + 1) h3⟩
theorem at_strs {zs : List Str} {r : Int} (h0 : 0 ≤ r) (h1 : r < (zs.length : Int)) : ∃ z, L2.atI (zs.map D.str) r = some (.str z) ∧ z ∈ zs := by
  obtain ⟨d, e, m⟩ := at_any (xs := zs.map D.str) h0 (by rw [List.length_map]; exact h1)
  obtain ⟨z, hz, rfl⟩ := List.mem_map.mp m
  exact ⟨z, e, hz⟩
def longD (d : D) : Bool := match d with
  | .str y => decide ((8 : Int) < y.length)
  | _ => false
theorem flt_longR (rs : List (Str × Str)) : ((rowE rs).map (·.2)).filter longD = (longR rs).map D.str := by
  unfold longR rowE
  induction rs with
  | nil => rfl
  | cons kv rs ih =>
    rw [List.map_cons, List.map_cons, List.map_cons, List.filter_cons, List.filter_cons, ih]
    show (if decide ((8 : Int) < kv.2.length) = true then _ else _) = _
    by_cases e : 8 < kv.2.length
    · rw [if_pos (decide_eq_true (by omega)), if_pos (decide_eq_true e)]
      rfl
    · rw [if_neg (by simpa using (by omega)), if_neg (by simpa using (by omega))]
/-! tits -/
/-! titles, plainly -/
def rowT (x k : Str) : Str := "r:" ++ x ++ ":" ++ k
def rowsT (c : Cont) : List Str := c.flatMap fun b => b.2.map fun kv => rowT b.1 kv.1
/-- the titles of a content's cards, as they come -/
def titS (c : Cont) : List Str := (setS (longL c)).map (fun w => ("t:" : Str) ++ w) ++ c.map (fun b => ("b:" : Str) ++ b.1) ++ rowsT c
def preD (p : Str) : D → D
  | .str z => .str (p ++ z)
  | d => d
theorem map_preD {p : Str} {zs : List Str} : (zs.map D.str).map (preD p) = (zs.map fun z => p ++ z).map D.str := by
  rw [List.map_map, List.map_map]
  rfl
def rowF (x : Str) : D → D
  | .str z => .str (rowT x z)
  | d => d
theorem tl_cat (x y : Str) : tl (x ++ y) = tl x ++ tl y := Array.toList_append
theorem tit_cd {c : Cont} (wf : WfC c) : ∀ z ∈ titS c, ∀ u ∈ tl z, u < 1114112 := by
  have nm : ∀ {z : Str}, Nmz z → ∀ u ∈ tl z, u < 1114112 := fun h u m => Nat.lt_of_le_of_lt (h.2.2 u m).2 (by decide)
  have c1 : ∀ u ∈ tl "t:", u < 1114112 := by decide +kernel
  have c2 : ∀ u ∈ tl "b:", u < 1114112 := by decide +kernel
  have c3 : ∀ u ∈ tl "r:", u < 1114112 := by decide +kernel
  have c4 : ∀ u ∈ tl ":", u < 1114112 := by decide +kernel
  have cat : ∀ {x y : Str}, (∀ u ∈ tl x, u < 1114112) → (∀ u ∈ tl y, u < 1114112) → ∀ u ∈ tl (x ++ y), u < 1114112 := fun {x y} h g u m => by
    rw [tl_cat] at m
    exact (List.mem_append.mp m).elim (h u) (g u)
  intro z hz
  rcases List.mem_append.mp hz with hz | hz
  · rcases List.mem_append.mp hz with hz | hz
    · obtain ⟨w, hw, rfl⟩ := List.mem_map.mp hz
      obtain ⟨b, hb, m⟩ := List.mem_flatMap.mp (setS_mem.mp hw)
      obtain ⟨kv, hkv, rfl⟩ := List.mem_map.mp (List.mem_filter.mp m).1
      exact cat c1 fun u m => Nat.lt_of_le_of_lt (((wf.2 b hb).2.2 kv hkv).2.2 u m).2.1 (by decide)
    · obtain ⟨b, hb, rfl⟩ := List.mem_map.mp hz
      exact cat c2 (nm (wf.2 b hb).1)
  · obtain ⟨b, hb, hz⟩ := List.mem_flatMap.mp hz
    obtain ⟨kv, hkv, rfl⟩ := List.mem_map.mp hz
    exact cat (cat (cat c3 (nm (wf.2 b hb).1)) c4) (nm ((wf.2 b hb).2.2 kv hkv).1)
/-! oth -/
/-! the same content in another order -/
inductive OthL : Cont → Cont → Prop
  | nil : OthL [] []
  | cons {x : Str} {rs rs' : List (Str × Str)} {c c' : Cont} (h : rs'.Perm rs) (r : OthL c c') : OthL ((x, rs) :: c) ((x, rs') :: c')
def Oth (c c' : Cont) : Prop := ∃ c2, c2.Perm c ∧ OthL c2 c'
theorem OthL.snoc {x : Str} {rs rs' : List (Str × Str)} {c c' : Cont} (h : OthL c c') (g : rs'.Perm rs) : OthL (c ++ [(x, rs)]) (c' ++ [(x, rs')]) := by
  induction h with
  | nil => exact .cons g .nil
  | cons h _ ih => exact .cons h ih
theorem OthL.keys {c c' : Cont} (h : OthL c c') : c'.map (·.1) = c.map (·.1) := by
  induction h with
  | nil => rfl
  | cons h _ ih => rw [List.map_cons, List.map_cons, ih]
theorem OthL.rows {c c' : Cont} (h : OthL c c') : (rowsT c').Perm (rowsT c) := by
  induction h with
  | nil => exact List.Perm.refl _
  | cons h _ ih => exact (h.map _).append ih
theorem OthL.longs {c c' : Cont} (h : OthL c c') : (longL c').Perm (longL c) := by
  induction h with
  | nil => exact List.Perm.refl _
  | cons h _ ih => exact ((h.map _).filter _).append ih
theorem OthL.mem {c c' : Cont} (h : OthL c c') : ∀ b' ∈ c', ∃ b ∈ c, b.1 = b'.1 ∧ b'.2.Perm b.2 := by
  induction h with
  | nil => exact fun _ h => absurd h List.not_mem_nil
  | @cons x rs rs' c c' h _ ih =>
    intro b' hb
    rcases List.mem_cons.mp hb with rfl | hb
    · exact ⟨(x, rs), List.mem_cons_self, rfl, h⟩
    · obtain ⟨b, m, e⟩ := ih b' hb
      exact ⟨b, List.mem_cons_of_mem _ m, e⟩
theorem rowsT_len' : ∀ c : Cont, (rowsT c).length = rowsN c
  | [] => rfl
  | b :: c => by
    show ((b.2.map fun kv => rowT b.1 kv.1) ++ rowsT c).length = b.2.length + rowsN c
    rw [List.length_append, rowsT_len' c, List.length_map]
theorem rowsT_perm {c d : Cont} (h : c.Perm d) : (rowsT c).Perm (rowsT d) := h.flatMap_right _
theorem rowsN_perm {c d : Cont} (h : c.Perm d) : rowsN c = rowsN d := by
  rw [← rowsT_len', ← rowsT_len', (rowsT_perm h).length_eq]
theorem Oth.len {c c' : Cont} (h : Oth c c') : c'.length = c.length := by
  obtain ⟨c2, p, o⟩ := h
  have := congrArg List.length o.keys
  rw [List.length_map, List.length_map] at this
  rw [this, p.length_eq]
theorem Oth.rowsN {c c' : Cont} (h : Oth c c') : rowsN c' = Tl.rowsN c := by
  obtain ⟨c2, p, o⟩ := h
  rw [← rowsN_perm p, ← rowsT_len', o.rows.length_eq, rowsT_len']
theorem Oth.wf {c c' : Cont} (h : Oth c c') (wf : WfC c) : WfC c' := by
  obtain ⟨c2, p, o⟩ := h
  refine ⟨?_, fun b' hb => ?_⟩
  · rw [o.keys]
    exact (p.map _).nodup_iff.mpr wf.1
  · obtain ⟨b, m, e, q⟩ := o.mem b' hb
    have := wf.2 b (p.mem_iff.mp m)
    rw [← e]
    exact ⟨this.1, (q.map _).nodup_iff.mpr this.2.1, fun kv h => this.2.2 kv (q.mem_iff.mp h)⟩
theorem Oth.longs {c c' : Cont} (h : Oth c c') : setS (longL c') = setS (longL c) := by
  obtain ⟨c2, p, o⟩ := h
  exact setS_one fun y => (o.longs.trans (p.flatMap_right _)).mem_iff
theorem Oth.tits {c c' : Cont} (h : Oth c c') : srtS (titS c') = srtS (titS c) := by
  have hl := h.longs
  obtain ⟨c2, p, o⟩ := h
  refine srtS_one ?_
  unfold titS
  rw [hl]
  refine List.Perm.append (List.Perm.append_left _ ?_) (o.rows.trans (rowsT_perm p))
  have e : ∀ c : Cont, (c.map fun b => ("b:" : Str) ++ b.1) = (c.map (·.1)).map fun x => ("b:" : Str) ++ x := fun c => by
    rw [List.map_map]
    rfl
  rw [e, e, o.keys]
  exact (p.map _).map _
theorem getD_oth {es : List (Key × D)} (nd : (es.map Prod.fst).Nodup) {kv : Key × D} (m : kv ∈ es) : getD' es kv.1 = some kv.2 := by
  unfold getD'
  induction es with
  | nil => cases m
  | cons a es ih =>
    rw [List.map_cons, List.nodup_cons] at nd
    rw [List.find?_cons]
    rcases List.mem_cons.mp m with rfl | m
    · rw [decide_eq_true rfl]
      rfl
    · have : a.1 ≠ kv.1 := fun e => nd.1 (by rw [e]; exact List.mem_map.mpr ⟨kv, m, rfl⟩)
      rw [decide_eq_false this]
      exact ih nd.2 m
theorem pop_rest {α : Type} {rest : List (Str × α)} {ls : List Str} {i : Nat} {x : Str} (h : ls.Perm (rest.map (·.1))) (hx : ls[i]? = some x) : ∃ (b : Str × α) (rest' : List (Str × α)), b.1 = x ∧ rest.Perm (b :: rest') ∧ (ls.eraseIdx i).Perm (rest'.map (·.1)) := by
  obtain ⟨b, hb, e⟩ := List.mem_map.mp (h.mem_iff.mp (List.mem_of_getElem? hx))
  obtain ⟨s, t, rfl⟩ := List.append_of_mem hb
  refine ⟨b, s ++ t, e, List.perm_middle, ?_⟩
  have p1 := erase_perm' ls i x hx
  have p2 : (x :: ls.eraseIdx i).Perm (x :: (s ++ t).map (·.1)) := by
    refine (p1.trans h).trans ?_
    rw [← e]
    exact (List.perm_middle (a := b)).map (·.1)
  exact p2.cons_inv
/-! cards -/
/-- a text as a field of a card -/
def fieldI (z : Str) : List Int := (z.length : Int) :: (tl z).map fun c : Nat => (c : Int)
def fillI (ns : List Int) : List Int := ns ++ List.replicate (48 - ns.length) 0
theorem fieldI_len (z : Str) : (fieldI z).length = z.length + 1 := by
  unfold fieldI
  rw [List.length_cons, List.length_map, ← len_tl]
theorem fill_flat {ns : List Int} : (List.replicate (48 - (ns.length : Int)).toNat [D.int 0]).flatten = (List.replicate (48 - ns.length) (0 : Int)).map D.int := by
  rw [show (48 - (ns.length : Int)).toNat = 48 - ns.length by omega, List.flatten_replicate_singleton, List.map_replicate]
def ordD : D → D
  | .str x => .int (((tl x).getD 0 0 : Nat) : Int)
  | _ => .non
theorem charsD_len (z : Str) : (charsD z).length = z.length := by
  unfold charsD
  rw [List.length_map, ← len_tl]
theorem charsD_mem {z : Str} {x : D} (h : x ∈ charsD z) : ∃ c ∈ tl z, x = .str (S [c]) := by
  unfold charsD at h
  obtain ⟨c, hc, rfl⟩ := List.mem_map.mp h
  exact ⟨c, hc, rfl⟩
theorem ords_is (z : Str) : (charsD z).map ordD = ((tl z).map fun c : Nat => (c : Int)).map D.int := by
  unfold charsD
  rw [List.map_map, List.map_map]
  rfl
theorem fillI_len (ns : List Int) : (fillI ns).length = max 48 ns.length := by
  unfold fillI
  rw [List.length_append, List.length_replicate]
  omega
/-! head -/
/-! cards read -/
def codeB (c : Int) : Bool := decide (32 ≤ c) && decide (c ≤ 126) && !decide (c = 37)
def signS : Str := " !\"#$?&'()*+,-./0123456789:;<=>?@ABCDEFGHIJKLMNOPQRSTUVWXYZ[\\]^_`abcdefghijklmnopqrstuvwxyz{|}~"
theorem signs_at {c : Int} (h : codeB c = true) : L2.atI (tl signS) (c - 32) = some c.toNat := by
  unfold codeB at h
  rw [Bool.and_eq_true, Bool.and_eq_true, decide_eq_true_eq, decide_eq_true_eq, Bool.not_eq_true', decide_eq_false_iff_not] at h
  obtain ⟨⟨h1, h2⟩, h3⟩ := h
  obtain ⟨j, hj⟩ : ∃ j : Nat, c = 32 + j := ⟨(c - 32).toNat, by omega⟩
  subst hj
  have hj : j < 95 := by omega
  have hn : j ≠ 5 := by omega
  have := (by decide +kernel : ∀ j : Fin 95, (j : Nat) ≠ 5 → L2.atI (tl signS) (((j : Nat) : Int)) = some (32 + (j : Nat))) ⟨j, hj⟩ hn
  rw [show (32 + (j : Int)) - 32 = (j : Int) by omega, this, show (32 + (j : Int)).toNat = 32 + j by omega]
def cdD : D → D
  | .int c => .bl (codeB c)
  | d => d
def sgD : D → D
  | .int c => .str (S [c.toNat])
  | d => d
/-- whether a sign is a small letter, as asked -/
def chB : D → Bool
  | .str x => !decide (tl x < tl "a") && !decide (tl "z" < tl x)
  | _ => false
def chD (d : D) : D := .bl (chB d)
def nameB (z : Str) : Bool := decide ((1 : Int) ≤ z.length) && decide ((z.length : Int) ≤ 8) && (charsD z).all chB
theorem name_all (z : Str) : ((charsD z).map chD) = ((charsD z).map chB).map D.bl ∧ ((charsD z).map chB).all id = (charsD z).all chB := by
  refine ⟨by rw [List.map_map]; rfl, ?_⟩
  rw [List.all_map]
  rfl
def topB (z : Str) : Bool := decide (z = "") || nameB z
/-- the field that begins at a place: how many signs, and they; none where there is none -/
def fieldAt (bs : List Int) (a : Nat) (most : Int) : Option (List Nat) :=
  match bs[a]? with
  | none => none
  | some m => if m ≤ most ∧ 0 ≤ m ∧ ((bs.drop (a + 1)).take m.toNat).all codeB = true then some (((bs.drop (a + 1)).take m.toNat).map Int.toNat) else none
/-- whole bytes -/
def Byt (bs : List Int) : Prop := bs.length = 48 ∧ ∀ b ∈ bs, 0 ≤ b ∧ b ≤ 255
def sixP : List Int := [4, 8, 16, 32, 64, 128]
/-- what a head tells -/
def headOf (bs : List Int) : Option (List D) :=
  match bs with
  | b0 :: b1 :: b2 :: b3 :: b4 :: b5 :: r => match fieldAt bs 6 8 with
    | none => none
    | some cs => if b0 = 9 ∧ (b1 * 256 + b2) * 256 + b3 ≤ 999999 ∧ b4 ∈ sixP ∧ b5 ≤ 96 ∧ topB (S cs) = true ∧ (bs.drop (7 + cs.length)).all (fun b => decide (b = 0)) = true then some [.int ((b1 * 256 + b2) * 256 + b3), .int b4, .int b5, .str (S cs)] else none
  | _ => none
theorem byt_six {bs : List Int} (h : Byt bs) : ∃ b0 b1 b2 b3 b4 b5 b6 r, bs = b0 :: b1 :: b2 :: b3 :: b4 :: b5 :: b6 :: r := by
  match bs, h.1 with
  | b0 :: b1 :: b2 :: b3 :: b4 :: b5 :: b6 :: r, _ => exact ⟨b0, b1, b2, b3, b4, b5, b6, r, rfl⟩
theorem fieldAt_eq {bs : List Int} {a : Nat} {most m : Int} (e : bs[a]? = some m) : fieldAt bs a most = if m ≤ most ∧ 0 ≤ m ∧ ((bs.drop (a + 1)).take m.toNat).all codeB = true then some (((bs.drop (a + 1)).take m.toNat).map Int.toNat) else none := by
  unfold fieldAt
  rw [e]
theorem field_some {bs : List Int} {a : Nat} {most m : Int} {cs : List Nat} (e : bs[a]? = some m) (h : fieldAt bs a most = some cs) : m ≤ most ∧ 0 ≤ m ∧ ((bs.drop (a + 1)).take m.toNat).all codeB = true ∧ cs = ((bs.drop (a + 1)).take m.toNat).map Int.toNat := by
  rw [fieldAt_eq e] at h
  by_cases q : m ≤ most ∧ 0 ≤ m ∧ ((bs.drop (a + 1)).take m.toNat).all codeB = true
  · rw [if_pos q] at h
    exact ⟨q.1, q.2.1, q.2.2, (Option.some.inj h).symm⟩
  · rw [if_neg q] at h
    cases h
/-- the card of what a head tells is the card, where all behind is nought -/
theorem head_same {b0 b1 b2 b3 b4 b5 b6 : Int} {r : List Int} {cs : List Nat} (h : Byt (b0 :: b1 :: b2 :: b3 :: b4 :: b5 :: b6 :: r)) (h9 : b0 = 9) (hf : fieldAt (b0 :: b1 :: b2 :: b3 :: b4 :: b5 :: b6 :: r) 6 8 = some cs) :
    (fillI (9 :: ((b1 * 256 + b2) * 256 + b3) / 256 / 256 :: ((b1 * 256 + b2) * 256 + b3) / 256 % 256 :: ((b1 * 256 + b2) * 256 + b3) % 256 :: b4 :: b5 :: fieldI (S cs)) = b0 :: b1 :: b2 :: b3 :: b4 :: b5 :: b6 :: r) ↔ ((b0 :: b1 :: b2 :: b3 :: b4 :: b5 :: b6 :: r).drop (7 + cs.length)).all (fun b => decide (b = 0)) = true := by
  obtain ⟨m1, m2, m3, rfl⟩ := field_some (m := b6) rfl hf
  have hb : ∀ b ∈ b0 :: b1 :: b2 :: b3 :: b4 :: b5 :: b6 :: r, 0 ≤ b ∧ b ≤ 255 := h.2
  have k1 := hb b1 (by simp)
  have k2 := hb b2 (by simp)
  have k3 := hb b3 (by simp)
  have hlen : r.length = 41 := by
    have := h.1
    simp only [List.length_cons] at this
    omega
  have e1 : ((b1 * 256 + b2) * 256 + b3) / 256 / 256 = b1 := by omega
  have e2 : ((b1 * 256 + b2) * 256 + b3) / 256 % 256 = b2 := by omega
  have e3 : ((b1 * 256 + b2) * 256 + b3) % 256 = b3 := by omega
  rw [e1, e2, e3, h9]
  have ed : (9 :: b1 :: b2 :: b3 :: b4 :: b5 :: b6 :: r).drop (6 + 1) = r := rfl
  rw [h9] at m3
  rw [ed] at m3 ⊢
  obtain ⟨m, rfl⟩ : ∃ m : Nat, b6 = m := ⟨b6.toNat, by omega⟩
  rw [Int.toNat_natCast] at m3 ⊢
  have hm : m ≤ 8 := by omega
  have el : ((r.take m).map Int.toNat).length = m := by rw [List.length_map, List.length_take]; omega
  have ef : fieldI (S ((r.take m).map Int.toNat)) = (m : Int) :: r.take m := by
    unfold fieldI
    rw [S_len, el, tl_S, List.map_map]
    congr 1
    have : ∀ b ∈ r.take m, ((fun c : Nat => (c : Int)) ∘ Int.toNat) b = b := fun b mb => by
      have := (hb b (by simp only [List.mem_cons]; exact .inr (.inr (.inr (.inr (.inr (.inr (.inr (List.mem_of_mem_take mb)))))))))
      show ((b.toNat : Nat) : Int) = b
      omega
    rw [List.map_congr_left this, List.map_id']
  rw [ef, el]
  have ed2 : (9 :: b1 :: b2 :: b3 :: b4 :: b5 :: (m : Int) :: r).drop (7 + m) = r.drop m := by
    rw [Nat.add_comm]
    rfl
  rw [ed2]
  have efl : fillI (9 :: b1 :: b2 :: b3 :: b4 :: b5 :: (m : Int) :: r.take m) = 9 :: b1 :: b2 :: b3 :: b4 :: b5 :: (m : Int) :: (r.take m ++ List.replicate (41 - m) 0) := by
    unfold fillI
    have : 48 - (9 :: b1 :: b2 :: b3 :: b4 :: b5 :: (m : Int) :: r.take m).length = 41 - m := by
      simp only [List.length_cons, List.length_take]
      omega
    rw [this]
    rfl
  rw [efl]
  simp only [List.cons.injEq, true_and]
  constructor
  · intro e
    have : r.drop m = List.replicate (41 - m) 0 := by
      have e2 : r.take m ++ List.replicate (41 - m) 0 = r.take m ++ r.drop m := e.trans (List.take_append_drop m r).symm
      exact (List.append_cancel_left e2).symm
    rw [this]
    exact List.all_eq_true.mpr fun b hb => decide_eq_true (List.eq_of_mem_replicate hb)
  · intro e
    have : r.drop m = List.replicate (41 - m) 0 := by
      have hl : (r.drop m).length = 41 - m := by rw [List.length_drop]; omega
      rw [← hl]
      exact List.eq_replicate_of_mem fun b hb => of_decide_eq_true (List.all_eq_true.mp e b hb)
    rw [← this, List.take_append_drop]
theorem eqP_ints : ∀ xs ys : List Int, PyData.eqvAll (toPs (xs.map D.int)) (toPs (ys.map D.int)) = decide (xs = ys)
  | [], [] => by simp [toPs, PyData.eqvAll]
  | [], _ :: _ => by simp [toPs, PyData.eqvAll]
  | _ :: _, [] => by simp [toPs, PyData.eqvAll]
  | x :: xs, y :: ys => by
    have ih := eqP_ints xs ys
    simp only [List.map_cons, toPs, toP, PyData.eqvAll, PyData.eqv, ih]
    by_cases e : x = y
    · subst e
      by_cases e2 : xs = ys
      · simp [e2]
      · simp [e2]
    · simp [e]
theorem eqD_ints (xs ys : List Int) : eqD (.tup (xs.map D.int)) (.tup (ys.map D.int)) = decide (xs = ys) := by
  unfold eqD
  simp only [toP, PyData.eqv]
  exact eqP_ints xs ys
theorem inD_ints {x : Int} : ∀ {ns : List Int}, inD (.int x) (ns.map D.int) = decide (x ∈ ns)
  | [] => rfl
  | y :: ns => by
    have ih := inD_ints (x := x) (ns := ns)
    show (eqF (.int y) (.int x) || inD (.int x) (ns.map D.int)) = _
    rw [ih, show eqF (.int y) (.int x) = (y == x) from rfl]
    by_cases e : y = x
    · subst e
      simp
    · have e' : ¬ x = y := fun q => e q.symm
      simp [e, e']
theorem shp_tup_ints {ns : List Int} : Shp 1 (.tup (ns.map D.int)) := .tup (shp_ints (ns := ns))
/-! thing -/
/-! things that may be contents -/
inductive Thg : D → Prop
  | non : Thg .non
  | bl (b : Bool) : Thg (.bl b)
  | int (i : Int) : Thg (.int i)
  | str {z : Str} (h : z.length ≤ 1000) : Thg (.str z)
  | lst (xs : List D) : Thg (.lst xs)
  | tup (xs : List D) : Thg (.tup xs)
  | dct {es : List (Key × D)} (h0 : es.length ≤ 1000) (nd : (es.map Prod.fst).Nodup) (hk : ∀ kv ∈ es, ∃ z : Str, kv.1 = .inr z ∧ z.length ≤ 1000) (hv : ∀ kv ∈ es, Thg kv.2) : Thg (.dct es)
theorem Thg.np {d : D} (h : Thg d) : isPtr d = false := by cases h <;> rfl
def nameD : D → Bool
  | .str z => nameB z
  | _ => false
/-- whether a sign may stand in a text -/
def txB : D → Bool
  | .str x => codeB ((tl x).headD 0 : Nat)
  | _ => false
def textB (z : Str) : Bool := decide ((z.length : Int) ≤ 40) && (charsD z).all txB
def textD : D → Bool
  | .str z => textB z
  | _ => false
def rowsD : D → Bool
  | .dct es => es.all fun kv => nameD (keyD kv.1) && textD kv.2
  | _ => false
def contD : D → Bool
  | .dct es => es.all fun kv => nameD (keyD kv.1) && rowsD kv.2
  | _ => false
theorem getD_memT {es : List (Key × D)} (nd : (es.map Prod.fst).Nodup) {kv : Key × D} (m : kv ∈ es) : getD' es kv.1 = some kv.2 := by
  induction es with
  | nil => cases m
  | cons g es ih =>
    obtain ⟨n1, n2⟩ := List.nodup_cons.mp nd
    unfold getD'
    rcases List.mem_cons.mp m with rfl | m
    · rw [List.find?_cons_of_pos (by simp)]
      rfl
    · rw [List.find?_cons_of_neg (by
        simp only [decide_eq_true_eq]
        exact fun z => n1 (z ▸ List.mem_map_of_mem m))]
      exact ih n2 m
theorem map_bl {f : D → Bool} {xs : List D} : (xs.map fun d => D.bl (f d)) = (xs.map f).map D.bl ∧ (xs.map f).all id = xs.all f := by
  refine ⟨by rw [List.map_map]; rfl, ?_⟩
  rw [List.all_map]
  rfl
theorem az_in (c : Nat) : decide (c ∈ tl "abcdefghijklmnopqrstuvwxyz") = chB (.str (S [c])) := by
  show _ = (!decide ([c] < [97]) && !decide ([122] < [c]))
  by_cases h : c < 123
  · exact (by decide +kernel : ∀ j : Fin 123, decide ((j : Nat) ∈ tl "abcdefghijklmnopqrstuvwxyz") = (!decide ([(j : Nat)] < [97]) && !decide ([122] < [(j : Nat)]))) ⟨c, h⟩
  · have e1 : c ∉ tl "abcdefghijklmnopqrstuvwxyz" := fun m => h ((by decide +kernel : ∀ x ∈ tl "abcdefghijklmnopqrstuvwxyz", x < 123) c m)
    have e2 : [122] < [c] := List.Lex.rel (by omega)
    rw [decide_eq_false e1, decide_eq_true e2]
    simp
theorem nameD_key {k : Key} (h : ∃ z : Str, k = .inr z ∧ z.length ≤ 1000) : Thg (keyD k) := by
  obtain ⟨z, rfl, hz⟩ := h
  exact .str hz
section
variable [Tabl] {K : PySem.W.Frag} {Z : XZ} {δ : List Slot} {n : Sto} {Φ : D → Sto → Prop}
theorem rk_inSg {c : Nat} {z : Str} (k : Φ (.bl (decide (c ∈ tl z))) n) : RK K Z (fun x y H Q => ∃ (c : Nat) (z : Str), x = .str ⟨#[c]⟩ ∧ y = .str z ∧ Q (.bl (decide (c ∈ z.cps.toList))) H) (.str (S [c])) (.str z) δ n Φ := fun B M G0 H0 xw G H σ E v w a b Q q => by
  cases a
  cases b
  exact ⟨c, z, rfl, rfl, q _ _ G H n k E (Sub.refl G) (.bl _)⟩
end
/-! tok -/
/-! things that can be told by repr, with their size -/
theorem Shq.mono {j k : Nat} {d : D} (h : Shq j d) : j ≤ k → Shq k d := by
  induction h generalizing k with
  | non => exact fun _ => .non
  | bl b => exact fun _ => .bl b
  | int h => exact fun _ => .int h
  | str x => exact fun _ => .str x
  | lst _ ih =>
    intro hk
    obtain ⟨m, rfl⟩ : ∃ m, k = m + 1 := ⟨k - 1, by omega⟩
    exact .lst fun x hx => ih x hx (by omega)
  | tup _ ih =>
    intro hk
    obtain ⟨m, rfl⟩ : ∃ m, k = m + 1 := ⟨k - 1, by omega⟩
    exact .tup fun x hx => ih x hx (by omega)
  | dct h1 _ ih =>
    intro hk
    obtain ⟨m, rfl⟩ : ∃ m, k = m + 1 := ⟨k - 1, by omega⟩
    exact .dct h1 fun x hx => ih x hx (by omega)
structure Tll (k w : Nat) (d : D) : Prop where
  thg : Thg d
  shq : Shq k d
  lv : (toP d).leavesShort 8 = true
  wt : (toP d).weight ≤ w
theorem Tll.mono {j k v w : Nat} {d : D} (h : Tll j v d) (h1 : j ≤ k) (h2 : v ≤ w) : Tll k w d := ⟨h.thg, h.shq.mono h1, h.lv, Nat.le_trans h.wt h2⟩
theorem Tll.fits {k w : Nat} {d : D} (h : Tll k w d) (hw : w ≤ 2 ^ 20) : (toP d).shown.length ≤ sizeLine := PyData.shown_fits (B := 8) (by decide) (by decide) h.lv (Nat.le_trans h.wt hw)
theorem tok_non : Tll 0 0 .non := ⟨.non, .non, by simp [toP, PyData.leavesShort], by simp [toP, PyData.weight]⟩
theorem tok_bl (b : Bool) : Tll 0 0 (.bl b) := ⟨.bl b, .bl b, by simp [toP, PyData.leavesShort], by simp [toP, PyData.weight]⟩
theorem tok_int {i : Int} (h : i = 0 ∨ i = 5) : Tll 0 3 (.int i) := by
  refine ⟨.int i, .int (by rcases h with rfl | rfl <;> decide +kernel), ?_, ?_⟩
  · rcases h with rfl | rfl <;> (unfold toP PyData.leavesShort PyData.shown; decide +kernel)
  · rcases h with rfl | rfl <;> (unfold toP PyData.weight; decide +kernel)
theorem tok_str {z : Str} (h : z.length ≤ 1000) (hc : ∀ c ∈ tl z, c < 16 ^ 8) : Tll 0 z.length (.str z) := by
  refine ⟨.str h, .str z, ?_, ?_⟩
  · unfold toP PyData.leavesShort
    exact List.all_eq_true.mpr fun c m => decide_eq_true (hc c m)
  · unfold toP PyData.weight
    exact Nat.le_refl _
theorem lv_all {xs : List D} (h : ∀ x ∈ xs, (toP x).leavesShort 8 = true) : PyData.leavesShortAll 8 (toPs xs) = true := by
  induction xs with
  | nil => unfold toPs PyData.leavesShortAll; rfl
  | cons x r ih =>
    unfold toPs PyData.leavesShortAll
    rw [h x List.mem_cons_self, ih fun y m => h y (List.mem_cons_of_mem _ m)]
    rfl
theorem wt_all {xs : List D} {w : Nat} (h : ∀ x ∈ xs, (toP x).weight ≤ w) : PyData.weightAll (toPs xs) ≤ xs.length * (w + 1) := by
  induction xs with
  | nil => unfold toPs PyData.weightAll; exact Nat.zero_le _
  | cons x r ih =>
    unfold toPs PyData.weightAll
    have h1 := h x List.mem_cons_self
    have h2 := ih fun y m => h y (List.mem_cons_of_mem _ m)
    rw [List.length_cons, Nat.add_mul]
    omega
theorem tok_lst {k w : Nat} {xs : List D} (h : ∀ x ∈ xs, Tll k w x) : Tll (k + 1) (xs.length * (w + 1)) (.lst xs) := by
  refine ⟨.lst xs, .lst fun x hx => (h x hx).shq, ?_, ?_⟩
  · unfold toP PyData.leavesShort
    exact lv_all fun x hx => (h x hx).lv
  · unfold toP PyData.weight
    exact wt_all fun x hx => (h x hx).wt
theorem tok_tup {k w : Nat} {xs : List D} (h : ∀ x ∈ xs, Tll k w x) : Tll (k + 1) (xs.length * (w + 1)) (.tup xs) := by
  refine ⟨.tup xs, .tup fun x hx => (h x hx).shq, ?_, ?_⟩
  · unfold toP PyData.leavesShort
    exact lv_all fun x hx => (h x hx).lv
  · unfold toP PyData.weight
    exact wt_all fun x hx => (h x hx).wt
/-- a key of such a thing: a text of nine signs at most -/
def Kyt (k : Key) : Prop := ∃ z : Str, k = .inr z ∧ z.length ≤ 9 ∧ ∀ c ∈ tl z, c < 16 ^ 8
theorem lv_kv {es : List (Key × D)} (hk : ∀ kv ∈ es, Kyt kv.1) (h : ∀ kv ∈ es, (toP kv.2).leavesShort 8 = true) : PyData.leavesShortKv 8 (toPk es) = true := by
  induction es with
  | nil => unfold toPk PyData.leavesShortKv; rfl
  | cons x r ih =>
    obtain ⟨k, d⟩ := x
    rw [toPk_cons]
    unfold PyData.leavesShortKv
    rw [h _ List.mem_cons_self, ih (fun y m => hk y (List.mem_cons_of_mem _ m)) fun y m => h y (List.mem_cons_of_mem _ m)]
    obtain ⟨z, e, _, hc⟩ := hk _ List.mem_cons_self
    have e : k = .inr z := e
    subst e
    have : (keyP (.inr z)).leavesShort 8 = true := by
      unfold keyP PyData.leavesShort
      exact List.all_eq_true.mpr fun c m => decide_eq_true (hc c m)
    rw [this]
    rfl
theorem wt_kv {es : List (Key × D)} {w : Nat} (hk : ∀ kv ∈ es, Kyt kv.1) (h : ∀ kv ∈ es, (toP kv.2).weight ≤ w) : PyData.weightKv (toPk es) ≤ es.length * (w + 11) := by
  induction es with
  | nil => unfold toPk PyData.weightKv; exact Nat.zero_le _
  | cons x r ih =>
    obtain ⟨k, d⟩ := x
    rw [toPk_cons]
    unfold PyData.weightKv
    have h1 : (toP d).weight ≤ w := h _ List.mem_cons_self
    have h2 := ih (fun y m => hk y (List.mem_cons_of_mem _ m)) fun y m => h y (List.mem_cons_of_mem _ m)
    obtain ⟨z, e, hl, hc⟩ := hk _ List.mem_cons_self
    have e : k = .inr z := e
    subst e
    have : (keyP (.inr z)).weight ≤ 9 := by
      unfold keyP PyData.weight
      exact hl
    rw [List.length_cons, Nat.add_mul]
    omega
theorem tok_dct {k w : Nat} {es : List (Key × D)} (h0 : es.length ≤ 1000) (nd : (es.map Prod.fst).Nodup) (hk : ∀ kv ∈ es, Kyt kv.1) (h : ∀ kv ∈ es, Tll k w kv.2) : Tll (k + 1) (es.length * (w + 11)) (.dct es) := by
  refine ⟨.dct h0 nd (fun kv hkv => ?_) fun kv hkv => (h kv hkv).thg, .dct (fun kv hkv => ?_) fun kv hkv => (h kv hkv).shq, ?_, ?_⟩
  · obtain ⟨z, e, hl, _⟩ := hk kv hkv
    exact ⟨z, e, by omega⟩
  · obtain ⟨z, e, hl, _⟩ := hk kv hkv
    rw [e]
    unfold keyP PyData.showable
    rfl
  · unfold toP PyData.leavesShort
    exact lv_kv hk fun x hx => (h x hx).lv
  · unfold toP PyData.weight
    exact wt_kv hk fun x hx => (h x hx).wt
theorem Nmz.kyt {z : Str} (h : Nmz z) : Kyt (.inr z) := ⟨z, rfl, by have := h.2.1; omega, fun c m => Nat.lt_of_le_of_lt (h.2.2 c m).2 (by decide)⟩
theorem Wt.tok {z : Str} (h : Wt z) : Tll 0 40 (.str z) := (tok_str (by have := h.1; omega) fun c m => Nat.lt_of_le_of_lt (h.2 c m).2.1 (by decide)).mono (Nat.le_refl 0) h.1
theorem row_ok {rs : List (Str × Str)} (h : WfR rs) : ((rowE rs).map Prod.fst).Nodup ∧ (∀ kv ∈ rowE rs, Kyt kv.1) ∧ ∀ kv ∈ rowE rs, Tll 0 40 kv.2 := by
  refine ⟨?_, fun kv hkv => ?_, fun kv hkv => ?_⟩
  · unfold rowE
    rw [List.map_map]
    have := h.1
    rw [show (Prod.fst ∘ fun kv : Str × Str => ((Sum.inr kv.1 : Key), D.str kv.2)) = (fun x : Str => (Sum.inr x : Key)) ∘ (fun kv : Str × Str => kv.1) from rfl, ← List.map_map]
    exact this.map _ fun a b ne e => ne (Sum.inr.inj e)
  · obtain ⟨b, hb, rfl⟩ := List.mem_map.mp hkv
    exact (h.2 b hb).1.kyt
  · obtain ⟨b, hb, rfl⟩ := List.mem_map.mp hkv
    exact (h.2 b hb).2.tok
theorem cnt_ok {c : Cont} (h : WfC c) (hr : rowsN c ≤ 97) : ((cntE c).map Prod.fst).Nodup ∧ (∀ kv ∈ cntE c, Kyt kv.1) ∧ ∀ kv ∈ cntE c, ∃ fs : List (Key × D), kv.2 = .dct fs ∧ fs.length ≤ 97 ∧ (fs.map Prod.fst).Nodup ∧ (∀ kv ∈ fs, Kyt kv.1) ∧ ∀ kv ∈ fs, Tll 0 40 kv.2 := by
  refine ⟨?_, fun kv hkv => ?_, fun kv hkv => ?_⟩
  · unfold cntE
    rw [List.map_map]
    have := h.1
    rw [show (Prod.fst ∘ fun b : Str × List (Str × Str) => ((Sum.inr b.1 : Key), rowD b.2)) = (fun x : Str => (Sum.inr x : Key)) ∘ (fun kv : Str × List (Str × Str) => kv.1) from rfl, ← List.map_map]
    exact this.map _ fun a b ne e => ne (Sum.inr.inj e)
  · obtain ⟨b, hb, rfl⟩ := List.mem_map.mp hkv
    exact (h.2 b hb).1.kyt
  · obtain ⟨b, hb, rfl⟩ := List.mem_map.mp hkv
    obtain ⟨r1, r2, r3⟩ := row_ok (h.2 b hb).2
    refine ⟨rowE b.2, rfl, ?_, r1, r2, r3⟩
    unfold rowE
    rw [List.length_map]
    exact Nat.le_trans (rows_le hb) hr
/-- the entries of a thing that is nearly a content -/
def Ets (es : List (Key × D)) : Prop := es.length ≤ 98 ∧ (es.map Prod.fst).Nodup ∧ (∀ kv ∈ es, Kyt kv.1) ∧ ∀ kv ∈ es, Tll 3 6000 kv.2
theorem Ets.tok {es : List (Key × D)} (h : Ets es) : Tll 4 600000 (.dct es) := (tok_dct (by have := h.1; omega) h.2.1 h.2.2.1 h.2.2.2).mono (by omega) (by
  have := Nat.mul_le_mul_right (6000 + 11) h.1
  omega)
theorem tok_row {fs : List (Key × D)} (h1 : fs.length ≤ 98) (h2 : (fs.map Prod.fst).Nodup) (h3 : ∀ kv ∈ fs, Kyt kv.1) (h4 : ∀ kv ∈ fs, Tll 2 45 kv.2) : Tll 3 6000 (.dct fs) := (tok_dct (by omega) h2 h3 h4).mono (by omega) (by
  have := Nat.mul_le_mul_right (45 + 11) h1
  omega)
theorem cnt_ets {c : Cont} (h : WfC c) (hl : c.length ≤ 97) (hr : rowsN c ≤ 97) : Ets (cntE c) := by
  obtain ⟨h1, h2, h3⟩ := cnt_ok h hr
  refine ⟨by unfold cntE; rw [List.length_map]; omega, h1, h2, fun kv hkv => ?_⟩
  obtain ⟨fs, e, f1, f2, f3, f4⟩ := h3 kv hkv
  rw [e]
  exact tok_row (by omega) f2 f3 fun x hx => (f4 x hx).mono (by omega) (by omega)
/-! box_title -/
def sp_box_title (K : PySem.W.Frag) : Sp := spP K fun ds Φ => ∃ z : Str, ds = [.str z] ∧ z.length ≤ 1000 ∧ Φ (.str ("b:" ++ z))
theorem ok_box_title (T : Txt K mg) : FnOk P w K mg base CX0 1 T.f_box_title T.fd_box_title ["name"] (sp_box_title K) := by
  refine fn_P T.F_box_title sc_box_title (fun ds Φ h => ?_) (fun cdv A outer s H E hr => ⟨_, (pss_one (ps_ret (pe_op op_add_str (pe_glob (v := .str "b:") (by rfl) T.g_BOX_SIGN ⟨_, rfl⟩) (pv 0)))), fun ds Φ h => ?_⟩)
  · obtain ⟨z, rfl, _⟩ := h
    rfl
  · obtain ⟨z, rfl, hz, k⟩ := h
    walk_at "k"
    walk_at "g"
    refine rk_addS (by show 2 + z.length ≤ _; exact sz_ (by omega)) ?_
    exact k
theorem c_box_title {δ : List Slot} {n : Sto} {Φ : D → Sto → Prop} {z : Str} (hz : z.length ≤ 1000) (k : Φ (.str ("b:" ++ z)) n) : SC K Z (sp_box_title K) [.str z] δ n Φ := sc_P ⟨z, rfl, hz, k⟩
/-! row_title -/
def sp_row_title (K : PySem.W.Frag) : Sp := spP K fun ds Φ => ∃ (y z : Str), ds = [.str y, .str z] ∧ y.length ≤ 1000 ∧ z.length ≤ 1000 ∧ Φ (.str ("r:" ++ y ++ ":" ++ z))
theorem ok_row_title (T : Txt K mg) : FnOk P w K mg base CX0 1 T.f_row_title T.fd_row_title ["box", "key"] (sp_row_title K) := by
  refine fn_P T.F_row_title sc_row_title (fun ds Φ h => ?_) (fun cdv A outer s H E hr => ⟨_, (pss_one (ps_ret (pe_op op_add_str (pe_op op_add_str (pe_op op_add_str (pe_glob (v := .str "r:") (by rfl) T.g_ROW_SIGN ⟨_, rfl⟩) (pv 0)) pe_str) (pv 1)))), fun ds Φ h => ?_⟩)
  · obtain ⟨y, z, rfl, _⟩ := h
    rfl
  · obtain ⟨y, z, rfl, hy, hz, k⟩ := h
    walk_at "k"
    walk_at "g"
    refine rk_addS (sz_ (by show 2 + y.length ≤ _; omega)) ?_
    walk_at "g"
    have e1 := str_app_len "r:" y
    refine rk_addS (sz_ (by rw [e1]; show 2 + y.length + 1 ≤ _; omega)) ?_
    walk_at "g"
    have e2 := str_app_len ("r:" ++ y) ":"
    refine rk_addS (sz_ (by rw [e2, e1]; show 2 + y.length + 1 + z.length ≤ _; omega)) ?_
    exact k
theorem c_row_title {δ : List Slot} {n : Sto} {Φ : D → Sto → Prop} {y z : Str} (hy : y.length ≤ 1000) (hz : z.length ≤ 1000) (k : Φ (.str ("r:" ++ y ++ ":" ++ z)) n) : SC K Z (sp_row_title K) [.str y, .str z] δ n Φ := sc_P ⟨y, z, rfl, hy, hz, k⟩
/-! text_title -/
def sp_text_title (K : PySem.W.Frag) : Sp := spP K fun ds Φ => ∃ z : Str, ds = [.str z] ∧ z.length ≤ 1000 ∧ Φ (.str ("t:" ++ z))
theorem ok_text_title (T : Txt K mg) : FnOk P w K mg base CX0 1 T.f_text_title T.fd_text_title ["text"] (sp_text_title K) := by
  refine fn_P T.F_text_title sc_text_title (fun ds Φ h => ?_) (fun cdv A outer s H E hr => ⟨_, (pss_one (ps_ret (pe_op op_add_str (pe_glob (v := .str "t:") (by rfl) T.g_TEXT_SIGN ⟨_, rfl⟩) (pv 0)))), fun ds Φ h => ?_⟩)
  · obtain ⟨z, rfl, _⟩ := h
    rfl
  · obtain ⟨z, rfl, hz, k⟩ := h
    walk_at "k"
    walk_at "g"
    refine rk_addS (by show 2 + z.length ≤ _; exact sz_ (by omega)) ?_
    exact k
theorem c_text_title {δ : List Slot} {n : Sto} {Φ : D → Sto → Prop} {z : Str} (hz : z.length ≤ 1000) (k : Φ (.str ("t:" ++ z)) n) : SC K Z (sp_text_title K) [.str z] δ n Φ := sc_P ⟨z, rfl, hz, k⟩
/-! is_long -/
def sp_is_long (K : PySem.W.Frag) : Sp := spP K fun ds Φ => ∃ z : Str, ds = [.str z] ∧ z.length ≤ 1000 ∧ Φ (.bl (decide ((8 : Int) < z.length)))
theorem ok_is_long (T : Txt K mg) : FnOk P w K mg base CX0 1 T.f_is_long T.fd_is_long ["text"] (sp_is_long K) := by
  refine fn_P T.F_is_long sc_is_long (fun ds Φ h => ?_) (fun cdv A outer s H E hr => ⟨_, (pss_one (ps_ret (pe_cmpR op_gt (pe_callB call_len_str (by rfl) T.z_len (by decide +kernel) (pa_cons (pv 0) pa_nil)) (pe_glob (v := .int 8) (by rfl) T.g_MOST_SHORT ⟨_, rfl⟩) (nomark _)))), fun ds Φ h => ?_⟩)
  · obtain ⟨z, rfl, _⟩ := h
    rfl
  · obtain ⟨z, rfl, hz, k⟩ := h
    walk_at "k"
    walk_at "g"
    exact k
theorem c_is_long {δ : List Slot} {n : Sto} {Φ : D → Sto → Prop} {z : Str} (hz : z.length ≤ 1000) (k : Φ (.bl (decide ((8 : Int) < z.length))) n) : SC K Z (sp_is_long K) [.str z] δ n Φ := sc_P ⟨z, rfl, hz, k⟩
/-! _law_bag -/
def sp_law_bag (K : PySem.W.Frag) : Sp := fun vs H Q _ => ∃ (a : Addr) (ns : List Int) (i : Int), vs = [.ref a, .int i] ∧ SqL K H a (ns.map V.int) ∧ 0 ≤ i ∧ i ≤ 63 ∧
  ∀ (p : Addr) (H' : Hp), H p = none → Bag H' p 0 → Same H H' → Q (.ref p) H'
theorem atI_ints {ns : List Int} {i : Int} (h0 : 0 ≤ i) (h1 : i < (ns.length : Int)) : ∃ z, atI (ns.map V.int) i = some (.int z) ∧ z ∈ ns := by
  obtain ⟨j, rfl⟩ : ∃ j : Nat, i = (j : Int) := ⟨i.toNat, by omega⟩
  have hj : j < ns.length := by omega
  refine ⟨ns[j], atI_nat ?_, List.getElem_mem hj⟩
  rw [List.getElem?_map, List.getElem?_eq_getElem hj]
  rfl
theorem ok_law_bag (T : Txt K mg) : FnOk P w K mg base CX0 1 T.f_law_bag T.fd_law_bag ["_law_script", "_law_at"] (sp_law_bag K) := by
  refine T.F_law_bag.ok sc_law_bag (fun vs H Q E h => ?_) (fun cdv A outer s H vs Q E hr h => ?_)
  · obtain ⟨a, ns, i, rfl, _⟩ := h
    rfl
  · obtain ⟨a, ns, i, rfl, hS, hi0, hi1, k⟩ := h
    refine ⟨_, (pss_cons (ps_set (i := 2) sc_law_bag.nd rfl (Or.inl rfl) pe_int)
      (pss_cons (ps_if (pt_cmpR op_lt (pv 1) (pe_callB call_len_seq (by rfl) T.z_len (by decide +kernel) (pa_cons (pv 0) pa_nil)) (nomark _))
        (pss_one (ps_set (i := 2) sc_law_bag.nd rfl (Or.inl rfl) (pe_ix ix_list (pv 0) (pv 1) (fun _ _ => rfl))))
        pss_nil)
      (pss_cons (ps_set (i := 3) sc_law_bag.nd rfl (Or.inl rfl) (pe_callB call_abs (by rfl) T.z_abs (by decide +kernel) (pa_cons (pv 2) pa_nil)))
      (pss_one (ps_ret (pe_lst (pa_cons (pe_op op_mul (pv 3) (pe_callTy call_int1 (by rfl) T.z_int (by decide +kernel) (pa_cons (pe_cmpR op_ge (pv 3) (pe_op op_powW pe_int pe_int) (nomark _)) pa_nil))) (pa_cons (pe_op op_add (pe_op op_add (pe_op op_mod (pv 2) (pe_op op_add (pe_op op_powW pe_int pe_int) pe_int)) (pe_op op_mul pe_int (pv 1))) pe_int) (pa_cons pe_int pa_nil))))))))), ?_⟩
    have fin : ∀ far cell : Int, 0 ≤ far → ∀ p, H p = none → Q (.ref p) (upd H p (.lst [.int (far * (if decide (10 ^ 18 ≤ far) = true then 1 else 0)), .int (cell % (10 ^ 18 + 9) + 7368787 * i + 41), .int 0])) := fun far cell hc p hp => by
      have m0 := Int.emod_nonneg cell (show (10 ^ 18 + 9 : Int) ≠ 0 by decide)
      have m1 := Int.emod_lt_of_pos cell (show (0 : Int) < 10 ^ 18 + 9 by decide)
      refine k p _ hp ⟨_, _, _, upd_same, ?_, by omega, by omega, by decide, by decide⟩ (Same.new (Same.refl H) hp)
      split <;> omega
    have am : ∀ z : Int, 0 ≤ (if z < 0 then -z else z) := fun z => by split <;> omega
    refine ⟨_, rfl, _, rfl, a, _, rfl, .inl hS, _, _, rfl, rfl, _, rfl, ?_⟩
    refine ite2 (fun h0 => ?_) (fun h0 => ?_)
    · have h0 : i < ((ns.map V.int).length : Int) := of_decide_eq_true h0
      rw [List.length_map] at h0
      obtain ⟨z, ez, _⟩ := atI_ints hi0 h0
      refine ⟨_, rfl, _, rfl, a, _, _, _, rfl, rfl, hS, ez, _, rfl, _, rfl, ?_⟩
      refine ⟨_, rfl, _, rfl, _, _, rfl, rfl, ⟨by decide, by decide +kernel⟩, _, _, rfl, rfl, .inr ⟨_, rfl, _, _, rfl, rfl, mul01, ?_⟩⟩
      refine ⟨_, rfl, _, _, rfl, rfl, ⟨by decide, by decide +kernel⟩, _, _, rfl, rfl, _, _, rfl, rfl, (by show (0 : Int) < 10 ^ 18 + 9; decide), _, rfl, _, _, rfl, rfl, .inl ⟨by decide, by decide⟩, _, _, rfl, rfl, _, _, rfl, rfl, sz3, fun p hp => ?_⟩
      exact fin _ z (am z) p hp
    · refine ⟨_, rfl, _, rfl, ?_⟩
      refine ⟨_, rfl, _, rfl, _, _, rfl, rfl, ⟨by decide, by decide +kernel⟩, _, _, rfl, rfl, .inr ⟨_, rfl, _, _, rfl, rfl, mul01, ?_⟩⟩
      refine ⟨_, rfl, _, _, rfl, rfl, ⟨by decide, by decide +kernel⟩, _, _, rfl, rfl, _, _, rfl, rfl, (by show (0 : Int) < 10 ^ 18 + 9; decide), _, rfl, _, _, rfl, rfl, .inl ⟨by decide, by decide⟩, _, _, rfl, rfl, _, _, rfl, rfl, sz3, fun p hp => ?_⟩
      exact fin _ 0 (am 0) p hp

theorem gs_lawbag {δ : List Slot} {k : Nat} {μ : Addr → Option MO} {te : TE} {N Bk Ct : List Slot → Sto → Prop} {R : D → Sto → Prop} {ts : TS} {X : XK} {i j : Nat} {ns : List Int} (hi : δ[i]? = some (.scr ns)) (hj : ∀ x, δ[j]? ≠ some (.ow x)) (h : GK K .calm te δ ⟨k, μ⟩ fun d n1 => ∃ k : Int, d = .int k ∧ 0 ≤ k ∧ k ≤ 63 ∧ ∀ p, GS K .calm (some p) ts (δ.set j .bag) ⟨0, n1.μ⟩ (fun δ' n' => N (unbag δ') ⟨0, n'.μ⟩) (fun d n' => R d ⟨0, n'.μ⟩) (fun δ' n' => Bk (unbag δ') ⟨0, n'.μ⟩) (fun δ' n' => Ct (unbag δ') ⟨0, n'.μ⟩)) :
    GS K .calm none (tSeq (tAsg (tCall (sp_law_bag K) [] X (tCons (tVar i) (tCons te tNil))) (gName j)) ts) δ ⟨k, μ⟩ N R Bk Ct :=
  gs_newbag (fun a i H Q E h0 h1 h2 k => ⟨a, ns, i, rfl, h0, h1, h2, k⟩) hi hj h
/-! _law_take -/
def sp_law_take : Sp := fun vs H Q _ => ∃ (p : Addr) (n : Nat) (many : Int), vs = [.ref p, .int many] ∧ Bag H p n ∧ n < 2 ^ 40 ∧ 0 < many ∧ many < 2 ^ 128 ∧
  ∀ (r : Int) (H' : Hp), 0 ≤ r → r < many → Bag H' p (n + 1) → Fr p H H' → Q (.int r) H'
theorem take_pow {b c : Int} (h1 : 0 ≤ b) (h2 : b < 2 ^ 62) (h3 : 0 ≤ c) (h4 : c ≤ 2 ^ 40) : CPowW (b * (2 * c + 1) + 7919 * c * c + 29) 3 := by
  refine ⟨by decide, ?_⟩
  have e1 : b * (2 * c + 1) ≤ 2 ^ 62 * (2 * c + 1) := Int.mul_le_mul_of_nonneg_right (by omega) (by omega)
  have e2 : 7919 * c * c ≤ 7919 * 2 ^ 40 * 2 ^ 40 := Int.mul_le_mul (by omega) (by omega) (by omega) (by omega)
  have e3 : 0 ≤ b * (2 * c + 1) := Int.mul_nonneg h1 (by omega)
  have e4 : 0 ≤ 7919 * c * c := Int.mul_nonneg (by omega) h3
  have e5 : (b * (2 * c + 1) + 7919 * c * c + 29).natAbs < 2 ^ 120 := by omega
  have e6 : Builtin.Int.intBits (b * (2 * c + 1) + 7919 * c * c + 29) ≤ 120 := PyProof.Rows.intBits_le e5
  omega
theorem ok_law_take (T : Txt K mg) : FnOk P w K mg base CX0 1 T.f_law_take T.fd_law_take ["_law_bag_here", "_law_many"] sp_law_take := by
  refine T.F_law_take.ok sc_law_take (fun vs H Q E h => ?_) (fun cdv A outer s H vs Q E hr h => ?_)
  · obtain ⟨p, n, many, rfl, _⟩ := h
    rfl
  · obtain ⟨p, n, many, rfl, bg, hn, hm0, hm1, k⟩ := h
    obtain ⟨a, b, c, hp, ha, hb0, hb1, hc0, hc1⟩ := bg
    refine ⟨_, (pss_cons (ps_if (pt_cmpR op_gt (pe_ix ix_list (pv 0) pe_int (fun _ _ => rfl)) pe_int (nomark _))
        (pss_cons (ps_set (i := 2) sc_law_take.nd rfl (Or.inl rfl) (pe_op op_mod (pe_ix ix_list (pv 0) pe_int (fun _ _ => rfl)) (pv 1)))
        (pss_cons (ps_asg (pe_op op_fdivW (pe_ix ix_list (pv 0) pe_int (fun _ _ => rfl)) (pv 1)) (pg_sub (pv 0) pe_int set_list))
        (pss_one (ps_ret (pv 2)))))
        pss_nil)
      (pss_cons (ps_asg (pe_op op_add (pe_ix ix_list (pv 0) pe_int (fun _ _ => rfl)) pe_int) (pg_sub (pv 0) pe_int set_list))
      (pss_cons (ps_set (i := 3) sc_law_take.nd rfl (Or.inl rfl) (pe_op op_add (pe_op op_add (pe_op op_mul (pe_ix ix_list (pv 0) pe_int (fun _ _ => rfl)) (pe_op op_add (pe_op op_mul pe_int (pe_ix ix_list (pv 0) pe_int (fun _ _ => rfl))) pe_int)) (pe_op op_mul (pe_op op_mul pe_int (pe_ix ix_list (pv 0) pe_int (fun _ _ => rfl))) (pe_ix ix_list (pv 0) pe_int (fun _ _ => rfl)))) pe_int))
      (pss_cons (ps_set (i := 4) sc_law_take.nd rfl (Or.inl rfl) (pe_op op_mod (pe_op op_powW (pv 3) pe_int) pe_int))
      (pss_one (ps_ret (pe_op op_mod (pe_op op_fdiv (pe_op op_mod (pe_op op_mul (pv 4) (pe_op op_add (pe_op op_fdiv (pv 4) pe_int) (pe_ix ix_list (pv 0) pe_int (fun _ _ => rfl)))) pe_int) pe_int) (pv 1)))))))), ?_⟩
    refine ⟨_, rfl, p, _, _, _, rfl, rfl, SqL.of hp, rfl, _, _, rfl, rfl, _, rfl, ?_⟩
    refine ite2 (fun h0 => ?_) (fun h0 => ?_)
    · have h0 : 0 < a := of_decide_eq_true h0
      refine ⟨_, rfl, p, _, _, _, rfl, rfl, SqL.of hp, rfl, _, rfl, _, _, rfl, rfl, hm0, ?_⟩
      refine ⟨_, rfl, p, _, _, _, rfl, rfl, SqL.of hp, rfl, _, rfl, _, _, rfl, rfl, wide_div hm0 (b := 128) (by omega) (by decide) (by decide), _, rfl, p, _, _, 0, rfl, rfl, hp, rfl, ?_⟩
      refine ⟨_, rfl, ?_⟩
      exact k _ _ (Int.emod_nonneg _ (by omega)) (Int.emod_lt_of_pos _ hm0) ⟨a / many, b, c, upd_same, Int.ediv_nonneg ha (by omega), hb0, hb1, hc0, by omega⟩ Fr.refl.at
    · have hp2 : upd H p (.lst [.int a, .int b, .int (c + 1)]) p = some (.lst [.int a, .int b, .int (c + 1)]) := upd_same
      refine ⟨_, rfl, p, _, _, _, rfl, rfl, SqL.of hp, rfl, _, _, rfl, rfl, _, rfl, p, _, _, 2, rfl, rfl, hp, rfl, ?_⟩
      refine ⟨_, rfl, p, _, _, _, rfl, rfl, SqL.of hp2, rfl, _, rfl, p, _, _, _, rfl, rfl, SqL.of hp2, rfl, _, _, rfl, rfl, .inl ⟨by decide, by decide⟩, _, _, rfl, rfl, _, _, rfl, rfl, .inl ⟨by omega, by omega⟩, ?_⟩
      refine ⟨_, rfl, p, _, _, _, rfl, rfl, SqL.of hp2, rfl, _, _, rfl, rfl, .inl ⟨by decide, by decide⟩, _, rfl, p, _, _, _, rfl, rfl, SqL.of hp2, rfl, _, _, rfl, rfl, .inr ⟨by omega, by omega⟩, _, _, rfl, rfl, _, _, rfl, rfl, ?_⟩
      have v1 := Int.emod_nonneg ((b * (2 * (c + 1) + 1) + 7919 * (c + 1) * (c + 1) + 29) ^ Int.toNat 3) (show (2147483587 : Int) ≠ 0 by decide)
      have v2 := Int.emod_lt_of_pos ((b * (2 * (c + 1) + 1) + 7919 * (c + 1) * (c + 1) + 29) ^ Int.toNat 3) (show (0 : Int) < 2147483587 by decide)
      refine ⟨_, rfl, _, _, rfl, rfl, take_pow hb0 hb1 (by omega) (by omega), _, _, rfl, rfl, (by show (0 : Int) < 2147483587; decide), ?_⟩
      refine ⟨_, rfl, _, rfl, _, _, rfl, rfl, ⟨by decide, by decide⟩, _, rfl, p, _, _, _, rfl, rfl, SqL.of hp2, rfl, _, _, rfl, rfl, _, _, rfl, rfl, .inl ⟨by omega, by omega⟩, _, _, rfl, rfl, (by show (0 : Int) < 2147483549; decide), _, _, rfl, rfl, ⟨by decide, by decide⟩, _, rfl, _, _, rfl, rfl, hm0, ?_⟩
      exact k _ _ (Int.emod_nonneg _ (by omega)) (Int.emod_lt_of_pos _ hm0) ⟨a, b, c + 1, hp2, ha, hb0, hb1, by omega, by omega⟩ (Fr.at Fr.refl)

theorem sb_take {δ : List Slot} {n : Nat} {μ : Addr → Option MO} {Φ : D → Sto → Prop} {many : Int} (hn : n < 2 ^ 40) (h0 : 0 < many) (h1 : many < 2 ^ 128) (k : ∀ r : Int, 0 ≤ r → r < many → Φ (.int r) ⟨n + 1, μ⟩) : SB K Z sp_law_take [.int many] δ ⟨n, μ⟩ Φ := fun p M G0 H0 xw G H σ E vs h Q X q => by
  cases h with
  | cons a r =>
    cases r
    cases a
    exact ⟨p, n, many, rfl, (E.bagged p rfl).1, hn, h0, h1, fun r H' r0 r1 bg fr => q _ _ G H' ⟨n + 1, μ⟩ (k r r0 r1) (E.drawn bg fr) (Sub.refl G) (.int r)⟩
/-! _law_longs -/
def sp_law_longs (K : PySem.W.Frag) : Sp := spP K fun ds Φ => ∃ c : Cont, ds = [cntD c] ∧ WfC c ∧ c.length ≤ 1000 ∧ rowsN c ≤ 1000 ∧ Φ (.lst ((setS (longL c)).map D.str))
theorem ok_law_longs (T : Txt K mg) : FnOk P w K mg base CX0 1 T.f_law_longs T.fd_law_longs ["_law_held_here"] (sp_law_longs K) := by
  refine fn_P T.F_law_longs sc_law_longs (fun ds Φ h => ?_) (fun cdv A outer s H E hr => ⟨_, (pss_cons (ps_set (i := 1) sc_law_longs.nd rfl (Or.inl rfl) (pe_lst pa_nil))
      (pss_cons (ps_for PassesOwn.never (by rfl) (pi_keys (pv 0)) (pg_name (i := 2) sc_law_longs.nd rfl (Or.inl rfl))
        (pss_one (ps_set (i := 1) sc_law_longs.nd rfl (Or.inl rfl) (pe_op op_cat (pv 1) (pe_lc (own := [("_law_words_here", 3)]) (g := gName 3) (by rfl) sc_law_longs.nd (pi_values (pe_dget (hu_by hr) (pv 0) (pv 2) (fun _ _ => rfl))) (blkOk_by (own := [("_law_words_here", 3)]) (N := ["_law_held_here", "_law_found", "_law_crate", "_law_words_here"]) (sc := defScope s_law_longs) (by decide +kernel)) (fun _ _ _ _ _ => (pg_name (i := 3) sc_law_longs.nd rfl (Or.inl rfl))) (fun _ _ _ _ _ => (pts_one (pt_cmpR op_gt (pe_callB call_len_str (by rfl) T.z_len (by decide +kernel) (pa_cons (pv 3) pa_nil)) pe_int (nomark _)))) (fun _ _ _ _ _ => (pv 3)))))))
      (pss_one (ps_ret (pe_callB (cr_sortTx rfl hr.units) (by rfl) T.z_sorted (by decide +kernel) (pa_cons (pe_callTy (cr_setTx (K := K) rfl rfl) (by rfl) T.z_set (by decide +kernel) (pa_cons (pv 1) pa_nil)) pa_nil)))))), fun ds Φ h => ?_⟩)
  · obtain ⟨c, rfl, _⟩ := h
    rfl
  · obtain ⟨c, rfl, wf, h1, h2, k⟩ := h
    walk_at "k"
    have hl := longL_le c
    refine gs_seq (gs_asg (gk_lst (ga_nil ⟨by show 0 ≤ 100000; decide, ?_⟩)))
    refine gs_seq (gs_forW (gi_keysL (gk_var rfl ⟨_, rfl, fun i δ' n' => δ' = [.d (cntD c), .d (.lst ((longL (c.take i)).map D.str)), .un, .un] ∧ n' = ⟨0, m00⟩, ⟨_, by walk_at "wk", rfl, rfl⟩, ?_, ?_⟩)))
    · rintro i x δ' n' hx ⟨rfl, rfl⟩
      rw [List.getElem?_map] at hx
      obtain ⟨kv, hkv, rfl⟩ := Option.map_eq_some_iff.mp hx
      unfold cntE at hkv
      rw [List.getElem?_map] at hkv
      obtain ⟨b, hb, rfl⟩ := Option.map_eq_some_iff.mp hkv
      refine ⟨_, [2], gg_name (by decide), ?_⟩
      have hm := List.mem_of_getElem? hb
      have lw : ∀ y ∈ b.2, y.2.length ≤ 40 := fun y hy => ((wf.2 b hm).2.2 y hy).2.1
      have hsn : c.take (i + 1) = c.take i ++ [b] := by rw [List.take_add_one, hb]; rfl
      have el : longL (c.take (i + 1)) = longL (c.take i) ++ longR b.2 := by
        rw [hsn]
        unfold longL
        rw [List.flatMap_append]
        simp
      have hbl : b.2.length ≤ 1000 := by
        have := rows_le hm
        omega
      have hl1 : (longL (c.take (i + 1))).length ≤ 1000 := by
        refine Nat.le_trans (longL_le _) ?_
        have : rowsN c = rowsN (c.take (i + 1)) + rowsN (c.drop (i + 1)) := by rw [← rowsN_app, List.take_append_drop]
        omega
      refine gs_asg (gk_op (gk_var rfl (gk_filt1 (f := id) (c := longD) (fun _ h => nomatch (show some Slot.un = some _ from h)) (gi_valsL (gk_dgetL (gk_var rfl ⟨_, rfl, gk_var rfl ⟨.inr b.1, rowD b.2, rfl, getD_cnt wf.1 hm, _, rfl, by unfold rowE; rw [List.length_map, List.length_map]; omega, fun d hd => ?_, ?_⟩⟩))))))
      · obtain ⟨kv, hkv, rfl⟩ := List.mem_map.mp hd
        obtain ⟨y, hy, rfl⟩ := List.mem_map.mp hkv
        have := lw y hy
        refine gt_test (gk_op (gk_cb (ga_cons (gk_var rfl (ga_nil (rc_lenS (by omega) ?_))))))
        walk_at "e"
        exact ⟨rfl, rfl, fun _ => gk_var rfl ⟨rfl, rfl⟩⟩
      · rw [List.map_id, flt_longR]
        rw [el, List.length_append] at hl1
        refine rk_cat (by rw [List.length_map, List.length_map]; omega) ?_
        rw [← List.map_append, ← el]
        exact ⟨_, by walk_at "wk", rfl, rfl⟩
    · rintro δ' n' ⟨rfl, rfl⟩
      rw [List.length_map, show (cntE c).length = c.length from List.length_map _, List.take_length]
      exact gs_ret (gk_sortSet (gk_var rfl ⟨_, rfl, by omega, k⟩))
theorem c_law_longs {δ : List Slot} {n : Sto} {Φ : D → Sto → Prop} {c : Cont} (h0 : WfC c) (h1 : c.length ≤ 1000) (h2 : rowsN c ≤ 1000) (k : Φ (.lst ((setS (longL c)).map D.str)) n) : SC K Z (sp_law_longs K) [cntD c] δ n Φ := sc_P ⟨c, rfl, h0, h1, h2, k⟩
/-! long_texts -/
def sp_long_texts (K : PySem.W.Frag) : Sp := spP K fun ds Φ => ∃ c : Cont, ds = [cntD c] ∧ WfC c ∧ rowsN c ≤ 1000 ∧ Φ (.lst ((setS (longL c)).map D.str))
def lgF : D → List D
  | .dct es => (es.map (·.2)).filter longD
  | _ => []
theorem lgF_all : ∀ c : Cont, ((cntE c).map (·.2)).flatMap lgF = (longL c).map D.str
  | [] => rfl
  | b :: c => by
    have ih := lgF_all c
    unfold cntE at ih ⊢
    rw [List.map_cons, List.map_cons, List.flatMap_cons, ih]
    show ((rowE b.2).map (·.2)).filter longD ++ _ = ((longR b.2) ++ longL c).map D.str
    rw [flt_longR, List.map_append]
theorem ok_long_texts (T : Txt K mg) : FnOk P w K mg base CX0 2 T.f_long_texts T.fd_long_texts ["content"] (sp_long_texts K) := by
  refine fn_P T.F_long_texts sc_long_texts (fun ds Φ h => ?_) (fun cdv A outer s H E hr => ⟨_, (pss_one (ps_ret (pe_callB (cr_sortTx rfl hr.units) (by rfl) T.z_sorted (by decide +kernel) (pa_cons (pe_sx2 (own := [("rows", 1), ("text", 2)]) (vs1 := [2]) (g := gName 1) (g1 := gName 2) (by rfl) sc_long_texts.nd (pi_values (pv 0)) (blkOk_by (own := [("rows", 1), ("text", 2)]) (N := ["content", "rows", "text"]) (sc := defScope s_long_texts) (by decide +kernel)) (by decide) (fun _ _ _ _ _ => (pg_name (i := 1) sc_long_texts.nd rfl (Or.inl rfl))) (fun _ _ _ _ _ => pts_nil) (fun _ _ _ _ _ => (pi_values (pv 1))) (fun _ _ _ _ _ => (pg_name (i := 2) sc_long_texts.nd rfl (Or.inl rfl))) (fun _ _ _ _ _ => (pts_one (pt_val (pe_call (ok_is_long T) (hr.mono (by decide)) (by rfl) T.m_is_long T.F_is_long.kp T.b_is_long .nil pass0 (pa_cons (pv 2) pa_nil))))) (fun _ _ _ _ _ => (pv 2))) pa_nil)))), fun ds Φ h => ?_⟩)
  · obtain ⟨c, rfl, _⟩ := h
    rfl
  · obtain ⟨c, rfl, wf, h2, k⟩ := h
    walk_at "k"
    have hl := longL_le c
    refine gs_ret (gk_sortSx2 (fun i hi x => ?_) (gi_valsL (gk_var rfl ⟨cntE c, rfl, lgF, longL c, fun x hx => ?_, lgF_all c, by omega, k⟩)))
    · rcases List.mem_cons.mp hi with rfl | hi
      · exact fun h => nomatch (show some Slot.un = some _ from h)
      · cases List.mem_singleton.mp hi
        exact fun h => nomatch (show some Slot.un = some _ from h)
    · obtain ⟨kv, hkv, rfl⟩ := List.mem_map.mp hx
      obtain ⟨b, hb, rfl⟩ := List.mem_map.mp hkv
      refine clx_name (by decide) (gt_yes ⟨rfl, fun _ => ⟨fun i hi x => ?_, gi_valsL (gk_var rfl ⟨rowE b.2, rfl, rfl, fun y => if longD y = true then [y] else [], ?_, fun y hy => clx_name (by decide) ?_⟩)⟩, fun z => nomatch z⟩)
      · cases List.mem_singleton.mp hi
        exact fun h => nomatch (show some Slot.un = some _ from h)
      · rw [flatMap_flt]
        rfl
      · obtain ⟨kw, hkw, rfl⟩ := List.mem_map.mp hy
        obtain ⟨v, hv, rfl⟩ := List.mem_map.mp hkw
        have := ((wf.2 b hb).2.2 v hv).2.1
        refine gt_test (gk_call (ga_cons (gk_var rfl (ga_nil (c_is_long (by omega) ⟨_, rfl, rfl, fun h => ?_, fun h => ?_⟩)))))
        · refine gk_var rfl ⟨rfl, ⟨_, rfl⟩, ?_⟩
          exact if_pos (show longD (.str v.2) = true from h)
        · exact if_neg (show ¬ longD (.str v.2) = true by rw [show longD (.str v.2) = false from h]; exact Bool.false_ne_true)
theorem c_long_texts {δ : List Slot} {n : Sto} {Φ : D → Sto → Prop} {c : Cont} (h0 : WfC c) (h2 : rowsN c ≤ 1000) (k : Φ (.lst ((setS (longL c)).map D.str)) n) : SC K Z (sp_long_texts K) [cntD c] δ n Φ := sc_P ⟨c, rfl, h0, h2, k⟩
/-! _law_name -/
def sp_law_name (K : PySem.W.Frag) : Sp := spB K fun n ds Φ => ds = [] ∧ n ≤ 2 ^ 39 ∧ ∀ z m, Nmz z → m ≤ n + 20 → Φ (.str z) m
theorem ok_law_name (T : Txt K mg) : FnOk P w K mg base CX0 2 T.f_law_name T.fd_law_name ["_law_bag_here"] (sp_law_name K) := by
  refine fn_B T.F_law_name sc_law_name (fun n ds Φ h => ?_) (fun cdv A outer s H E hr => ⟨_, (pss_cons (ps_set (i := 1) sc_law_name.nd rfl (Or.inr rfl) (pe_ix ix_list (pe_lst (pa_cons pe_str (pa_cons pe_str pa_nil))) (pe_callTy call_int1 (by rfl) T.z_int (by decide +kernel) (pa_cons (pe_cmpR op_eq (pe_call (ok_law_take T) (hr.mono (by decide)) (by rfl) T.m_law_take T.F_law_take.kp T.b_law_take .nil pass0 (pa_cons (pv 0) (pa_cons pe_int pa_nil))) pe_int (nomark _)) pa_nil)) (fun _ _ => rfl)))
      (pss_cons (ps_set (i := 2) sc_law_name.nd rfl (Or.inl rfl) (pe_op op_add pe_int (pe_call (ok_law_take T) (hr.mono (by decide)) (by rfl) T.m_law_take T.F_law_take.kp T.b_law_take .nil pass0 (pa_cons (pv 0) (pa_cons (pe_ix ix_list (pe_lst (pa_cons pe_int (pa_cons pe_int (pa_cons pe_int pa_nil)))) (pe_call (ok_law_take T) (hr.mono (by decide)) (by rfl) T.m_law_take T.F_law_take.kp T.b_law_take .nil pass0 (pa_cons (pv 0) (pa_cons pe_int pa_nil))) (fun _ _ => rfl)) pa_nil)))))
      (pss_one (ps_ret (pe_join pe_str (pe_lc (own := [("_law_spot", 3)]) (g := gName 3) (by rfl) sc_law_name.nd (pi_range1 (by rfl) T.z_range (pa_cons (pv 2) pa_nil)) (blkOk_by (own := [("_law_spot", 3)]) (N := ["_law_bag_here", "_law_letters", "_law_size", "_law_spot"]) (sc := defScope s_law_name) (by decide +kernel)) (fun _ _ _ _ _ => (pg_name (i := 3) sc_law_name.nd rfl (Or.inl rfl))) (fun _ _ _ _ _ => pts_nil) (fun _ _ _ _ _ => (pe_ix ix_str (pv 1) (pe_call (ok_law_take T) (hr.mono (by decide)) (by rfl) T.m_law_take T.F_law_take.kp T.b_law_take .nil pass0 (pa_cons (pv 0) (pa_cons (pe_callB call_len_str (by rfl) T.z_len (by decide +kernel) (pa_cons (pv 1) pa_nil)) pa_nil))) (fun _ _ => rfl))))))))), fun p n ds Φ h => ?_⟩)
  · rw [h.1]
    rfl
  · obtain ⟨rfl, hn, k⟩ := h
    walk_at "k"
    walk_at "g"
    refine sb_take (by omega) (by decide) (by decide) fun r h0 h1 => ?_
    walk_at "g"
    obtain ⟨d, ed, hd⟩ := at_2 (a := .str "abc") (b := .str "abcdefghijklmnopqrstuvwxyz") (r := if decide (r = 0) = true then 1 else 0) (by split <;> omega) (by split <;> omega)
    refine rk_ixL ed ?_
    obtain ⟨lt, rfl, hl0, hl1, hlc⟩ : ∃ lt : Str, d = .str lt ∧ 1 ≤ lt.length ∧ lt.length ≤ 26 ∧ ∀ c ∈ tl lt, 97 ≤ c ∧ c ≤ 122 := by
      rcases hd with rfl | rfl
      · exact ⟨_, rfl, by decide +kernel, by decide +kernel, by decide +kernel⟩
      · exact ⟨_, rfl, by decide +kernel, by decide +kernel, by decide +kernel⟩
    clear ed hd
    walk_at "g"
    refine sb_take (by omega) (by decide) (by decide) fun r2 h20 h21 => ?_
    obtain ⟨d, ed, hd⟩ := at_any (xs := [.int 2, .int 3, .int 8]) h20 (by show r2 < 3; omega)
    refine rk_ixL ed ?_
    obtain ⟨mx, rfl, x0, x1⟩ : ∃ mx : Int, d = .int mx ∧ 1 ≤ mx ∧ mx ≤ 8 := by
      simp only [List.mem_cons, List.not_mem_nil, or_false] at hd
      rcases hd with rfl | rfl | rfl <;> exact ⟨_, rfl, by decide, by decide⟩
    clear ed hd
    walk_at "g"
    refine sb_take (by omega) (by omega) (by omega) fun r3 h30 h31 => ?_
    walk_at "g"
    refine gk_draw1 (Pd := fun y => ∃ c, c ∈ tl lt ∧ y = .str (S [c])) 1 ?_ ?_
    · exact fun _ h => nomatch h
    walk_at "g"
    refine ⟨by omega, by omega, ?_⟩
    refine ⟨_, _, rfl, by rw [rangeD_len]; omega, fun i x m hx hm => ?_, fun ys m hl hy hm => ?_⟩
    · obtain ⟨hi, rfl⟩ := rangeD_at hx
      walk_at "g"
      refine sb_take (by omega) (by omega) (by omega) fun r4 h40 h41 => ?_
      have ll : lt.length = lt.cps.toList.length := (Array.length_toList (xs := lt.cps)).symm
      obtain ⟨c, ec, mc⟩ := sign_at (z := lt) h40 (by omega)
      exact rk_ixS (by omega) ec ⟨_, rfl, ⟨c, mc, rfl⟩, by omega⟩
    · obtain ⟨cs, rfl, h2, h3⟩ := ones_of hy
      rw [rangeD_len] at hl hm
      exact ru_ones (by omega) (dN.mk <| k _ m ⟨by rw [S_len]; omega, by rw [S_len]; omega, fun c hc => hlc c (h2 c (by rwa [tl_S] at hc))⟩ (by omega))
theorem sb_name {δ : List Slot} {n : Nat} {μ : Addr → Option MO} {Φ : D → Sto → Prop} (hn : n ≤ 2 ^ 39) (k : ∀ z m, Nmz z → m ≤ n + 20 → Φ (.str z) ⟨m, μ⟩) : SB K Z (sp_law_name K) [] δ ⟨n, μ⟩ Φ := sb_P ⟨rfl, hn, k⟩
/-! _law_words -/
def wordsD : List D := [.str "", .str "x", .str " ", .str "a b ", .str "12345678", .str "123456789", .str " two  blanks ", .str (mulS "~" 40), .str "r:a:b and so on", .str "t:long one"]
theorem words_ok {d : D} (h : d ∈ wordsD) : ∃ z, d = .str z ∧ Wt z := by
  have one : ∀ z : Str, (decide (z.length ≤ 40) && (tl z).all fun c => decide (32 ≤ c) && decide (c ≤ 126) && decide (c ≠ 37)) = true → Wt z := fun z q => by
    rw [Bool.and_eq_true, decide_eq_true_eq, List.all_eq_true] at q
    refine ⟨q.1, fun c hc => ?_⟩
    have := q.2 c hc
    rw [Bool.and_eq_true, Bool.and_eq_true, decide_eq_true_eq, decide_eq_true_eq, decide_eq_true_eq] at this
    exact ⟨this.1.1, this.1.2, this.2⟩
  unfold wordsD at h
  simp only [List.mem_cons, List.not_mem_nil, or_false] at h
  rcases h with rfl | rfl | rfl | rfl | rfl | rfl | rfl | rfl | rfl | rfl <;> exact ⟨_, rfl, one _ (by decide +kernel)⟩
def sp_law_words (K : PySem.W.Frag) : Sp := spB K fun n ds Φ => ds = [] ∧ n ≤ 2 ^ 39 ∧ ∀ z m, Wt z → m ≤ n + 50 → Φ (.str z) m
theorem ok_law_words (T : Txt K mg) : FnOk P w K mg base CX0 2 T.f_law_words T.fd_law_words ["_law_bag_here"] (sp_law_words K) := by
  refine fn_B T.F_law_words sc_law_words (fun n ds Φ h => ?_) (fun cdv A outer s H E hr => ⟨_, (pss_cons (ps_set (i := 1) sc_law_words.nd rfl (Or.inl rfl) (pe_lst (pa_cons pe_str (pa_cons pe_str (pa_cons pe_str (pa_cons pe_str (pa_cons pe_str (pa_cons pe_str (pa_cons pe_str (pa_cons (pe_op op_mul_str pe_str pe_int) (pa_cons pe_str (pa_cons pe_str pa_nil))))))))))))
      (pss_cons (ps_set (i := 2) sc_law_words.nd rfl (Or.inl rfl) (pe_call (ok_law_take T) (hr.mono (by decide)) (by rfl) T.m_law_take T.F_law_take.kp T.b_law_take .nil pass0 (pa_cons (pv 0) (pa_cons pe_int pa_nil))))
      (pss_cons (ps_if (pt_cmpR op_lt (pv 2) pe_int (nomark _))
        (pss_one (ps_ret (pe_ix ix_list (pv 1) (pv 2) (fun _ _ => rfl))))
        pss_nil)
      (pss_cons (ps_if (pt_cmpR op_lt (pv 2) pe_int (nomark _))
        (pss_one (ps_ret (pe_op op_add_str pe_str (pe_callTy call_str_int (by rfl) T.z_str (by decide +kernel) (pa_cons (pe_call (ok_law_take T) (hr.mono (by decide)) (by rfl) T.m_law_take T.F_law_take.kp T.b_law_take .nil pass0 (pa_cons (pv 0) (pa_cons pe_int pa_nil))) pa_nil)))))
        pss_nil)
      (pss_cons (ps_set (i := 3) sc_law_words.nd rfl (Or.inl rfl) (pe_ix ix_list (pe_lst (pa_cons (pe_call (ok_law_take T) (hr.mono (by decide)) (by rfl) T.m_law_take T.F_law_take.kp T.b_law_take .nil pass0 (pa_cons (pv 0) (pa_cons pe_int pa_nil))) (pa_cons (pe_op op_add pe_int (pe_call (ok_law_take T) (hr.mono (by decide)) (by rfl) T.m_law_take T.F_law_take.kp T.b_law_take .nil pass0 (pa_cons (pv 0) (pa_cons pe_int pa_nil)))) pa_nil))) (pe_call (ok_law_take T) (hr.mono (by decide)) (by rfl) T.m_law_take T.F_law_take.kp T.b_law_take .nil pass0 (pa_cons (pv 0) (pa_cons pe_int pa_nil))) (fun _ _ => rfl)))
      (pss_one (ps_ret (pe_join pe_str (pe_lc (own := [("_law_spot", 4)]) (g := gName 4) (by rfl) sc_law_words.nd (pi_range1 (by rfl) T.z_range (pa_cons (pv 3) pa_nil)) (blkOk_by (own := [("_law_spot", 4)]) (N := ["_law_bag_here", "_law_some", "_law_kind", "_law_size", "_law_spot"]) (sc := defScope s_law_words) (by decide +kernel)) (fun _ _ _ _ _ => (pg_name (i := 4) sc_law_words.nd rfl (Or.inl rfl))) (fun _ _ _ _ _ => pts_nil) (fun _ _ _ _ _ => (pe_ix ix_str pe_str (pe_call (ok_law_take T) (hr.mono (by decide)) (by rfl) T.m_law_take T.F_law_take.kp T.b_law_take .nil pass0 (pa_cons (pv 0) (pa_cons pe_int pa_nil))) (fun _ _ => rfl)))))))))))), fun p n ds Φ h => ?_⟩)
  · rw [h.1]
    rfl
  · obtain ⟨rfl, hn, k⟩ := h
    walk_at "k"
    walk_at "g"
    refine rk_mulS (by decide) (by decide) (by decide) ?_
    walk_at "g"
    refine sb_take (by omega) (by decide) (by decide) fun r h0 h1 => ?_
    walk_at "g"
    refine ⟨fun h => ?_, fun h => ?_⟩
    · have h := of_decide_eq_true h
      walk_at "g"
      obtain ⟨d, e, hd⟩ := at_any (xs := wordsD) h0 (by show r < 10; omega)
      obtain ⟨z, rfl, hz⟩ := words_ok hd
      exact rk_ixL e (dN.mk (k z _ hz (by omega)))
    · walk_at "g"
      refine ⟨fun h => ?_, fun h => ?_⟩
      · walk_at "g"
        refine sb_take (by omega) (by decide) (by decide) fun r2 h20 h21 => ?_
        obtain ⟨m, rfl⟩ : ∃ m : Nat, r2 = (m : Int) := ⟨r2.toNat, by omega⟩
        walk_at "g"
        refine rc_strI (log_small (by omega)) ?_
        obtain ⟨d1, d2⟩ := digits_of m (by omega)
        have l0 : (Str.ofString "long text ").length = 10 := by decide +kernel
        have c0 : ∀ c ∈ tl (Str.ofString "long text "), 32 ≤ c ∧ c ≤ 126 ∧ c ≠ 37 := by decide +kernel
        refine rk_addS (sz_ (by omega)) (dN.mk (k _ _ ⟨by rw [str_app_len]; omega, fun c hc => ?_⟩ (by omega)))
        rw [tl_append] at hc
        rcases List.mem_append.mp hc with hc | hc
        · exact c0 c hc
        · have := d2 c hc
          omega
      · walk_at "g"
        refine sb_take (by omega) (by decide) (by decide) fun r2 h20 h21 => ?_
        walk_at "g"
        refine sb_take (by omega) (by decide) (by decide) fun r3 h30 h31 => ?_
        walk_at "g"
        refine sb_take (by omega) (by decide) (by decide) fun r4 h40 h41 => ?_
        obtain ⟨d, ed, hd⟩ := at_2 (a := .int r2) (b := .int (9 + r3)) h40 h41
        refine rk_ixL ed ?_
        obtain ⟨mm, rfl, m0, m1⟩ : ∃ mm : Int, d = .int mm ∧ 0 ≤ mm ∧ mm ≤ 40 := by
          rcases hd with rfl | rfl
          · exact ⟨_, rfl, by omega, by omega⟩
          · exact ⟨_, rfl, by omega, by omega⟩
        walk_at "g"
        refine gk_draw1 (Pd := fun y => ∃ c, c ∈ tl " !#abXYZ019:-_~" ∧ y = .str (S [c])) 1 ?_ ?_
        · exact fun _ h => nomatch h
        walk_at "g"
        refine ⟨by omega, by omega, ?_⟩
        refine ⟨_, _, rfl, by rw [rangeD_len]; omega, fun i x m hx hm => ?_, fun ys m hl hy hm => ?_⟩
        · obtain ⟨hi, rfl⟩ := rangeD_at hx
          walk_at "g"
          refine sb_take (by omega) (by decide) (by decide) fun r2 h20 h21 => ?_
          obtain ⟨c, ec, mc⟩ := sign_at (z := " !#abXYZ019:-_~") h20 h21
          exact rk_ixS (by decide) ec ⟨_, rfl, ⟨c, mc, rfl⟩, by omega⟩
        · obtain ⟨cs, rfl, h2, h3⟩ := ones_of hy
          rw [rangeD_len] at hl hm
          have sg : ∀ c ∈ tl " !#abXYZ019:-_~", 32 ≤ c ∧ c ≤ 126 ∧ c ≠ 37 := by decide +kernel
          exact ru_ones (by omega) (dN.mk <| k _ m (Wt.of (by omega) fun c hc => sg c (h2 c hc)) (by omega))
theorem sb_words {δ : List Slot} {n : Nat} {μ : Addr → Option MO} {Φ : D → Sto → Prop} (hn : n ≤ 2 ^ 39) (k : ∀ z m, Wt z → m ≤ n + 50 → Φ (.str z) ⟨m, μ⟩) : SB K Z (sp_law_words K) [] δ ⟨n, μ⟩ Φ := sb_P ⟨rfl, hn, k⟩
/-! _law_cards_in -/
def lenD (c : Cont) (d : D) : D := match d with
  | .str x => .int ((((c.find? fun b => decide (b.1 = x)).map (·.2)).getD []).length : Nat)
  | d => d
theorem find_cnt {c : Cont} {b : Str × List (Str × Str)} (nd : (c.map (·.1)).Nodup) (h : b ∈ c) : (c.find? fun y => decide (y.1 = b.1)).map (·.2) = some b.2 := by
  induction c with
  | nil => cases h
  | cons y c ih =>
    rw [List.map_cons, List.nodup_cons] at nd
    rcases List.mem_cons.mp h with rfl | m
    · rw [List.find?_cons_of_pos (by simp)]
      rfl
    · have ne : y.1 ≠ b.1 := fun e => nd.1 (e ▸ List.mem_map.mpr ⟨b, m, rfl⟩)
      rw [List.find?_cons_of_neg (by simpa using ne)]
      exact ih nd.2 m
theorem map_lenD {c : Cont} (nd : (c.map (·.1)).Nodup) : ∀ d : Cont, (∀ b ∈ d, b ∈ c) → (((cntE d).map fun kv => keyD kv.1).map (lenD c)) = (d.map fun b => (b.2.length : Int)).map D.int
  | [], _ => rfl
  | b :: d, h => by
    have ih := map_lenD nd d fun x hx => h x (List.mem_cons_of_mem _ hx)
    unfold cntE at ih ⊢
    rw [List.map_cons, List.map_cons, List.map_cons, List.map_cons, List.map_cons, ih]
    congr 1
    show D.int _ = D.int _
    rw [find_cnt nd (h b List.mem_cons_self)]
    rfl
theorem sum_rows : ∀ c : Cont, (c.map fun b => (b.2.length : Int)).sum = (rowsN c : Nat)
  | [] => rfl
  | b :: c => by
    rw [List.map_cons, List.sum_cons, sum_rows c]
    show _ = ((b.2.length + rowsN c : Nat) : Int)
    omega
def sp_law_cards_in (K : PySem.W.Frag) : Sp := spP K fun ds Φ => ∃ c : Cont, ds = [cntD c] ∧ WfC c ∧ c.length ≤ 1000 ∧ rowsN c ≤ 1000 ∧ Φ (.int (cardsN c : Nat))
theorem ok_law_cards_in (T : Txt K mg) : FnOk P w K mg base CX0 2 T.f_law_cards_in T.fd_law_cards_in ["_law_held_here"] (sp_law_cards_in K) := by
  refine fn_P T.F_law_cards_in sc_law_cards_in (fun ds Φ h => ?_) (fun cdv A outer s H E hr => ⟨_, (pss_cons (ps_setLc (i := 1) (own := [("_law_crate", 2)]) (g := gName 2) (by rfl) sc_law_cards_in.nd rfl rfl (sw_true rfl rfl rfl (by decide +kernel)) (pi_keys (pv 0)) (blkOk_by (own := [("_law_crate", 2)]) (N := ["_law_held_here", "_law_found", "_law_crate"]) (sc := defScope s_law_cards_in) (by decide +kernel)) (fun _ _ _ _ _ => (pg_name (i := 2) sc_law_cards_in.nd rfl (Or.inl rfl))) (fun _ _ _ _ _ => pts_nil) (fun _ _ _ _ _ => (pe_callB cr_lenRd (by rfl) T.z_len (by decide +kernel) (pa_cons (pe_dget (hu_by hr) (pv 0) (pv 2) (fun _ _ => rfl)) pa_nil))))
      (pss_one (ps_ret (pe_op op_add (pe_op op_add (pe_callB cr_lenRd (by rfl) T.z_len (by decide +kernel) (pa_cons (pv 0) pa_nil)) (pe_callB (cr_sum rfl) (by rfl) T.z_sum (by decide +kernel) (pa_cons (pv 1) pa_nil))) (pe_callB call_len_seq (by rfl) T.z_len (by decide +kernel) (pa_cons (pe_call (ok_law_longs T) (hr.mono (by decide)) (by rfl) T.m_law_longs T.F_law_longs.kp T.b_law_longs .nil pass0 (pa_cons (pv 0) pa_nil)) pa_nil)))))), fun ds Φ h => ?_⟩)
  · obtain ⟨c, rfl, _⟩ := h
    rfl
  · obtain ⟨c, rfl, wf, h1, h2, k⟩ := h
    walk_at "k"
    refine gs_seq (gs_asg (gk_map1 (f := lenD c) (fun _ h => nomatch (show some Slot.un = some _ from h)) (gi_keysL (gk_var rfl ⟨_, rfl, by unfold cntE; rw [List.length_map, List.length_map]; omega, fun d hd => ?_, ?_⟩))))
    · obtain ⟨kv, hkv, rfl⟩ := List.mem_map.mp hd
      obtain ⟨b, hb, rfl⟩ := List.mem_map.mp hkv
      refine gk_cb (ga_cons (gk_dgetL (gk_var rfl ⟨_, rfl, gk_var rfl ⟨.inr b.1, rowD b.2, rfl, getD_cnt wf.1 hb, ga_nil (rc_lenDA (.inr (.inl rfl)) ⟨?_, rfl⟩)⟩⟩)))
      show D.int _ = D.int _
      rw [find_cnt wf.1 hb]
      unfold rowE
      rw [List.length_map]
      rfl
    rw [map_lenD wf.1 c fun b h => h]
    refine gs_ret (gk_op (gk_op (gk_cb (ga_cons (gk_var rfl (ga_nil (rc_lenDA (.inr (.inl rfl)) ?_)))))))
    walk_at "e"
    refine c_law_longs wf h1 h2 ?_
    walk_at "e"
    rw [sum_rows, List.length_map, show (cntE c).length = c.length from List.length_map _]
    rw [show ((c.length : Nat) : Int) + (rowsN c : Nat) + ((setS (longL c)).length : Nat) = (cardsN c : Nat) by unfold cardsN; omega]
    exact k
theorem c_law_cards_in {δ : List Slot} {n : Sto} {Φ : D → Sto → Prop} {c : Cont} (h0 : WfC c) (h1 : c.length ≤ 1000) (h2 : rowsN c ≤ 1000) (k : Φ (.int (cardsN c : Nat)) n) : SC K Z (sp_law_cards_in K) [cntD c] δ n Φ := sc_P ⟨c, rfl, h0, h1, h2, k⟩
/-! _law_titles -/
def sp_law_titles (K : PySem.W.Frag) : Sp := spP K fun ds Φ => ∃ c : Cont, ds = [cntD c] ∧ WfC c ∧ c.length ≤ 97 ∧ rowsN c ≤ 97 ∧ Φ (.lst ((srtS (titS c)).map D.str))
theorem ok_law_titles (T : Txt K mg) : FnOk P w K mg base CX0 2 T.f_law_titles T.fd_law_titles ["_law_held_here"] (sp_law_titles K) := by
  refine fn_P T.F_law_titles sc_law_titles (fun ds Φ h => ?_) (fun cdv A outer s H E hr => ⟨_, (pss_cons (ps_set (i := 1) sc_law_titles.nd rfl (Or.inl rfl) (pe_op op_cat (pe_lc (own := [("_law_words_here", 2)]) (g := gName 2) (by rfl) sc_law_titles.nd (pi_list (pe_call (ok_law_longs T) (hr.mono (by decide)) (by rfl) T.m_law_longs T.F_law_longs.kp T.b_law_longs .nil pass0 (pa_cons (pv 0) pa_nil))) (blkOk_by (own := [("_law_words_here", 2)]) (N := ["_law_held_here", "_law_found", "_law_words_here", "_law_crate", "_law_label"]) (sc := defScope s_law_titles) (by decide +kernel)) (fun _ _ _ _ _ => (pg_name (i := 2) sc_law_titles.nd rfl (Or.inl rfl))) (fun _ _ _ _ _ => pts_nil) (fun _ _ _ _ _ => (pe_op op_add_str pe_str (pv 2)))) (pe_lc (own := [("_law_crate", 3)]) (g := gName 3) (by rfl) sc_law_titles.nd (pi_keys (pv 0)) (blkOk_by (own := [("_law_crate", 3)]) (N := ["_law_held_here", "_law_found", "_law_words_here", "_law_crate", "_law_label"]) (sc := defScope s_law_titles) (by decide +kernel)) (fun _ _ _ _ _ => (pg_name (i := 3) sc_law_titles.nd rfl (Or.inl rfl))) (fun _ _ _ _ _ => pts_nil) (fun _ _ _ _ _ => (pe_op op_add_str pe_str (pv 3))))))
      (pss_cons (ps_for PassesOwn.never (by rfl) (pi_keys (pv 0)) (pg_name (i := 3) sc_law_titles.nd rfl (Or.inr rfl))
        (pss_one (ps_set (i := 1) sc_law_titles.nd rfl (Or.inl rfl) (pe_op op_cat (pv 1) (pe_lc (own := [("_law_label", 4)]) (g := gName 4) (by rfl) sc_law_titles.nd (pi_keys (pe_dget (hu_by hr) (pv 0) (pv 3) (fun _ _ => rfl))) (blkOk_by (own := [("_law_label", 4)]) (N := ["_law_held_here", "_law_found", "_law_words_here", "_law_crate", "_law_label"]) (sc := defScope s_law_titles) (by decide +kernel)) (fun _ _ _ _ _ => (pg_name (i := 4) sc_law_titles.nd rfl (Or.inl rfl))) (fun _ _ _ _ _ => pts_nil) (fun _ _ _ _ _ => (pe_op op_add_str (pe_op op_add_str (pe_op op_add_str pe_str (pv 3)) pe_str) (pv 4))))))))
      (pss_one (ps_ret (pe_callB (cr_sortedD (K := K) rfl hr.units) (by rfl) T.z_sorted (by decide +kernel) (pa_cons (pv 1) pa_nil)))))), fun ds Φ h => ?_⟩)
  · obtain ⟨c, rfl, _⟩ := h
    rfl
  · obtain ⟨c, rfl, wf, h1, h2, k⟩ := h
    walk_at "k"
    refine gs_seq (gs_asg ?_)
    walk_at "e"
    have wl : ∀ w ∈ setS (longL c), w.length ≤ 40 := fun w hw => by
      obtain ⟨b, hb, m⟩ := List.mem_flatMap.mp (setS_mem.mp hw)
      obtain ⟨kv, hkv, rfl⟩ := List.mem_map.mp (List.mem_filter.mp m).1
      exact ((wf.2 b hb).2.2 kv hkv).2.1
    refine gk_map1 (f := preD "t:") (fun _ h => nomatch (show some Slot.un = some _ from h)) (gi_list (gk_call (ga_cons (gk_var rfl (ga_nil (c_law_longs wf (by omega) (by omega) ⟨_, rfl, ?_, fun x hx => ?_, ?_⟩))))))
    · rw [List.length_map]
      have := setS_len (longL c)
      have := longL_le c
      omega
    · obtain ⟨z, hz, rfl⟩ := List.mem_map.mp hx
      have := wl z hz
      walk_at "e"
      refine rk_addS ?_ ⟨rfl, rfl⟩
      show 2 + z.length ≤ sizeLine
      rw [sizeLine_eq]
      omega
    rw [map_preD]
    refine gk_map1 (f := preD "b:") (fun _ h => nomatch (show some Slot.un = some _ from h)) (gi_keysL (gk_var rfl ⟨_, rfl, ?_, fun x hx => ?_, ?_⟩))
    · unfold cntE
      rw [List.length_map, List.length_map]
      omega
    · obtain ⟨kv, hkv, rfl⟩ := List.mem_map.mp hx
      obtain ⟨b, hb, rfl⟩ := List.mem_map.mp hkv
      have := (wf.2 b hb).1.2.1
      walk_at "e"
      refine rk_addS ?_ ⟨rfl, rfl⟩
      show 2 + b.1.length ≤ sizeLine
      rw [sizeLine_eq]
      omega
    have e2 : List.map (preD "b:") (List.map (fun kv => keyD kv.1) (cntE c)) = (c.map fun b => ("b:" : Str) ++ b.1).map D.str := by
      unfold cntE
      rw [List.map_map, List.map_map, List.map_map]
      rfl
    rw [e2]
    refine rk_cat ?_ ?_
    · have := setS_len (longL c)
      have := longL_le c
      simp only [List.length_map]
      omega
    rw [← List.map_append]
    generalize hA : (setS (longL c)).map (fun z => Str.ofString "t:" ++ z) ++ c.map (fun b => ("b:" : Str) ++ b.1) = A
    have al : A.length ≤ 194 := by
      rw [← hA, List.length_append, List.length_map, List.length_map]
      have := setS_len (longL c)
      have := longL_le c
      omega
    refine gs_seq (gs_forW (gi_keysL (gk_var rfl ⟨_, rfl, fun i δ' n' => δ' = [.d (cntD c), .d (.lst ((A ++ rowsT (c.take i)).map D.str)), .un, .un, .un] ∧ n' = ⟨0, m00⟩, ⟨_, Wk.refl _, by simp [rowsT]; rfl, rfl⟩, ?_, ?_⟩)))
    · rintro i x δ' n' hx ⟨rfl, rfl⟩
      rw [List.getElem?_map] at hx
      obtain ⟨kv, hkv, rfl⟩ := Option.map_eq_some_iff.mp hx
      unfold cntE at hkv
      rw [List.getElem?_map] at hkv
      obtain ⟨b, hb, rfl⟩ := Option.map_eq_some_iff.mp hkv
      have hm := List.mem_of_getElem? hb
      refine ⟨_, [3], gg_name (by decide), ?_⟩
      have bw := wf.2 b hm
      have bl := bw.1.2.1
      refine gs_asg (gk_op (gk_var rfl (gk_map1 (f := rowF b.1) (by intro _ h; cases h) (gi_keysL (gk_dgetL (gk_var rfl ⟨cntE c, rfl, gk_var rfl ⟨.inr b.1, rowD b.2, rfl, getD_cnt wf.1 hm, rowE b.2, rfl, ?_, fun x hx => ?_, ?_⟩⟩))))))
      · rw [List.length_map]
        have := rows_le hm
        unfold rowE
        rw [List.length_map]
        omega
      · obtain ⟨kw, hkw, rfl⟩ := List.mem_map.mp hx
        obtain ⟨kv, hkv, rfl⟩ := List.mem_map.mp hkw
        have kl := (bw.2.2 kv hkv).1.2.1
        walk_at "e"
        refine rk_addS (by rw [show Str.length "r:" = 2 from rfl, sizeLine_eq]; omega) ?_
        walk_at "e"
        refine rk_addS (by rw [strLen_append, show Str.length "r:" = 2 from rfl, show Str.length ":" = 1 from rfl, sizeLine_eq]; omega) ?_
        walk_at "e"
        refine rk_addS (by rw [strLen_append, strLen_append, show Str.length "r:" = 2 from rfl, show Str.length ":" = 1 from rfl, sizeLine_eq]; omega) ⟨rfl, rfl⟩
      · have rl : ∀ d : Cont, (rowsT d).length = rowsN d := fun d => by simp [rowsT, rowsN, List.length_flatMap]
        have tk := rowsN_app (c.take i) (c.drop i)
        rw [List.take_append_drop] at tk
        have bn := rows_le hm
        have e3 : List.map (rowF b.1) (List.map (fun kv => keyD kv.1) (rowE b.2)) = (b.2.map fun kv => rowT b.1 kv.1).map D.str := by
          unfold rowE
          rw [List.map_map, List.map_map, List.map_map]
          rfl
        rw [e3]
        refine rk_cat ?_ ?_
        · rw [List.length_map, List.length_map, List.length_append, rl, List.length_map]
          omega
        · rw [← List.map_append]
          have e4 : (A ++ rowsT (c.take i)) ++ (b.2.map fun kv => rowT b.1 kv.1) = A ++ rowsT (c.take (i + 1)) := by
            rw [List.take_add_one, hb]
            simp [rowsT]
          rw [e4]
          exact ⟨_, by walk_at "wk", rfl, rfl⟩
    · rintro δ' n' ⟨rfl, rfl⟩
      rw [List.length_map, show (cntE c).length = c.length from List.length_map _, List.take_length]
      have e5 : A ++ rowsT c = titS c := by
        rw [← hA]
        rfl
      rw [e5]
      refine gs_ret (gk_cb (ga_cons (gk_var rfl (ga_nil (rc_sortS (tit_cd wf) k)))))
theorem c_law_titles {δ : List Slot} {n : Sto} {Φ : D → Sto → Prop} {c : Cont} (h0 : WfC c) (h1 : c.length ≤ 97) (h2 : rowsN c ≤ 97) (k : Φ (.lst ((srtS (titS c)).map D.str)) n) : SC K Z (sp_law_titles K) [cntD c] δ n Φ := sc_P ⟨c, rfl, h0, h1, h2, k⟩
/-! _law_other_order -/
theorem rowE_get {rs : List (Str × Str)} {k z : Str} (nd : (rs.map (·.1)).Nodup) (h : (k, z) ∈ rs) : getD' (rowE rs) (Sum.inr k) = some (.str z) := by
  have nd2 : ((rowE rs).map Prod.fst).Nodup := by
    unfold rowE
    rw [List.map_map]
    have : (Prod.fst ∘ fun kv : Str × Str => ((Sum.inr kv.1 : Key), D.str kv.2)) = Sum.inr ∘ (·.1) := rfl
    rw [this, ← List.map_map]
    exact List.Pairwise.map _ (fun a b h e => h (Sum.inr.inj e)) nd
  exact getD_oth nd2 (kv := (Sum.inr k, .str z)) (List.mem_map.mpr ⟨(k, z), h, rfl⟩)
theorem erIx_map {α β : Type} {f : α → β} : ∀ (l : List α) (i : Nat), (l.map f).eraseIdx i = (l.eraseIdx i).map f
  | [], i => by simp
  | x :: l, 0 => rfl
  | x :: l, i + 1 => by
    show f x :: (l.map f).eraseIdx i = f x :: (l.eraseIdx i).map f
    rw [erIx_map l i]
theorem ne_in {a b : Addr} {qs : List Addr} (ha : a ∈ qs) (hb : b ∉ qs) : a ≠ b := fun z => hb (z ▸ ha)
theorem Rws.some {n : Sto} {qs : List Addr} {c : Cont} (h : Rws n qs c) : ∀ a ∈ qs, n.μ a ≠ none := by
  induction h with
  | nil => exact fun _ h => absurd h List.not_mem_nil
  | cons h _ ih =>
    intro a ha
    rcases List.mem_cons.mp ha with rfl | ha
    · rw [h]
      exact fun z => nomatch z
    · exact ih a ha
def sp_law_other_order (K : PySem.W.Frag) : Sp := spB K fun n ds Φ => ∃ c : Cont, ds = [cntD c] ∧ WfC c ∧ c.length ≤ 1000 ∧ rowsN c ≤ 1000 ∧ n ≤ 2 ^ 39 ∧ ∀ c' m, Oth c c' → m ≤ n + (c.length + rowsN c) → Φ (cntD c') m
theorem ok_law_other_order (T : Txt K mg) : FnOk P w K mg base CX0 2 T.f_law_other_order T.fd_law_other_order ["_law_bag_here", "_law_held_here"] (sp_law_other_order K) := by
  refine fn_B T.F_law_other_order sc_law_other_order (fun n ds Φ h => ?_) (fun cdv A outer s H E hr => ⟨_, (pss_cons (ps_par (i := 2) (j := 3) (by rfl) sc_law_other_order.nd rfl rfl (by decide) rfl rfl (pa_cons pe_dnewK (pa_cons (pe_callB (cr_sortDk rfl hr.units) (by rfl) T.z_sorted (by decide +kernel) (pa_cons (pv 1) pa_nil)) pa_nil)) (by rfl))
      (pss_cons (ps_while PassesOwn.never (pt_cmpR (op_neD hr.units) (pv 3) (pe_lst pa_nil) (nomark _))
        (pss_cons (ps_set (i := 4) sc_law_other_order.nd rfl (Or.inl rfl) (pe_popAt (pv 3) (pa_cons (pe_call (ok_law_take T) (hr.mono (by decide)) (by rfl) T.m_law_take T.F_law_take.kp T.b_law_take .nil pass0 (pa_cons (pv 0) (pa_cons (pe_callB call_len_seq (by rfl) T.z_len (by decide +kernel) (pa_cons (pv 3) pa_nil)) pa_nil))) pa_nil)))
        (pss_cons (ps_asg (pe_tup (pa_cons pe_dnewK (pa_cons (pe_callB (cr_sortDk rfl hr.units) (by rfl) T.z_sorted (by decide +kernel) (pa_cons (pe_dget (hu_by hr) (pv 1) (pv 4) (fun _ _ => rfl)) pa_nil)) pa_nil))) (pg_tup (by rfl) (pgs_cons (pg_sub (pv 2) (pv 4) (set_dict (hu_by hr))) (pgs_cons (pg_name (i := 5) sc_law_other_order.nd rfl (Or.inl rfl)) pgs_nil))))
        (pss_one (ps_while PassesOwn.never (pt_cmpR (op_neD hr.units) (pv 5) (pe_lst pa_nil) (nomark _))
          (pss_cons (ps_set (i := 6) sc_law_other_order.nd rfl (Or.inl rfl) (pe_popAt (pv 5) (pa_cons (pe_call (ok_law_take T) (hr.mono (by decide)) (by rfl) T.m_law_take T.F_law_take.kp T.b_law_take .nil pass0 (pa_cons (pv 0) (pa_cons (pe_callB call_len_seq (by rfl) T.z_len (by decide +kernel) (pa_cons (pv 5) pa_nil)) pa_nil))) pa_nil)))
          (pss_one (ps_dput (hu_by hr) (pe_dget (hu_by hr) (pv 2) (pv 4) (fun _ _ => rfl)) (pv 6) (pe_dget (hu_by hr) (pe_dget (hu_by hr) (pv 1) (pv 4) (fun _ _ => rfl)) (pv 6) (fun _ _ => rfl)) rfl))))))))
      (pss_one (ps_lockS (ps_ret (pv 2)))))), fun pb n ds Φ h => ?_⟩)
  · obtain ⟨c, rfl, _⟩ := h
    rfl
  · obtain ⟨c, rfl, wf, c1, c2, hn, k⟩ := h
    walk_at "k"
    refine gs_seq (gs_par (ga_cons (gk_newD fun pF hF => ga_cons (gk_cb (ga_cons (gk_var rfl (ga_nil (rc_sortDAN (ks := c.map (·.1)) (.inr (.inl rfl)) (by unfold cntE; rw [List.map_map, List.map_map]; rfl) fun pL hL => ga_nil ⟨_, _, rfl, ?_⟩))))))))
    have ne : pF ≠ pL := fun z => by rw [← z, Sto.put_same] at hL; cases hL
    refine gs_seq (gs_whileW (fun m δ' n' => ∃ (qs : List Addr) (c2 c' rest : Cont) (ls : List Str), δ' = [.bag, .d (cntD c), .d (.ptr pF), .d (.ptr pL), .un, .un, .un] ∧ n'.μ pL = some (.lst (ls.map D.str)) ∧ n'.μ pF = some (.dic (ptE qs c')) ∧ Rws n' qs c' ∧ (pL :: pF :: qs).Nodup ∧ OthL c2 c' ∧ (c2 ++ rest).Perm c ∧ ls.Perm (rest.map (·.1)) ∧ m = ls.length ∧ n'.n ≤ n + (c2.length + rowsN c2)) _ ⟨_, by walk_at "wk", [], [], [], c, srtS (c.map (·.1)), rfl, Sto.put_same, (Sto.put_ne ne).trans Sto.put_same, .nil, by simp [Ne.symm ne], .nil, List.Perm.refl _, srtS_perm, rfl, Nat.le_refl _⟩ ?_)
    rintro m δ' ⟨nn, μ⟩ ⟨qs, d2, d', rest, ls, rfl, h1, h2, h3, h4, h5, h6, h7, rfl, hnn⟩
    have hnn : nn ≤ n + (d2.length + rowsN d2) := hnn
    have tot := h6.length_eq
    rw [List.length_append] at tot
    have rtot := rowsN_perm h6
    rw [rowsN_app] at rtot
    have lr := h7.length_eq
    rw [List.length_map] at lr
    have sl : Shp 2 (.lst (ls.map D.str)) := .lst fun x hx => by
      obtain ⟨z, hz, rfl⟩ := List.mem_map.mp hx
      obtain ⟨b, hb, rfl⟩ := List.mem_map.mp (h7.mem_iff.mp hz)
      exact .str (wf.2 b (h6.mem_iff.mp (List.mem_append_right _ hb))).1.top
    refine gt_test (gk_op (gk_var rfl (gk_lst (ga_nil ⟨by show 0 ≤ 100000; decide, rk_neRd (j := 2) (k := 1) (.lst h1 (Rdxs.refl _)) (.self _) sl (.lst fun _ h => nomatch h) (by decide) (by decide) ⟨_, rfl, fun h => ?_, fun h => ?_⟩⟩))))
    · rw [eqD_nil] at h
      have ln : 0 < ls.length := by
        cases ls with
        | nil => cases h
        | cons x r => simp
      clear h sl
      refine gs_seq (gs_asg (gk_popP (gk_var rfl ⟨pL, _, rfl, h1, ?_⟩)))
      refine gk_callB rfl (ga_cons (gk_lenP (gk_var rfl ⟨pL, _, rfl, h1, ga_nil ?_⟩)))
      rw [List.length_map]
      refine sb_take (by omega) (by omega) (by omega) fun r r0 r1 => ?_
      obtain ⟨i, rfl⟩ : ∃ i : Nat, r = (i : Int) := ⟨r.toNat, by omega⟩
      have hi : i < ls.length := by omega
      obtain ⟨b, rest', hb, pr⟩ := pop_rest h7 (List.getElem?_eq_getElem hi)
      refine ⟨i, ls.map D.str, .str ls[i], rfl, h1, by rw [List.length_map]; omega, by rw [List.getElem?_map, List.getElem?_eq_getElem hi]; rfl, ?_⟩
      rw [erIx_map]
      have er := pr.2
      have pr := pr.1
      rw [← hb]
      have lsl : (ls.eraseIdx i).length < ls.length := by
        rw [List.length_eraseIdx_of_lt hi]
        omega
      generalize hls : ls.eraseIdx i = ls' at er lsl ⊢
      clear hls hi r0 r1 hb
      obtain ⟨x, rs⟩ := b
      have mx : (x, rs) ∈ c := h6.mem_iff.mp (List.mem_append_right _ (pr.mem_iff.mpr List.mem_cons_self))
      have wx := wf.2 _ mx
      have nd0 : ((d2 ++ rest).map (·.1)).Nodup := (h6.map _).nodup_iff.mpr wf.1
      have nxk : x ∉ d'.map (·.1) := fun m => by
        rw [h5.keys] at m
        rw [List.map_append, List.nodup_append] at nd0
        exact nd0.2.2 x m x (List.mem_map.mpr ⟨(x, rs), pr.mem_iff.mpr List.mem_cons_self, rfl⟩) rfl
      clear nd0
      have hlq := h3.len
      have ld : d'.length = d2.length := by
        have := congrArg List.length h5.keys
        rwa [List.length_map, List.length_map] at this
      obtain ⟨nL, h4'⟩ := List.nodup_cons.mp h4
      obtain ⟨nF, nq⟩ := List.nodup_cons.mp h4'
      have nLF : pL ≠ pF := fun z => nL (z ▸ List.mem_cons_self)
      have nLq : pL ∉ qs := fun z => nL (List.mem_cons_of_mem _ z)
      have at_qs : ∀ a ∈ qs, μ a ≠ none := h3.some
      refine gs_seq (gs_unpDN rfl (gk_tup (ga_cons (gk_newD fun q hq => ga_cons (gk_cb (ga_cons (gk_dgetL (gk_var rfl ⟨cntE c, rfl, gk_var rfl ⟨.inr x, rowD rs, rfl, getD_cnt wf.1 mx, ga_nil (rc_sortDAN (ks := rs.map (·.1)) (.inr (.inl rfl)) (by unfold rowE; rw [List.map_map, List.map_map]; rfl) fun pB hB => ga_nil ⟨by show 2 ≤ 100000; decide, ?_⟩)⟩⟩))))))))
      have qL : q ≠ pL := fun z => by rw [z, Sto.put_same] at hq; cases hq
      rw [Sto.put_ne qL] at hq
      have hq : μ q = none := hq
      have h2 : μ pF = some (.dic (ptE qs d')) := h2
      have qF : q ≠ pF := fun z => by rw [z, h2] at hq; cases hq
      have qq : q ∉ qs := fun z => at_qs q z hq
      have bq : pB ≠ q := fun z => by rw [z, Sto.put_same] at hB; cases hB
      rw [Sto.put_ne bq] at hB
      have bL : pB ≠ pL := fun z => by rw [z, Sto.put_same] at hB; cases hB
      rw [Sto.put_ne bL] at hB
      have hB : μ pB = none := hB
      have bF : pB ≠ pF := fun z => by rw [z, h2] at hB; cases hB
      have bqs : pB ∉ qs := fun z => at_qs pB z hB
      have el : (ptE qs d').length = d'.length := by
        have := congrArg List.length (ptE_keys hlq)
        rwa [List.length_map, List.length_map] at this
      refine ⟨_, _, rfl, gk_var rfl ⟨pF, rfl, gk_var rfl ⟨ptE qs d', .inr x, (Sto.put_ne (Ne.symm bF)).trans ((Sto.put_ne (Ne.symm qF)).trans ((Sto.put_ne (Ne.symm nLF)).trans h2)), rfl, by omega, ?_⟩⟩⟩
      have pn : putD (ptE qs d') (Sum.inr x) (.ptr q) = ptE qs d' ++ [(Sum.inr x, .ptr q)] := putD_new fun kv hkv e => nxk (by
        have : kv.1 ∈ (ptE qs d').map (·.1) := List.mem_map.mpr ⟨kv, hkv, rfl⟩
        rw [ptE_keys hlq, e] at this
        obtain ⟨b, hb, e2⟩ := List.mem_map.mp this
        exact List.mem_map.mpr ⟨b, hb, Sum.inr.inj e2⟩)
      rw [pn]
      clear pn
      refine gs_whileW (fun m2 δ' n' => ∃ (rs1 rr : List (Str × Str)) (bs : List Str), δ' = [.bag, .d (cntD c), .d (.ptr pF), .d (.ptr pL), .d (.str x), .d (.ptr pB), .un] ∧ n'.μ pL = some (.lst (ls'.map D.str)) ∧ n'.μ pF = some (.dic (ptE qs d' ++ [(Sum.inr x, .ptr q)])) ∧ n'.μ pB = some (.lst (bs.map D.str)) ∧ n'.μ q = some (.dic (rowE rs1)) ∧ (∀ a ∈ qs, n'.μ a = μ a) ∧ (rs1 ++ rr).Perm rs ∧ bs.Perm (rr.map (·.1)) ∧ m2 = bs.length ∧ n'.n ≤ nn + 1 + rs1.length) _ ⟨_, by walk_at "wk", [], rs, srtS (rs.map (·.1)), rfl, ?_, Sto.put_same, ?_, ?_, fun a ha => ?_, List.Perm.refl _, srtS_perm, rfl, Nat.le_refl _⟩ ?_
      · exact (Sto.put_ne nLF).trans ((Sto.put_ne (Ne.symm bL)).trans ((Sto.put_ne (Ne.symm qL)).trans Sto.put_same))
      · exact (Sto.put_ne bF).trans Sto.put_same
      · exact (Sto.put_ne qF).trans ((Sto.put_ne (Ne.symm bq)).trans Sto.put_same)
      · exact (Sto.put_ne (ne_in ha nF)).trans ((Sto.put_ne (ne_in ha bqs)).trans ((Sto.put_ne (ne_in ha qq)).trans (Sto.put_ne (ne_in ha nLq))))
      clear hq hB h1 h2
      rintro m2 δ' ⟨n2, μ2⟩ ⟨rs1, rr, bs, rfl, g1, g2, g3, g4, g5, g6, g7, rfl, hn2⟩
      have hn2 : n2 ≤ nn + 1 + rs1.length := hn2
      have tot2 := g6.length_eq
      rw [List.length_append] at tot2
      have lr2 := g7.length_eq
      rw [List.length_map] at lr2
      have rsl : rs.length ≤ 1000 := Nat.le_trans (rows_le mx) c2
      have nnb : nn + (1 + rs.length) ≤ n + (d2.length + rowsN d2) + (1 + rs.length) := by omega
      have rpr := rowsN_perm pr
      have rcs : rowsN ((x, rs) :: rest') = rs.length + rowsN rest' := rfl
      have sl : Shp 2 (.lst (bs.map D.str)) := .lst fun y hy => by
        obtain ⟨z, hz, rfl⟩ := List.mem_map.mp hy
        obtain ⟨b, hb, rfl⟩ := List.mem_map.mp (g7.mem_iff.mp hz)
        exact .str (wx.2.2 b (g6.mem_iff.mp (List.mem_append_right _ hb))).1.top
      refine gt_test (gk_op (gk_var rfl (gk_lst (ga_nil ⟨by show 0 ≤ 100000; decide, rk_neRd (j := 2) (k := 1) (.lst g3 (Rdxs.refl _)) (.self _) sl (.lst fun _ h => nomatch h) (by decide) (by decide) ⟨_, rfl, fun h => ?_, fun h => ?_⟩⟩))))
      · rw [eqD_nil] at h
        have ln : 0 < bs.length := by
          cases bs with
          | nil => cases h
          | cons x r => simp
        clear h sl
        refine gs_seq (gs_asg (gk_popP (gk_var rfl ⟨pB, _, rfl, g3, ?_⟩)))
        refine gk_callB rfl (ga_cons (gk_lenP (gk_var rfl ⟨pB, _, rfl, g3, ga_nil ?_⟩)))
        rw [List.length_map]
        refine sb_take (by omega) (by omega) (by omega) fun r r0 r1 => ?_
        obtain ⟨i, rfl⟩ : ∃ i : Nat, r = (i : Int) := ⟨r.toNat, by omega⟩
        have hi : i < bs.length := by omega
        obtain ⟨b, rr', hb, pr2, er2⟩ := pop_rest g7 (List.getElem?_eq_getElem hi)
        refine ⟨i, bs.map D.str, .str bs[i], rfl, g3, by rw [List.length_map]; omega, by rw [List.getElem?_map, List.getElem?_eq_getElem hi]; rfl, ?_⟩
        rw [erIx_map, ← hb]
        have bsl : (bs.eraseIdx i).length < bs.length := by
          rw [List.length_eraseIdx_of_lt hi]
          omega
        generalize bs.eraseIdx i = bs' at er2 bsl ⊢
        clear hi r0 r1 hb
        obtain ⟨y, z⟩ := b
        have my : (y, z) ∈ rs := g6.mem_iff.mp (List.mem_append_right _ (pr2.mem_iff.mpr List.mem_cons_self))
        have nyk : y ∉ rs1.map (·.1) := fun m => by
          have nd1 : ((rs1 ++ rr).map (·.1)).Nodup := (g6.map _).nodup_iff.mpr wx.2.1
          rw [List.map_append, List.nodup_append] at nd1
          exact nd1.2.2 y m y (List.mem_map.mpr ⟨(y, z), pr2.mem_iff.mpr List.mem_cons_self, rfl⟩) rfl
        have gl : getD' (ptE qs d' ++ [(Sum.inr x, .ptr q)]) (Sum.inr x) = some (.ptr q) := by
          have nd3 : ((ptE qs d' ++ [((Sum.inr x : Key), D.ptr q)]).map Prod.fst).Nodup := by
            rw [List.map_append, ptE_keys hlq, List.nodup_append]
            refine ⟨?_, by simp, fun a ha b hb e => ?_⟩
            · have : (d'.map (·.1)).Nodup := by
                rw [h5.keys]
                have nd0 : ((d2 ++ rest).map (·.1)).Nodup := (h6.map _).nodup_iff.mpr wf.1
                rw [List.map_append, List.nodup_append] at nd0
                exact nd0.1
              have q := List.Pairwise.map (S := fun a b : Key => a ≠ b) Sum.inr (fun a b h e => h (Sum.inr.inj e)) this
              rw [List.map_map] at q
              exact q
            · obtain ⟨b0, hb0, rfl⟩ := List.mem_map.mp ha
              have : b = Sum.inr x := by simpa using hb
              rw [this] at e
              exact nxk (List.mem_map.mpr ⟨b0, hb0, Sum.inr.inj e⟩)
          exact getD_oth nd3 (kv := (Sum.inr x, .ptr q)) (by simp)
        refine gs_putP (gk_dgetL (gk_dgetL (gk_var rfl ⟨cntE c, rfl, gk_var rfl ⟨.inr x, rowD rs, rfl, getD_cnt wf.1 mx, rowE rs, rfl, gk_var rfl ⟨.inr y, .str z, rfl, rowE_get wx.2.1 my, ?_⟩⟩⟩)))
        refine gk_dgetP (gk_var rfl ⟨pF, rfl, gk_var rfl ⟨_, .inr x, .ptr q, (Sto.put_ne (Ne.symm bF)).trans g2, rfl, gl, q, rfl, gk_var rfl ⟨rowE rs1, .inr y, (Sto.put_ne (Ne.symm bq)).trans g4, rfl, by unfold rowE; rw [List.length_map]; omega, ?_⟩⟩⟩)
        have pr3 : putR rs1 y z = rs1 ++ [(y, z)] := if_neg nyk
        rw [rowE_put, pr3]
        refine ⟨_, _, bsl, by walk_at "wk", rs1 ++ [(y, z)], rr', bs', rfl, ?_, ?_, ?_, Sto.put_same, fun a ha => ?_, ?_, er2, rfl, ?_⟩
        · exact (Sto.put_ne (Ne.symm qL)).trans ((Sto.put_ne (Ne.symm bL)).trans g1)
        · exact (Sto.put_ne (Ne.symm qF)).trans ((Sto.put_ne (Ne.symm bF)).trans g2)
        · exact (Sto.put_ne bq).trans Sto.put_same
        · exact (Sto.put_ne (ne_in ha qq)).trans ((Sto.put_ne (ne_in ha bqs)).trans (g5 a ha))
        · rw [List.append_assoc]
          exact (pr2.symm.append_left rs1).trans g6
        · rw [List.length_append]
          show n2 + 1 ≤ nn + 1 + (rs1.length + 1)
          omega
      · rw [eqD_nil] at h
        have ln : bs = [] := by
          cases bs with
          | nil => rfl
          | cons x r => cases h
        subst ln
        have rn : rr = [] := by
          cases rr with
          | nil => rfl
          | cons x r => cases lr2
        subst rn
        rw [List.append_nil] at g6
        have e1 : ptE qs d' ++ [(Sum.inr x, .ptr q)] = ptE (qs ++ [q]) (d' ++ [(x, rs1)]) := by
          rw [ptE_app hlq]
          rfl
        rw [e1] at g2
        have r2 : rowsN (d2 ++ [(x, rs)]) = rowsN d2 + rs.length := by
          rw [rowsN_app]
          show rowsN d2 + (rs.length + 0) = _
          omega
        refine ⟨_, _, lsl, by walk_at "wk", qs ++ [q], d2 ++ [(x, rs)], d' ++ [(x, rs1)], rest', ls', rfl, g1, g2, (h3.keep fun a ha => g5 a ha).app (.cons g4 .nil), ?_, h5.snoc g6, ?_, er, rfl, ?_⟩
        · rw [← List.cons_append, ← List.cons_append, List.nodup_append]
          refine ⟨h4, by simp, fun a ha b hb => ?_⟩
          rw [List.mem_singleton.mp hb]
          rcases List.mem_cons.mp ha with rfl | ha
          · exact Ne.symm qL
          rcases List.mem_cons.mp ha with rfl | ha
          · exact Ne.symm qF
          · exact fun z => qq (z ▸ ha)
        · rw [List.append_assoc]
          exact (pr.symm.append_left d2).trans h6
        · rw [r2, List.length_append]
          show n2 ≤ n + (d2.length + 1 + (rowsN d2 + rs.length))
          rw [List.length_nil] at tot2
          omega
    · rw [eqD_nil] at h
      have ln : ls = [] := by
        cases ls with
        | nil => rfl
        | cons x r => cases h
      subst ln
      have rn : rest = [] := by
        cases rest with
        | nil => rfl
        | cons x r => cases lr
      subst rn
      rw [List.append_nil] at h6
      exact gs_lockRetE rfl h2 (Ent.rws h3) (List.nodup_cons.mp h4).2 (dN.mk (k d' nn ⟨d2, h6, h5⟩ (by rw [← h6.length_eq, ← rowsN_perm h6]; exact hnn)))
theorem sb_other_order {δ : List Slot} {n : Nat} {μ : Addr → Option MO} {Φ : D → Sto → Prop} {c : Cont} (h0 : WfC c) (h1 : c.length ≤ 1000) (h2 : rowsN c ≤ 1000) (hn : n ≤ 2 ^ 39) (k : ∀ c' m, Oth c c' → m ≤ n + (c.length + rowsN c) → Φ (cntD c') ⟨m, μ⟩) : SB K Z (sp_law_other_order K) [cntD c] δ ⟨n, μ⟩ Φ := sb_P ⟨c, rfl, h0, h1, h2, hn, k⟩
/-! titles -/
def titP (c : Cont) : List Str := c.map (fun b => ("b:" : Str) ++ b.1) ++ rowsT c ++ (setS (longL c)).map (fun w => ("t:" : Str) ++ w)
theorem titP_perm (c : Cont) : (titP c).Perm (titS c) := by
  unfold titP titS
  refine List.perm_append_comm.trans ?_
  rw [List.append_assoc]
def sp_titles (K : PySem.W.Frag) : Sp := spR K fun ds Φ => ∃ c : Cont, ds = [cntD c] ∧ WfC c ∧ c.length ≤ 1000 ∧ rowsN c ≤ 1000 ∧ Φ (.lst ((srtS (titS c)).map D.str))
def rtF : D → List D
  | .tup [.str x, .dct es] => es.map fun kv => rowF x (keyD kv.1)
  | _ => []
theorem rtF_all : ∀ c : Cont, ((cntE c).map fun kv => .tup [keyD kv.1, kv.2]).flatMap rtF = (rowsT c).map D.str
  | [] => rfl
  | b :: c => by
    have ih := rtF_all c
    unfold cntE at ih ⊢
    rw [List.map_cons, List.map_cons, List.flatMap_cons, ih]
    show (rowE b.2).map (fun kv => rowF b.1 (keyD kv.1)) ++ _ = ((b.2.map fun kv => rowT b.1 kv.1) ++ rowsT c).map D.str
    rw [List.map_append]
    congr 1
    unfold rowE
    rw [List.map_map, List.map_map]
    rfl
theorem rowsT_len : ∀ c : Cont, (rowsT c).length = rowsN c
  | [] => rfl
  | b :: c => by
    show ((b.2.map fun kv => rowT b.1 kv.1) ++ rowsT c).length = b.2.length + rowsN c
    rw [List.length_append, rowsT_len c, List.length_map]
theorem ok_titles (T : Txt K mg) : FnOk P w K mg base CX0 3 T.f_titles T.fd_titles ["content"] (sp_titles K) := by
  refine fn_R T.F_titles sc_titles (fun ds Φ h => ?_) (fun cdv A outer s H E hr => ⟨_, (pss_cons (ps_setLc (i := 1) (own := [("box", 2)]) (g := gName 2) (by rfl) sc_titles.nd rfl rfl (sw_true rfl rfl rfl (by decide +kernel)) (pi_keys (pv 0)) (blkOk_by (own := [("box", 2)]) (N := ["content", "found", "box", "rows", "key", "text"]) (sc := defScope s_titles) (by decide +kernel)) (fun _ _ _ _ _ => (pg_name (i := 2) sc_titles.nd rfl (Or.inl rfl))) (fun _ _ _ _ _ => pts_nil) (fun _ _ _ _ _ => (pe_call (ok_box_title T) (hr.mono (by decide)) (by rfl) T.m_box_title T.F_box_title.kp T.b_box_title .nil pass0 (pa_cons (pv 2) pa_nil))))
      (pss_cons (ps_aug (i := 1) sc_titles.nd rfl (Or.inl rfl) (pe_lc2 (own := [("box", 2), ("rows", 3), ("key", 4)]) (vs1 := [4]) (g := gTup K 2 (gCons (gName 2) (gCons (gName 3) (gNil)))) (g1 := gName 4) (by rfl) sc_titles.nd (pi_items (pv 0)) (blkOk_by (own := [("box", 2), ("rows", 3), ("key", 4)]) (N := ["content", "found", "box", "rows", "key", "text"]) (sc := defScope s_titles) (by decide +kernel)) (by decide) (fun _ _ _ _ _ => (pg_tup (by rfl) (pgs_cons (pg_name (i := 2) sc_titles.nd rfl (Or.inl rfl)) (pgs_cons (pg_name (i := 3) sc_titles.nd rfl (Or.inl rfl)) pgs_nil)))) (fun _ _ _ _ _ => pts_nil) (fun _ _ _ _ _ => (pi_keys (pv 3))) (fun _ _ _ _ _ => (pg_name (i := 4) sc_titles.nd rfl (Or.inl rfl))) (fun _ _ _ _ _ => pts_nil) (fun _ _ _ _ _ => (pe_call (ok_row_title T) (hr.mono (by decide)) (by rfl) T.m_row_title T.F_row_title.kp T.b_row_title .nil pass0 (pa_cons (pv 2) (pa_cons (pv 4) pa_nil))))) ip_list)
      (pss_one (ps_ret (pe_callB (cr_sortedD (K := K) rfl hr.units) (by rfl) T.z_sorted (by decide +kernel) (pa_cons (pe_op op_cat (pv 1) (pe_lc (own := [("text", 5)]) (g := gName 5) (by rfl) sc_titles.nd (pi_list (pe_call (ok_long_texts T) (hr.mono (by decide)) (by rfl) T.m_long_texts T.F_long_texts.kp T.b_long_texts .nil pass0 (pa_cons (pv 0) pa_nil))) (blkOk_by (own := [("text", 5)]) (N := ["content", "found", "box", "rows", "key", "text"]) (sc := defScope s_titles) (by decide +kernel)) (fun _ _ _ _ _ => (pg_name (i := 5) sc_titles.nd rfl (Or.inl rfl))) (fun _ _ _ _ _ => pts_nil) (fun _ _ _ _ _ => (pe_call (ok_text_title T) (hr.mono (by decide)) (by rfl) T.m_text_title T.F_text_title.kp T.b_text_title .nil pass0 (pa_cons (pv 5) pa_nil))))) pa_nil)))))), fun ds Φ h => ?_⟩)
  · obtain ⟨c, rfl, _⟩ := h
    rfl
  · obtain ⟨c, rfl, wf, h1, h2, k⟩ := h
    walk_at "k"
    have hl := longL_le c
    have hs := setS_len (longL c)
    have hr := rowsT_len c
    refine gs_seq (gs_ownMap1 (f := preD "b:") (fun _ h => nomatch (show some Slot.un = some _ from h)) (gi_keysL (gk_var rfl ⟨_, rfl, ?_, fun x hx => ?_, ?_⟩)))
    · unfold cntE
      rw [List.length_map, List.length_map]
      omega
    · obtain ⟨kv, hkv, rfl⟩ := List.mem_map.mp hx
      obtain ⟨b, hb, rfl⟩ := List.mem_map.mp hkv
      have := (wf.2 b hb).1.2.1
      exact gk_call (ga_cons (gk_var rfl (ga_nil (c_box_title (by omega) ⟨rfl, rfl⟩))))
    have e2 : List.map (preD "b:") (List.map (fun kv => keyD kv.1) (cntE c)) = (c.map fun b => ("b:" : Str) ++ b.1).map D.str := by
      unfold cntE
      rw [List.map_map, List.map_map, List.map_map]
      rfl
    rw [e2]
    refine gs_seq (gs_augL rfl (gk_lc2 (fun i hi x => ?_) (gi_itemsL (gk_var rfl ⟨cntE c, rfl, rtF, fun x hx => ?_, ?_, ?_⟩))))
    · rcases List.mem_cons.mp hi with rfl | hi
      · exact fun h => nomatch (show some Slot.un = some _ from h)
      rcases List.mem_cons.mp hi with rfl | hi
      · exact fun h => nomatch (show some Slot.un = some _ from h)
      cases List.mem_singleton.mp hi
      exact fun h => nomatch (show some Slot.un = some _ from h)
    · obtain ⟨kv, hkv, rfl⟩ := List.mem_map.mp hx
      obtain ⟨b, hb, rfl⟩ := List.mem_map.mp hkv
      have bl := (wf.2 b hb).1.2.1
      refine clx_two (by decide) (by decide) (gt_yes ⟨rfl, fun _ => ⟨fun i hi x => ?_, gi_keysL (gk_var rfl ⟨rowE b.2, rfl, rfl, fun y => [rowF b.1 y], ?_, fun y hy => clx_name (by decide) (gt_yes ⟨rfl, fun _ => ?_, fun z => nomatch z⟩)⟩)⟩, fun z => nomatch z⟩)
      · cases List.mem_singleton.mp hi
        exact fun h => nomatch (show some Slot.un = some _ from h)
      · rw [flatMap_one, List.map_map]
        rfl
      · obtain ⟨kw, hkw, rfl⟩ := List.mem_map.mp hy
        obtain ⟨v, hv, rfl⟩ := List.mem_map.mp hkw
        have kl := ((wf.2 b hb).2.2 v hv).1.2.1
        exact gk_call (ga_cons (gk_var rfl (ga_cons (gk_var rfl (ga_nil (c_row_title (by omega) (by omega) ⟨rfl, trivial, rfl⟩))))))
    · rw [rtF_all, List.length_map]
      omega
    · refine ⟨_, rfl, ?_, ?_⟩
      · rw [rtF_all, List.length_map, List.length_map, List.length_map]
        omega
      rw [rtF_all, ← List.map_append]
      refine gs_frz (i := 1) rfl (gs_ret (gk_cb (ga_cons (gk_op (gk_var rfl (gk_map1 (f := preD "t:") (fun _ h => nomatch (show some Slot.un = some _ from h)) (gi_list (gk_call (ga_cons (gk_var rfl (ga_nil (c_long_texts wf (by omega) ⟨_, rfl, ?_, fun x hx => ?_, ?_⟩))))))))))))
      · rw [List.length_map]
        omega
      · obtain ⟨z, hz, rfl⟩ := List.mem_map.mp hx
        obtain ⟨b, hb, m⟩ := List.mem_flatMap.mp (setS_mem.mp hz)
        obtain ⟨kv, hkv, rfl⟩ := List.mem_map.mp (List.mem_filter.mp m).1
        have := ((wf.2 b hb).2.2 kv hkv).2.1
        exact gk_call (ga_cons (gk_var rfl (ga_nil (c_text_title (by omega) ⟨rfl, rfl⟩))))
      · rw [map_preD]
        refine rk_cat ?_ ?_
        · simp only [List.length_map, List.length_append]
          omega
        rw [← List.map_append]
        refine ga_nil (rc_sortSN (fun z hz => tit_cd wf z ((titP_perm c).mem_iff.mp hz)) fun p hp => ⟨p, _, rfl, Sto.put_same, ?_⟩)
        rw [← srtS_one (titP_perm c)] at k
        exact k
theorem c_titles {δ : List Slot} {n : Sto} {Φ : D → Sto → Prop} {c : Cont} (h0 : WfC c) (h1 : c.length ≤ 1000) (h2 : rowsN c ≤ 1000) (k : Φ (.lst ((srtS (titS c)).map D.str)) n) : SC K Z (sp_titles K) [cntD c] δ n Φ := sc_Rf ⟨c, rfl, h0, h1, h2, _, rfl, k⟩
theorem cN_titles {δ : List Slot} {n : Sto} {Φ : D → Sto → Prop} {c : Cont} (h0 : WfC c) (h1 : c.length ≤ 1000) (h2 : rowsN c ≤ 1000) (k : ∀ p, n.μ p = none → Φ (.ptr p) (n.put p (.lst ((srtS (titS c)).map D.str)))) : SC K Z (sp_titles K) [cntD c] δ n Φ := sc_R ⟨c, rfl, h0, h1, h2, k⟩
/-! _law_held -/
theorem lk_held {B : Option Addr} {δ : List Slot} {n : Sto} {N Bk Ct : List Slot → Sto → Prop} {R : D → Sto → Prop} {p : Addr} {c : Cont} {i : Nat} (hi : δ[i]? = some (.d (.ptr p))) (hp : n.μ p = some (.dic (cntE c))) (k : R (cntD c) ⟨n.n, m00⟩) : GS K Z B (tLockS (tRet (tVar i))) δ n N R Bk Ct := by
  have hil : i < δ.length := (List.getElem?_eq_some_iff.mp hi).1
  refine gs_lockS [p] (gs_lk1 (r := []) hp (δ.set i (.d (cntD c))) ⟨n.n, m00⟩ (by rw [List.length_set]) (fun j s' hs => ?_) rfl (fun a o' ha => by cases ha) (gs_ret (gk_var (List.getElem?_set_self hil) k)))
  by_cases e : i = j
  · subst e
    rw [List.getElem?_set_self hil] at hs
    cases hs
    exact ⟨_, hi, .inr ⟨_, _, rfl, rfl, .inr ⟨rfl, rfl⟩⟩⟩
  · rw [List.getElem?_set_ne e] at hs
    exact ⟨s', hs, .inl rfl⟩
theorem cardsN_nil : cardsN [] = 0 := by
  unfold cardsN rowsN longL setS nubS
  simp [srtS]
theorem sto_put3 {m : Nat} {p : Addr} {o o' : MO} : ({ n := (((⟨m, m00⟩ : Sto).put p o).off p).n + 1, μ := ((⟨m, m00⟩ : Sto).put p o).μ } : Sto).put p o' = (⟨m + 1, m00⟩ : Sto).put p o' := by
  show Sto.mk _ _ = Sto.mk _ _
  congr 1
  funext b
  by_cases e : b = p
  · simp [e]
  · simp [e, Sto.put]
theorem rowsN_filter {f : Str × List (Str × Str) → Bool} : ∀ {c : Cont}, rowsN (c.filter f) ≤ rowsN c
  | [] => Nat.le_refl _
  | b :: c => by
    have ih := rowsN_filter (f := f) (c := c)
    rw [List.filter_cons]
    split
    · show b.2.length + rowsN (c.filter f) ≤ b.2.length + rowsN c
      omega
    · show rowsN (c.filter f) ≤ b.2.length + rowsN c
      omega
theorem WfC.filter {f : Str × List (Str × Str) → Bool} {c : Cont} (h : WfC c) : WfC (c.filter f) :=
  ⟨h.1.sublist (List.filter_sublist.map _), fun b hb => h.2 b (List.mem_filter.mp hb).1⟩
theorem put_nd {m : Nat} {p : Addr} {o : MO} {Pr : MO → Prop} : ∀ a u, ((⟨m, m00⟩ : Sto).put p o).μ a = some u → a ≠ p → Pr u := fun a u h ne => by
  rw [Sto.put_ne ne] at h
  cases h
def sp_law_held (K : PySem.W.Frag) : Sp := spB K fun n ds Φ => ∃ cap : Int, ds = [.int cap] ∧ 1 ≤ cap ∧ cap ≤ 97 ∧ n ≤ 2 ^ 38 ∧ ∀ c m, WfC c → c.length ≤ 97 → rowsN c ≤ 97 → (cardsN c : Int) ≤ 96 → m ≤ n + 20000 → Φ (cntD c) m
theorem ok_law_held (T : Txt K mg) : FnOk P w K mg base CX0 3 T.f_law_held T.fd_law_held ["_law_bag_here", "_law_cap"] (sp_law_held K) := by
  refine fn_B T.F_law_held sc_law_held (fun n ds Φ h => ?_) (fun cdv A outer s H E hr => ⟨_, (pss_cons (ps_set (i := 2) sc_law_held.nd rfl (Or.inl rfl) pe_dnewK)
      (pss_cons (ps_setLc (i := 3) (own := [("_law_spot", 4)]) (g := gName 4) (by rfl) sc_law_held.nd rfl rfl (sw_true rfl rfl rfl (by decide +kernel)) (pi_range1 (by rfl) T.z_range (pa_cons (pe_op op_add pe_int (pe_call (ok_law_take T) (hr.mono (by decide)) (by rfl) T.m_law_take T.F_law_take.kp T.b_law_take .nil pass0 (pa_cons (pv 0) (pa_cons pe_int pa_nil)))) pa_nil)) (blkOk_by (own := [("_law_spot", 4)]) (N := ["_law_bag_here", "_law_cap", "_law_held_here", "_law_crates", "_law_spot", "_law_pool", "_law_crate", "_law_kind"]) (sc := defScope s_law_held) (by decide +kernel)) (fun _ _ _ _ _ => (pg_name (i := 4) sc_law_held.nd rfl (Or.inl rfl))) (fun _ _ _ _ _ => pts_nil) (fun _ _ _ _ _ => (pe_call (ok_law_name T) (hr.mono (by decide)) (by rfl) T.m_law_name T.F_law_name.kp T.b_law_name .nil pass0 (pa_cons (pv 0) pa_nil))))
      (pss_cons (ps_setLc (i := 5) (own := [("_law_spot", 4)]) (g := gName 4) (by rfl) sc_law_held.nd rfl rfl (sw_true rfl rfl rfl (by decide +kernel)) (pi_range1 (by rfl) T.z_range (pa_cons (pe_op op_add pe_int (pe_call (ok_law_take T) (hr.mono (by decide)) (by rfl) T.m_law_take T.F_law_take.kp T.b_law_take .nil pass0 (pa_cons (pv 0) (pa_cons pe_int pa_nil)))) pa_nil)) (blkOk_by (own := [("_law_spot", 4)]) (N := ["_law_bag_here", "_law_cap", "_law_held_here", "_law_crates", "_law_spot", "_law_pool", "_law_crate", "_law_kind"]) (sc := defScope s_law_held) (by decide +kernel)) (fun _ _ _ _ _ => (pg_name (i := 4) sc_law_held.nd rfl (Or.inl rfl))) (fun _ _ _ _ _ => pts_nil) (fun _ _ _ _ _ => (pe_call (ok_law_words T) (hr.mono (by decide)) (by rfl) T.m_law_words T.F_law_words.kp T.b_law_words .nil pass0 (pa_cons (pv 0) pa_nil))))
      (pss_cons (ps_for PassesOwn.never (by rfl) (pi_range1 (by rfl) T.z_range (pa_cons (pe_call (ok_law_take T) (hr.mono (by decide)) (by rfl) T.m_law_take T.F_law_take.kp T.b_law_take .nil pass0 (pa_cons (pv 0) (pa_cons (pv 1) pa_nil))) pa_nil)) (pg_name (i := 4) sc_law_held.nd rfl (Or.inl rfl))
        (pss_cons (ps_set (i := 6) sc_law_held.nd rfl (Or.inl rfl) (pe_ix ix_list (pv 3) (pe_call (ok_law_take T) (hr.mono (by decide)) (by rfl) T.m_law_take T.F_law_take.kp T.b_law_take .nil pass0 (pa_cons (pv 0) (pa_cons (pe_callB call_len_seq (by rfl) T.z_len (by decide +kernel) (pa_cons (pv 3) pa_nil)) pa_nil))) (fun _ _ => rfl)))
        (pss_cons (ps_expr (pe_dsetd (pv 2) (pv 6) pe_dnewK ⟨rfl, rfl, rfl, rfl⟩))
        (pss_cons (ps_set (i := 7) sc_law_held.nd rfl (Or.inl rfl) (pe_call (ok_law_take T) (hr.mono (by decide)) (by rfl) T.m_law_take T.F_law_take.kp T.b_law_take .nil pass0 (pa_cons (pv 0) (pa_cons pe_int pa_nil))))
        (pss_one (ps_if (pt_cmpR op_gt (pv 7) pe_int (nomark _))
          (pss_one (ps_dput (hu_by hr) (pe_dget (hu_by hr) (pv 2) (pv 6) (fun _ _ => rfl)) (pe_call (ok_law_name T) (hr.mono (by decide)) (by rfl) T.m_law_name T.F_law_name.kp T.b_law_name .nil pass0 (pa_cons (pv 0) pa_nil)) (pe_ix ix_list (pe_lst (pa_cons (pe_call (ok_law_words T) (hr.mono (by decide)) (by rfl) T.m_law_words T.F_law_words.kp T.b_law_words .nil pass0 (pa_cons (pv 0) pa_nil)) (pa_cons (pe_ix ix_list (pv 5) (pe_call (ok_law_take T) (hr.mono (by decide)) (by rfl) T.m_law_take T.F_law_take.kp T.b_law_take .nil pass0 (pa_cons (pv 0) (pa_cons (pe_callB call_len_seq (by rfl) T.z_len (by decide +kernel) (pa_cons (pv 5) pa_nil)) pa_nil))) (fun _ _ => rfl)) pa_nil))) (pe_callTy call_int1 (by rfl) T.z_int (by decide +kernel) (pa_cons (pe_cmpR op_lt (pv 7) pe_int (nomark _)) pa_nil)) (fun _ _ => rfl)) rfl))
          pss_nil))))))
      (pss_cons (ps_lockS (ps_while PassesOwn.never (pt_cmpR op_gt (pe_lock (pe_call (ok_law_cards_in T) (hr.mono (by decide)) (by rfl) T.m_law_cards_in T.F_law_cards_in.kp T.b_law_cards_in .nil pass0 (pa_cons (pv 2) pa_nil))) (pe_callB (call_min2 rfl) (by rfl) T.z_min (by decide +kernel) (pa_cons (pv 1) (pa_cons pe_int pa_nil))) (nomark _))
        (pss_one (ps_expr (pe_dpop1 (pv 2) (pe_ix ix_list (pe_callB (cr_sortDk rfl hr.units) (by rfl) T.z_sorted (by decide +kernel) (pa_cons (pv 2) pa_nil)) (pe_call (ok_law_take T) (hr.mono (by decide)) (by rfl) T.m_law_take T.F_law_take.kp T.b_law_take .nil pass0 (pa_cons (pv 0) (pa_cons (pe_callB cr_lenRd (by rfl) T.z_len (by decide +kernel) (pa_cons (pv 2) pa_nil)) pa_nil))) (fun _ _ => rfl)) ⟨rfl, rfl, rfl, rfl⟩)))))
      (pss_one (ps_lockS (ps_ret (pv 2))))))))), fun pb n ds Φ h => ?_⟩)
  · obtain ⟨cap, rfl, _⟩ := h
    rfl
  · obtain ⟨cap, rfl, c0, c1, hn, k⟩ := h
    walk_at "k"
    refine gs_seq (gs_asg (gk_newD fun p hp => ?_))
    obtain ⟨μ0, hμ0, hp0⟩ : ∃ μ0, (⟨n, m00⟩ : Sto).put p (.dic []) = ⟨n, μ0⟩ ∧ μ0 p = some (.dic []) := ⟨_, rfl, Sto.put_same⟩
    rw [hμ0]
    clear hμ0 hp
    refine gs_seq (gs_asg (gk_draw1 (Pd := fun y => ∃ z, Nmz z ∧ y = .str z) 20 (by intro _ h; cases h) ?_))
    walk_at "e"
    refine sb_take (by omega) (by decide) (by decide) fun q q0 q1 => ?_
    walk_at "e"
    refine ⟨by omega, by omega, ?_⟩
    refine ⟨_, _, rfl, by rw [rangeD_len]; omega, fun i x m hx hm => ?_, fun ys m hl hy hm => ?_⟩
    · obtain ⟨hi, rfl⟩ := rangeD_at hx
      walk_at "g"
      refine sb_name (by omega) fun z m2 hz hm2 => ?_
      exact ⟨_, rfl, ⟨z, hz, rfl⟩, by omega⟩
    obtain ⟨cs, rfl, hcs, hcl⟩ := strs_ofD hy
    rw [rangeD_len] at hl hm
    have hm : m ≤ n + 200 := by omega
    have hc1 : 1 ≤ cs.length := by omega
    have hc2 : cs.length ≤ 6 := by omega
    clear hy hl
    refine gs_seq (gs_asg (gk_draw1 (Pd := fun y => ∃ z, Wt z ∧ y = .str z) 50 (by intro _ h; cases h) ?_))
    walk_at "e"
    refine sb_take (by omega) (by decide) (by decide) fun q2 q20 q21 => ?_
    walk_at "e"
    refine ⟨by omega, by omega, ?_⟩
    refine ⟨_, _, rfl, by rw [rangeD_len]; omega, fun i x m hx hm => ?_, fun ys m2 hl hy hm2 => ?_⟩
    · obtain ⟨hi, rfl⟩ := rangeD_at hx
      walk_at "g"
      refine sb_words (by omega) fun z m2 hz hm2 => ?_
      exact ⟨_, rfl, ⟨z, hz, rfl⟩, by omega⟩
    obtain ⟨ws, rfl, hws, hwl⟩ := strs_ofD hy
    rw [rangeD_len] at hl hm2
    have hm2 : m2 ≤ n + 600 := by omega
    have hw1 : 1 ≤ ws.length := by omega
    have hw2 : ws.length ≤ 60 := by omega
    clear hy hl
    refine gs_seq (gs_forW ?_)
    walk_at "e"
    refine sb_take (by omega) (by omega) (by omega) fun q3 q30 q31 => ?_
    walk_at "e"
    refine ⟨by omega, by omega, fun i δ' n' => ∃ (qs : List Addr) (c : Cont), δ' = [.bag, .d (.int cap), .d (.ptr p), .d (.lst (cs.map D.str)), .un, .d (.lst (ws.map D.str)), .un, .un] ∧ n'.n ≤ n + 601 + 130 * i ∧ n'.μ p = some (.dic (ptE qs c)) ∧ Rws n' qs c ∧ (p :: qs).Nodup ∧ WfC c ∧ c.length ≤ i ∧ rowsN c ≤ i, ⟨_, by walk_at "wk", [], [], rfl, by show m2 + 1 ≤ _; omega, hp0, .nil, by simp, ⟨List.nodup_nil, fun _ h => nomatch h⟩, Nat.le_refl 0, Nat.le_refl 0⟩, ?_, ?_⟩
    · rintro i x δ' ⟨n1, μ1⟩ hx ⟨qs, c, rfl, hn1, h1, h2, h3, h4, h5, h6⟩
      obtain ⟨hi, rfl⟩ := rangeD_at hx
      have hi : i < 97 := by omega
      have hn1 : n1 ≤ n + 601 + 130 * i := hn1
      refine ⟨_, [4], gg_name (by decide), ?_⟩
      walk_at "g"
      rw [List.length_map]
      refine sb_take (by omega) (by omega) (by omega) fun r r0 r1 => ?_
      obtain ⟨cr, ecr, mcr⟩ := at_strs (zs := cs) r0 r1
      refine rk_ixL ecr ?_
      have ncr := hcs cr mcr
      have hlq := h2.len
      refine gs_seq (gs_monoN (N' := fun δ' n' => δ' = [.bag, .d (.int cap), .d (.ptr p), .d (.lst (cs.map D.str)), .d (.int (0 + (i : Int))), .d (.lst (ws.map D.str)), .d (.str cr), .un] ∧ n'.n = n1 + 1 ∧ ∃ (qs : List Addr) (c : Cont), n'.μ p = some (.dic (ptE qs c)) ∧ Rws n' qs c ∧ (p :: qs).Nodup ∧ WfC c ∧ c.length ≤ i + 1 ∧ rowsN c ≤ i ∧ cr ∈ c.map (·.1)) ?_ ?_)
      · refine gs_drop (gk_setdP (gk_var rfl ⟨p, _, rfl, h1, gk_var rfl (gk_newD fun q' hq' => ?_)⟩))
        have np : p ≠ q' := fun z => by rw [← z, h1] at hq'; cases hq'
        have nq : q' ∉ qs := fun m => by
          have : ∀ {qs : List Addr} {c : Cont}, Rws ⟨n1 + 1, μ1⟩ qs c → q' ∈ qs → False := fun {qs c} h => by
            clear h1 h2 h3 h4 h5 h6 hlq m
            induction h with
            | nil => intro m; cases m
            | cons h _ ih =>
              intro m
              rcases List.mem_cons.mp m with rfl | m
              · rw [hq'] at h
                cases h
              · exact ih m
          exact this (h2.keep fun _ _ => rfl) m
        have hkl : (ptE qs c).length ≤ 97 := by
          have := congrArg List.length (ptE_keys hlq)
          rw [List.length_map, List.length_map] at this
          omega
        refine ⟨_, .inr cr, (Sto.put_ne np).trans h1, rfl, by omega, fun d hd => ?_, fun hn => ?_⟩
        · refine ⟨rfl, rfl, qs, c, (Sto.put_ne np).trans h1, h2.keep fun x hx => Sto.put_ne fun z => nq (z ▸ hx), h3, h4, by omega, h6, Classical.byContradiction fun z => ?_⟩
          have : getD' (ptE qs c) (Sum.inr cr) = none := by
            unfold getD'
            rw [Option.map_eq_none_iff, List.find?_eq_none]
            intro kv hkv e
            have m2 : kv.1 ∈ (ptE qs c).map (·.1) := List.mem_map.mpr ⟨kv, hkv, rfl⟩
            rw [ptE_keys hlq, of_decide_eq_true e] at m2
            obtain ⟨b, hb, e2⟩ := List.mem_map.mp m2
            exact z (List.mem_map.mpr ⟨b, hb, Sum.inr.inj e2⟩)
          rw [hd] at this
          cases this
        · have nk := ptE_none hlq hn
          refine ⟨rfl, rfl, qs ++ [q'], c ++ [(cr, [])], ?_, ?_, ?_, ⟨?_, ?_⟩, by rw [List.length_append]; simp; omega, by rw [rowsN_app]; exact h6, by simp⟩
          · rw [Sto.put_same, putD_new (getD_none hn), ptE_app hlq]
            rfl
          · refine Rws.app (h2.keep fun x hx => ?_) (.cons ?_ .nil)
            · have e1 : x ≠ p := fun z => (List.nodup_cons.mp h3).1 (z ▸ hx)
              have e2 : x ≠ q' := fun z => nq (z ▸ hx)
              exact (Sto.put_ne e1).trans (Sto.put_ne e2)
            · exact (Sto.put_ne (Ne.symm np)).trans Sto.put_same
          · rw [← List.cons_append, List.nodup_append]
            refine ⟨h3, by simp, fun a ha b hb => ?_⟩
            rw [List.mem_singleton.mp hb]
            rcases List.mem_cons.mp ha with rfl | ha
            · exact np
            · exact fun z => nq (z ▸ ha)
          · rw [List.map_append, List.nodup_append]
            refine ⟨h4.1, by simp, fun a ha b hb => ?_⟩
            have : b = cr := by simpa using hb
            exact fun z => nk (this ▸ z ▸ ha)
          · intro b hb
            rcases List.mem_append.mp hb with hb | hb
            · exact h4.2 b hb
            · rw [List.mem_singleton.mp hb]
              exact ⟨ncr, List.nodup_nil, fun _ h => nomatch h⟩
      · clear h1 h2 h3 h4 h5 h6 hlq
        clear qs c
        rintro δ' ⟨n2, μ2⟩ ⟨rfl, hn2, qs, c, h1, h2, h3, h4, h5, h6, h7⟩
        have hn2 : n2 = n1 + 1 := hn2
        subst hn2
        walk_at "g"
        refine sb_take (by omega) (by omega) (by omega) fun kd k0 k1 => ?_
        walk_at "g"
        refine ⟨fun hk => ?_, fun hk => ?_⟩
        · refine gs_putP (gk_op (gk_lst ?_))
          walk_at "e"
          refine sb_words (by omega) fun w1 m3 hw1' hm3 => ?_
          walk_at "e"
          rw [List.length_map]
          refine sb_take (by omega) (by omega) (by omega) fun r2 r20 r21 => ?_
          obtain ⟨w2, ew2, mw2⟩ := at_strs (zs := ws) r20 r21
          refine rk_ixL ew2 ?_
          walk_at "e"
          obtain ⟨d, ed, hd⟩ := at_2 (a := .str w1) (b := .str w2) (r := if decide (kd < 4) = true then 1 else 0) (by split <;> omega) (by split <;> omega)
          refine rk_ixL ed ?_
          obtain ⟨w3, rfl, hw3⟩ : ∃ w3, d = .str w3 ∧ Wt w3 := by
            rcases hd with rfl | rfl
            · exact ⟨_, rfl, hw1'⟩
            · exact ⟨_, rfl, hws w2 mw2⟩
          clear ed hd
          have nq := (List.nodup_cons.mp h3).2
          obtain ⟨q, rs, mq, mrs, gq, eq, up⟩ := Rws.find (n := ⟨m3 + 1, μ2⟩) (h2.keep fun _ _ => rfl) nq h4.1 h7
          refine gk_dgetP (gk_var rfl ⟨p, rfl, gk_var rfl ⟨_, .inr cr, _, h1, rfl, gq, q, rfl, ?_⟩⟩)
          refine gk_callB rfl (ga_nil (sb_name (by omega) fun nm m4 hnm hm4 => ?_))
          have hrl : rs.length ≤ 97 := by
            have := rows_le mrs
            have : rs.length ≤ rowsN c := this
            omega
          refine ⟨_, .inr nm, eq, rfl, by unfold rowE; rw [List.length_map]; omega, ?_⟩
          rw [rowE_put]
          have np : q ≠ p := fun z => (List.nodup_cons.mp h3).1 (z ▸ mq)
          obtain ⟨u1, u2⟩ := up (fun rs => putR rs nm w3) ((⟨m4, μ2⟩ : Sto).put q (.dic (rowE (putR rs nm w3)))) Sto.put_same fun a _ ne => Sto.put_ne ne
          refine ⟨_, by walk_at "wk", qs, updC c cr fun rs => putR rs nm w3, rfl, by show m4 ≤ _; omega, ?_, u1, h3, h4.upd fun rs hrs => hrs.put hnm hw3, ?_, ?_⟩
          · rw [u2]
            exact (Sto.put_ne (Ne.symm np)).trans h1
          · have := congrArg List.length (updC_keys (c := c) (x := cr) (f := fun rs => putR rs nm w3))
            rw [List.length_map, List.length_map] at this
            omega
          · have := updC_rows (c := c) (x := cr) (f := fun rs => putR rs nm w3) h4.1 fun rs => putR_len.2
            omega
        · refine gs_next ⟨_, by walk_at "wk", qs, c, rfl, by show n1 + 1 + 1 ≤ _; omega, h1, h2.keep fun _ _ => rfl, h3, h4, h5, by omega⟩
    · rintro δ' ⟨n1, μ1⟩ ⟨qs, c, rfl, hn1, h1, h2, h3, h4, h5, h6⟩
      rw [rangeD_len] at hn1 h5 h6
      have hn1 : n1 ≤ n + 601 + 130 * q3.toNat := hn1
      have hn1 : n1 ≤ n + 19000 := by omega
      refine gs_seq (gs_lockS (qs ++ []) (gs_lockI (r := []) qs c [] _ (by simpa [cntE] using h1) h2 h3 ?_))
      show GS K .calm (some pb) _ _ ((⟨n1, m00⟩ : Sto).put p (.dic (cntE c))) _ _ _ _
      refine gs_whileW (fun m δ' n' => ∃ (c : Cont) (m1 : Nat), δ' = [.bag, .d (.int cap), .d (.ptr p), .d (.lst (cs.map D.str)), .un, .d (.lst (ws.map D.str)), .un, .un] ∧ n' = (⟨m1, m00⟩ : Sto).put p (.dic (cntE c)) ∧ m = c.length ∧ m1 + c.length ≤ n + 19200 ∧ WfC c ∧ c.length ≤ 97 ∧ rowsN c ≤ 97) _ ⟨_, by walk_at "wk", c, n1, rfl, rfl, rfl, by omega, h4, by omega, by omega⟩ ?_
      clear h1 h2 h3 h4 h5 h6
      clear c
      rintro m δ' n' ⟨c, m1, rfl, rfl, rfl, hm1, wf, g1, g2⟩
      refine gt_test (gk_op (gk_lockB (i := 2) (p := p) rfl Sto.put_same put_nd (noOw_of rfl) (gk_call (ga_cons (gk_var rfl (ga_nil (c_law_cards_in wf (by omega) (by omega) ⟨rfl, rfl, ?_⟩)))))))
      walk_at "e"
      refine ⟨fun hgt => ?_, fun hle => ?_⟩
      · have hgt := of_decide_eq_true hgt
        have hc0 : 0 < c.length := by
          cases c with
          | nil =>
            have e0 : cardsN [] = 0 := cardsN_nil
            rw [e0] at hgt
            split at hgt <;> omega
          | cons b c => simp
        refine gs_drop (gk_dpopP (gk_var rfl ⟨p, _, rfl, Sto.put_same, gk_op (gk_cb (ga_cons (gk_var rfl (ga_nil (rc_sortDA (ks := c.map (·.1)) (.inl ⟨p, rfl, Sto.put_same⟩) (by unfold cntE; rw [List.map_map, List.map_map]; rfl) ?_)))))⟩))
        refine gk_callB rfl (ga_cons (gk_cb (ga_cons (gk_var rfl (ga_nil (rc_lenDA (.inl ⟨p, rfl, Sto.put_same⟩) (ga_nil ?_)))))))
        rw [show (cntE c).length = c.length from List.length_map _]
        refine sb_take (by show m1 < 2 ^ 40; omega) (by omega) (by omega) fun r r0 r1 => ?_
        have sl : (srtS (c.map (·.1))).length = c.length := by rw [srtS_perm.length_eq, List.length_map]
        obtain ⟨x, ex, mx⟩ := at_strs (zs := srtS (c.map (·.1))) r0 (by rw [sl]; exact r1)
        refine rk_ixL ex ?_
        have mx := srtS_perm.mem_iff.mp mx
        obtain ⟨⟨x', rs⟩, hb, rfl⟩ := List.mem_map.mp mx
        refine ⟨_, .inr x', rowD rs, Sto.put_same, rfl, getD_cnt wf.1 hb, ?_⟩
        rw [dropD_cntE]
        have lf : (c.filter fun b => decide (b.1 ≠ x')).length < c.length := by
          rcases Nat.lt_or_ge (c.filter fun b => decide (b.1 ≠ x')).length c.length with g | g
          · exact g
          · have e := (List.filter_sublist (p := fun b : Str × List (Str × Str) => decide (b.1 ≠ x')) (l := c)).eq_of_length_le g
            have hb2 := hb
            rw [← e, List.mem_filter] at hb2
            exact absurd rfl (of_decide_eq_true hb2.2)
        refine ⟨_, _, lf, by walk_at "wk", c.filter fun b => decide (b.1 ≠ x'), m1 + 1, rfl, ?_, rfl, by omega, wf.filter, by omega, Nat.le_trans rowsN_filter g2⟩
        exact sto_put3
      · refine lk_held (p := p) (c := c) (i := 2) rfl Sto.put_same (dN.mk (k c m1 wf g1 g2 ?_ (by omega)))
        have hle := of_decide_eq_false hle
        split at hle <;> omega
/-! _law_same -/
/-! the same, kind for kind -/
theorem zip_all {α : Type} [DecidableEq α] : ∀ {xs ys : List α}, xs.length = ys.length → ((xs.zip ys).map fun q => decide (q.1 = q.2)).all id = decide (xs = ys)
  | [], [], _ => rfl
  | [], _ :: _, h => by simp at h
  | _ :: _, [], h => by simp at h
  | x :: xs, y :: ys, h => by
    have ih := zip_all (xs := xs) (ys := ys) (by simpa using h)
    rw [List.zip_cons_cons, List.map_cons, List.all_cons, ih]
    by_cases e : x = y <;> simp [e]
def samO (x y : D) : D := match x, y with
  | .int i, .int j => .bl (decide (i = j))
  | .str x, .str y => .bl (decide (x = y))
  | d, _ => d
theorem zipD_pairs : ∀ {xs ys : List D}, zipD xs ys = (xs.zip ys).map fun p => D.tup [p.1, p.2]
  | [], ys => by simp [zipD]
  | x :: xs, [] => by simp [zipD]
  | x :: xs, y :: ys => by rw [zipD, zipD_pairs, List.zip_cons_cons, List.map_cons]
theorem zip_ints : ∀ {xs ys : List Int}, (((xs.map D.int).zip (ys.map D.int)).map fun p => samO p.1 p.2) = ((xs.zip ys).map fun q => decide (q.1 = q.2)).map D.bl
  | [], ys => by simp
  | x :: xs, [] => by simp
  | x :: xs, y :: ys => by
    rw [List.map_cons, List.map_cons, List.zip_cons_cons, List.map_cons, zip_ints, List.zip_cons_cons, List.map_cons, List.map_cons]
    rfl
theorem zip_strs : ∀ {xs ys : List Str}, (((xs.map D.str).zip (ys.map D.str)).map fun p => samO p.1 p.2) = ((xs.zip ys).map fun q => decide (q.1 = q.2)).map D.bl
  | [], ys => by simp
  | x :: xs, [] => by simp
  | x :: xs, y :: ys => by
    rw [List.map_cons, List.map_cons, List.zip_cons_cons, List.map_cons, zip_strs, List.zip_cons_cons, List.map_cons, List.map_cons]
    rfl
section
variable {δ : List Slot} {n : Sto} {Φ : D → Sto → Prop}
theorem isi_v {i : Nat} {x : D} {c : String} (b : Bool) (hi : δ[i]? = some (.d x)) (np : isPtr x = false) (kb : KitB K (tyn x) c b) (k : Φ (.bl b) n) : GK K Z (tCB (rIsi K) (tCons (tVar i) (tCons (tC (.ty c)) tNil))) δ n Φ := gk_isi (gk_var hi ⟨b, np, kb, k⟩)
theorem isi_w {i : Nat} {x : D} {c1 c2 : String} (b1 b2 : Bool) (hi : δ[i]? = some (.d x)) (np : isPtr x = false) (k1 : KitB K (tyn x) c1 b1) (k2 : KitB K (tyn x) c2 b2) (k : Φ (.bl (b1 || b2)) n) :
    GK K Z (tCB (rIsiT K) (tCons (tVar i) (tCons (tTup (tCons (tC (.ty c1)) (tCons (tC (.ty c2)) tNil))) tNil))) δ n Φ := gk_isi2 (gk_var hi ⟨b1 || b2, np, by
  unfold KitB at k1 k2
  unfold PySem.W.kitAny
  rw [k1]
  cases b1 with
  | true => rfl
  | false =>
    unfold PySem.W.kitAny
    rw [k2]
    cases b2 with
    | true => rfl
    | false => rfl, k⟩)
end
def sp_same0 (K : PySem.W.Frag) : Sp := spP K fun ds Φ => (∃ i j : Int, ds = [.int i, .int j] ∧ Φ (.bl (decide (i = j)))) ∨ ∃ u v : Str, ds = [.str u, .str v] ∧ (∀ c ∈ tl u, c < 1114112) ∧ (∀ c ∈ tl v, c < 1114112) ∧ Φ (.bl (decide (u = v)))
def sp_law_same (K : PySem.W.Frag) : Sp := spP K fun ds Φ => (∃ xs ys : List Int, ds = [.lst (xs.map D.int), .lst (ys.map D.int)] ∧ xs.length ≤ 1000 ∧ ys.length ≤ 1000 ∧ Φ (.bl (decide (xs = ys)))) ∨
  ∃ xs ys : List Str, ds = [.lst (xs.map D.str), .lst (ys.map D.str)] ∧ xs.length ≤ 1000 ∧ ys.length ≤ 1000 ∧ (∀ z ∈ xs, ∀ c ∈ tl z, c < 1114112) ∧ (∀ z ∈ ys, ∀ c ∈ tl z, c < 1114112) ∧ Φ (.bl (decide (xs = ys)))
theorem eqD_int {i j : Int} : eqD (.int i) (.int j) = decide (i = j) := by
  by_cases e : i = j
  · rw [decide_eq_true e, eqD_t rfl rfl (by rw [e])]
  · rw [decide_eq_false e, eqD_f rfl rfl fun z => e (D.int.inj z)]
theorem eqD_str {i j : Str} : eqD (.str i) (.str j) = decide (i = j) := by
  by_cases e : i = j
  · rw [decide_eq_true e, eqD_t rfl rfl (by rw [e])]
  · rw [decide_eq_false e, eqD_f rfl rfl fun z => e (D.str.inj z)]
theorem ok_same0 (T : Txt K mg) : FnOk P w K mg base CX0 2 T.f_law_same T.fd_law_same ["_law_told", "_law_due"] (sp_same0 K) := by
  have F : FnOk P w K mg base CX0 1 T.f_law_same T.fd_law_same ["_law_told", "_law_due"] (fun _ _ _ _ => False) := fn_none
  refine fn_P T.F_law_same sc_law_same (fun ds Φ h => ?_) (fun cdv A outer s H E hr => ⟨_, (pss_cons (ps_if (pt_val (pe_callB call_isi (by rfl) T.z_isinstance (by decide +kernel) (pa_cons (pv 1) (pa_cons (pe_bltn (v := .ty "dict") (u := .type "dict") (by rfl) T.z_dict (by decide +kernel) rfl) pa_nil))))
        (pss_cons (ps_if (PW.pt (pw_or (pt_not (pt_val (pe_callB call_isi (by rfl) T.z_isinstance (by decide +kernel) (pa_cons (pv 0) (pa_cons (pe_bltn (v := .ty "dict") (u := .type "dict") (by rfl) T.z_dict (by decide +kernel) rfl) pa_nil))))) (pw_or1 (pt_cmpR op_ne (pe_callB call_len_seq (by rfl) T.z_len (by decide +kernel) (pa_cons (pv 0) pa_nil)) (pe_callB call_len_seq (by rfl) T.z_len (by decide +kernel) (pa_cons (pv 1) pa_nil)) (nomark _)))))
          (pss_one (ps_ret pe_bl))
          pss_nil)
        (pss_one (ps_ret (pe_callB (cr_all rfl) (by rfl) T.z_all (by decide +kernel) (pa_cons (pe_lc (own := [("_law_one", 2)]) (g := gName 2) (by rfl) sc_law_same.nd (pi_list (pv 1)) (blkOk_by (own := [("_law_one", 2)]) (N := ["_law_told", "_law_due", "_law_one", "_law_other"]) (sc := defScope s_law_same) (by decide +kernel)) (fun _ _ _ _ _ => (pg_name (i := 2) sc_law_same.nd rfl (Or.inl rfl))) (fun _ _ _ _ _ => pts_nil) (fun _ _ _ _ _ => (pe_and (pe_cmpR (op_in_seq_K (K := K) rfl) (pv 2) (pv 0) (by rfl)) (pe_one (pe_call F hr (by rfl) T.m_law_same T.F_law_same.kp T.b_law_same .nil pass0 (pa_cons (pe_ix (ix_list_K (K := K) rfl) (pv 0) (pv 2) (fun _ _ => rfl)) (pa_cons (pe_ix (ix_list_K (K := K) rfl) (pv 1) (pv 2) (fun _ _ => rfl)) pa_nil))))))) pa_nil)))))
        pss_nil)
      (pss_cons (ps_if (pt_val (pe_callB call_isiT (by rfl) T.z_isinstance (by decide +kernel) (pa_cons (pv 1) (pa_cons (pe_tup (pa_cons (pe_bltn (v := .ty "list") (u := .type "list") (by rfl) T.z_list (by decide +kernel) rfl) (pa_cons (pe_bltn (v := .ty "tuple") (u := .type "tuple") (by rfl) T.z_tuple (by decide +kernel) rfl) pa_nil))) pa_nil))))
        (pss_cons (ps_if (PW.pt (pw_or (pt_cmpR op_ne (pe_callB call_isi (by rfl) T.z_isinstance (by decide +kernel) (pa_cons (pv 1) (pa_cons (pe_bltn (v := .ty "list") (u := .type "list") (by rfl) T.z_list (by decide +kernel) rfl) pa_nil))) (pe_callB call_isi (by rfl) T.z_isinstance (by decide +kernel) (pa_cons (pv 0) (pa_cons (pe_bltn (v := .ty "list") (u := .type "list") (by rfl) T.z_list (by decide +kernel) rfl) pa_nil))) (nomark _)) (pw_or1 (pt_cmpR op_ne (pe_callB call_isi (by rfl) T.z_isinstance (by decide +kernel) (pa_cons (pv 1) (pa_cons (pe_bltn (v := .ty "tuple") (u := .type "tuple") (by rfl) T.z_tuple (by decide +kernel) rfl) pa_nil))) (pe_callB call_isi (by rfl) T.z_isinstance (by decide +kernel) (pa_cons (pv 0) (pa_cons (pe_bltn (v := .ty "tuple") (u := .type "tuple") (by rfl) T.z_tuple (by decide +kernel) rfl) pa_nil))) (nomark _)))))
          (pss_one (ps_ret pe_bl))
          pss_nil)
        (pss_one (ps_ret (pe_and (pe_cmpR op_eq (pe_callB call_len_seq (by rfl) T.z_len (by decide +kernel) (pa_cons (pv 0) pa_nil)) (pe_callB call_len_seq (by rfl) T.z_len (by decide +kernel) (pa_cons (pv 1) pa_nil)) (nomark _)) (pe_one (pe_callB (cr_all rfl) (by rfl) T.z_all (by decide +kernel) (pa_cons (pe_lc (own := [("_law_one", 2), ("_law_other", 3)]) (g := gTup K 2 (gCons (gName 2) (gCons (gName 3) (gNil)))) (by rfl) sc_law_same.nd (pi_zip (by rfl) T.z_zip (pa_cons (pv 0) (pa_cons (pv 1) pa_nil))) (blkOk_by (own := [("_law_one", 2), ("_law_other", 3)]) (N := ["_law_told", "_law_due", "_law_one", "_law_other"]) (sc := defScope s_law_same) (by decide +kernel)) (fun _ _ _ _ _ => (pg_tup (by rfl) (pgs_cons (pg_name (i := 2) sc_law_same.nd rfl (Or.inl rfl)) (pgs_cons (pg_name (i := 3) sc_law_same.nd rfl (Or.inl rfl)) pgs_nil)))) (fun _ _ _ _ _ => pts_nil) (fun _ _ _ _ _ => (pe_call F hr (by rfl) T.m_law_same T.F_law_same.kp T.b_law_same .nil pass0 (pa_cons (pv 2) (pa_cons (pv 3) pa_nil))))) pa_nil)))))))
        pss_nil)
      (pss_cons (ps_if (pt_val (pe_callB call_isi (by rfl) T.z_isinstance (by decide +kernel) (pa_cons (pv 1) (pa_cons (pe_bltn (v := .ty "int") (u := .type "int") (by rfl) T.z_int (by decide +kernel) rfl) pa_nil))))
        (pss_one (ps_ret (pe_and (pe_callB call_isi (by rfl) T.z_isinstance (by decide +kernel) (pa_cons (pv 0) (pa_cons (pe_bltn (v := .ty "int") (u := .type "int") (by rfl) T.z_int (by decide +kernel) rfl) pa_nil))) (pe_and (pe_cmpR op_eq (pe_callB call_isi (by rfl) T.z_isinstance (by decide +kernel) (pa_cons (pv 0) (pa_cons (pe_bltn (v := .ty "bool") (u := .type "bool") (by rfl) T.z_bool (by decide +kernel) rfl) pa_nil))) (pe_callB call_isi (by rfl) T.z_isinstance (by decide +kernel) (pa_cons (pv 1) (pa_cons (pe_bltn (v := .ty "bool") (u := .type "bool") (by rfl) T.z_bool (by decide +kernel) rfl) pa_nil))) (nomark _)) (pe_one (pe_cmpR (op_eqD hr.units) (pv 0) (pv 1) (nomark _)))))))
        pss_nil)
      (pss_one (ps_ret (pe_cmpR (op_eqD hr.units) (pv 0) (pv 1) (nomark _))))))), fun ds Φ h => ?_⟩)
  · rcases h with ⟨i, j, rfl, _⟩ | ⟨i, j, rfl, _⟩ <;> rfl
  · walk_at "k"
    rcases h with ⟨i, j, rfl, k⟩ | ⟨u, v, rfl, hu, hv, k⟩
    · refine gs_seq (gs_if (gt_B (isi_v false rfl rfl (kit_ty (by kernel_rfl)) ⟨_, rfl, fun h => absurd h (by decide), fun _ => gs_next ?_⟩)))
      refine gs_seq (gs_if (gt_B (isi_w false false rfl rfl (kit_ty (by kernel_rfl)) (kit_ty (by kernel_rfl)) ⟨_, rfl, fun h => absurd h (by decide), fun _ => gs_next ?_⟩)))
      refine gs_seq (gs_if (gt_B (isi_v true rfl rfl (kit_ty (by kernel_rfl)) ⟨_, rfl, fun _ => ?_, fun h => absurd h (by decide)⟩)))
      refine gs_ret (gk_andV (isi_v true rfl rfl (kit_ty (by kernel_rfl)) ⟨_, rfl, fun _ => ?_, fun h => absurd h (by decide)⟩))
      refine gk_andV (gk_op (isi_v false rfl rfl (kit_ty (by kernel_rfl)) (isi_v false rfl rfl (kit_ty (by kernel_rfl)) (rk_eqB ⟨_, rfl, fun _ => ?_, fun h => absurd h (by decide)⟩))))
      refine gk_op (gk_var rfl (gk_var rfl (rk_eqD (j := 0) (k := 0) (.int i) (.int j) (by decide) (by decide) ?_)))
      rw [eqD_int]
      exact k
    · refine gs_seq (gs_if (gt_B (isi_v false rfl rfl (kit_ty (by kernel_rfl)) ⟨_, rfl, fun h => absurd h (by decide), fun _ => gs_next ?_⟩)))
      refine gs_seq (gs_if (gt_B (isi_w false false rfl rfl (kit_ty (by kernel_rfl)) (kit_ty (by kernel_rfl)) ⟨_, rfl, fun h => absurd h (by decide), fun _ => gs_next ?_⟩)))
      refine gs_seq (gs_if (gt_B (isi_v false rfl rfl (kit_ty (by kernel_rfl)) ⟨_, rfl, fun h => absurd h (by decide), fun _ => gs_next ?_⟩)))
      refine gs_ret (gk_op (gk_var rfl (gk_var rfl (rk_eqD (j := 0) (k := 0) (.str hu) (.str hv) (by decide) (by decide) ?_))))
      rw [eqD_str]
      exact k
theorem ok_law_same (T : Txt K mg) : FnOk P w K mg base CX0 3 T.f_law_same T.fd_law_same ["_law_told", "_law_due"] (sp_law_same K) := by
  have F : FnOk P w K mg base CX0 2 T.f_law_same T.fd_law_same ["_law_told", "_law_due"] (sp_same0 K) := ok_same0 T
  refine fn_P T.F_law_same sc_law_same (fun ds Φ h => ?_) (fun cdv A outer s H E hr => ⟨_, (pss_cons (ps_if (pt_val (pe_callB call_isi (by rfl) T.z_isinstance (by decide +kernel) (pa_cons (pv 1) (pa_cons (pe_bltn (v := .ty "dict") (u := .type "dict") (by rfl) T.z_dict (by decide +kernel) rfl) pa_nil))))
        (pss_cons (ps_if (PW.pt (pw_or (pt_not (pt_val (pe_callB call_isi (by rfl) T.z_isinstance (by decide +kernel) (pa_cons (pv 0) (pa_cons (pe_bltn (v := .ty "dict") (u := .type "dict") (by rfl) T.z_dict (by decide +kernel) rfl) pa_nil))))) (pw_or1 (pt_cmpR op_ne (pe_callB call_len_seq (by rfl) T.z_len (by decide +kernel) (pa_cons (pv 0) pa_nil)) (pe_callB call_len_seq (by rfl) T.z_len (by decide +kernel) (pa_cons (pv 1) pa_nil)) (nomark _)))))
          (pss_one (ps_ret pe_bl))
          pss_nil)
        (pss_one (ps_ret (pe_callB (cr_all rfl) (by rfl) T.z_all (by decide +kernel) (pa_cons (pe_lc (own := [("_law_one", 2)]) (g := gName 2) (by rfl) sc_law_same.nd (pi_list (pv 1)) (blkOk_by (own := [("_law_one", 2)]) (N := ["_law_told", "_law_due", "_law_one", "_law_other"]) (sc := defScope s_law_same) (by decide +kernel)) (fun _ _ _ _ _ => (pg_name (i := 2) sc_law_same.nd rfl (Or.inl rfl))) (fun _ _ _ _ _ => pts_nil) (fun _ _ _ _ _ => (pe_and (pe_cmpR (op_in_seq_K (K := K) rfl) (pv 2) (pv 0) (by rfl)) (pe_one (pe_call F hr (by rfl) T.m_law_same T.F_law_same.kp T.b_law_same .nil pass0 (pa_cons (pe_ix (ix_list_K (K := K) rfl) (pv 0) (pv 2) (fun _ _ => rfl)) (pa_cons (pe_ix (ix_list_K (K := K) rfl) (pv 1) (pv 2) (fun _ _ => rfl)) pa_nil))))))) pa_nil)))))
        pss_nil)
      (pss_cons (ps_if (pt_val (pe_callB call_isiT (by rfl) T.z_isinstance (by decide +kernel) (pa_cons (pv 1) (pa_cons (pe_tup (pa_cons (pe_bltn (v := .ty "list") (u := .type "list") (by rfl) T.z_list (by decide +kernel) rfl) (pa_cons (pe_bltn (v := .ty "tuple") (u := .type "tuple") (by rfl) T.z_tuple (by decide +kernel) rfl) pa_nil))) pa_nil))))
        (pss_cons (ps_if (PW.pt (pw_or (pt_cmpR op_ne (pe_callB call_isi (by rfl) T.z_isinstance (by decide +kernel) (pa_cons (pv 1) (pa_cons (pe_bltn (v := .ty "list") (u := .type "list") (by rfl) T.z_list (by decide +kernel) rfl) pa_nil))) (pe_callB call_isi (by rfl) T.z_isinstance (by decide +kernel) (pa_cons (pv 0) (pa_cons (pe_bltn (v := .ty "list") (u := .type "list") (by rfl) T.z_list (by decide +kernel) rfl) pa_nil))) (nomark _)) (pw_or1 (pt_cmpR op_ne (pe_callB call_isi (by rfl) T.z_isinstance (by decide +kernel) (pa_cons (pv 1) (pa_cons (pe_bltn (v := .ty "tuple") (u := .type "tuple") (by rfl) T.z_tuple (by decide +kernel) rfl) pa_nil))) (pe_callB call_isi (by rfl) T.z_isinstance (by decide +kernel) (pa_cons (pv 0) (pa_cons (pe_bltn (v := .ty "tuple") (u := .type "tuple") (by rfl) T.z_tuple (by decide +kernel) rfl) pa_nil))) (nomark _)))))
          (pss_one (ps_ret pe_bl))
          pss_nil)
        (pss_one (ps_ret (pe_and (pe_cmpR op_eq (pe_callB call_len_seq (by rfl) T.z_len (by decide +kernel) (pa_cons (pv 0) pa_nil)) (pe_callB call_len_seq (by rfl) T.z_len (by decide +kernel) (pa_cons (pv 1) pa_nil)) (nomark _)) (pe_one (pe_callB (cr_all rfl) (by rfl) T.z_all (by decide +kernel) (pa_cons (pe_lc (own := [("_law_one", 2), ("_law_other", 3)]) (g := gTup K 2 (gCons (gName 2) (gCons (gName 3) (gNil)))) (by rfl) sc_law_same.nd (pi_zip (by rfl) T.z_zip (pa_cons (pv 0) (pa_cons (pv 1) pa_nil))) (blkOk_by (own := [("_law_one", 2), ("_law_other", 3)]) (N := ["_law_told", "_law_due", "_law_one", "_law_other"]) (sc := defScope s_law_same) (by decide +kernel)) (fun _ _ _ _ _ => (pg_tup (by rfl) (pgs_cons (pg_name (i := 2) sc_law_same.nd rfl (Or.inl rfl)) (pgs_cons (pg_name (i := 3) sc_law_same.nd rfl (Or.inl rfl)) pgs_nil)))) (fun _ _ _ _ _ => pts_nil) (fun _ _ _ _ _ => (pe_call F hr (by rfl) T.m_law_same T.F_law_same.kp T.b_law_same .nil pass0 (pa_cons (pv 2) (pa_cons (pv 3) pa_nil))))) pa_nil)))))))
        pss_nil)
      (pss_cons (ps_if (pt_val (pe_callB call_isi (by rfl) T.z_isinstance (by decide +kernel) (pa_cons (pv 1) (pa_cons (pe_bltn (v := .ty "int") (u := .type "int") (by rfl) T.z_int (by decide +kernel) rfl) pa_nil))))
        (pss_one (ps_ret (pe_and (pe_callB call_isi (by rfl) T.z_isinstance (by decide +kernel) (pa_cons (pv 0) (pa_cons (pe_bltn (v := .ty "int") (u := .type "int") (by rfl) T.z_int (by decide +kernel) rfl) pa_nil))) (pe_and (pe_cmpR op_eq (pe_callB call_isi (by rfl) T.z_isinstance (by decide +kernel) (pa_cons (pv 0) (pa_cons (pe_bltn (v := .ty "bool") (u := .type "bool") (by rfl) T.z_bool (by decide +kernel) rfl) pa_nil))) (pe_callB call_isi (by rfl) T.z_isinstance (by decide +kernel) (pa_cons (pv 1) (pa_cons (pe_bltn (v := .ty "bool") (u := .type "bool") (by rfl) T.z_bool (by decide +kernel) rfl) pa_nil))) (nomark _)) (pe_one (pe_cmpR (op_eqD hr.units) (pv 0) (pv 1) (nomark _)))))))
        pss_nil)
      (pss_one (ps_ret (pe_cmpR (op_eqD hr.units) (pv 0) (pv 1) (nomark _))))))), fun ds Φ h => ?_⟩)
  · rcases h with ⟨i, j, rfl, _⟩ | ⟨i, j, rfl, _⟩ <;> rfl
  · walk_at "k"
    obtain ⟨us, vs, rfl, hu, hv, el, k⟩ : ∃ us vs : List D, ds = [.lst us, .lst vs] ∧ us.length ≤ 1000 ∧ vs.length ≤ 1000 ∧ (us.length = vs.length → ∃ bs : List Bool, ((us.zip vs).map fun p => samO p.1 p.2) = bs.map D.bl ∧ (∀ p ∈ us.zip vs, (∃ i j, p = (.int i, .int j)) ∨ ∃ u v, p = (.str u, .str v) ∧ (∀ c ∈ tl u, c < 1114112) ∧ ∀ c ∈ tl v, c < 1114112) ∧ Φ (.bl (bs.all id))) ∧ (us.length ≠ vs.length → Φ (.bl false)) := by
      rcases h with ⟨xs, ys, rfl, hx, hy, k⟩ | ⟨xs, ys, rfl, hx, hy, cx, cy, k⟩
      · refine ⟨_, _, rfl, by rw [List.length_map]; exact hx, by rw [List.length_map]; exact hy, fun e => ⟨_, zip_ints, fun d hd => ?_, ?_⟩, fun e => ?_⟩
        · obtain ⟨x, y⟩ := d
          obtain ⟨h1, h2⟩ := List.of_mem_zip hd
          obtain ⟨a, _, rfl⟩ := List.mem_map.mp h1
          obtain ⟨b, _, rfl⟩ := List.mem_map.mp h2
          exact .inl ⟨a, b, rfl⟩
        · rw [List.length_map, List.length_map] at e
          rw [zip_all e]
          exact k
        · rw [List.length_map, List.length_map] at e
          rw [decide_eq_false fun z => e (by rw [z])] at k
          exact k
      · refine ⟨_, _, rfl, by rw [List.length_map]; exact hx, by rw [List.length_map]; exact hy, fun e => ⟨_, zip_strs, fun d hd => ?_, ?_⟩, fun e => ?_⟩
        · obtain ⟨x, y⟩ := d
          obtain ⟨h1, h2⟩ := List.of_mem_zip hd
          obtain ⟨a, ha, rfl⟩ := List.mem_map.mp h1
          obtain ⟨b, hb, rfl⟩ := List.mem_map.mp h2
          exact .inr ⟨a, b, rfl, cx a ha, cy b hb⟩
        · rw [List.length_map, List.length_map] at e
          rw [zip_all e]
          exact k
        · rw [List.length_map, List.length_map] at e
          rw [decide_eq_false fun z => e (by rw [z])] at k
          exact k
    refine gs_seq (gs_if (gt_B (isi_v false rfl rfl (kit_ty (by kernel_rfl)) ⟨_, rfl, fun h => absurd h (by decide), fun _ => gs_next ?_⟩)))
    refine gs_seq (gs_if (gt_B (isi_w true false rfl rfl (kit_ty (by kernel_rfl)) (kit_ty (by kernel_rfl)) ⟨_, rfl, fun _ => ?_, fun h => absurd h (by decide)⟩)))
    refine gs_seq (gs_if (gt_or (gt_test (gk_op (isi_v true rfl rfl (kit_ty (by kernel_rfl)) (isi_v true rfl rfl (kit_ty (by kernel_rfl)) (rk_neB ⟨_, rfl, fun h => absurd h (by decide), fun _ => ?_⟩)))))))
    refine gt_test (gk_op (isi_v false rfl rfl (kit_ty (by kernel_rfl)) (isi_v false rfl rfl (kit_ty (by kernel_rfl)) (rk_neB ⟨_, rfl, fun h => absurd h (by decide), fun _ => gs_next (gs_ret (gk_andV ?_))⟩))))
    walk_at "e"
    refine ⟨fun h => ?_, fun h => ?_⟩
    · have e : us.length = vs.length := by have := of_decide_eq_true h; omega
      obtain ⟨bs, e1, e2, k⟩ := el e
      refine gk_cb (ga_cons (gk_map2 (f := samO) (fun _ h => nomatch (show some Slot.un = some _ from h)) (fun _ h => nomatch (show some Slot.un = some _ from h)) (gi_zip ?_)))
      refine ga_cons (gk_var rfl (ga_cons (gk_var rfl (ga_nil ⟨_, _, rfl, us.zip vs, zipD_pairs, by rw [zipD_len]; omega, fun p hp => ?_, ?_⟩))))
      · walk_at "e"
        refine sc_P ?_
        rcases e2 p hp with ⟨i, j, rfl⟩ | ⟨u, v, rfl, c1, c2⟩
        · exact .inl ⟨i, j, rfl, rfl, rfl⟩
        · exact .inr ⟨u, v, rfl, c1, c2, rfl, rfl⟩
      · rw [e1]
        walk_at "e"
        exact k
    · have e : us.length ≠ vs.length := by have := of_decide_eq_false h; omega
      exact k e
theorem c_sameI {δ : List Slot} {n : Sto} {Φ : D → Sto → Prop} {xs ys : List Int} (h1 : xs.length ≤ 1000) (h2 : ys.length ≤ 1000) (k : Φ (.bl (decide (xs = ys))) n) : SC K Z (sp_law_same K) [.lst (xs.map D.int), .lst (ys.map D.int)] δ n Φ := sc_P (.inl ⟨xs, ys, rfl, h1, h2, k⟩)
theorem c_sameS {δ : List Slot} {n : Sto} {Φ : D → Sto → Prop} {xs ys : List Str} (h1 : xs.length ≤ 1000) (h2 : ys.length ≤ 1000) (h3 : ∀ z ∈ xs, ∀ c ∈ tl z, c < 1114112) (h4 : ∀ z ∈ ys, ∀ c ∈ tl z, c < 1114112) (k : Φ (.bl (decide (xs = ys))) n) : SC K Z (sp_law_same K) [.lst (xs.map D.str), .lst (ys.map D.str)] δ n Φ := sc_P (.inr ⟨xs, ys, rfl, h1, h2, h3, h4, k⟩)
/-! law -/
def sp_law (K : PySem.W.Frag) : Sp := spL K
theorem ok_law (T : Txt K mg) : FnG P w K mg base 4 T.f_law T.fd_law ["_law_script"] (sp_law K) := by
  refine fn_LG T.F_law sc_law rfl (fun cdv A outer s H E hgd hr => ⟨_, (pss_cons (ps_for PassesOwn.never (by rfl) (pi_range1 (by rfl) T.z_range (pa_cons (pe_callB (call_max2 rfl) (by rfl) T.z_max (by decide +kernel) (pa_cons pe_int (pa_cons (pe_callB (call_min2 rfl) (by rfl) T.z_min (by decide +kernel) (pa_cons pe_int (pa_cons (pe_callB call_len_seq (by rfl) T.z_len (by decide +kernel) (pa_cons (pv 0) pa_nil)) pa_nil))) pa_nil))) pa_nil)) (pg_name (i := 1) sc_law.nd rfl (Or.inl rfl))
        (pss_cons (ps_set (i := 2) sc_law.nd rfl (Or.inl rfl) (pe_call (ok_law_bag T) (hr.mono (by decide)) (by rfl) T.m_law_bag T.F_law_bag.kp T.b_law_bag .nil pass0 (pa_cons (pv 0) (pa_cons (pv 1) pa_nil))))
        (pss_cons (ps_set (i := 3) sc_law.nd rfl (Or.inl rfl) (pe_call (ok_law_held T) (hr.mono (by decide)) (by rfl) T.m_law_held T.F_law_held.kp T.b_law_held .nil pass0 (pa_cons (pv 2) (pa_cons (pe_ix ix_list (pe_lst (pa_cons pe_int (pa_cons pe_int pa_nil))) (pe_callTy call_int1 (by rfl) T.z_int (by decide +kernel) (pa_cons (pe_cmpR op_eq (pe_call (ok_law_take T) (hr.mono (by decide)) (by rfl) T.m_law_take T.F_law_take.kp T.b_law_take .nil pass0 (pa_cons (pv 2) (pa_cons pe_int pa_nil))) pe_int (nomark _)) pa_nil)) (fun _ _ => rfl)) pa_nil))))
        (pss_cons (ps_par (i := 4) (j := 5) (by rfl) sc_law.nd rfl rfl (by decide) rfl rfl (pa_cons (pe_call (ok_law_other_order T) (hr.mono (by decide)) (by rfl) T.m_law_other_order T.F_law_other_order.kp T.b_law_other_order .nil pass0 (pa_cons (pv 2) (pa_cons (pv 3) pa_nil))) (pa_cons (pe_callB (cr_reprQ (K := K) rfl hgd hr.units) (by rfl) T.z_repr (by decide +kernel) (pa_cons (pv 3) pa_nil)) pa_nil)) (by rfl))
        (pss_cons (ps_set (i := 6) sc_law.nd rfl (Or.inl rfl) (pe_call (ok_law_titles T) (hr.mono (by decide)) (by rfl) T.m_law_titles T.F_law_titles.kp T.b_law_titles .nil pass0 (pa_cons (pv 3) pa_nil)))
        (pss_one (ps_for PassesOwn.never (by rfl) (pi_tup (pe_tup (pa_cons (pv 3) (pa_cons (pv 4) (pa_cons (pv 3) pa_nil))))) (pg_name (i := 7) sc_law.nd rfl (Or.inl rfl))
          (pss_cons (ps_set (i := 8) sc_law.nd rfl (Or.inl rfl) (pe_call (ok_titles T) (hr.mono (by decide)) (by rfl) T.m_titles T.F_titles.kp T.b_titles .nil pass0 (pa_cons (pv 7) pa_nil)))
          (pss_cons (ps_if (PW.pt (pw_or (pt_not (pt_val (pe_call (ok_law_same T) (hr.mono (by decide)) (by rfl) T.m_law_same T.F_law_same.kp T.b_law_same .nil pass0 (pa_cons (pv 8) (pa_cons (pv 6) pa_nil))))) (pw_or1 (pt_cmpR op_ne (pe_callB (cr_reprQ (K := K) rfl hgd hr.units) (by rfl) T.z_repr (by decide +kernel) (pa_cons (pv 3) pa_nil)) (pv 5) (nomark _)))))
            (pss_one (ps_ret pe_bl))
            pss_nil)
          (pss_one (ps_expr (pe_bm PySem.F.plainAttrs_list PySem.F.slot_list_append PySem.F.type_list_append mt_append (pv 8) (pa_cons pe_str pa_nil)))))))))))))
      (pss_one (ps_ret (pe_cmpR (op_eqD hr.units) (pe_call (ok_titles T) (hr.mono (by decide)) (by rfl) T.m_titles T.F_titles.kp T.b_titles .nil pass0 (pa_cons (pe_fz pe_dnewK) pa_nil)) (pe_lst pa_nil) (nomark _))))), fun ns hns => ?_⟩)
  walk_at "k"
  refine gs_seq (gs_forW ?_)
  walk_at "g"
  have mb := mm_b ns.length 5 (by decide)
  refine ⟨by omega, by omega, fun i δ' n' => δ' = [.scr ns, .un, .un, .un, .un, .un, .un, .un, .un], ⟨_, Wk.refl _, rfl⟩, ?_, ?_⟩
  · rintro i x δ' ⟨n0, μ0⟩ hx rfl
    obtain ⟨hi, rfl⟩ := rangeD_at hx
    refine ⟨_, [1], gg_name (by decide), ?_⟩
    refine gs_lawbag rfl (fun _ h => nomatch (show some Slot.un = some _ from h)) ?_
    walk_at "g"
    refine ⟨by omega, by omega, fun p => ?_⟩
    clear hx hi mb
    walk_at "g"
    refine sb_take (by omega) (by decide) (by decide) fun q q0 q1 => ?_
    walk_at "e"
    obtain ⟨d, ed, hd⟩ := at_2 (a := .int 40) (b := .int 97) (r := if decide (q = 0) = true then 1 else 0) (by split <;> omega) (by split <;> omega)
    refine rk_ixL ed ?_
    obtain ⟨cap, rfl, p1, p2⟩ : ∃ cap : Int, d = .int cap ∧ 1 ≤ cap ∧ cap ≤ 97 := by
      rcases hd with rfl | rfl
      · exact ⟨_, rfl, by omega, by omega⟩
      · exact ⟨_, rfl, by omega, by omega⟩
    clear ed hd
    walk_at "e"
    refine sb_P ⟨cap, rfl, p1, p2, by omega, fun c m wf c97 r97 _ hm => ?_⟩
    have hm : m ≤ 20001 := by omega
    have hd := (cnt_ets wf c97 r97).tok
    refine gs_seq (gs_par (ga_cons (gk_callB rfl (ga_cons (gk_var rfl (ga_nil (sb_other_order wf (by omega) (by omega) (by omega) fun c' m' ot hm' => ga_cons (gk_cb (ga_cons (gk_var rfl (ga_nil (rc_reprQ hd.shq (by omega) (hd.fits (by decide)) (ga_nil ⟨_, _, rfl, ?_⟩)))))))))))))
    refine gs_seq (gs_asg (gk_call (ga_cons (gk_var rfl (ga_nil (c_law_titles wf (by omega) (by omega) ?_))))))
    have tle : (srtS (titS c)).length ≤ 400 := by
      rw [srtS_perm.length_eq]
      unfold titS
      rw [List.length_append, List.length_append, List.length_map, List.length_map, rowsT_len']
      have := setS_len (longL c)
      have := longL_le c
      omega
    have tc : ∀ z ∈ srtS (titS c), ∀ u ∈ tl z, u < 1114112 := fun z hz => tit_cd wf z (srtS_perm.mem_iff.mp hz)
    refine gs_forW (gi_tup (gk_tup ?_))
    walk_at "e"
    refine ⟨fun j δ' n' => δ' = [.scr ns, .un, .bag, .d (cntD c), .d (cntD c'), .d (.str (toP (cntD c)).shown), .d (.lst ((srtS (titS c)).map D.str)), .un, .un], ⟨_, by walk_at "wk", rfl⟩, ?_, ?_⟩
    · rintro j x δ' ⟨n1, μ1⟩ hx rfl
      obtain ⟨e, rfl, we, l1, l2, te⟩ : ∃ e, x = cntD e ∧ WfC e ∧ e.length ≤ 97 ∧ rowsN e ≤ 97 ∧ srtS (titS e) = srtS (titS c) := by
        have := List.mem_of_getElem? hx
        simp only [List.mem_cons, List.not_mem_nil, or_false] at this
        rcases this with rfl | rfl | rfl
        · exact ⟨c, rfl, wf, c97, r97, rfl⟩
        · exact ⟨c', rfl, ot.wf wf, by rw [ot.len]; exact c97, by rw [ot.rowsN]; exact r97, ot.tits⟩
        · exact ⟨c, rfl, wf, c97, r97, rfl⟩
      refine ⟨_, [7], gg_name (by decide), ?_⟩
      refine gs_seq (gs_asgR (gk_call (ga_cons (gk_var rfl (ga_nil (cN_titles we (by omega) (by omega) fun p hp => ⟨p, _, _, rfl, rfl, hp, ?_⟩))))))
      rw [te]
      refine gs_if (gt_borrow (i := 8) rfl rfl (gt_or (gt_not (gt_test (gk_call (ga_cons (gk_var rfl (ga_cons (gk_var rfl (ga_nil (c_sameS (by omega) (by omega) tc tc ?_)))))))))))
      refine ⟨true, by simp, (fun h => nomatch h), fun _ => gt_test (gk_op (gk_cb (ga_cons (gk_var rfl (ga_nil (rc_reprQ hd.shq (by omega) (hd.fits (by decide)) (gk_var rfl (rk_neS ⟨false, by simp, ?_⟩))))))))⟩
      refine ⟨rfl, (fun h => nomatch h), fun _ => gs_app rfl (by rw [List.length_map]; omega) (gk_s ⟨_, by walk_at "wk", rfl⟩)⟩
    · rintro δ' n' rfl
      exact ⟨_, by walk_at "wk", rfl⟩
  · rintro δ' n' rfl
    have e0 : srtS (titS []) = [] := by decide +kernel
    refine gs_ret (gk_op (gk_call (ga_cons (gk_newF (ga_nil (c_titles (c := []) ⟨List.nodup_nil, fun _ h => absurd h List.not_mem_nil⟩ (by decide) (by decide) (gk_lst (ga_nil ⟨by show 0 ≤ 100000; decide, ?_⟩))))))))
    rw [e0]
    refine rk_eqD (j := 1) (k := 1) (.lst fun _ h => nomatch h) (.lst fun _ h => nomatch h) (by decide) (by decide) rfl
end
theorem all_mk {l : PySem.W.OpenLaw} {w : World} {K : PySem.W.Frag} {h : Heap} {mg : Str → Option Value} {fa : Addr} (X : K.In h) (G : h.Ns mainGlobals mg) (hfa : mg "law" = some (.ref fa))
    {f_box_title : Addr} {od_box_title an_box_title : Option Addr} {sl_box_title : Array (Option Value)} {oc_box_title kV_box_title dc_box_title pm_box_title cd_box_title ct_box_title : Value}
    {f_row_title : Addr} {od_row_title an_row_title : Option Addr} {sl_row_title : Array (Option Value)} {oc_row_title kV_row_title dc_row_title pm_row_title cd_row_title ct_row_title : Value}
    {f_text_title : Addr} {od_text_title an_text_title : Option Addr} {sl_text_title : Array (Option Value)} {oc_text_title kV_text_title dc_text_title pm_text_title cd_text_title ct_text_title : Value}
    {f_is_long : Addr} {od_is_long an_is_long : Option Addr} {sl_is_long : Array (Option Value)} {oc_is_long kV_is_long dc_is_long pm_is_long cd_is_long ct_is_long : Value}
    {f_long_texts : Addr} {od_long_texts an_long_texts : Option Addr} {sl_long_texts : Array (Option Value)} {oc_long_texts kV_long_texts dc_long_texts pm_long_texts cd_long_texts ct_long_texts : Value}
    {f_titles : Addr} {od_titles an_titles : Option Addr} {sl_titles : Array (Option Value)} {oc_titles kV_titles dc_titles pm_titles cd_titles ct_titles : Value}
    {f_law_bag : Addr} {od_law_bag an_law_bag : Option Addr} {sl_law_bag : Array (Option Value)} {oc_law_bag kV_law_bag dc_law_bag pm_law_bag cd_law_bag ct_law_bag : Value}
    {f_law_take : Addr} {od_law_take an_law_take : Option Addr} {sl_law_take : Array (Option Value)} {oc_law_take kV_law_take dc_law_take pm_law_take cd_law_take ct_law_take : Value}
    {f_law_name : Addr} {od_law_name an_law_name : Option Addr} {sl_law_name : Array (Option Value)} {oc_law_name kV_law_name dc_law_name pm_law_name cd_law_name ct_law_name : Value}
    {f_law_words : Addr} {od_law_words an_law_words : Option Addr} {sl_law_words : Array (Option Value)} {oc_law_words kV_law_words dc_law_words pm_law_words cd_law_words ct_law_words : Value}
    {f_law_cards_in : Addr} {od_law_cards_in an_law_cards_in : Option Addr} {sl_law_cards_in : Array (Option Value)} {oc_law_cards_in kV_law_cards_in dc_law_cards_in pm_law_cards_in cd_law_cards_in ct_law_cards_in : Value}
    {f_law_longs : Addr} {od_law_longs an_law_longs : Option Addr} {sl_law_longs : Array (Option Value)} {oc_law_longs kV_law_longs dc_law_longs pm_law_longs cd_law_longs ct_law_longs : Value}
    {f_law_held : Addr} {od_law_held an_law_held : Option Addr} {sl_law_held : Array (Option Value)} {oc_law_held kV_law_held dc_law_held pm_law_held cd_law_held ct_law_held : Value}
    {f_law_titles : Addr} {od_law_titles an_law_titles : Option Addr} {sl_law_titles : Array (Option Value)} {oc_law_titles kV_law_titles dc_law_titles pm_law_titles cd_law_titles ct_law_titles : Value}
    {f_law_same : Addr} {od_law_same an_law_same : Option Addr} {sl_law_same : Array (Option Value)} {oc_law_same kV_law_same dc_law_same pm_law_same cd_law_same ct_law_same : Value}
    {f_law_other_order : Addr} {od_law_other_order an_law_other_order : Option Addr} {sl_law_other_order : Array (Option Value)} {oc_law_other_order kV_law_other_order dc_law_other_order pm_law_other_order cd_law_other_order ct_law_other_order : Value}
    {f_law : Addr} {od_law an_law : Option Addr} {sl_law : Array (Option Value)} {oc_law kV_law dc_law pm_law cd_law ct_law : Value}
    {t_BOX_SIGN : Tok}
    {t_MOST_SHORT : Tok}
    {t_ROW_SIGN : Tok}
    {t_TEXT_SIGN : Tok}
    (a_box_title : PySem.W.nsIn K mainGlobals "box_title" = some (some (.ref f_box_title)))
    (l_box_title : K.lookup f_box_title = some ⟨oc_box_title, od_box_title, .func (PySem.W.fnOf "box_title" "box_title" (defArgs s_box_title) (defBody s_box_title) (defScope s_box_title) .none kV_box_title dc_box_title pm_box_title an_box_title cd_box_title ct_box_title), sl_box_title⟩)
    (c_box_title : PySem.W.codeIn K cd_box_title "box_title" = true)
    (k_box_title : PySem.W.keepIn K (.ref f_box_title) = true)
    (a_row_title : PySem.W.nsIn K mainGlobals "row_title" = some (some (.ref f_row_title)))
    (l_row_title : K.lookup f_row_title = some ⟨oc_row_title, od_row_title, .func (PySem.W.fnOf "row_title" "row_title" (defArgs s_row_title) (defBody s_row_title) (defScope s_row_title) .none kV_row_title dc_row_title pm_row_title an_row_title cd_row_title ct_row_title), sl_row_title⟩)
    (c_row_title : PySem.W.codeIn K cd_row_title "row_title" = true)
    (k_row_title : PySem.W.keepIn K (.ref f_row_title) = true)
    (a_text_title : PySem.W.nsIn K mainGlobals "text_title" = some (some (.ref f_text_title)))
    (l_text_title : K.lookup f_text_title = some ⟨oc_text_title, od_text_title, .func (PySem.W.fnOf "text_title" "text_title" (defArgs s_text_title) (defBody s_text_title) (defScope s_text_title) .none kV_text_title dc_text_title pm_text_title an_text_title cd_text_title ct_text_title), sl_text_title⟩)
    (c_text_title : PySem.W.codeIn K cd_text_title "text_title" = true)
    (k_text_title : PySem.W.keepIn K (.ref f_text_title) = true)
    (a_is_long : PySem.W.nsIn K mainGlobals "is_long" = some (some (.ref f_is_long)))
    (l_is_long : K.lookup f_is_long = some ⟨oc_is_long, od_is_long, .func (PySem.W.fnOf "is_long" "is_long" (defArgs s_is_long) (defBody s_is_long) (defScope s_is_long) .none kV_is_long dc_is_long pm_is_long an_is_long cd_is_long ct_is_long), sl_is_long⟩)
    (c_is_long : PySem.W.codeIn K cd_is_long "is_long" = true)
    (k_is_long : PySem.W.keepIn K (.ref f_is_long) = true)
    (a_long_texts : PySem.W.nsIn K mainGlobals "long_texts" = some (some (.ref f_long_texts)))
    (l_long_texts : K.lookup f_long_texts = some ⟨oc_long_texts, od_long_texts, .func (PySem.W.fnOf "long_texts" "long_texts" (defArgs s_long_texts) (defBody s_long_texts) (defScope s_long_texts) .none kV_long_texts dc_long_texts pm_long_texts an_long_texts cd_long_texts ct_long_texts), sl_long_texts⟩)
    (c_long_texts : PySem.W.codeIn K cd_long_texts "long_texts" = true)
    (k_long_texts : PySem.W.keepIn K (.ref f_long_texts) = true)
    (a_titles : PySem.W.nsIn K mainGlobals "titles" = some (some (.ref f_titles)))
    (l_titles : K.lookup f_titles = some ⟨oc_titles, od_titles, .func (PySem.W.fnOf "titles" "titles" (defArgs s_titles) (defBody s_titles) (defScope s_titles) .none kV_titles dc_titles pm_titles an_titles cd_titles ct_titles), sl_titles⟩)
    (c_titles : PySem.W.codeIn K cd_titles "titles" = true)
    (k_titles : PySem.W.keepIn K (.ref f_titles) = true)
    (a_law_bag : PySem.W.nsIn K mainGlobals "_law_bag" = some (some (.ref f_law_bag)))
    (l_law_bag : K.lookup f_law_bag = some ⟨oc_law_bag, od_law_bag, .func (PySem.W.fnOf "_law_bag" "_law_bag" (defArgs s_law_bag) (defBody s_law_bag) (defScope s_law_bag) .none kV_law_bag dc_law_bag pm_law_bag an_law_bag cd_law_bag ct_law_bag), sl_law_bag⟩)
    (c_law_bag : PySem.W.codeIn K cd_law_bag "_law_bag" = true)
    (k_law_bag : PySem.W.keepIn K (.ref f_law_bag) = true)
    (a_law_take : PySem.W.nsIn K mainGlobals "_law_take" = some (some (.ref f_law_take)))
    (l_law_take : K.lookup f_law_take = some ⟨oc_law_take, od_law_take, .func (PySem.W.fnOf "_law_take" "_law_take" (defArgs s_law_take) (defBody s_law_take) (defScope s_law_take) .none kV_law_take dc_law_take pm_law_take an_law_take cd_law_take ct_law_take), sl_law_take⟩)
    (c_law_take : PySem.W.codeIn K cd_law_take "_law_take" = true)
    (k_law_take : PySem.W.keepIn K (.ref f_law_take) = true)
    (a_law_name : PySem.W.nsIn K mainGlobals "_law_name" = some (some (.ref f_law_name)))
    (l_law_name : K.lookup f_law_name = some ⟨oc_law_name, od_law_name, .func (PySem.W.fnOf "_law_name" "_law_name" (defArgs s_law_name) (defBody s_law_name) (defScope s_law_name) .none kV_law_name dc_law_name pm_law_name an_law_name cd_law_name ct_law_name), sl_law_name⟩)
    (c_law_name : PySem.W.codeIn K cd_law_name "_law_name" = true)
    (k_law_name : PySem.W.keepIn K (.ref f_law_name) = true)
    (a_law_words : PySem.W.nsIn K mainGlobals "_law_words" = some (some (.ref f_law_words)))
    (l_law_words : K.lookup f_law_words = some ⟨oc_law_words, od_law_words, .func (PySem.W.fnOf "_law_words" "_law_words" (defArgs s_law_words) (defBody s_law_words) (defScope s_law_words) .none kV_law_words dc_law_words pm_law_words an_law_words cd_law_words ct_law_words), sl_law_words⟩)
    (c_law_words : PySem.W.codeIn K cd_law_words "_law_words" = true)
    (k_law_words : PySem.W.keepIn K (.ref f_law_words) = true)
    (a_law_cards_in : PySem.W.nsIn K mainGlobals "_law_cards_in" = some (some (.ref f_law_cards_in)))
    (l_law_cards_in : K.lookup f_law_cards_in = some ⟨oc_law_cards_in, od_law_cards_in, .func (PySem.W.fnOf "_law_cards_in" "_law_cards_in" (defArgs s_law_cards_in) (defBody s_law_cards_in) (defScope s_law_cards_in) .none kV_law_cards_in dc_law_cards_in pm_law_cards_in an_law_cards_in cd_law_cards_in ct_law_cards_in), sl_law_cards_in⟩)
    (c_law_cards_in : PySem.W.codeIn K cd_law_cards_in "_law_cards_in" = true)
    (k_law_cards_in : PySem.W.keepIn K (.ref f_law_cards_in) = true)
    (a_law_longs : PySem.W.nsIn K mainGlobals "_law_longs" = some (some (.ref f_law_longs)))
    (l_law_longs : K.lookup f_law_longs = some ⟨oc_law_longs, od_law_longs, .func (PySem.W.fnOf "_law_longs" "_law_longs" (defArgs s_law_longs) (defBody s_law_longs) (defScope s_law_longs) .none kV_law_longs dc_law_longs pm_law_longs an_law_longs cd_law_longs ct_law_longs), sl_law_longs⟩)
    (c_law_longs : PySem.W.codeIn K cd_law_longs "_law_longs" = true)
    (k_law_longs : PySem.W.keepIn K (.ref f_law_longs) = true)
    (a_law_held : PySem.W.nsIn K mainGlobals "_law_held" = some (some (.ref f_law_held)))
    (l_law_held : K.lookup f_law_held = some ⟨oc_law_held, od_law_held, .func (PySem.W.fnOf "_law_held" "_law_held" (defArgs s_law_held) (defBody s_law_held) (defScope s_law_held) .none kV_law_held dc_law_held pm_law_held an_law_held cd_law_held ct_law_held), sl_law_held⟩)
    (c_law_held : PySem.W.codeIn K cd_law_held "_law_held" = true)
    (k_law_held : PySem.W.keepIn K (.ref f_law_held) = true)
    (a_law_titles : PySem.W.nsIn K mainGlobals "_law_titles" = some (some (.ref f_law_titles)))
    (l_law_titles : K.lookup f_law_titles = some ⟨oc_law_titles, od_law_titles, .func (PySem.W.fnOf "_law_titles" "_law_titles" (defArgs s_law_titles) (defBody s_law_titles) (defScope s_law_titles) .none kV_law_titles dc_law_titles pm_law_titles an_law_titles cd_law_titles ct_law_titles), sl_law_titles⟩)
    (c_law_titles : PySem.W.codeIn K cd_law_titles "_law_titles" = true)
    (k_law_titles : PySem.W.keepIn K (.ref f_law_titles) = true)
    (a_law_same : PySem.W.nsIn K mainGlobals "_law_same" = some (some (.ref f_law_same)))
    (l_law_same : K.lookup f_law_same = some ⟨oc_law_same, od_law_same, .func (PySem.W.fnOf "_law_same" "_law_same" (defArgs s_law_same) (defBody s_law_same) (defScope s_law_same) .none kV_law_same dc_law_same pm_law_same an_law_same cd_law_same ct_law_same), sl_law_same⟩)
    (c_law_same : PySem.W.codeIn K cd_law_same "_law_same" = true)
    (k_law_same : PySem.W.keepIn K (.ref f_law_same) = true)
    (a_law_other_order : PySem.W.nsIn K mainGlobals "_law_other_order" = some (some (.ref f_law_other_order)))
    (l_law_other_order : K.lookup f_law_other_order = some ⟨oc_law_other_order, od_law_other_order, .func (PySem.W.fnOf "_law_other_order" "_law_other_order" (defArgs s_law_other_order) (defBody s_law_other_order) (defScope s_law_other_order) .none kV_law_other_order dc_law_other_order pm_law_other_order an_law_other_order cd_law_other_order ct_law_other_order), sl_law_other_order⟩)
    (c_law_other_order : PySem.W.codeIn K cd_law_other_order "_law_other_order" = true)
    (k_law_other_order : PySem.W.keepIn K (.ref f_law_other_order) = true)
    (a_law : PySem.W.nsIn K mainGlobals "law" = some (some (.ref f_law)))
    (l_law : K.lookup f_law = some ⟨oc_law, od_law, .func (PySem.W.fnOf "law" "law" (defArgs s_law) (defBody s_law) (defScope s_law) .none kV_law dc_law pm_law an_law cd_law ct_law), sl_law⟩)
    (c_law : PySem.W.codeIn K cd_law "law" = true)
    (k_law : PySem.W.keepIn K (.ref f_law) = true)
    (z_abs : PySem.W.nsIn K mainGlobals "abs" = some none)
    (z_all : PySem.W.nsIn K mainGlobals "all" = some none)
    (z_bool : PySem.W.nsIn K mainGlobals "bool" = some none)
    (z_dict : PySem.W.nsIn K mainGlobals "dict" = some none)
    (z_int : PySem.W.nsIn K mainGlobals "int" = some none)
    (z_isinstance : PySem.W.nsIn K mainGlobals "isinstance" = some none)
    (z_len : PySem.W.nsIn K mainGlobals "len" = some none)
    (z_list : PySem.W.nsIn K mainGlobals "list" = some none)
    (z_max : PySem.W.nsIn K mainGlobals "max" = some none)
    (z_min : PySem.W.nsIn K mainGlobals "min" = some none)
    (z_range : PySem.W.nsIn K mainGlobals "range" = some none)
    (z_repr : PySem.W.nsIn K mainGlobals "repr" = some none)
    (z_set : PySem.W.nsIn K mainGlobals "set" = some none)
    (z_sorted : PySem.W.nsIn K mainGlobals "sorted" = some none)
    (z_str : PySem.W.nsIn K mainGlobals "str" = some none)
    (z_sum : PySem.W.nsIn K mainGlobals "sum" = some none)
    (z_tuple : PySem.W.nsIn K mainGlobals "tuple" = some none)
    (z_zip : PySem.W.nsIn K mainGlobals "zip" = some none)
    (g_BOX_SIGN : PySem.W.nsIn K mainGlobals "BOX_SIGN" = some (some (.str "b:" t_BOX_SIGN)))
    (g_MOST_SHORT : PySem.W.nsIn K mainGlobals "MOST_SHORT" = some (some (.int 8 t_MOST_SHORT)))
    (g_ROW_SIGN : PySem.W.nsIn K mainGlobals "ROW_SIGN" = some (some (.str "r:" t_ROW_SIGN)))
    (g_TEXT_SIGN : PySem.W.nsIn K mainGlobals "TEXT_SIGN" = some (some (.str "t:" t_TEXT_SIGN))) :
    LawAtG l w K 4 63 "_law_script" mg fa h := by
  have e := hfa.symm.trans (PySem.W.mg_of X G a_law)
  have e : fa = f_law := by injection (Option.some.inj e)
  rw [e]
  have F_box_title := fun_mk (st := s_box_title) l_box_title c_box_title k_box_title
  have b_box_title := F_box_title.binds (ps := ["name"]) fun _ _ _ _ _ _ us hl => match us, hl with | [_], _ => rfl
  have F_row_title := fun_mk (st := s_row_title) l_row_title c_row_title k_row_title
  have b_row_title := F_row_title.binds (ps := ["box", "key"]) fun _ _ _ _ _ _ us hl => match us, hl with | [_, _], _ => rfl
  have F_text_title := fun_mk (st := s_text_title) l_text_title c_text_title k_text_title
  have b_text_title := F_text_title.binds (ps := ["text"]) fun _ _ _ _ _ _ us hl => match us, hl with | [_], _ => rfl
  have F_is_long := fun_mk (st := s_is_long) l_is_long c_is_long k_is_long
  have b_is_long := F_is_long.binds (ps := ["text"]) fun _ _ _ _ _ _ us hl => match us, hl with | [_], _ => rfl
  have F_long_texts := fun_mk (st := s_long_texts) l_long_texts c_long_texts k_long_texts
  have b_long_texts := F_long_texts.binds (ps := ["content"]) fun _ _ _ _ _ _ us hl => match us, hl with | [_], _ => rfl
  have F_titles := fun_mk (st := s_titles) l_titles c_titles k_titles
  have b_titles := F_titles.binds (ps := ["content"]) fun _ _ _ _ _ _ us hl => match us, hl with | [_], _ => rfl
  have F_law_bag := fun_mk (st := s_law_bag) l_law_bag c_law_bag k_law_bag
  have b_law_bag := F_law_bag.binds (ps := ["_law_script", "_law_at"]) fun _ _ _ _ _ _ us hl => match us, hl with | [_, _], _ => rfl
  have F_law_take := fun_mk (st := s_law_take) l_law_take c_law_take k_law_take
  have b_law_take := F_law_take.binds (ps := ["_law_bag_here", "_law_many"]) fun _ _ _ _ _ _ us hl => match us, hl with | [_, _], _ => rfl
  have F_law_name := fun_mk (st := s_law_name) l_law_name c_law_name k_law_name
  have b_law_name := F_law_name.binds (ps := ["_law_bag_here"]) fun _ _ _ _ _ _ us hl => match us, hl with | [_], _ => rfl
  have F_law_words := fun_mk (st := s_law_words) l_law_words c_law_words k_law_words
  have b_law_words := F_law_words.binds (ps := ["_law_bag_here"]) fun _ _ _ _ _ _ us hl => match us, hl with | [_], _ => rfl
  have F_law_cards_in := fun_mk (st := s_law_cards_in) l_law_cards_in c_law_cards_in k_law_cards_in
  have b_law_cards_in := F_law_cards_in.binds (ps := ["_law_held_here"]) fun _ _ _ _ _ _ us hl => match us, hl with | [_], _ => rfl
  have F_law_longs := fun_mk (st := s_law_longs) l_law_longs c_law_longs k_law_longs
  have b_law_longs := F_law_longs.binds (ps := ["_law_held_here"]) fun _ _ _ _ _ _ us hl => match us, hl with | [_], _ => rfl
  have F_law_held := fun_mk (st := s_law_held) l_law_held c_law_held k_law_held
  have b_law_held := F_law_held.binds (ps := ["_law_bag_here", "_law_cap"]) fun _ _ _ _ _ _ us hl => match us, hl with | [_, _], _ => rfl
  have F_law_titles := fun_mk (st := s_law_titles) l_law_titles c_law_titles k_law_titles
  have b_law_titles := F_law_titles.binds (ps := ["_law_held_here"]) fun _ _ _ _ _ _ us hl => match us, hl with | [_], _ => rfl
  have F_law_same := fun_mk (st := s_law_same) l_law_same c_law_same k_law_same
  have b_law_same := F_law_same.binds (ps := ["_law_told", "_law_due"]) fun _ _ _ _ _ _ us hl => match us, hl with | [_, _], _ => rfl
  have F_law_other_order := fun_mk (st := s_law_other_order) l_law_other_order c_law_other_order k_law_other_order
  have b_law_other_order := F_law_other_order.binds (ps := ["_law_bag_here", "_law_held_here"]) fun _ _ _ _ _ _ us hl => match us, hl with | [_, _], _ => rfl
  have F_law := fun_mk (st := s_law) l_law c_law k_law
  have b_law := F_law.binds (ps := ["_law_script"]) fun _ _ _ _ _ _ us hl => match us, hl with | [_], _ => rfl
  have T0 : ∃ T : Txt K mg, T.f_law = f_law ∧ T.fd_law = PySem.W.fnOf "law" "law" (defArgs s_law) (defBody s_law) (defScope s_law) .none kV_law dc_law pm_law an_law cd_law ct_law := ⟨⟨f_box_title, _, F_box_title, PySem.W.mg_of X G a_box_title, b_box_title,
    f_row_title, _, F_row_title, PySem.W.mg_of X G a_row_title, b_row_title,
    f_text_title, _, F_text_title, PySem.W.mg_of X G a_text_title, b_text_title,
    f_is_long, _, F_is_long, PySem.W.mg_of X G a_is_long, b_is_long,
    f_long_texts, _, F_long_texts, PySem.W.mg_of X G a_long_texts, b_long_texts,
    f_titles, _, F_titles, PySem.W.mg_of X G a_titles, b_titles,
    f_law_bag, _, F_law_bag, PySem.W.mg_of X G a_law_bag, b_law_bag,
    f_law_take, _, F_law_take, PySem.W.mg_of X G a_law_take, b_law_take,
    f_law_name, _, F_law_name, PySem.W.mg_of X G a_law_name, b_law_name,
    f_law_words, _, F_law_words, PySem.W.mg_of X G a_law_words, b_law_words,
    f_law_cards_in, _, F_law_cards_in, PySem.W.mg_of X G a_law_cards_in, b_law_cards_in,
    f_law_longs, _, F_law_longs, PySem.W.mg_of X G a_law_longs, b_law_longs,
    f_law_held, _, F_law_held, PySem.W.mg_of X G a_law_held, b_law_held,
    f_law_titles, _, F_law_titles, PySem.W.mg_of X G a_law_titles, b_law_titles,
    f_law_same, _, F_law_same, PySem.W.mg_of X G a_law_same, b_law_same,
    f_law_other_order, _, F_law_other_order, PySem.W.mg_of X G a_law_other_order, b_law_other_order,
    f_law, _, F_law, PySem.W.mg_of X G a_law, b_law,
    PySem.W.mg_none_of X G z_abs,
    PySem.W.mg_none_of X G z_all,
    PySem.W.mg_none_of X G z_bool,
    PySem.W.mg_none_of X G z_dict,
    PySem.W.mg_none_of X G z_int,
    PySem.W.mg_none_of X G z_isinstance,
    PySem.W.mg_none_of X G z_len,
    PySem.W.mg_none_of X G z_list,
    PySem.W.mg_none_of X G z_max,
    PySem.W.mg_none_of X G z_min,
    PySem.W.mg_none_of X G z_range,
    PySem.W.mg_none_of X G z_repr,
    PySem.W.mg_none_of X G z_set,
    PySem.W.mg_none_of X G z_sorted,
    PySem.W.mg_none_of X G z_str,
    PySem.W.mg_none_of X G z_sum,
    PySem.W.mg_none_of X G z_tuple,
    PySem.W.mg_none_of X G z_zip,
    t_BOX_SIGN, PySem.W.mg_of X G g_BOX_SIGN,
    t_MOST_SHORT, PySem.W.mg_of X G g_MOST_SHORT,
    t_ROW_SIGN, PySem.W.mg_of X G g_ROW_SIGN,
    t_TEXT_SIGN, PySem.W.mg_of X G g_TEXT_SIGN⟩, rfl, rfl⟩
  obtain ⟨T, e1, e2⟩ := T0
  letI tI : Tabl := ⟨[]⟩
  have cs2 : ∀ p ∈ ([] : List (Addr × Addr)), PySem.W.CodeHd h p.1 p.2 ∧ h.get? p.2 = some (PySem.W.tabObj #[]) ∧ K.lookup p.2 = none := by
    intro p hp
    exact absurd hp List.not_mem_nil
  refine ⟨PySem.W.fnOf "law" "law" (defArgs s_law) (defBody s_law) (defScope s_law) .none kV_law dc_law pm_law an_law cd_law ct_law, [], sp_law K, fun p hp => (cs2 p hp).2.1, fun p hp => (cs2 p hp).2.2, fun p hp => (cs2 p hp).1, fun s v => .of_eq rfl, fun H a ns hl _ hH hS => ⟨a, ns, rfl, tabs_empty hH ?_, hS, hl, fun _ => rfl⟩, fun base _ _ tB => ?_⟩
  · intro p hp
    change p ∈ [] at hp
    exact absurd hp List.not_mem_nil
  · exact e1 ▸ e2 ▸ ok_law T
theorem walk {l : PySem.W.OpenLaw} {q : Program} {loose : List Str} {XP : (Str → Option Value) → Heap → Prop} {YP : World → Heap → Prop} {d : DefRec} {K : Params → PySem.W.Frag} (hn : l.most = some 63) (hdf : d.params.defaults = [])
    (hY : ∀ (w : World) (h : Heap), YP w h → (K w.params).In h)
    (F : ∀ (w : World) (mg : Str → Option Value) (fa : Addr) (h : Heap), (K w.params).In h → h.Ns mainGlobals mg → mg d.name = some (.ref fa) → YP w h →
      LawAtG l w (K w.params) 4 63 "_law_script" mg fa h) :
    PySem.W.WalkO q loose XP YP l.row.toRowW d [] (fun f vs => PySem.call f vs) := by
  refine Att.attach_callB hn hdf fun w s₀ s₁ mg mb fa o pm cd doc a vs ns G Y ho hd hcd hmg hobj hints hlen hbits hg => ?_
  have KX := hY w _ Y
  obtain ⟨fd, cs, sp, hT, nT, C, hb, hsp, hF⟩ := F w mg fa _ KX G.T.g hmg Y
  exact law_callG KX G.T.g G.T.b G.T.builtins G.T.nolimit hg hT nT C G.T.bmain hobj hints (Nat.le_trans hlen (by decide)) ⟨rfl, by decide, by decide⟩ hF hb (fun H hH hS => hsp H a ns hlen hbits hH hS)
end Tl
open PySem PySem.W PyProof.Rows
set_option maxRecDepth 100000 in
set_option maxHeartbeats 0 in
theorem PySem.Challenge.cw_taleless_k37_titles_of_contents_holds : PySem.Challenge.rw_taleless_k37_titles_of_contents.Holds := by
  w_on; o_law; k_head; (case hw => w_witness2)
  k_fill
  refine Tl.walk (l := PySem.Challenge.rw_taleless_k37_titles_of_contents) rfl rfl (fun w h Y => by first | exact PySem.W.kIn_of Y | exact PySem.W.km_in_of Y) ?F
  case F =>
    intro w mg fa h KX G hmg Y
    refine' Tl.all_mk KX G hmg ?a_box_title ?l_box_title ?c_box_title ?k_box_title ?a_row_title ?l_row_title ?c_row_title ?k_row_title ?a_text_title ?l_text_title ?c_text_title ?k_text_title ?a_is_long ?l_is_long ?c_is_long ?k_is_long ?a_long_texts ?l_long_texts ?c_long_texts ?k_long_texts ?a_titles ?l_titles ?c_titles ?k_titles ?a_law_bag ?l_law_bag ?c_law_bag ?k_law_bag ?a_law_take ?l_law_take ?c_law_take ?k_law_take ?a_law_name ?l_law_name ?c_law_name ?k_law_name ?a_law_words ?l_law_words ?c_law_words ?k_law_words ?a_law_cards_in ?l_law_cards_in ?c_law_cards_in ?k_law_cards_in ?a_law_longs ?l_law_longs ?c_law_longs ?k_law_longs ?a_law_held ?l_law_held ?c_law_held ?k_law_held ?a_law_titles ?l_law_titles ?c_law_titles ?k_law_titles ?a_law_same ?l_law_same ?c_law_same ?k_law_same ?a_law_other_order ?l_law_other_order ?c_law_other_order ?k_law_other_order ?a_law ?l_law ?c_law ?k_law ?z_abs ?z_all ?z_bool ?z_dict ?z_int ?z_isinstance ?z_len ?z_list ?z_max ?z_min ?z_range ?z_repr ?z_set ?z_sorted ?z_str ?z_sum ?z_tuple ?z_zip ?g_BOX_SIGN ?g_MOST_SHORT ?g_ROW_SIGN ?g_TEXT_SIGN
    (case a_box_title => k_is)
    (case l_box_title => k_is)
    (case c_box_title => k_is)
    (case k_box_title => k_is)
    (case a_row_title => k_is)
    (case l_row_title => k_is)
    (case c_row_title => k_is)
    (case k_row_title => k_is)
    (case a_text_title => k_is)
    (case l_text_title => k_is)
    (case c_text_title => k_is)
    (case k_text_title => k_is)
    (case a_is_long => k_is)
    (case l_is_long => k_is)
    (case c_is_long => k_is)
    (case k_is_long => k_is)
    (case a_long_texts => k_is)
    (case l_long_texts => k_is)
    (case c_long_texts => k_is)
    (case k_long_texts => k_is)
    (case a_titles => k_is)
    (case l_titles => k_is)
    (case c_titles => k_is)
    (case k_titles => k_is)
    (case a_law_bag => k_is)
    (case l_law_bag => k_is)
    (case c_law_bag => k_is)
    (case k_law_bag => k_is)
    (case a_law_take => k_is)
    (case l_law_take => k_is)
    (case c_law_take => k_is)
    (case k_law_take => k_is)
    (case a_law_name => k_is)
    (case l_law_name => k_is)
    (case c_law_name => k_is)
    (case k_law_name => k_is)
    (case a_law_words => k_is)
    (case l_law_words => k_is)
    (case c_law_words => k_is)
    (case k_law_words => k_is)
    (case a_law_cards_in => k_is)
    (case l_law_cards_in => k_is)
    (case c_law_cards_in => k_is)
    (case k_law_cards_in => k_is)
    (case a_law_longs => k_is)
    (case l_law_longs => k_is)
    (case c_law_longs => k_is)
    (case k_law_longs => k_is)
    (case a_law_held => k_is)
    (case l_law_held => k_is)
    (case c_law_held => k_is)
    (case k_law_held => k_is)
    (case a_law_titles => k_is)
    (case l_law_titles => k_is)
    (case c_law_titles => k_is)
    (case k_law_titles => k_is)
    (case a_law_same => k_is)
    (case l_law_same => k_is)
    (case c_law_same => k_is)
    (case k_law_same => k_is)
    (case a_law_other_order => k_is)
    (case l_law_other_order => k_is)
    (case c_law_other_order => k_is)
    (case k_law_other_order => k_is)
    (case a_law => k_is)
    (case l_law => k_is)
    (case c_law => k_is)
    (case k_law => k_is)
    (case z_abs => k_is)
    (case z_all => k_is)
    (case z_bool => k_is)
    (case z_dict => k_is)
    (case z_int => k_is)
    (case z_isinstance => k_is)
    (case z_len => k_is)
    (case z_list => k_is)
    (case z_max => k_is)
    (case z_min => k_is)
    (case z_range => k_is)
    (case z_repr => k_is)
    (case z_set => k_is)
    (case z_sorted => k_is)
    (case z_str => k_is)
    (case z_sum => k_is)
    (case z_tuple => k_is)
    (case z_zip => k_is)
    (case g_BOX_SIGN => k_is)
    (case g_MOST_SHORT => k_is)
    (case g_ROW_SIGN => k_is)
    (case g_TEXT_SIGN => k_is)
#print axioms PySem.Challenge.cw_taleless_k37_titles_of_contents_holds
