import PyProof.Rows.All
import Wide.All
import OpenK.AllK
import Wide.FinOn
import HandS.ForMost
import HandS.Defaults
import HandS.IsInst
import HandS.Wide
import HandS.Walk
import HandS.ForExc
import HandS.ExcInit
import HandS.ExcField
import HandS.ExcIs
import HandS.FStr
import KE.KExcInit
import KE.KExcIs
import KE.KExcLine
import KE.RegKIsAll
import KE.RegKTryMore
import PySem.Challenge.RW_taleless_k03_numbers_of_pages
set_option Elab.async false
set_option maxRecDepth 100000
set_option maxHeartbeats 4000000
set_option autoImplicit false
set_option linter.unusedVariables false
namespace Tl
open PySem L2 TL
/-! frames: all that was tracked stays, but what stands at p -/
def Fr (p : Addr) (H H' : Hp) : Prop := ∀ b o, b ≠ p → H b = some o → H' b = some o
theorem Fr.refl {p : Addr} {H : Hp} : Fr p H H := fun _ _ _ e => e
theorem Fr.trans {p : Addr} {H H1 H2 : Hp} (a : Fr p H H1) (b : Fr p H1 H2) : Fr p H H2 := fun c o n e => b c o n (a c o n e)
theorem Fr.new {p q : Addr} {H H1 : Hp} {o : HO} (a : Fr p H H1) (h : H1 q = none) : Fr p H (upd H1 q o) := fun c u n e => by
  have e1 := a c u n e
  rw [upd_ne (ne_of_none e1 h)]
  exact e1
theorem Fr.at {p : Addr} {H H1 : Hp} {o : HO} (a : Fr p H H1) : Fr p H (upd H1 p o) := fun c u n e => by
  rw [upd_ne n]
  exact a c u n e
theorem Fr.of {p : Addr} {H H1 : Hp} (a : Same H H1) : Fr p H H1 := fun c u _ e => a c u e
theorem Fr.seq {K : PySem.W.Frag} {p a : Addr} {H H' : Hp} {xs : List V} (e : Fr p H H') (n : a ≠ p) (h : SqL K H a xs) : SqL K H' a xs := by
  rcases h with (h | ⟨o, h⟩) | h
  · exact .inl (.inl (e _ _ n h))
  · exact .inl (.inr ⟨o, e _ _ n h⟩)
  · exact .inr h
theorem Fr.tup {K : PySem.W.Frag} {p a : Addr} {H H' : Hp} {xs : List V} (e : Fr p H H') (n : a ≠ p) (h : SqT K H a xs) : SqT K H' a xs := by
  rcases h with (h | ⟨o, h⟩) | h
  · exact .inl (.inl (e _ _ n h))
  · exact .inl (.inr ⟨o, e _ _ n h⟩)
  · exact .inr h
theorem Fr.same {p : Addr} {H H1 : Hp} (a : Fr p H H1) (h : H p = none) : Same H H1 := fun b o e => a b o (ne_of_none e h) e
theorem Same.new {q : Addr} {H H1 : Hp} {o : HO} (a : Same H H1) (h : H1 q = none) : Same H (upd H1 q o) := fun c u e => by
  have e1 := a c u e
  rw [upd_ne (ne_of_none e1 h)]
  exact e1
theorem Fr.free {p q : Addr} {H H1 : Hp} (a : Fr p H H1) (h : H1 q = none) (n : q ≠ p) : H q = none := by
  cases e : H q with
  | none => rfl
  | some o =>
    rw [a q o n e] at h
    cases h
/-- an object that H does not know may change -/
theorem Fr.mut {p q : Addr} {H H1 : Hp} {o : HO} (a : Fr p H H1) (h : H q = none) : Fr p H (upd H1 q o) := fun c u n e => by
  rw [upd_ne (ne_of_none e h)]
  exact a c u n e
theorem Same.mut {q : Addr} {H H1 : Hp} {o : HO} (a : Same H H1) (h : H q = none) : Same H (upd H1 q o) := fun c u e => by
  rw [upd_ne (ne_of_none e h)]
  exact a c u e
/-- the law's bag of draws: three ints, at most n draws so far -/
def Bag (H : Hp) (p : Addr) (n : Nat) : Prop := ∃ a b c : Int, H p = some (.lst [.int a, .int b, .int c]) ∧ 0 ≤ a ∧ 0 ≤ b ∧ b < 2 ^ 62 ∧ 0 ≤ c ∧ c ≤ n
theorem Bag.up {H : Hp} {p : Addr} {n m : Nat} (b : Bag H p n) (h : n ≤ m) : Bag H p m := by
  obtain ⟨a, b, c, e, h1, h2, h3, h4, h5⟩ := b
  exact ⟨a, b, c, e, h1, h2, h3, h4, by omega⟩
theorem Bag.tr {H H' : Hp} {p : Addr} {n : Nat} (b : Bag H p n) (s : Same H H') : Bag H' p n := by
  obtain ⟨a, b, c, e, h⟩ := b
  exact ⟨a, b, c, s _ _ e, h⟩
theorem Bag.new {H : Hp} {p q : Addr} {n : Nat} {o : HO} (b : Bag H p n) (h : H q = none) : Bag (upd H q o) p n := b.tr (Same.new (Same.refl H) h)
theorem Bag.mut {H : Hp} {p q : Addr} {n : Nat} {o : HO} (b : Bag H p n) (h : q ≠ p) : Bag (upd H q o) p n := by
  obtain ⟨a, b, c, e, r⟩ := b
  exact ⟨a, b, c, by rw [upd_ne h.symm]; exact e, r⟩
theorem Bag.ne {H : Hp} {p q : Addr} {n : Nat} (b : Bag H p n) (h : H q = none) : q ≠ p := by
  obtain ⟨a, b, c, e, _⟩ := b
  exact (ne_of_none e h).symm
/-! lists by places -/
theorem take_snoc {α : Type} {l : List α} {i : Nat} {x : α} (h : l[i]? = some x) : l.take (i + 1) = l.take i ++ [x] := by
  rw [List.take_add_one, h]
  rfl
theorem fold_snoc {α β : Type} {f : β → α → β} {a : β} {l : List α} {i : Nat} {x : α} (h : l[i]? = some x) : (l.take (i + 1)).foldl f a = f ((l.take i).foldl f a) x := by
  rw [take_snoc h, List.foldl_append]
  rfl
theorem fold_all {α β : Type} {f : β → α → β} {a : β} {l : List α} {i : Nat} (h : i = l.length) : (l.take i).foldl f a = l.foldl f a := by
  rw [h, List.take_length]
/-- a for over a text: Pv by how many signs are gone -/
theorem for_str {z : Str} {j : Nat} {tb : TS} {D : Ends} {σ : St} {H : Hp} (Pv : Nat → St → Hp → Prop) (h0 : Pv 0 σ H)
    (hs : ∀ i c σ H, z.cps.toList[i]? = some c → Pv i σ H → tb { D with nx := Pv (i + 1), ct := Pv (i + 1), bk := D.nx } (σ.set j (some (.str ⟨#[c]⟩))) H) (hd : ∀ σ H, Pv z.cps.toList.length σ H → D.nx σ H) :
    ∃ W : Nat → Nat → St → Hp → Prop, (∃ m, W 0 m σ H) ∧ ∀ i m σ H, W i m σ H →
      ((Its z).stop i H ∧ D.nx σ H) ∨ ((Its z).go i H ∧ ∃ N : St → Hp → Prop, (∀ σ' H', N σ' H' → ∃ m', m' < m ∧ W (i + 1) m' σ' H') ∧ ∀ x H', (Its z).yld i H x H' → (gName j) x σ H' fun σ2 H2 => tb { D with nx := N, ct := N, bk := D.nx } σ2 H2) :=
  for_it walk_str Pv h0 (fun _ _ _ _ _ => True.intro) (fun i x σ H H' hi p y => by
    obtain ⟨rfl, c, hc, rfl⟩ := y
    exact hs i c σ H' (by rw [Array.getElem?_toList]; exact hc) p) (fun σ H p => hd σ H (by rw [Array.length_toList]; exact p))
/-- one sign of a text at a place within -/
theorem sign_at {z : Str} {r : Int} (h0 : 0 ≤ r) (h1 : r < (z.cps.toList.length : Int)) : ∃ c, atI z.cps.toList r = some c ∧ c ∈ z.cps.toList := by
  obtain ⟨j, rfl⟩ : ∃ j : Nat, r = (j : Int) := ⟨r.toNat, by omega⟩
  have hj : j < z.cps.toList.length := by omega
  exact ⟨z.cps.toList[j], atI_nat (List.getElem?_eq_getElem hj), List.getElem_mem hj⟩
/-- a text by its codes -/
def S (cs : List Nat) : Str := ⟨cs.toArray⟩
theorem tl_S (cs : List Nat) : tl (S cs) = cs := rfl
theorem S_tl (z : Str) : S (tl z) = z := ext_tl (tl_S _)
theorem S_inj {a b : List Nat} (h : S a = S b) : a = b := by rw [← tl_S a, ← tl_S b, h]
theorem S_len (cs : List Nat) : (S cs).length = cs.length := by rw [len_tl, tl_S]
theorem S_app (a b : List Nat) : S a ++ S b = S (a ++ b) := ext_tl (by rw [tl_append, tl_S, tl_S, tl_S])
theorem S_one (c : Nat) : (⟨#[c]⟩ : Str) = S [c] := rfl
theorem joinL_nil : ∀ ps : List (List Nat), joinL [] ps = ps.flatten
  | [] => rfl
  | [p] => by simp [joinL]
  | p :: q :: r => by
    show p ++ ([] ++ joinL [] (q :: r)) = _
    rw [joinL_nil (q :: r)]
    simp
theorem join_S (ps : List (List Nat)) : Txt.join (S []) (ps.map S) = S ps.flatten := ext_tl (by
  rw [join_eq, tl_join, tl_S, tl_S, List.map_map]
  rw [show (tl ∘ S) = id from rfl, List.map_id, joinL_nil])
theorem flat_ones : ∀ cs : List Nat, (cs.map fun c => [c]).flatten = cs
  | [] => rfl
  | c :: r => by
    rw [List.map_cons, List.flatten_cons, flat_ones r]
    rfl
theorem join_ones (cs : List Nat) : Txt.join (S []) (cs.map fun c => S [c]) = S cs := by
  have e := join_S (cs.map fun c => [c])
  rw [List.map_map, flat_ones] at e
  exact e
/-- texts of one sign each -/
def ones (cs : List Nat) : List V := (cs.map fun c => S [c]).map V.str
theorem ones_snoc (cs : List Nat) (c : Nat) : ones cs ++ [V.str ⟨#[c]⟩] = ones (cs ++ [c]) := by
  unfold ones
  rw [List.map_append, List.map_append]
  rfl
theorem ones_len (cs : List Nat) : (ones cs).length = cs.length := by
  unfold ones
  rw [List.length_map, List.length_map]
theorem ones_sum (cs : List Nat) (k : Nat) : ((cs.map fun c => S [c]).map (·.length)).sum + (cs.map fun c => S [c]).length * k = cs.length * (k + 1) := by
  rw [List.map_map, List.length_map]
  have e : (List.map ((fun x => x.length) ∘ fun c => S [c]) cs).sum = cs.length := by
    induction cs with
    | nil => rfl
    | cons c r ih => rw [List.map_cons, List.sum_cons, ih, List.length_cons]; show 1 + _ = _; omega
  rw [e, Nat.mul_succ]
  omega
theorem tYes_go {σ : St} {H : Hp} {F G : Hp → Prop} (h : F H) : tYes σ H (fun b H3 => if b = true then F H3 else G H3) := by
  show if true = true then F H else G H
  rw [if_pos rfl]
  exact h
/-- max(1, min(m, len)) -/
theorem mm_b (L : Nat) (m : Int) (h : 1 ≤ m) : 1 ≤ (if (if (L : Int) < m then (L : Int) else m) > 1 then (if (L : Int) < m then (L : Int) else m) else 1) ∧ (if (if (L : Int) < m then (L : Int) else m) > 1 then (if (L : Int) < m then (L : Int) else m) else 1) ≤ m := by
  split
  · split <;> omega
  · omega
theorem mul01 {i : Int} {c : Prop} [Decidable c] : CMul i (if c then 1 else 0) := .inr (by split <;> exact ⟨by decide, by decide⟩)
theorem sz_ {n : Nat} (h : n ≤ 100000 := by decide) : n ≤ sizeLine := Nat.le_trans h (by decide)
theorem sz_lt {n : Nat} (h : n < 100000) : n < sizeLine := Nat.lt_of_lt_of_le h (by decide)
theorem sz3 {a b c : V} : [a, b, c].length ≤ sizeLine := by show 3 ≤ sizeLine; decide
theorem sz2 {a b : V} : [a, b].length ≤ sizeLine := by show 2 ≤ sizeLine; decide
theorem sz1 {a : V} : [a].length ≤ sizeLine := by show 1 ≤ sizeLine; decide
theorem sz4 {a b c d : V} : [a, b, c, d].length ≤ sizeLine := by show 4 ≤ sizeLine; decide
theorem pos_ {n : Int} (h : 0 < n := by decide) : (0 : Int) < n := h
theorem str_empty_app (z : Str) : Str.empty ++ z = z := ext_tl (by rw [tl_append]; rfl)
theorem int_text_room {a : Int} (h : a.natAbs.log2 < 1920) {z : Str} (hz : z.length ≤ 1000) : (Str.ofString (toString a) ++ z).length ≤ sizeLine := by
  have e : (Str.ofString (toString a) ++ z).length = (Str.ofString (toString a)).length + z.length := by rw [len_tl, tl_append, List.length_append, ← len_tl, ← len_tl]
  have e2 := int_text_length_le (k := 1920) (by decide) h
  rw [e, ofString_length, sizeLine_eq]
  omega
section
variable {X : Cx}
def CPowW (i j : Int) : Prop := 0 ≤ j ∧ (Builtin.Int.intBits i : Int) * j ≤ 2 ^ 27
theorem op_powW : OpR X (binaryOp .Pow) (rI CPowW fun i j => .int (i ^ j.toNat)) := opI fun _ _ _ _ _ _ _ hc q => PyProof.Rows.pow_int hc.1 hc.2 q
/-- a text so many times -/
def mulS (x : Str) (n : Int) : Str := if n < 1 then Str.empty else if (n == 1 || x.length == 0) = true then x else ⟨(List.replicate n.toNat x.cps).foldl (· ++ ·) #[]⟩
theorem rep_size (a : Array Nat) : ∀ (m : Nat) (acc : Array Nat), (List.foldl (fun x1 x2 => x1 ++ x2) acc (List.replicate m a)).size = acc.size + m * a.size
  | 0, acc => by simp
  | m + 1, acc => by
    rw [List.replicate_succ, List.foldl_cons, rep_size a m, Array.size_append, Nat.succ_mul]
    omega
theorem mulS_len (x : Str) (n : Int) (h : 0 ≤ n) : (mulS x n).length = x.length * n.toNat := by
  unfold mulS
  split
  · have e : n.toNat = 0 := by omega
    rw [e]
    rfl
  · split
    · rename_i h1 h2
      rcases Bool.or_eq_true _ _ ▸ h2 with h3 | h3
      · have e : n = 1 := by simpa using h3
        subst e
        simp
      · have e : x.length = 0 := by simpa using h3
        rw [e, Nat.zero_mul]
    · show (List.foldl (fun x1 x2 => x1 ++ x2) #[] (List.replicate n.toNat x.cps)).size = _
      rw [rep_size]
      show 0 + n.toNat * x.length = _
      rw [Nat.zero_add, Nat.mul_comm]
theorem op_mul_str : OpR X (binaryOp .Mult) (fun x y H Q => ∃ (i : Str) (n : Int), x = .str i ∧ y = .int n ∧ n < 2 ^ 30 ∧ -(2 ^ 30) < n ∧ i.length * n.toNat ≤ sizeLine ∧ Q (.str (mulS i n)) H) := by
  intro pins s σ H x y v u Q I rx ry h
  obtain ⟨i, n, rfl, rfl, h1, h2, h3, q⟩ := h
  obtain ⟨t, rfl⟩ := rx
  obtain ⟨t', rfl⟩ := ry
  have hs : sizeLine = 16777216 := by decide
  refine PySem.P.mul_str (by
    rw [decide_eq_false (by omega), decide_eq_false (by omega)]
    rfl) (fun a b => ?_) (fun a b => ?_) ?_
  · have e1 : (i.length : Int) * n ≤ 2 ^ 63 - 1 := by
      have e2 : ((i.length * n.toNat : Nat) : Int) = (i.length : Int) * n := by
        rw [Int.natCast_mul, Int.toNat_of_nonneg (by omega)]
      omega
    have e3 : (i.length : Int) ≤ (2 ^ 63 - 1) / n := (Int.le_ediv_iff_mul_le (by omega)).mpr e1
    omega
  · unfold Builtin.Str.tooLong
    exact decide_eq_false (by omega)
  · show Made.post _ _ _
    unfold mulS at q
    by_cases c1 : n < 1
    · rw [if_pos c1] at q ⊢
      exact ⟨by decide, ⟨.str Str.empty, H, I.tok _, ⟨_, rfl⟩, q⟩⟩
    · rw [if_neg c1] at q ⊢
      by_cases c2 : (n == 1 || i.length == 0) = true
      · rw [if_pos c2] at q ⊢
        exact ⟨.str i, H, I, ⟨_, rfl⟩, q⟩
      · rw [if_neg c2] at q ⊢
        exact ⟨by
          show (List.foldl (fun x1 x2 => x1 ++ x2) #[] (List.replicate n.toNat i.cps)).size ≤ sizeLine
          rw [rep_size]
          show 0 + n.toNat * i.length ≤ sizeLine
          rw [Nat.zero_add, Nat.mul_comm]
          exact h3, ⟨.str _, H, I.tok _, ⟨_, rfl⟩, q⟩⟩
end
section
variable {X : Cx} {CX : CXT} {k n : Nat} {f : Addr} {fd : FuncData} {ps ks : List Str} {sp : Sp} {E : XK} {x : Str} {p pos : Pos} {kws : List Keyword} {tk : TA} {g : List Value → List Value → List Value} {gV : List V → List V → List V}
/-- f(k = v, ..), no positional value -/
theorem pe_callN0 (F : FnOk X.prog X.w X.K X.mg X.base CX k f fd ps sp) (hr : Room k X.A) (hg : Gl X x) (hm : X.mg x = some (.ref f)) (hk : PySem.W.keepIn X.K (.ref f) = true) (hb : KBn X.K fd ps 0 ks g gV) (hx : Passes CX X E)
    (hkw : PK X kws tk) (hall : (backToKw pos (keywordEach kws X.env)).all (·.1.isSome) = true := by rfl) (hks : (backToKw pos (keywordEach kws X.env)).filterMap (·.1) = ks := by rfl)
    (hdb : (x == ("__debug__" : Str)) = false := by decide)
    (hpl : ((backTo pos (starEach [] X.env)).any (·.1) || (backToKw pos (keywordEach kws X.env)).any (·.1.isNone)) = false := by rfl) :
    PE X (.Call (.Name x p) [] kws pos) (tCallN 0 ks.length sp gV E tNil tk) := by
  refine ⟨fun pins s σ H Q I h => ?_⟩
  refine wpAny_Call_Name_kw (ld_glob I hg hm ?_ hdb)
  refine PySem.W.callWith_KW0 (h₀ := X.base) I.ok.mod.kin hk hall ?_ hpl
  refine thn (hkw.run pos pins s σ H _ I h) fun ws s2 ⟨zs, H2, I2, rz, l1, l2, q2⟩ => ⟨I2.kIn, ?_⟩
  rw [hks]
  exact run_fnN F hr hb hx I2 .nil rz rfl l2 q2
end
end Tl

namespace Tl
open PySem L2 TL PySem.Spec PyProof.Rows
/-! own exception classes over any built-in base: made by their own __init__, which calls the base's and stores fields -/
structure ExK (K : PySem.W.Frag) (C : Addr) (bmB : List Value) (newId : String) : Prop where
  made : PySem.W.excInitIn K C bmB newId = true
  over : PySem.W.excOver K C bmB = true
  hdct : PySem.W.hasDictIn K C = true
  seta : PySem.W.findIn K (.ref C) "__setattr__" = some (some (.builtin "object.__setattr__"))
  base : PySem.W.subIn K (.ref C) (.type "BaseException") = some true
  tyC : PySem.W.typeIn K (.ref C) = some (.type "type")
  keep : PySem.W.keepIn K (.ref C) = true
section
open PySem.Builtin PySem.Builtin.ObjectAttr
variable {prog : Program} {w : World} {A : Around} {E : Value → Shared → Prop} {R : Result → Shared → Prop} {hp : Heap} {g : Array GenState} {d : Drawn} {t : Nat} {os : OsState} {B : String} {bmB : List Value}
theorem taker_none {K : PySem.W.Frag} {C : Addr} {f : Str} (h : PySem.W.findIn K (.ref C) f = some none) : PySem.W.takerIn K C f = some none := by
  unfold PySem.W.takerIn
  rw [h]
  rfl
/-- the first field: the dict is laid -/
theorem osa_first {K : PySem.W.Frag} {name : Str} {tk : Tok} {v : Value} {x C : Addr} {fv : Array Value} (SF : StoreFacts B bmB "object.__setattr__" "object") (X : K.In hp) (hx : hp.get? x = some { cls := .ref C, data := .fields fv })
    (ov : PySem.W.excOver K C bmB = true) (hh : PySem.W.hasDictIn K C = true) (ha : PySem.W.findIn K (.ref C) name = some none)
    (hq : ∀ h' tk' dx, (∀ b o, b ≠ x → hp.get? b = some o → h'.get? b = some o) → hp.objs.size ≤ dx → dx ≠ x → h'.get? x = some { cls := .ref C, dict := some dx, data := .fields fv } →
      h'.Ns1 dx (fun y => if y = name then some v else none) → R (.ok (.ret .none)) ⟨h', g, d, tk', os⟩) :
    codeAny (model prog w) A (.call (.builtin "object.__setattr__") ⟨[.ref x, .str name tk, v], []⟩) R ⟨hp, g, d, t, os⟩ := by
  have hxs : x ≠ hp.objs.size := Nat.ne_of_lt (Heap.lt_size hx)
  obtain ⟨cd, hc, hd'⟩ := PySem.W.any_some hh
  have hcls : PySem.W.Looks (model prog w) hp (classData C) cd := PySem.W.looks_clsIn X hc
  refine PySem.W.osa_openX (od := none) SF X ⟨hx, rfl, rfl, trivial⟩ ov (taker_none ha) fun b => ?_
  show wpAny _ _ (storeInOwnDict (.ref x) (.ref C) (.str name tk) name v b) _ _ _
  obtain ⟨nm, bs, mro, ns, qn, hd, sn, sb, ab, col, del⟩ := cd
  dsimp only at hd'
  subst hd'
  unfold storeInOwnDict ownDictForStores
  cases b
  all_goals
    repeat (first | with_reducible refine HandSPX.store_in_new ?_ ?_ | with_reducible refine wpAny_loadPart_at hx ?_ | with_reducible refine hcls.at ?_ | wp_step)
    · exact ⟨_, #[], _, (Heap.get?_update_ne _ _ _ _ hxs.symm).trans (Heap.get?_push_at rfl rfl), rfl, fun e he => absurd he (by simp), fun _ => rfl⟩
    · intro h' tk' hn' hs
      have hx1 : (hp.push { cls := .type "dict", data := .dict #[] }).get? x = some { cls := .ref C, data := .fields fv } := Heap.get?_push_of_some _ hx
      refine hq h' tk' hp.objs.size (fun b o hb ho => ?_) (Nat.le_refl _) hxs.symm ?_ hn'
      · exact (hs.2 b (Nat.ne_of_lt (Heap.lt_size ho))).trans ((Heap.get?_update_ne _ _ _ _ hb).trans (Heap.get?_push_of_some _ ho))
      · exact (hs.2 x hxs).trans (Heap.get?_update_self _ hx1 rfl)
/-- a further field -/
theorem osa_later {K : PySem.W.Frag} {name : Str} {tk : Tok} {v : Value} {x C dx : Addr} {fv : Array Value} {m0 : Str → Option Value} {nl : List Str} (SF : StoreFacts B bmB "object.__setattr__" "object")
    (X : K.In hp) (hx : hp.get? x = some { cls := .ref C, dict := some dx, data := .fields fv }) (hns : hp.Ns1 dx m0) (hw : Within m0 nl) (hz : nl.length ≤ 1000) (ov : PySem.W.excOver K C bmB = true) (hh : PySem.W.hasDictIn K C = true)
    (ha : PySem.W.findIn K (.ref C) name = some none)
    (hq : ∀ h' tk', (∀ b o, b ≠ dx → hp.get? b = some o → h'.get? b = some o) → h'.Ns1 dx (fun y => if y = name then some v else m0 y) → R (.ok (.ret .none)) ⟨h', g, d, tk', os⟩) :
    codeAny (model prog w) A (.call (.builtin "object.__setattr__") ⟨[.ref x, .str name tk, v], []⟩) R ⟨hp, g, d, t, os⟩ := by
  obtain ⟨oD, esD, epD, hoD, hdD, _⟩ := hns.count hw
  obtain ⟨cd, hc, hd'⟩ := PySem.W.any_some hh
  have hcls : PySem.W.Looks (model prog w) hp (classData C) cd := PySem.W.looks_clsIn X hc
  refine PySem.W.osa_openX (od := some oD) SF X ⟨hx, rfl, rfl, hoD⟩ ov (taker_none ha) fun b => ?_
  show wpAny _ _ (storeInOwnDict (.ref x) (.ref C) (.str name tk) name v b) _ _ _
  obtain ⟨nm, bs, mro, ns, qn, hd, sn, sb, ab, col, del⟩ := cd
  dsimp only at hd'
  subst hd'
  unfold storeInOwnDict ownDictForStores
  cases b
  all_goals
    repeat (first | with_reducible refine PySem.OEX.store_in_old hns hw hz ?_ | with_reducible refine wpAny_loadPart_at hx ?_ | with_reducible refine hcls.at ?_ | wp_step)
    intro h' tk' hn' hs
    exact hq h' tk' (fun b o hb ho => (hs.2 b hb).trans ho) hn'
end
section
variable {X : Cx} {pins : List (Addr × Obj)} {σ : L2.St} {H : Hp} {s : Shared} {a C dx : Addr} {f : Str} {y : V} {u : Value} {fs : List (Str × V)} {Q : Unit → Shared → Prop} {E : Value → Shared → Prop} {A : Around} {B newId initId : String} {bmB : List Value}
theorem exs_first (SF : StoreFacts B bmB "object.__setattr__" "object") (T : ExK X.K C bmB newId) (I : L2.Inv X pins σ H s) (e : H a = some (exo a C none)) (hno : PySem.W.findIn X.K (.ref C) f = some none) (ry : RelV y u)
    (h : ∀ dx s', H dx = none → dx ≠ a → L2.Inv X pins σ (upd (upd H dx (exd dx [(f, y)])) a (exo a C (some dx))) s' → Q () s') : wpAny (model X.prog X.w) A (setAttr (.ref a) f u) Q E s := by
  obtain ⟨t1, ho⟩ := exo_at I.hok e
  obtain ⟨hp, g, d, t, os⟩ := s
  refine PySem.W.set_plain I.kIn (ox := { cls := .ref C, dict := none, data := .fields #[.ref t1, .none, .none, .none, .bool false, .none] }) (od := none) ⟨ho, rfl, rfl, trivial⟩ T.seta ?_
  refine osa_first SF I.kIn ho T.over T.hdct hno (fun h' tk' dx k dn dne hx hn => ?_)
  have hnd : H dx = none := I.hok.fresh dn
  have nd : ∀ {b : Addr} {o : Obj}, hp.get? b = some o → b ≠ dx := fun {b o} q => Nat.ne_of_lt (Nat.lt_of_lt_of_le (Heap.lt_size q) dn)
  have na : ∀ {b : Addr}, H b = none → b ≠ a := fun {b} n z => by
    rw [z, e] at n
    cases n
  have U1 : Un X.fs [] H (upd (upd H dx (exd dx [(f, y)])) a (exo a C (some dx))) hp h' := {
    keep := fun b o q n _ _ => k b o (na n) q
    slot := fun b o q n _ _ => ⟨o.slots, k b o (na n) q⟩
    free := fun b o q n _ => by rw [upd_ne (na n), upd_ne (nd q)]; exact n
    there := fun b o q _ => by
      by_cases hb : b = a
      · exact ⟨_, by rw [hb]; exact hx⟩
      · exact ⟨o, k b o hb q⟩
    tups := fun b xs q => by rw [upd_ne (at_ne e q exo_tup), upd_ne (ne_of_none q hnd)]; exact q
    frzs := fun b o v q => by rw [upd_ne (at_ne e q exo_frz), upd_ne (ne_of_none q hnd)]; exact q
    tbls := fun b ps q => ⟨#[], by rw [upd_ne (at_ne e q exo_tbl), upd_ne (ne_of_none q hnd), q]; simp⟩ }
  refine h dx _ hnd dne (I.un (t' := tk') U1 fun b o q => ?_)
  by_cases hb : b = a
  · subst hb
    rw [upd_same] at q
    cases q
    exact exo_ok hx
  · rw [upd_ne hb] at q
    by_cases hd : b = dx
    · subst hd
      rw [upd_same] at q
      cases q
      exact exd_ok hn (relO_put (fs := []) ry fun g => True.intro)
    · rw [upd_ne hd] at q
      refine (I.hok b o q).stay (fun c v hc z => k c v ?_ z) (fun c hc => ?_) (fun c xs hc => ?_)
      · rcases hc with hc | hc
        · rw [hc]
          exact hb
        · exact at_ne e hc exo_own
      · rw [upd_ne (at_ne e hc exo_own), upd_ne (ne_of_none hc hnd)]
        exact hc
      · rw [upd_ne (at_ne e hc exo_tup), upd_ne (ne_of_none hc hnd)]
        exact hc
theorem exs_later (SF : StoreFacts B bmB "object.__setattr__" "object") (T : ExK X.K C bmB newId) (I : L2.Inv X pins σ H s) (e : H a = some (exo a C (some dx))) (ed : H dx = some (exd dx fs)) (hl : fs.length ≤ 900) (hno : PySem.W.findIn X.K (.ref C) f = some none) (ry : RelV y u)
    (h : ∀ s', L2.Inv X pins σ (upd H dx (exd dx ((f, y) :: fs))) s' → Q () s') : wpAny (model X.prog X.w) A (setAttr (.ref a) f u) Q E s := by
  obtain ⟨t1, ho⟩ := exo_at I.hok e
  obtain ⟨mA, hns, rel⟩ := exd_at I.hok ed
  have hw := within_of rel
  obtain ⟨hp, g, d, t, os⟩ := s
  obtain ⟨oD, _, _, hoD, _, _⟩ := hns.count hw
  refine PySem.W.set_plain I.kIn (ox := { cls := .ref C, dict := some dx, data := .fields #[.ref t1, .none, .none, .none, .bool false, .none] }) (od := some oD) ⟨ho, rfl, rfl, hoD⟩ T.seta ?_
  refine osa_later SF I.kIn ho hns hw (by rw [List.length_map]; omega) T.over T.hdct hno (fun h' tk' k hn => ?_)
  have hd : ∃ o, h'.get? dx = some o := by
    obtain ⟨o, _, _, e', _⟩ := hn
    exact ⟨o, e'⟩
  exact h _ (I.write (t' := tk') (x := dx) (e := dx) (o := exd dx ((f, y) :: fs)) (by rw [ed]; exact True.intro) (.inl rfl) k hd (exd_ok hn (relO_put ry rel)))
/-- the base's own __init__: nothing of it is told -/
theorem binit_ok {us : List Value} {Q : Value → Shared → Prop} (FB : ExcBaseFacts B newId initId bmB) (T : ExK X.K C bmB newId) (I : L2.Inv X pins σ H s) (e : H a = some (exo a C none)) (hl : us.length ≤ sizeLine) (h : ∀ s', L2.Inv X pins σ H s' → Q .none s') :
    wpAny (model X.prog X.w) A (call (.builtin initId) (.ref a :: us)) Q E s := by
  obtain ⟨nm, N, q, bs, bm, hdct, sn, sub, ab, col, dd, k0, k1, k2, k3, k5, hC, hT⟩ := PySem.W.excInit_of I.kIn T.made
  obtain ⟨t1, ho⟩ := exo_at I.hok e
  obtain ⟨hp, g, d, t, os⟩ := s
  refine wpAny_call (PySem.HandSPX.init_base FB hT hC ho hl fun h' t2 k hx => ?_)
  have J := I.write (t' := t) (x := a) (e := a) (o := exo a C none) (by rw [e]; exact True.intro) (.inl rfl) k ⟨_, hx⟩ (exo_ok hx)
  have eu : upd H a (exo a C none) = H := by
    funext b
    by_cases hb : b = a
    · rw [hb, upd_same, e]
    · rw [upd_ne hb]
  rw [eu] at J
  exact h _ J
end
/-- B.__init__(self, ..) -/
def tBaseI (K : PySem.W.Frag) (bmB : List Value) (newId : String) (ta : TA) : TE := fun σ H Q => ta σ H fun vs H1 => ∃ (a C : Addr) (ws : List V), vs = .ref a :: ws ∧ ws.length ≤ 1000 ∧ ExK K C bmB newId ∧ H1 a = some (exo a C none) ∧ Q .non H1
/-- self.f = e, self an exception that is being made -/
def tExSet (K : PySem.W.Frag) (bmB : List Value) (newId : String) (f : Str) (to te : TE) : TS := fun D σ H => te σ H fun y H1 => to σ H1 fun x H2 => ∃ a C : Addr, x = .ref a ∧ ExK K C bmB newId ∧ PySem.W.findIn K (.ref C) f = some none ∧
  ((H2 a = some (exo a C none) ∧ ∀ dx, H2 dx = none → dx ≠ a → D.nx σ (upd (upd H2 dx (exd dx [(f, y)])) a (exo a C (some dx)))) ∨
    ∃ (dx : Addr) (fs : List (Str × V)), H2 a = some (exo a C (some dx)) ∧ H2 dx = some (exd dx fs) ∧ fs.length ≤ 900 ∧ D.nx σ (upd H2 dx (exd dx ((f, y) :: fs))))
/-- what is left of a made exception: its dict, if it has one; the exception itself is let go -/
def ExEnd (H1 H2 : Hp) (a C : Addr) (Q : XK) : Prop :=
  (∃ (d : Addr) (fs : List (Str × V)), H2 a = some (exo a C (some d)) ∧ H2 d = some (exd d fs) ∧ H1 d = none ∧ Q (.ref C) (some d) (upd (del H2 a) d (.xd fs))) ∨ (H2 a = some (exo a C none) ∧ Q (.ref C) none (del H2 a))
/-- C(e, ..), its own __init__ keeping sp -/
def tExMk (C : Addr) (sp : Sp) (ta : TA) : L2.St → Hp → XK → Prop := fun σ H Q => ta σ H fun vs H1 => vs.length ≤ 1000 ∧ ∀ a, H1 a = none → sp (.ref a :: vs) (upd H1 a (exo a C none)) (fun v H2 => v = .non ∧ ExEnd H1 H2 a C Q) (fun _ _ _ => False)
section
variable {X : Cx} {o e : Expr} {es : List Expr} {to te : TE} {ta : TA} {f : Str} {p p' p1 p2 pos : Pos} {B newId initId : String} {bmB : List Value}
theorem pe_binit {pl : Sem Bool} {bn : Str} (FB : ExcBaseFacts B newId initId bmB) (hg : Gl X bn) (hm : X.mg bn = none) (hbt : bootBuiltins bn = some (.type B)) (ht : typeOf (.type B) = pure (.type "type")) (hsb : Manifest.isStub B = false)
    (vV : PySem.W.findCls X.K (.type B) (.type "type") "__init__" = some (.val (.builtin initId))) (ha : PA X (e :: es) ta) (hnn : bn ≠ "__name__" := by decide) (hdb : (bn == ("__debug__" : Str)) = false := by decide) (hhd : PySem.W.handedIn (.builtin initId) = true := by decide +kernel)
    (hc : eval (.Call (.Attribute (.Name bn p1) "__init__" p2) (e :: es) [] pos) X.env = (do
      let ov ← eval (.Name bn p1) X.env
      standAt p2.atName
      let (f, first) ← holding [ov] (getMethod ov "__init__" pl)
      callWith pos f first (backTo pos (starEach (e :: es) X.env)) (backToKw pos (keywordEach [] X.env))) := by rfl)
    (he : starEach (e :: es) X.env = (false, eval e X.env) :: starEach es X.env := by rfl) (hpl : (backTo pos (starEach es X.env)).any (·.1) = false := by rfl) :
    PE X (.Call (.Attribute (.Name bn p1) "__init__" p2) (e :: es) [] pos) (tBaseI X.K bmB newId ta) := by
  refine ⟨fun pins s σ H Q I h => ?_⟩
  refine PySem.W.methodCall_KW (ld_blt I hg hm hbt ?_ hnn hdb) hc
  obtain ⟨m, fr⟩ := I.fr
  refine PySem.W.method_type fr I.ok.mod.kin ht hsb vV hhd ?_
  show wpAny _ _ (callWith pos (Value.builtin initId) [] (backTo pos (starEach (e :: es) X.env)) []) _ _ _
  refine PyProof.Rows.callWith_method1 (thn (ha.run pos pins _ σ H _ (I.tok _) h) fun us s1 ⟨vs, H1, I1, r1, a, C, ws, ev, hl, T, ea, q⟩ => ?_) he hpl
  subst ev
  cases r1 with
  | @cons _ u0 _ ur ra rw' =>
    obtain rfl : u0 = Value.ref a := ra
    have hlen : ur.length ≤ sizeLine := by
      rw [← Paired.length rw', sizeLine_eq]
      omega
    exact binit_ok FB T I1 ea hlen fun s' J => ⟨.non, H1, J, rfl, q⟩
theorem ps_exset (SF : StoreFacts B bmB "object.__setattr__" "object") (ho : PE X o to) (he : PE X e te) (hs : swapsWith e (some (.Attribute o f p')) pos.line X.env = pure false := by rfl) : PS X (.Assign [.Attribute o f p'] e pos) (tExSet X.K bmB newId f to te) := by
  refine ⟨fun pins s σ H D I h => ?_⟩
  refine plainObj_wpAny_Assign_Attribute (thn (he.run pins s σ H _ I h) fun v s1 ⟨y, H1, I1, r1, q1⟩ => thn (ho.run pins s1 σ H1 _ I1 q1) fun u s2 ⟨x, H2, I2, r2, a, C, ex, T, hno, q⟩ => ?_) hs
  subst ex
  obtain rfl : u = Value.ref a := r2
  rcases q with ⟨ea, q⟩ | ⟨dx, fs, ea, ed, hl, q⟩
  · exact exs_first SF T I2 ea hno r1 fun dx s' n ne J => ⟨σ, _, J, q dx n ne⟩
  · exact exs_later SF T I2 ea ed hl hno r1 fun s' J => ⟨σ, _, J, q⟩
/-- an exception without fields is let go -/
theorem mk_bare {pins : List (Addr × Obj)} {σ : L2.St} {H1 H2 : Hp} {Q : XK} {hp hp2 h2 : Heap} {g1 g2 : Array GenState} {d1 d2 : Drawn} {t1 t2 : Nat} {os1 os2 : OsState} {a C : Addr} (T : Raises X (.ref C)) (I1 : L2.Inv X pins σ H1 ⟨hp, g1, d1, t1, os1⟩)
    (ha : hp.objs.size ≤ a) (k : ∀ b o, hp.get? b = some o → hp2.get? b = some o) (un : Un (frs X.stack) [] (upd H1 a (exo a C none)) H2 hp2 h2) (hok : HOk X.prog X.w H2 h2) (ho : os2 = os1) (hb : AllBare g2)
    (ea : H2 a = some (exo a C none)) (q : Q (.ref C) none (del H2 a)) : MkP X pins σ Q (.ref a) ⟨h2, g2, d2, t2, os2⟩ := by
  obtain ⟨t0, hoe⟩ := exo_at hok ea
  have hn : H1 a = none := I1.hok.fresh ha
  obtain ⟨G, g1', g2'⟩ := restrict h2 fun b => decide (b ≠ a)
  have gk : ∀ b, b ≠ a → G.get? b = h2.get? b := fun b hb => g1' b (decide_eq_true hb)
  have ge : G.get? a = none := g2' a (by simp)
  have nha : ∀ {b : Addr} {o : Obj}, hp.get? b = some o → b ≠ a := fun {b o} z => Nat.ne_of_lt (Nat.lt_of_lt_of_le (Heap.lt_size z) ha)
  have up : ∀ {b : Addr}, b ≠ a → H1 b = none → upd H1 a (exo a C none) b = none := fun {b} hb n => by rw [upd_ne hb]; exact n
  have U : Un (frs X.stack) [] H1 (del H2 a) hp G := {
    keep := fun b o z n hf hx => by
      rw [gk b (nha z)]
      exact un.keep b o (k b o z) (up (nha z) n) hf hx
    slot := fun b o z n hf hx => by
      rw [gk b (nha z)]
      exact un.slot b o (k b o z) (up (nha z) n) hf hx
    free := fun b o z n hx => by
      rw [del_ne (nha z)]
      exact un.free b o (k b o z) (up (nha z) n) hx
    there := fun b o z hx => by
      rw [gk b (nha z)]
      exact un.there b o (k b o z) hx
    tups := fun b xs z => by
      rw [del_ne (ne_of_none z hn)]
      exact un.tups b xs (by rw [upd_ne (ne_of_none z hn)]; exact z)
    frzs := fun b o v z => by
      rw [del_ne (ne_of_none z hn)]
      exact un.frzs b o v (by rw [upd_ne (ne_of_none z hn)]; exact z)
    tbls := fun b ps z => by
      rw [del_ne (ne_of_none z hn)]
      exact un.tbls b ps (by rw [upd_ne (ne_of_none z hn)]; exact z) }
  have hok3 : HOk X.prog X.w (del H2 a) G := fun b o z => by
    have hba : b ≠ a := fun e => by
      rw [e, del_same] at z
      cases z
    rw [del_ne hba] at z
    have noa : ∀ {c : Addr}, H2 c = some (.own b) → c ≠ a := fun {c} hc => at_ne ea hc exo_own
    refine (hok b o z).stay (fun c v hc y => ?_) (fun c hc => ?_) (fun c xs hc => ?_)
    · have hca : c ≠ a := by
        rcases hc with hc | hc
        · rw [hc]
          exact hba
        · exact noa hc
      rw [gk c hca]
      exact y
    · rw [del_ne (noa hc)]
      exact hc
    · rw [del_ne (at_ne ea hc exo_tup)]
      exact hc
  have J : L2.Inv X pins σ (del H2 a) ⟨G, g2, d2, t2, os2⟩ := I1.call' (ch := []) ho U hok3 hb (fun b z => absurd z (by simp))
  refine ⟨a, _, _, ⟨G, g2, d2, t2, os2⟩, _, .ref C, none, rfl, J, fun b o z => ?_, ge, hoe, ⟨rfl, rfl⟩, rfl, rfl, del_same, rfl, hb, T, q⟩
  by_cases hba : b = a
  · have z : G.get? b = some o := z
    rw [hba, ge] at z
    cases z
  · exact (gk b hba).symm.trans z
theorem ex_end {CX : CXT} {C fI : Addr} {k : Nat} {fd : FuncData} {ps : List Str} {sp : Sp} {pins : List (Addr × Obj)} {σ : L2.St} {H1 : Hp} {Q : XK} {s1 : Shared} {us : List Value} {vs : List V} (FB : ExcBaseFacts B newId initId bmB) (T : ExK X.K C bmB newId) (iC : PySem.W.findIn X.K (.ref C) "__init__" = some (some (.ref fI))) (tI : PySem.W.typeIn X.K (.ref fI) = some (.type "function"))
    (F1 : FnOk X.prog X.w X.K X.mg X.base CX k fI fd ps sp) (hr : Room (k + 1) X.A) (hb : Binds X.K fd ps []) (hx : Passes CX X (fun _ _ _ => False)) (I1 : L2.Inv X pins σ H1 s1) (r1 : Vals vs us) (hz : vs.length ≤ 1000)
    (q1 : ∀ a, H1 a = none → sp (.ref a :: vs) (upd H1 a (exo a C none)) (fun v H2 => v = .non ∧ ExEnd H1 H2 a C Q) (fun _ _ _ => False)) :
    wpAny (model X.prog X.w) X.A (call (.ref C) us) (MkP X pins σ Q) X.xe s1 := by
  obtain ⟨nm, N, q, bs, bm, hdct, sn, sub, ab, col, dd, k0, k1, k2, k3, k5, hC, hT⟩ := PySem.W.excInit_of I1.kIn T.made
  obtain ⟨hp, g, dr, tk, os⟩ := s1
  have hsz : hp.objs.size ≤ hp.objs.size + 1 := Nat.le_succ _
  have hn : H1 (hp.objs.size + 1) = none := I1.hok.fresh hsz
  have hq := q1 (hp.objs.size + 1) hn
  have kk : ∀ b o, hp.get? b = some o → ((hp.push (PySem.W.kdv_tup us)).push (PySem.HandSPX.excO C hp.objs.size)).get? b = some o := fun b o e => Heap.get?_push_of_some _ (Heap.get?_push_of_some _ e)
  have hget : ((hp.push (PySem.W.kdv_tup us)).push (PySem.HandSPX.excO C hp.objs.size)).get? (hp.objs.size + 1) = some (PySem.HandSPX.excO C hp.objs.size) := by heap_get
  have I2 : L2.Inv X pins σ (upd H1 (hp.objs.size + 1) (exo (hp.objs.size + 1) C none)) ⟨(hp.push (PySem.W.kdv_tup us)).push (PySem.HandSPX.excO C hp.objs.size), g, dr, tk, os⟩ :=
    I1.laid (t' := tk) (a := hp.objs.size + 1) (o := exo (hp.objs.size + 1) C none) (h' := (hp.push (PySem.W.kdv_tup us)).push (PySem.HandSPX.excO C hp.objs.size)) kk hsz (exo_ok hget)
  have r2 : Vals (V.ref (hp.objs.size + 1) :: vs) (Value.ref (hp.objs.size + 1) :: us) := .cons rfl r1
  have hl : (Value.ref (hp.objs.size + 1) :: us).length = ps.length := by
    rw [← r2.length]
    exact F1.len _ _ _ _ hq
  have hus : us.length ≤ sizeLine := by
    rw [← Paired.length r1, sizeLine_eq]
    omega
  have bd := hb ⟨(hp.push (PySem.W.kdv_tup us)).push (PySem.HandSPX.excO C hp.objs.size), g, dr, tk, os⟩ (Value.ref (hp.objs.size + 1) :: us) I2.kIn (by rw [List.append_nil]; exact hl)
  rw [List.append_nil] at bd
  refine wpAny_call (PySem.HandSPX.call_own FB hT hC (PySem.W.looks_findIn I1.kIn iC) (fun self => PySem.W.bind_fn I1.kIn self tI) hus
    (codeAny_mono (F1.run _ X.stack _ _ ⟨Value.ref (hp.objs.size + 1) :: us, []⟩ (Value.ref (hp.objs.size + 1) :: us) _ _ (fun _ _ _ => False) (hr.make C us []) (I2.env0.make C us []) bd r2 hq) fun r s' hq' => ?_))
  cases r with
  | error er => exact hx pins σ _ _ er s' I2 hq'
  | ok fl =>
    cases fl with
    | ret u =>
      obtain ⟨v, H2, os2, bare2, un2, hok2, rv, ev, hend⟩ := hq'
      subst ev
      obtain ⟨h2, g2, d2, t2, os'⟩ := s'
      refine ⟨rv, ?_⟩
      rcases hend with ⟨d, fs, ea, ed, hd1, q2⟩ | ⟨ea, q2⟩
      · exact mk_end (raises_own T.base T.tyC) I1 hsz kk un2 hok2 os2 bare2 ea ed hd1 q2
      · exact mk_bare (raises_own T.base T.tyC) I1 hsz kk un2 hok2 os2 bare2 ea q2
    | next => exact False.elim hq'
    | brk => exact False.elim hq'
    | cont => exact False.elim hq'
theorem pmk_ex {CX : CXT} {x : Str} {C fI : Addr} {k : Nat} {fd : FuncData} {ps : List Str} {sp : Sp} (FB : ExcBaseFacts B newId initId bmB) (T : ExK X.K C bmB newId) (iC : PySem.W.findIn X.K (.ref C) "__init__" = some (some (.ref fI))) (tI : PySem.W.typeIn X.K (.ref fI) = some (.type "function"))
    (F1 : FnOk X.prog X.w X.K X.mg X.base CX k fI fd ps sp) (hr : Room (k + 1) X.A) (hb : Binds X.K fd ps []) (hx : Passes CX X (fun _ _ _ => False)) (hg : Gl X x) (hm : X.mg x = some (.ref C)) (ha : PA X (e :: es) ta)
    (hdb : (x == ("__debug__" : Str)) = false := by decide) (he : starEach (e :: es) X.env = (false, eval e X.env) :: starEach es X.env := by rfl) (hpl : (backTo pos (starEach es X.env)).any (·.1) = false := by rfl) :
    PMk X (.Call (.Name x p) (e :: es) [] pos) (tExMk C sp ta) := by
  intro pins s σ H Q I h
  refine wpAny_Call_Name_kw (ld_glob I hg hm ?_ hdb)
  refine PySem.W.callWith_K (h₀ := X.base) I.ok.mod.kin T.keep (thn (ha.run pos pins s σ H _ I h) fun us s1 ⟨vs, H1, I1, r1, hz, q1⟩ => ⟨I1.kIn, ?_⟩) he hpl
  exact ex_end FB T iC tI F1 hr hb hx I1 r1 hz q1
end
end Tl
namespace Tl
open PySem L2 TL PySem.Spec PyProof.Rows
/-! isinstance of a caught exception -/
/-- its own dict, where it has one, stands -/
def XdAt (H : Hp) (d : Option Addr) : Prop := d = none ∨ ∃ (dd : Addr) (fs : List (Str × V)), d = some dd ∧ H dd = some (.xd fs)
def rIsX (K : PySem.W.Frag) (D a : Addr) (cls : Value) (d : Option Addr) : List V → Hp → VK → Prop := fun xs H Q => ∃ (c : V) (cv : Value) (b : Bool), cls = .ref D ∧ xs = [.ref a, c] ∧ ClsV c cv ∧ PySem.W.kitOne K (.ref D) cv = some b ∧ XdAt H d ∧ Q (.bl b) H
def rIsXT (K : PySem.W.Frag) (D a : Addr) (cls : Value) (d : Option Addr) : List V → Hp → VK → Prop := fun xs H Q => ∃ (tp : Addr) (cs : List V) (us : List Value) (b : Bool), cls = .ref D ∧ xs = [.ref a, .ref tp] ∧ H tp = some (.tup cs) ∧ Paired ClsV cs us ∧ PySem.W.kitAny K (.ref D) us = some b ∧ XdAt H d ∧ Q (.bl b) H
section
variable {X : Cx} {a D : Addr} {d : Option Addr} {oe : Obj} {pn : List (Addr × Obj)}
theorem inst_of {pins : List (Addr × Obj)} {σ : L2.St} {H : Hp} {s : Shared} (hz : Zc (.ref D) d oe) (hf : ∃ vs, oe.data = .fields vs) (I : L2.Inv (X.suite a ((a, oe) :: pn)) pins σ H s) (hd : XdAt H d) : ∃ od, PySem.W.InstAt s.heap a oe D od := by
  obtain ⟨hget, _⟩ := I.pin (a, oe) (List.mem_append.mpr (.inl List.mem_cons_self))
  obtain ⟨vs, hv⟩ := hf
  have nc : PySem.W.notCls oe = true := by
    unfold PySem.W.notCls
    rw [hv] <;> rfl
  rcases hd with rfl | ⟨dd, fs, rfl, hdd⟩
  · exact ⟨none, hget, hz.1, nc, by rw [hz.2]; trivial⟩
  · have hx : ObjOk X.prog X.w H s.heap dd (.xd fs) := I.hok dd _ hdd
    obtain ⟨mA, hns, _⟩ := hx
    obtain ⟨od, ho, _⟩ := lookIn_ns hns
    exact ⟨some od, hget, hz.1, nc, by rw [hz.2]; exact ho⟩
theorem call_isX {cls : Value} (C : ExcC X.K D) (hz : Zc cls d oe) (hf : ∃ vs, oe.data = .fields vs) : CallR (X.suite a ((a, oe) :: pn)) (.builtin "isinstance") (rIsX X.K D a cls d) := by
  intro pins s σ H xs us Q I r h
  obtain ⟨c, cv, b, rfl, rfl, hcv, e, hd, q⟩ := h
  obtain ⟨u1, u2, rfl, r1, r2⟩ := vals2 r
  cases (show u1 = Value.ref a from r1)
  have e2 := hcv.eq r2
  subst e2
  obtain ⟨od, J⟩ := inst_of hz hf I hd
  have hcl : (PySem.W.clsIn X.K D).isSome = true := by
    obtain ⟨cd, hc, _⟩ := PySem.W.any_some C.hd
    rw [hc]
    rfl
  exact PySem.W.kia_one (PySem.W.kitx_exc hcl C.hg C.hk C.hs C.ha C.hn C.ht C.hm) I.kIn J e (fun z => nomatch z) fun tk => ⟨.bl b, H, I.kept (t' := tk) fun _ _ z => z, rfl, q⟩
theorem call_isXT {cls : Value} (C : ExcC X.K D) (hz : Zc cls d oe) (hf : ∃ vs, oe.data = .fields vs) : CallR (X.suite a ((a, oe) :: pn)) (.builtin "isinstance") (rIsXT X.K D a cls d) := by
  intro pins s σ H xs us Q I r h
  obtain ⟨tp, cs, ws, b, rfl, rfl, hT, k, e, hd, q⟩ := h
  obtain ⟨u1, u2, rfl, r1, r2⟩ := vals2 r
  cases (show u1 = Value.ref a from r1)
  cases (show u2 = Value.ref tp from r2)
  obtain ⟨od, J⟩ := inst_of hz hf I hd
  have hcl : (PySem.W.clsIn X.K D).isSome = true := by
    obtain ⟨cd, hc, _⟩ := PySem.W.any_some C.hd
    rw [hc]
    rfl
  obtain ⟨_, its, rv, o, h1, h2, n, h3⟩ := (show ObjOk X.prog X.w H s.heap tp (.tup cs) from I.hok tp _ hT)
  have e3 := ClsV.all k rv
  subst e3
  obtain ⟨oc, od2, dt, sl⟩ := o
  simp only at h2 h3
  subst h2 h3
  exact PySem.W.kia_tup (PySem.W.kitx_exc hcl C.hg C.hk C.hs C.ha C.hn C.ht C.hm) I.kIn J h1 e (fun z => nomatch z) fun tk => ⟨.bl b, H, I.kept (t' := tk) fun _ _ z => z, rfl, q⟩
end
/-- behind a made and let go exception all that stood stands -/
theorem ex_same {H : Hp} {a dx : Addr} {o1 o2 o3 o4 : HO} (ha : H a = none) (hd : H dx = none) : Same H (upd (del (upd (upd (upd H a o1) dx o2) a o3) a) dx o4) := fun b o e => by
  have n1 := ne_of_none e ha
  have n2 := ne_of_none e hd
  rw [upd_ne n2, del_ne n1, upd_ne n1, upd_ne n2, upd_ne n1]
  exact e
/-- a class with one field, stored behind the base's __init__ -/
def spEx1 (C : Addr) (f : Str) (ok : V → Prop) : Sp := fun vs H Q _ => ∃ (a : Addr) (v : V), vs = [.ref a, v] ∧ ok v ∧ H a = some (exo a C none) ∧
  ∀ dx, H dx = none → dx ≠ a → Q .non (upd (upd H dx (exd dx [(f, v)])) a (exo a C (some dx)))
/-- raise C(v): what is wished of the error -/
theorem ex1_go {C : Addr} {f : Str} {ok : V → Prop} {H : Hp} {v : V} {Q : XK} (hok : ok v) (k : ∀ d H', Same H H' → H d = none → H' d = some (.xd [(f, v)]) → Q (.ref C) (some d) H') :
    [v].length ≤ 1000 ∧ ∀ a, H a = none → spEx1 C f ok (.ref a :: [v]) (upd H a (exo a C none)) (fun v H2 => v = .non ∧ ExEnd H H2 a C Q) (fun _ _ _ => False) := by
  refine ⟨by show 1 ≤ 1000; decide, fun a ha => ⟨a, v, rfl, hok, upd_same, fun dx hdx ne => ⟨rfl, .inl ⟨dx, [(f, v)], upd_same, ?_, ?_, ?_⟩⟩⟩⟩
  · rw [upd_ne ne, upd_same]
  · rw [upd_ne ne] at hdx
    exact hdx
  · rw [upd_ne ne] at hdx
    exact k dx _ (ex_same ha hdx) hdx upd_same
theorem log_of {i : Int} {b : Nat} (h : i.natAbs < 2 ^ b) (h0 : 0 < b) (h9 : b ≤ 1920) : i.natAbs.log2 < 1920 := Nat.lt_of_lt_of_le (PySem.Flt.log2_lt_of h0 h) h9
end Tl

namespace Tl
open PySem L2 TL
def top (i : Nat) : Stmt := PySem.Challenge.pw_taleless_k03_numbers_of_pages.main.body.getD i (.Pass ⟨0, 0, 0, 0⟩)
abbrev s_Full____init__ : Stmt := inClass (top 1) 0
theorem sc_Full____init__ : FnScope ["self", "cards"] ["self", "cards"] (defScope s_Full____init__) := ⟨rfl, rfl, rfl, by decide +kernel, rfl, by decide +kernel, by decide +kernel⟩
abbrev s_NoTitle____init__ : Stmt := inClass (top 2) 0
theorem sc_NoTitle____init__ : FnScope ["self", "title"] ["self", "title"] (defScope s_NoTitle____init__) := ⟨rfl, rfl, rfl, by decide +kernel, rfl, by decide +kernel, by decide +kernel⟩
abbrev s_Cut____init__ : Stmt := inClass (top 3) 0
theorem sc_Cut____init__ : FnScope ["self"] ["self"] (defScope s_Cut____init__) := ⟨rfl, rfl, rfl, by decide +kernel, rfl, by decide +kernel, by decide +kernel⟩
abbrev s_Down____init__ : Stmt := inClass (top 4) 0
theorem sc_Down____init__ : FnScope ["self"] ["self"] (defScope s_Down____init__) := ⟨rfl, rfl, rfl, by decide +kernel, rfl, by decide +kernel, by decide +kernel⟩
abbrev s_Crowded____init__ : Stmt := inClass (top 5) 0
theorem sc_Crowded____init__ : FnScope ["self", "most"] ["self", "most"] (defScope s_Crowded____init__) := ⟨rfl, rfl, rfl, by decide +kernel, rfl, by decide +kernel, by decide +kernel⟩
abbrev s_is_room : Stmt := top 8
theorem sc_is_room : FnScope ["pages", "cards"] ["pages", "cards"] (defScope s_is_room) := ⟨rfl, rfl, rfl, by decide +kernel, rfl, by decide +kernel, by decide +kernel⟩
abbrev s_pages_for : Stmt := top 9
theorem sc_pages_for : FnScope ["cards", "pages"] ["cards"] (defScope s_pages_for) := ⟨rfl, rfl, rfl, by decide +kernel, rfl, by decide +kernel, by decide +kernel⟩
abbrev s_law_bag : Stmt := top 11
theorem sc_law_bag : FnScope ["_law_script", "_law_at", "_law_cell"] ["_law_script", "_law_at"] (defScope s_law_bag) := ⟨rfl, rfl, rfl, by decide +kernel, rfl, by decide +kernel, by decide +kernel⟩
abbrev s_law_take : Stmt := top 12
theorem sc_law_take : FnScope ["_law_bag_here", "_law_many", "_law_digit", "_law_primes", "_law_step", "_law_base", "_law_mixed", "_law_more"] ["_law_bag_here", "_law_many"] (defScope s_law_take) := ⟨rfl, rfl, rfl, by decide +kernel, rfl, by decide +kernel, by decide +kernel⟩
abbrev s_law_pages : Stmt := top 13
theorem sc_law_pages : FnScope ["_law_many", "_law_sheets"] ["_law_many"] (defScope s_law_pages) := ⟨rfl, rfl, rfl, by decide +kernel, rfl, by decide +kernel, by decide +kernel⟩
abbrev s_law_whole : Stmt := top 14
theorem sc_law_whole : FnScope ["_law_odd_one"] ["_law_odd_one"] (defScope s_law_whole) := ⟨rfl, rfl, rfl, by decide +kernel, rfl, by decide +kernel, by decide +kernel⟩
abbrev s_law_full : Stmt := top 15
theorem sc_law_full : FnScope ["_law_many", "e", "_law_others"] ["_law_many"] (defScope s_law_full) := ⟨rfl, rfl, rfl, by decide +kernel, rfl, by decide +kernel, by decide +kernel⟩
abbrev s_law : Stmt := top 16
theorem sc_law : FnScope ["_law_script", "_law_many", "_law_told", "_law_at", "_law_bag_here"] ["_law_script"] (defScope s_law) := ⟨rfl, rfl, rfl, by decide +kernel, rfl, by decide +kernel, by decide +kernel⟩
def kg_kb_pages_for_0_cards {α : Type} : List α → List α → List α
  | [], [ws0] => [ws0]
  | _, _ => []
theorem kg_rel_kb_pages_for_0_cards {vs : List V} {us : List Value} {zs : List V} {ws : List Value} (r1 : Vals vs us) (r2 : Vals zs ws) : Vals (kg_kb_pages_for_0_cards vs zs) (kg_kb_pages_for_0_cards us ws) := by
  match r1, r2 with
  | .nil, .cons ws0 (.nil) => exact .cons ws0 (.nil)
  | .nil, .nil => exact .nil
  | .nil, .cons ws0 (.cons ws1 (ws_)) => exact .nil
  | .cons us0 (us_), .nil => exact .nil
  | .cons us0 (us_), .cons ws0 (.nil) => exact .nil
  | .cons us0 (us_), .cons ws0 (.cons ws1 (ws_)) => exact .nil
structure Txt (K : PySem.W.Frag) (mg : Str → Option Value) where
  f_Full____init__ : Addr
  fd_Full____init__ : FuncData
  F_Full____init__ : Fun K "__init__" "Full.__init__" s_Full____init__ f_Full____init__ fd_Full____init__
  b_Full____init__ : Binds K fd_Full____init__ ["self", "cards"] []
  f_NoTitle____init__ : Addr
  fd_NoTitle____init__ : FuncData
  F_NoTitle____init__ : Fun K "__init__" "NoTitle.__init__" s_NoTitle____init__ f_NoTitle____init__ fd_NoTitle____init__
  b_NoTitle____init__ : Binds K fd_NoTitle____init__ ["self", "title"] []
  f_Cut____init__ : Addr
  fd_Cut____init__ : FuncData
  F_Cut____init__ : Fun K "__init__" "Cut.__init__" s_Cut____init__ f_Cut____init__ fd_Cut____init__
  b_Cut____init__ : Binds K fd_Cut____init__ ["self"] []
  f_Down____init__ : Addr
  fd_Down____init__ : FuncData
  F_Down____init__ : Fun K "__init__" "Down.__init__" s_Down____init__ f_Down____init__ fd_Down____init__
  b_Down____init__ : Binds K fd_Down____init__ ["self"] []
  f_Crowded____init__ : Addr
  fd_Crowded____init__ : FuncData
  F_Crowded____init__ : Fun K "__init__" "Crowded.__init__" s_Crowded____init__ f_Crowded____init__ fd_Crowded____init__
  b_Crowded____init__ : Binds K fd_Crowded____init__ ["self", "most"] []
  f_is_room : Addr
  fd_is_room : FuncData
  F_is_room : Fun K "is_room" "is_room" s_is_room f_is_room fd_is_room
  m_is_room : mg "is_room" = some (.ref f_is_room)
  b_is_room : Binds K fd_is_room ["pages", "cards"] []
  f_pages_for : Addr
  fd_pages_for : FuncData
  F_pages_for : Fun K "pages_for" "pages_for" s_pages_for f_pages_for fd_pages_for
  m_pages_for : mg "pages_for" = some (.ref f_pages_for)
  b_pages_for : Binds K fd_pages_for ["cards"] []
  f_law_bag : Addr
  fd_law_bag : FuncData
  F_law_bag : Fun K "_law_bag" "_law_bag" s_law_bag f_law_bag fd_law_bag
  m_law_bag : mg "_law_bag" = some (.ref f_law_bag)
  b_law_bag : Binds K fd_law_bag ["_law_script", "_law_at"] []
  f_law_take : Addr
  fd_law_take : FuncData
  F_law_take : Fun K "_law_take" "_law_take" s_law_take f_law_take fd_law_take
  m_law_take : mg "_law_take" = some (.ref f_law_take)
  b_law_take : Binds K fd_law_take ["_law_bag_here", "_law_many"] []
  f_law_pages : Addr
  fd_law_pages : FuncData
  F_law_pages : Fun K "_law_pages" "_law_pages" s_law_pages f_law_pages fd_law_pages
  m_law_pages : mg "_law_pages" = some (.ref f_law_pages)
  b_law_pages : Binds K fd_law_pages ["_law_many"] []
  f_law_whole : Addr
  fd_law_whole : FuncData
  F_law_whole : Fun K "_law_whole" "_law_whole" s_law_whole f_law_whole fd_law_whole
  m_law_whole : mg "_law_whole" = some (.ref f_law_whole)
  b_law_whole : Binds K fd_law_whole ["_law_odd_one"] []
  f_law_full : Addr
  fd_law_full : FuncData
  F_law_full : Fun K "_law_full" "_law_full" s_law_full f_law_full fd_law_full
  m_law_full : mg "_law_full" = some (.ref f_law_full)
  b_law_full : Binds K fd_law_full ["_law_many"] []
  f_law : Addr
  fd_law : FuncData
  F_law : Fun K "law" "law" s_law f_law fd_law
  m_law : mg "law" = some (.ref f_law)
  b_law : Binds K fd_law ["_law_script"] []
  C_Full : Addr
  m_Full : mg "Full" = some (.ref C_Full)
  x_Full : ExK K C_Full [.type "OverflowError", .type "ArithmeticError", .type "Exception", .type "BaseException", .type "object"] "OverflowError.__new__"
  i_Full : PySem.W.findIn K (.ref C_Full) "__init__" = some (some (.ref f_Full____init__))
  ti_Full : PySem.W.typeIn K (.ref f_Full____init__) = some (.type "function")
  xf_Full : XfC K C_Full
  ec_Full : ExcC K C_Full
  n_Full_cards : PySem.W.findIn K (.ref C_Full) "cards" = some none
  C_NoTitle : Addr
  m_NoTitle : mg "NoTitle" = some (.ref C_NoTitle)
  x_NoTitle : ExK K C_NoTitle [.type "LookupError", .type "Exception", .type "BaseException", .type "object"] "LookupError.__new__"
  i_NoTitle : PySem.W.findIn K (.ref C_NoTitle) "__init__" = some (some (.ref f_NoTitle____init__))
  ti_NoTitle : PySem.W.typeIn K (.ref f_NoTitle____init__) = some (.type "function")
  xf_NoTitle : XfC K C_NoTitle
  ec_NoTitle : ExcC K C_NoTitle
  n_NoTitle_title : PySem.W.findIn K (.ref C_NoTitle) "title" = some none
  C_Cut : Addr
  m_Cut : mg "Cut" = some (.ref C_Cut)
  x_Cut : ExK K C_Cut [.type "RuntimeError", .type "Exception", .type "BaseException", .type "object"] "RuntimeError.__new__"
  i_Cut : PySem.W.findIn K (.ref C_Cut) "__init__" = some (some (.ref f_Cut____init__))
  ti_Cut : PySem.W.typeIn K (.ref f_Cut____init__) = some (.type "function")
  xf_Cut : XfC K C_Cut
  ec_Cut : ExcC K C_Cut
  C_Down : Addr
  m_Down : mg "Down" = some (.ref C_Down)
  x_Down : ExK K C_Down [.type "RuntimeError", .type "Exception", .type "BaseException", .type "object"] "RuntimeError.__new__"
  i_Down : PySem.W.findIn K (.ref C_Down) "__init__" = some (some (.ref f_Down____init__))
  ti_Down : PySem.W.typeIn K (.ref f_Down____init__) = some (.type "function")
  xf_Down : XfC K C_Down
  ec_Down : ExcC K C_Down
  C_Crowded : Addr
  m_Crowded : mg "Crowded" = some (.ref C_Crowded)
  x_Crowded : ExK K C_Crowded [.type "OverflowError", .type "ArithmeticError", .type "Exception", .type "BaseException", .type "object"] "OverflowError.__new__"
  i_Crowded : PySem.W.findIn K (.ref C_Crowded) "__init__" = some (some (.ref f_Crowded____init__))
  ti_Crowded : PySem.W.typeIn K (.ref f_Crowded____init__) = some (.type "function")
  xf_Crowded : XfC K C_Crowded
  ec_Crowded : ExcC K C_Crowded
  n_Crowded_most : PySem.W.findIn K (.ref C_Crowded) "most" = some none
  vi_LookupError : PySem.W.findCls K (.type "LookupError") (.type "type") "__init__" = some (.val (.builtin "LookupError.__init__"))
  vi_OverflowError : PySem.W.findCls K (.type "OverflowError") (.type "type") "__init__" = some (.val (.builtin "OverflowError.__init__"))
  vi_RuntimeError : PySem.W.findCls K (.type "RuntimeError") (.type "type") "__init__" = some (.val (.builtin "RuntimeError.__init__"))
  exm_Full : PySem.W.exmOne K (.ref C_Full) (.ref C_Full) = some true
  ka_Full : PySem.W.kitAny K (.ref C_Full) [.ref C_Crowded, .ref C_Cut, .ref C_Down, .ref C_NoTitle] = some false
  ko_Full : PySem.W.kitOne K (.ref C_Full) (.type "OverflowError") = some true
  kb_pages_for_0_cards : KBn K fd_pages_for ["cards"] 0 ["cards"] (kg_kb_pages_for_0_cards (α := Value)) (kg_kb_pages_for_0_cards (α := V))
  z_LookupError : mg "LookupError" = none
  z_OverflowError : mg "OverflowError" = none
  z_RuntimeError : mg "RuntimeError" = none
  z_abs : mg "abs" = none
  z_bool : mg "bool" = none
  z_int : mg "int" = none
  z_isinstance : mg "isinstance" = none
  z_len : mg "len" = none
  z_max : mg "max" = none
  z_min : mg "min" = none
  z_range : mg "range" = none
  a_PAGES : Addr
  g_PAGES : mg "PAGES" = some (.ref a_PAGES)
  p_PAGES : ∀ H, SqT K H a_PAGES [.int 4, .int 8, .int 16, .int 32, .int 64, .int 128]
section
variable {P : Program} {w : World} {K : PySem.W.Frag} {mg : Str → Option Value} {base : Heap}
/-! pages -/
def pagesL : List Int := [4, 8, 16, 32, 64, 128]
/-- how many pages so many cards have -/
def pagesOf (c : Int) : Option Int := pagesL.find? fun p => decide (4 * c ≤ 3 * p)
theorem pages_snoc {c p : Int} {i : Nat} (h : pagesL[i]? = some p) (e : (pagesL.take i).find? (fun p => decide (4 * c ≤ 3 * p)) = none) : (decide (4 * c ≤ 3 * p) = true → pagesOf c = some p) ∧ (decide (4 * c ≤ 3 * p) = false → (pagesL.take (i + 1)).find? (fun p => decide (4 * c ≤ 3 * p)) = none) := by
  constructor
  · intro hp
    have e2 : pagesOf c = (pagesL.take i ++ pagesL.drop i).find? fun p => decide (4 * c ≤ 3 * p) := by rw [List.take_append_drop]; rfl
    rw [e2, List.find?_append, e]
    have e3 : pagesL.drop i = p :: pagesL.drop (i + 1) := by
      obtain ⟨hl, rfl⟩ := List.getElem?_eq_some_iff.mp h
      exact List.drop_eq_getElem_cons hl
    rw [e3, List.find?_cons, hp]
    rfl
  · intro hp
    rw [take_snoc h, List.find?_append, e, List.find?_cons, hp]
    rfl
/-! Full.__init__ -/
theorem ok_Full____init__ (T : Txt K mg) : FnOk P w K mg base CX0 1 T.f_Full____init__ T.fd_Full____init__ ["self", "cards"] (spEx1 T.C_Full "cards" fun v => ∃ i, v = .int i ∧ i.natAbs.log2 < 1920) := by
  refine T.F_Full____init__.ok sc_Full____init__ (fun vs H Q E h => ?_) (fun cdv A outer s H vs Q E hr h => ?_)
  · obtain ⟨a, v, rfl, _⟩ := h
    rfl
  · obtain ⟨a, v, rfl, ⟨i, rfl, hi⟩, ha, k⟩ := h
    refine ⟨_, (pss_cons (ps_expr (pe_binit PySem.F.excBase_OverflowError (by rfl) T.z_OverflowError (by decide +kernel) (by kernel_rfl) (by decide +kernel) T.vi_OverflowError (pa_cons (pv 0) (pa_cons (pe_joined (PJ.cons (pe_fmt (pv 1)) (PJ.cons pe_str PJ.nil))) pa_nil))))
      (pss_one (ps_exset (newId := "OverflowError.__new__") PySem.F.store_OverflowError (pv 0) (pv 1)))), ?_⟩
    have hz := int_text_fits hi
    refine ⟨_, rfl, _, rfl, .inr ⟨i, rfl, hi, _, rfl, ?_, _, rfl, ?_, a, T.C_Full, _, rfl, by show 1 ≤ 1000; decide, T.x_Full, ha, ?_⟩⟩
    · rw [str_empty_app]
      exact hz
    · rw [str_empty_app]
      exact int_text_room hi (by decide)
    · exact ⟨_, rfl, _, rfl, a, T.C_Full, rfl, T.x_Full, T.n_Full_cards, .inl ⟨ha, fun dx hdx ne => k dx hdx ne⟩⟩
/-! is_room -/
def sp_is_room : Sp := fun vs H Q _ => ∃ p c : Int, vs = [.int p, .int c] ∧ Q (.bl (decide (4 * c ≤ 3 * p))) H
theorem ok_is_room (T : Txt K mg) : FnOk P w K mg base CX0 1 T.f_is_room T.fd_is_room ["pages", "cards"] sp_is_room := by
  refine T.F_is_room.ok sc_is_room (fun vs H Q E h => ?_) (fun cdv A outer s H vs Q E hr h => ?_)
  · obtain ⟨p, c, rfl, _⟩ := h
    rfl
  · obtain ⟨p, c, rfl, k⟩ := h
    refine ⟨_, (pss_one (ps_ret (pe_cmpR op_ge (pe_op op_mul pe_int (pv 0)) (pe_op op_mul pe_int (pv 1)) (nomark _)))), ?_⟩
    exact ⟨_, rfl, _, _, rfl, rfl, .inl ⟨by decide, by decide⟩, _, rfl, _, _, rfl, rfl, .inl ⟨by decide, by decide⟩, _, _, rfl, rfl, k⟩
/-! _law_bag -/
def sp_law_bag (K : PySem.W.Frag) : Sp := fun vs H Q _ => ∃ (a : Addr) (ns : List Int) (i : Int), vs = [.ref a, .int i] ∧ SqL K H a (ns.map V.int) ∧ 0 ≤ i ∧ i ≤ 63 ∧
  ∀ (p : Addr) (H' : Hp), H p = none → Bag H' p 0 → Same H H' → Q (.ref p) H'
theorem atI_ints {ns : List Int} {i : Int} (h0 : 0 ≤ i) (h1 : i < (ns.length : Int)) : ∃ z, atI (ns.map V.int) i = some (.int z) ∧ z ∈ ns := by
  obtain ⟨j, rfl⟩ : ∃ j : Nat, i = (j : Int) := ⟨i.toNat, by omega⟩
  have hj : j < ns.length := by omega
  refine ⟨ns[j], atI_nat ?_, List.getElem_mem hj⟩
  rw [List.getElem?_map, List.getElem?_eq_getElem hj]
  rfl
theorem ok_law_bag (T : Txt K mg) : FnOk P w K mg base CX0 1 T.f_law_bag T.fd_law_bag ["_law_script", "_law_at"] (sp_law_bag K) := by
  refine T.F_law_bag.ok sc_law_bag (fun vs H Q E h => ?_) (fun cdv A outer s H vs Q E hr h => ?_)
  · obtain ⟨a, ns, i, rfl, _⟩ := h
    rfl
  · obtain ⟨a, ns, i, rfl, hS, hi0, hi1, k⟩ := h
    refine ⟨_, (pss_cons (ps_set (i := 2) sc_law_bag.nd rfl (Or.inl rfl) pe_int)
      (pss_cons (ps_if (pt_cmpR op_lt (pv 1) (pe_callB call_len_seq (by rfl) T.z_len (by decide +kernel) (pa_cons (pv 0) pa_nil)) (nomark _))
        (pss_one (ps_set (i := 2) sc_law_bag.nd rfl (Or.inl rfl) (pe_callB call_abs (by rfl) T.z_abs (by decide +kernel) (pa_cons (pe_ix ix_list (pv 0) (pv 1) (fun _ _ => rfl)) pa_nil))))
        pss_nil)
      (pss_one (ps_ret (pe_lst (pa_cons (pe_op op_mul (pv 2) (pe_callTy call_int1 (by rfl) T.z_int (by decide +kernel) (pa_cons (pe_cmpR op_ge (pv 2) (pe_op op_powW pe_int pe_int) (nomark _)) pa_nil))) (pa_cons (pe_op op_add (pe_op op_add (pe_op op_add (pe_op op_mod (pv 2) pe_int) (pe_op op_mul (pe_op op_mul pe_int (pv 1)) (pv 1))) (pe_op op_mul pe_int (pv 1))) pe_int) (pa_cons pe_int pa_nil)))))))), ?_⟩
    have fin : ∀ cell : Int, 0 ≤ cell → ∀ p, H p = none → Q (.ref p) (upd H p (.lst [.int (cell * (if decide (10 ^ 18 ≤ cell) = true then 1 else 0)), .int (cell % 2305843009213693951 + 8191 * i * i + 131 * i + 5), .int 0])) := fun cell hc p hp => by
      have m0 := Int.emod_nonneg cell (show (2305843009213693951 : Int) ≠ 0 by decide)
      have m1 := Int.emod_lt_of_pos cell (show (0 : Int) < 2305843009213693951 by decide)
      have e1 : 8191 * i * i ≤ 8191 * 63 * 63 := Int.mul_le_mul (by omega) hi1 hi0 (by omega)
      have e2 : 0 ≤ 8191 * i * i := Int.mul_nonneg (by omega) hi0
      refine k p _ hp ⟨_, _, _, upd_same, ?_, by omega, by omega, by decide, by decide⟩ (Same.new (Same.refl H) hp)
      split <;> omega
    refine ⟨_, rfl, _, rfl, a, _, rfl, .inl hS, _, _, rfl, rfl, _, rfl, ?_⟩
    refine ite2 (fun h0 => ?_) (fun h0 => ?_)
    · have h0 : i < ((ns.map V.int).length : Int) := of_decide_eq_true h0
      rw [List.length_map] at h0
      obtain ⟨z, ez, _⟩ := atI_ints hi0 h0
      refine ⟨_, rfl, _, rfl, a, _, _, _, rfl, rfl, hS, ez, _, rfl, ?_⟩
      refine ⟨_, rfl, _, rfl, _, _, rfl, rfl, ⟨by decide, by decide +kernel⟩, _, _, rfl, rfl, .inr ⟨_, rfl, _, _, rfl, rfl, mul01, ?_⟩⟩
      refine ⟨_, rfl, _, _, rfl, rfl, (by show (0 : Int) < 2305843009213693951; decide), _, rfl, _, _, rfl, rfl, .inl ⟨by decide, by decide⟩, _, rfl, _, _, rfl, rfl, .inr ⟨by omega, by omega⟩, _, _, rfl, rfl, _, rfl, _, _, rfl, rfl, .inl ⟨by decide, by decide⟩, _, _, rfl, rfl, _, _, rfl, rfl, sz3, fun p hp => ?_⟩
      exact fin _ (by split <;> omega) p hp
    · refine ⟨_, rfl, _, rfl, _, _, rfl, rfl, ⟨by decide, by decide +kernel⟩, _, _, rfl, rfl, .inr ⟨_, rfl, _, _, rfl, rfl, mul01, ?_⟩⟩
      refine ⟨_, rfl, _, _, rfl, rfl, (by show (0 : Int) < 2305843009213693951; decide), _, rfl, _, _, rfl, rfl, .inl ⟨by decide, by decide⟩, _, rfl, _, _, rfl, rfl, .inr ⟨by omega, by omega⟩, _, _, rfl, rfl, _, rfl, _, _, rfl, rfl, .inl ⟨by decide, by decide⟩, _, _, rfl, rfl, _, _, rfl, rfl, sz3, fun p hp => ?_⟩
      exact fin 0 (by decide) p hp
/-! _law_take -/
def sp_law_take : Sp := fun vs H Q _ => ∃ (p : Addr) (n : Nat) (many : Int), vs = [.ref p, .int many] ∧ Bag H p n ∧ n < 2 ^ 40 ∧ 0 < many ∧ many < 2 ^ 128 ∧
  ∀ (r : Int) (H' : Hp), 0 ≤ r → r < many → Bag H' p (n + 1) → Fr p H H' → Q (.int r) H'
theorem take_pow {b c : Int} (h1 : 0 ≤ b) (h2 : b < 2 ^ 62) (h3 : 0 ≤ c) (h4 : c ≤ 2 ^ 40) : CPowW (b * (2 * c + 1) + 5003 * c * c + 97) 3 := by
  refine ⟨by decide, ?_⟩
  have e1 : b * (2 * c + 1) ≤ 2 ^ 62 * (2 * c + 1) := Int.mul_le_mul_of_nonneg_right (by omega) (by omega)
  have e2 : 5003 * c * c ≤ 5003 * 2 ^ 40 * 2 ^ 40 := Int.mul_le_mul (by omega) (by omega) (by omega) (by omega)
  have e3 : 0 ≤ b * (2 * c + 1) := Int.mul_nonneg h1 (by omega)
  have e4 : 0 ≤ 5003 * c * c := Int.mul_nonneg (by omega) h3
  have e5 : (b * (2 * c + 1) + 5003 * c * c + 97).natAbs < 2 ^ 120 := by omega
  have e6 : Builtin.Int.intBits (b * (2 * c + 1) + 5003 * c * c + 97) ≤ 120 := PyProof.Rows.intBits_le e5
  omega
theorem ok_law_take (T : Txt K mg) : FnOk P w K mg base CX0 1 T.f_law_take T.fd_law_take ["_law_bag_here", "_law_many"] sp_law_take := by
  refine T.F_law_take.ok sc_law_take (fun vs H Q E h => ?_) (fun cdv A outer s H vs Q E hr h => ?_)
  · obtain ⟨p, n, many, rfl, _⟩ := h
    rfl
  · obtain ⟨p, n, many, rfl, bg, hn, hm0, hm1, k⟩ := h
    obtain ⟨a, b, c, hp, ha, hb0, hb1, hc0, hc1⟩ := bg
    refine ⟨_, (pss_cons (ps_if (pt_cmpR op_gt (pe_ix ix_list (pv 0) pe_int (fun _ _ => rfl)) pe_int (nomark _))
        (pss_cons (ps_set (i := 2) sc_law_take.nd rfl (Or.inl rfl) (pe_op op_mod (pe_ix ix_list (pv 0) pe_int (fun _ _ => rfl)) (pv 1)))
        (pss_cons (ps_asg (pe_op op_fdivW (pe_ix ix_list (pv 0) pe_int (fun _ _ => rfl)) (pv 1)) (pg_sub (pv 0) pe_int set_list))
        (pss_one (ps_ret (pv 2)))))
        pss_nil)
      (pss_cons (ps_set (i := 3) sc_law_take.nd rfl (Or.inl rfl) (pe_tup (pa_cons pe_int (pa_cons pe_int (pa_cons pe_int (pa_cons pe_int (pa_cons pe_int (pa_cons pe_int (pa_cons pe_int pa_nil)))))))))
      (pss_cons (ps_asg (pe_op op_add (pe_ix ix_list (pv 0) pe_int (fun _ _ => rfl)) pe_int) (pg_sub (pv 0) pe_int set_list))
      (pss_cons (ps_set (i := 4) sc_law_take.nd rfl (Or.inl rfl) (pe_ix ix_list (pv 0) pe_int (fun _ _ => rfl)))
      (pss_cons (ps_set (i := 5) sc_law_take.nd rfl (Or.inl rfl) (pe_op op_add (pe_op op_add (pe_op op_mul (pe_ix ix_list (pv 0) pe_int (fun _ _ => rfl)) (pe_op op_add (pe_op op_mul pe_int (pv 4)) pe_int)) (pe_op op_mul (pe_op op_mul pe_int (pv 4)) (pv 4))) pe_int))
      (pss_cons (ps_set (i := 6) sc_law_take.nd rfl (Or.inl rfl) (pe_op op_mod (pe_op op_powW (pv 5) pe_int) (pe_ix ix_tup (pv 3) (pe_op op_mod (pv 4) pe_int) (fun _ _ => rfl))))
      (pss_cons (ps_set (i := 7) sc_law_take.nd rfl (Or.inl rfl) (pe_op op_add (pe_op op_add (pe_op op_fdiv (pv 6) pe_int) (pe_op op_mul pe_int (pv 4))) pe_int))
      (pss_one (ps_ret (pe_op op_mod (pe_op op_fdiv (pe_op op_mod (pe_op op_mul (pv 6) (pv 7)) (pe_ix ix_tup (pv 3) (pe_op op_mod (pe_op op_add (pv 4) pe_int) pe_int) (fun _ _ => rfl))) pe_int) (pv 1))))))))))), ?_⟩
    refine ⟨_, rfl, p, _, _, _, rfl, rfl, SqL.of hp, rfl, _, _, rfl, rfl, _, rfl, ?_⟩
    refine ite2 (fun h0 => ?_) (fun h0 => ?_)
    · have h0 : 0 < a := of_decide_eq_true h0
      refine ⟨_, rfl, p, _, _, _, rfl, rfl, SqL.of hp, rfl, _, rfl, _, _, rfl, rfl, hm0, ?_⟩
      refine ⟨_, rfl, p, _, _, _, rfl, rfl, SqL.of hp, rfl, _, rfl, _, _, rfl, rfl, wide_div hm0 (b := 128) (by omega) (by decide) (by decide), _, rfl, p, _, _, 0, rfl, rfl, hp, rfl, ?_⟩
      refine ⟨_, rfl, ?_⟩
      exact k _ _ (Int.emod_nonneg _ (by omega)) (Int.emod_lt_of_pos _ hm0) ⟨a / many, b, c, upd_same, Int.ediv_nonneg ha (by omega), hb0, hb1, hc0, by omega⟩ Fr.refl.at
    · refine ⟨by decide, fun q hq => ?_⟩
      have nqp : p ≠ q := ne_of_none hp hq
      have hp1 : upd H q (.tup [.int 2147483647, .int 2147483629, .int 2147483587, .int 2147483579, .int 2147483563, .int 2147483549, .int 2147483543]) p = some (.lst [.int a, .int b, .int c]) := by rw [upd_ne nqp]; exact hp
      refine ⟨_, rfl, p, _, _, _, rfl, rfl, SqL.of hp1, rfl, _, _, rfl, rfl, _, rfl, p, _, _, 2, rfl, rfl, hp1, rfl, ?_⟩
      have hp2 : upd (upd H q (.tup [.int 2147483647, .int 2147483629, .int 2147483587, .int 2147483579, .int 2147483563, .int 2147483549, .int 2147483543])) p (.lst [.int a, .int b, .int (c + 1)]) p = some (.lst [.int a, .int b, .int (c + 1)]) := upd_same
      have hq2 : upd (upd H q (.tup [.int 2147483647, .int 2147483629, .int 2147483587, .int 2147483579, .int 2147483563, .int 2147483549, .int 2147483543])) p (.lst [.int a, .int b, .int (c + 1)]) q = some (.tup [.int 2147483647, .int 2147483629, .int 2147483587, .int 2147483579, .int 2147483563, .int 2147483549, .int 2147483543]) := by rw [upd_ne nqp.symm, upd_same]
      have pr : ∀ i : Int, ∃ m : Int, atI [V.int 2147483647, .int 2147483629, .int 2147483587, .int 2147483579, .int 2147483563, .int 2147483549, .int 2147483543] (i % 7) = some (.int m) ∧ 0 < m ∧ m < 2 ^ 31 := fun i => by
        have h1 := Int.emod_nonneg i (show (7 : Int) ≠ 0 by decide)
        have h2 := Int.emod_lt_of_pos i (show (0 : Int) < 7 by decide)
        obtain ⟨j, e⟩ : ∃ j : Nat, i % 7 = (j : Int) := ⟨(i % 7).toNat, by omega⟩
        rw [e] at h2 ⊢
        match j, h2 with
        | 0, _ => exact ⟨_, rfl, by decide, by decide⟩
        | 1, _ => exact ⟨_, rfl, by decide, by decide⟩
        | 2, _ => exact ⟨_, rfl, by decide, by decide⟩
        | 3, _ => exact ⟨_, rfl, by decide, by decide⟩
        | 4, _ => exact ⟨_, rfl, by decide, by decide⟩
        | 5, _ => exact ⟨_, rfl, by decide, by decide⟩
        | 6, _ => exact ⟨_, rfl, by decide, by decide⟩
      obtain ⟨m1, em1, hm10, hm11⟩ := pr (c + 1)
      obtain ⟨m2, em2, hm20, hm21⟩ := pr (c + 1 + 2)
      refine ⟨_, rfl, p, _, _, _, rfl, rfl, SqL.of hp2, rfl, ?_⟩
      refine ⟨_, rfl, p, _, _, _, rfl, rfl, SqL.of hp2, rfl, _, rfl, _, _, rfl, rfl, .inl ⟨by decide, by decide⟩, _, _, rfl, rfl, _, _, rfl, rfl, .inl ⟨by omega, by omega⟩, ?_⟩
      refine ⟨_, rfl, _, _, rfl, rfl, .inl ⟨by decide, by decide⟩, _, rfl, _, _, rfl, rfl, .inr ⟨by omega, by omega⟩, _, _, rfl, rfl, _, _, rfl, rfl, ?_⟩
      refine ⟨_, rfl, _, _, rfl, rfl, take_pow hb0 hb1 (by omega) (by omega), _, rfl, _, rfl, _, _, rfl, rfl, (by show (0 : Int) < 7; decide), q, _, _, _, rfl, rfl, SqT.of hq2, em1, _, _, rfl, rfl, hm10, ?_⟩
      have v1 := Int.emod_nonneg ((b * (2 * (c + 1) + 1) + 5003 * (c + 1) * (c + 1) + 97) ^ Int.toNat 3) (show m1 ≠ 0 by omega)
      have v2 := Int.emod_lt_of_pos ((b * (2 * (c + 1) + 1) + 5003 * (c + 1) * (c + 1) + 97) ^ Int.toNat 3) hm10
      refine ⟨_, rfl, _, _, rfl, rfl, ⟨by decide, by decide⟩, _, rfl, _, _, rfl, rfl, .inl ⟨by decide, by decide⟩, _, _, rfl, rfl, _, _, rfl, rfl, ?_⟩
      refine ⟨_, rfl, _, rfl, _, _, rfl, rfl, .inl ⟨by omega, by omega⟩, _, rfl, _, rfl, _, _, rfl, rfl, _, _, rfl, rfl, (by show (0 : Int) < 7; decide), q, _, _, _, rfl, rfl, SqT.of hq2, em2, _, _, rfl, rfl, hm20, _, _, rfl, rfl, ⟨by decide, by decide⟩, _, rfl, _, _, rfl, rfl, hm0, ?_⟩
      exact k _ _ (Int.emod_nonneg _ (by omega)) (Int.emod_lt_of_pos _ hm0) ⟨a, b, c + 1, hp2, ha, hb0, hb1, by omega, by omega⟩ (Fr.at (Fr.new Fr.refl hq))
/-! _law_pages -/
def sp_law_pages : Sp := fun vs H Q _ => ∃ c p : Int, vs = [.int c] ∧ pagesOf c = some p ∧ ∀ H', Same H H' → Q (.int p) H'
theorem filter_head {α : Type} {f : α → Bool} : ∀ {l : List α} {x : α}, l.find? f = some x → ∃ r, l.filter f = x :: r
  | [], _, h => nomatch h
  | a :: l, x, h => by
    rw [List.find?_cons] at h
    cases e : f a with
    | true =>
      rw [e] at h
      have h : a = x := Option.some.inj h
      exact ⟨l.filter f, by rw [List.filter_cons, if_pos e, h]⟩
    | false =>
      rw [e] at h
      obtain ⟨r, hr⟩ := filter_head h
      exact ⟨r, by rw [List.filter_cons, if_neg (by rw [e]; decide), hr]⟩
theorem ok_law_pages (T : Txt K mg) : FnOk P w K mg base CX0 1 T.f_law_pages T.fd_law_pages ["_law_many"] sp_law_pages := by
  refine T.F_law_pages.ok sc_law_pages (fun vs H Q E h => ?_) (fun cdv A outer s H vs Q E hr h => ?_)
  · obtain ⟨c, p, rfl, _⟩ := h
    rfl
  · obtain ⟨c, p, rfl, hp, k⟩ := h
    refine ⟨_, (pss_one (ps_ret (pe_ix ix_list (pe_lc (own := [("_law_sheets", 1)]) (g := gName 1) (by rfl) sc_law_pages.nd (pi_tup (pe_tup (pa_cons pe_int (pa_cons pe_int (pa_cons pe_int (pa_cons pe_int (pa_cons pe_int (pa_cons pe_int pa_nil)))))))) (blkOk_by (own := [("_law_sheets", 1)]) (N := ["_law_many", "_law_sheets"]) (sc := defScope s_law_pages) (by decide +kernel)) (fun _ _ _ _ _ => (pg_name (i := 1) sc_law_pages.nd rfl (Or.inl rfl))) (fun _ _ _ _ _ => (pts_one (pt_cmpR op_ge (pe_op op_mul pe_int (pv 1)) (pe_op op_mul pe_int (pv 0)) (nomark _)))) (fun _ _ _ _ _ => (pv 1))) pe_int (fun _ _ => rfl)))), ?_⟩
    refine ⟨by show 6 ≤ sizeLine; decide, fun t ht => ⟨t, rfl, ⟨_, SqT.of upd_same⟩, fun D hD => ?_⟩⟩
    have nDt : D ≠ t := (ne_of_none upd_same hD).symm
    have hD0 : H D = none := by rw [upd_ne nDt] at hD; exact hD
    refine lc_tup (K := K) (a := t) (xs := pagesL.map V.int) (fun i H2 => H2 D = some (.lst (((pagesL.take i).filter fun p => decide (4 * c ≤ 3 * p)).map V.int)) ∧ H2 t = some (.tup (pagesL.map V.int)) ∧ Same H H2)
      ⟨upd_same, by rw [upd_ne nDt.symm, upd_same]; rfl, Same.new (Same.new (Same.refl H) ht) hD⟩ (fun i H2 _ ⟨_, h, _⟩ => SqT.of h) ?_ ?_
    · rintro i x H2 hx ⟨h1, h2, h3⟩
      have hi : i < (pagesL.map V.int).length := (List.getElem?_eq_some_iff.mp hx).1
      rw [List.getElem?_map] at hx
      obtain ⟨p, hp, rfl⟩ := Option.map_eq_some_iff.mp hx
      refine ⟨rfl, _, rfl, _, _, rfl, rfl, .inl ⟨by decide, by decide⟩, _, rfl, _, _, rfl, rfl, .inl ⟨by decide, by decide⟩, _, _, rfl, rfl, _, rfl, ite2 (fun h => ?_) (fun h => ?_)⟩
      · refine ⟨_, rfl, _, h1, sz_lt ?_, ?_, ?_, ?_⟩
        · rw [List.length_map]
          have l1 := List.length_filter_le (fun p => decide (4 * c ≤ 3 * p)) (pagesL.take i)
          have l2 : (pagesL.take i).length ≤ i := by rw [List.length_take]; omega
          have l3 : (pagesL.map V.int).length = 6 := rfl
          omega
        · rw [upd_same, take_snoc hp, List.filter_append, List.filter_cons, if_pos h, List.map_append]
          rfl
        · rw [upd_ne nDt.symm]
          exact h2
        · exact Same.mut h3 hD0
      · refine ⟨?_, h2, h3⟩
        rw [h1, take_snoc hp, List.filter_append, List.filter_cons, if_neg h]
        simp
    · rintro H2 ⟨h1, h2, h3⟩
      rw [show pagesL.take (pagesL.map V.int).length = pagesL from rfl] at h1
      obtain ⟨r, hr⟩ := filter_head hp
      rw [hr] at h1
      exact ⟨D, _, _, _, rfl, rfl, SqL.of h1, at_of (j := 0) rfl rfl, k H2 h3⟩
/-! _law_whole -/
/-- whether a thing is a whole number: an int does, a bool, None, a text, a list, a tuple don't -/
def sp_law_whole : Sp := fun vs H Q _ => ∃ x : V, vs = [x] ∧ ((∃ i, x = .int i ∧ Q (.bl true) H) ∨ (∃ b, x = .bl b ∧ Q (.bl false) H) ∨ (x = .non ∧ Q (.bl false) H) ∨ (∃ z, x = .str z ∧ Q (.bl false) H))
theorem ok_law_whole (T : Txt K mg) : FnOk P w K mg base CX0 1 T.f_law_whole T.fd_law_whole ["_law_odd_one"] sp_law_whole := by
  refine T.F_law_whole.ok sc_law_whole (fun vs H Q E h => ?_) (fun cdv A outer s H vs Q E hr h => ?_)
  · obtain ⟨x, rfl, _⟩ := h
    rfl
  · obtain ⟨x, rfl, h⟩ := h
    refine ⟨_, (pss_one (ps_ret (pe_and (pe_callB call_isi (by rfl) T.z_isinstance (by decide +kernel) (pa_cons (pv 0) (pa_cons (pe_bltn (v := .ty "int") (u := .type "int") (by rfl) T.z_int (by decide +kernel) rfl) pa_nil))) (pe_one (pe_not (pe_callB call_isi (by rfl) T.z_isinstance (by decide +kernel) (pa_cons (pv 0) (pa_cons (pe_bltn (v := .ty "bool") (u := .type "bool") (by rfl) T.z_bool (by decide +kernel) rfl) pa_nil)))))))), ?_⟩
    rcases h with ⟨i, rfl, k⟩ | ⟨b, rfl, k⟩ | ⟨rfl, k⟩ | ⟨z, rfl, k⟩
    · refine ⟨_, rfl, _, _, _, _, true, rfl, .ty "int", .base (.int _), kit_ty (by decide +kernel), _, rfl, iteT ?_⟩
      exact ⟨_, rfl, _, _, _, _, false, rfl, .ty "bool", .base (.int _), kit_ty (by decide +kernel), _, rfl, k⟩
    · refine ⟨_, rfl, _, _, _, _, true, rfl, .ty "int", .base (.bl _), kit_ty (by decide +kernel), _, rfl, iteT ?_⟩
      exact ⟨_, rfl, _, _, _, _, true, rfl, .ty "bool", .base (.bl _), kit_ty (by decide +kernel), _, rfl, k⟩
    · exact ⟨_, rfl, _, _, _, _, false, rfl, .ty "int", .base .non, kit_ty (by decide +kernel), _, rfl, iteF k⟩
    · exact ⟨_, rfl, _, _, _, _, false, rfl, .ty "int", .base (.str _), kit_ty (by decide +kernel), _, rfl, iteF k⟩
/-! pages_for -/
def sp_pages_for (C : Addr) : Sp := fun vs H Q E => ∃ c : Int, vs = [.int c] ∧ c.natAbs.log2 < 1920 ∧ (∀ p, pagesOf c = some p → Q (.int p) H) ∧
  (pagesOf c = none → ∀ d H', Same H H' → H d = none → H' d = some (.xd [("cards", .int c)]) → E (.ref C) (some d) H')
theorem ok_pages_for (T : Txt K mg) : FnOk P w K mg base (L2.CX P w) 3 T.f_pages_for T.fd_pages_for ["cards"] (sp_pages_for T.C_Full) := by
  refine T.F_pages_for.okX sc_pages_for (fun vs H Q E h => ?_) (fun cdv A outer s H vs Q E hr h => ?_)
  · obtain ⟨c, rfl, _⟩ := h
    rfl
  · obtain ⟨c, rfl, hc, k1, k2⟩ := h
    refine ⟨_, (pss_cons (ps_for (passes_of rfl) (by rfl) (pi_tup (pe_glob (v := .ref T.a_PAGES) (by rfl) T.g_PAGES rfl)) (pg_name (i := 1) sc_pages_for.nd rfl (Or.inl rfl))
        (pss_one (ps_if (pt_val (pe_call (ok_is_room T) (hr.mono (by decide)) (by rfl) T.m_is_room T.F_is_room.kp T.b_is_room .nil pass0 (pa_cons (pv 1) (pa_cons (pv 0) pa_nil))))
          (pss_one (ps_ret (pv 1)))
          pss_nil)))
      (pss_one (ps_raise (by rfl) (takes_of rfl rfl rfl rfl) (pmk_ex PySem.F.excBase_OverflowError T.x_Full T.i_Full T.ti_Full (ok_Full____init__ T) (hr.mono (by decide)) T.b_Full____init__ pass0 (by rfl) T.m_Full (pa_cons (pv 0) pa_nil))))), ?_⟩
    refine ⟨_, rfl, ⟨_, T.p_PAGES H⟩, for_tup (K := K) (a := T.a_PAGES) (xs := pagesL.map V.int) (fun i σ H2 => ∃ v, σ = [some (.int c), v] ∧ H2 = H ∧ (pagesL.take i).find? (fun p => decide (4 * c ≤ 3 * p)) = none)
      ⟨none, rfl, rfl, rfl⟩ (fun i σ H2 _ _ => T.p_PAGES H2) ?_ ?_⟩
    · rintro i x σ H2 hx ⟨v, rfl, rfl, e⟩
      rw [List.getElem?_map] at hx
      obtain ⟨p, hp, rfl⟩ := Option.map_eq_some_iff.mp hx
      have ps := pages_snoc hp e
      refine ⟨_, rfl, _, rfl, _, _, rfl, _, rfl, ite2 (fun h => ?_) (fun h => ?_)⟩
      · exact ⟨_, rfl, k1 p (ps.1 h)⟩
      · exact ⟨_, rfl, rfl, ps.2 (Bool.eq_false_iff.mpr h)⟩
    · rintro σ H2 ⟨v, rfl, rfl, e⟩
      refine ⟨_, rfl, ?_⟩
      exact ex1_go ⟨c, rfl, hc⟩ (k2 e)
/-! _law_full -/
def sp_law_full : Sp := fun vs H Q _ => ∃ c : Int, vs = [.int c] ∧ c.natAbs.log2 < 1920 ∧ (∀ p, pagesOf c = some p → Q (.int p) H) ∧
  (pagesOf c = none → ∀ t H', Same H H' → H t = none → H' t = some (.tup [.str "Full", .int c, .bl true]) → Q (.ref t) H')
theorem ok_law_full (T : Txt K mg) : FnOk P w K mg base CX0 4 T.f_law_full T.fd_law_full ["_law_many"] sp_law_full := by
  refine T.F_law_full.ok sc_law_full (fun vs H Q E h => ?_) (fun cdv A outer s H vs Q E hr h => ?_)
  · obtain ⟨c, rfl, _⟩ := h
    rfl
  · obtain ⟨c, rfl, hc, k1, k2⟩ := h
    refine ⟨_, (pss_one (ps_try_as (i := 1) rfl rfl sc_law_full.nd rfl rfl ⟨rfl, by decide, .inl T.m_Full⟩ takes0
        (fun W pn xe tk po => (pss_one (ps_ret (pe_callS (ok_pages_for T) (hr.mono (by decide)) (by rfl) T.m_pages_for T.F_pages_for.kp T.b_pages_for (fun σ => passAt tk σ) (pa_cons (pv 0) pa_nil)))))
        (fun a oe cls d pn hz hf => (pss_cons (ps_set (i := 2) sc_law_full.nd rfl (Or.inl rfl) (pe_callB (call_isXT T.ec_Full hz hf) (by rfl) T.z_isinstance (by decide +kernel) (pa_cons (pv 1) (pa_cons (pe_tup (pa_cons (pe_glob (v := .ref T.C_Crowded) (by rfl) T.m_Crowded rfl) (pa_cons (pe_glob (v := .ref T.C_Cut) (by rfl) T.m_Cut rfl) (pa_cons (pe_glob (v := .ref T.C_Down) (by rfl) T.m_Down rfl) (pa_cons (pe_glob (v := .ref T.C_NoTitle) (by rfl) T.m_NoTitle rfl) pa_nil))))) pa_nil))))
        (pss_one (ps_ret (pe_tup (pa_cons pe_str (pa_cons (pe_xf T.xf_Full T.n_Full_cards hz hf (pv 1)) (pa_cons (pe_and (pe_callB (call_isX T.ec_Full hz hf) (by rfl) T.z_isinstance (by decide +kernel) (pa_cons (pv 1) (pa_cons (pe_bltn (v := .ty "OverflowError") (u := .type "OverflowError") (by rfl) T.z_OverflowError (by decide +kernel) rfl) pa_nil))) (pe_one (pe_not (pv 2)))) pa_nil)))))))))), ?_⟩
    refine ⟨_, rfl, c, rfl, hc, k1, fun e d H' s1 nd hd => ?_⟩
    refine ⟨true, T.exm_Full, fun _ a ha => ?_, fun q => nomatch q⟩
    refine ⟨_, rfl, sz4, fun q hq => ?_⟩
    have ndq : d ≠ q := ne_of_none hd hq
    have hd1 : upd H' q (.tup [.ref T.C_Crowded, .ref T.C_Cut, .ref T.C_Down, .ref T.C_NoTitle]) d = some (.xd [("cards", .int c)]) := by rw [upd_ne ndq]; exact hd
    refine ⟨q, _, _, false, rfl, rfl, upd_same, .cons (.own _) (.cons (.own _) (.cons (.own _) (.cons (.own _) .nil))), T.ka_Full, .inr ⟨d, _, rfl, hd1⟩, ?_⟩
    refine ⟨_, rfl, rfl, rfl, d, _, _, rfl, hd1, rfl, _, rfl, _, _, true, rfl, rfl, .ty _, T.ko_Full, .inr ⟨d, _, rfl, hd1⟩, _, rfl, iteT ⟨_, rfl, _, rfl, sz3, fun t ht => ?_⟩⟩
    have s2 : Same H (upd (upd H' q (.tup [.ref T.C_Crowded, .ref T.C_Cut, .ref T.C_Down, .ref T.C_NoTitle])) t (.tup [.str "Full", .int c, .bl true])) := Same.new (Same.new s1 hq) ht
    refine k2 e t _ s2 ?_ upd_same
    exact (Same.new s1 hq).free ht
/-! law -/
theorem pages_small (c : Int) (h : 0 ≤ c) (h2 : c ≤ 96) : ∃ p, pagesOf c = some p := by
  cases e : pagesOf c with
  | some p => exact ⟨p, rfl⟩
  | none =>
    have h := List.find?_eq_none.mp e 128 (by decide)
    have h : ¬ (4 * c ≤ 3 * 128) := fun z => h (decide_eq_true z)
    omega
theorem pages_big (c : Int) (h : 97 ≤ c) : pagesOf c = none := by
  refine List.find?_eq_none.mpr fun p hp => ?_
  have hp : p ≤ 128 := (show ∀ p ∈ pagesL, p ≤ 128 by decide) p hp
  intro z
  have z := of_decide_eq_true z
  omega
theorem pages_four (c : Int) (h : 0 ≤ c) (h2 : c < 4) : pagesOf c = some 4 := by
  unfold pagesOf pagesL
  rw [List.find?_cons, decide_eq_true (show 4 * c ≤ 3 * 4 by omega)]
def sp_law (K : PySem.W.Frag) : Sp := fun vs H Q _ => ∃ (a : Addr) (ns : List Int), vs = [.ref a] ∧ SqL K H a (ns.map V.int) ∧ ns.length ≤ 63 ∧ ∀ H', Q (.bl true) H'
theorem full_ok (c : Int) : SeqAt.shaped (.tuple [.str "Full", .int c, .bool true]) = true := by
  simp only [SeqAt.shaped, PyData.canLay0, PyData.canLayAll0, PyData.depth, PyData.depthAll]
  rw [show PyData.strOk "Full" = true by decide +kernel]
  rfl
theorem full_eq (c : Int) : PyData.eqv (.tuple [.str "Full", .int c, .bool true]) (.tuple [.str "Full", .int c, .bool true]) = true := SeqAt.eqv_refl _ (SeqAt.canLay_of_shaped (full_ok c))
theorem ok_law (T : Txt K mg) : FnOk P w K mg base CX0 5 T.f_law T.fd_law ["_law_script"] (sp_law K) := by
  refine T.F_law.ok sc_law (fun vs H Q E h => ?_) (fun cdv A outer s H vs Q E hr h => ?_)
  · obtain ⟨a, ns, rfl, _⟩ := h
    rfl
  · obtain ⟨a, ns, rfl, hS, hl, k⟩ := h
    refine ⟨_, (pss_cons (ps_for PassesOwn.never (by rfl) (pi_range1 (by rfl) T.z_range (pa_cons pe_int pa_nil)) (pg_name (i := 1) sc_law.nd rfl (Or.inl rfl))
        (pss_cons (ps_set (i := 2) sc_law.nd rfl (Or.inl rfl) (pe_call (ok_pages_for T) (hr.mono (by decide)) (by rfl) T.m_pages_for T.F_pages_for.kp T.b_pages_for .nil passL (pa_cons (pv 1) pa_nil)))
        (pss_one (ps_if (PW.pt (pw_or (pt_not (pt_val (pe_call (ok_law_whole T) (hr.mono (by decide)) (by rfl) T.m_law_whole T.F_law_whole.kp T.b_law_whole .nil pass0 (pa_cons (pv 2) pa_nil)))) (pw_or (pt_cmpR op_ne (pv 2) (pe_call (ok_law_pages T) (hr.mono (by decide)) (by rfl) T.m_law_pages T.F_law_pages.kp T.b_law_pages .nil pass0 (pa_cons (pv 1) pa_nil)) (nomark _)) (pw_or1 (pt_cmpR op_ne (pe_call (ok_law_full T) (hr.mono (by decide)) (by rfl) T.m_law_full T.F_law_full.kp T.b_law_full .nil pass0 (pa_cons (pv 1) pa_nil)) (pv 2) (nomark _))))))
          (pss_one (ps_ret pe_bl))
          pss_nil))))
      (pss_cons (ps_for PassesOwn.never (by rfl) (pi_range1 (by rfl) T.z_range (pa_cons (pe_callB (call_max2 rfl) (by rfl) T.z_max (by decide +kernel) (pa_cons pe_int (pa_cons (pe_callB (call_min2 rfl) (by rfl) T.z_min (by decide +kernel) (pa_cons pe_int (pa_cons (pe_callB call_len_seq (by rfl) T.z_len (by decide +kernel) (pa_cons (pv 0) pa_nil)) pa_nil))) pa_nil))) pa_nil)) (pg_name (i := 3) sc_law.nd rfl (Or.inl rfl))
        (pss_cons (ps_set (i := 4) sc_law.nd rfl (Or.inl rfl) (pe_call (ok_law_bag T) (hr.mono (by decide)) (by rfl) T.m_law_bag T.F_law_bag.kp T.b_law_bag .nil pass0 (pa_cons (pv 0) (pa_cons (pv 3) pa_nil))))
        (pss_one (ps_for PassesOwn.never (by rfl) (pi_list (pe_lst (pa_cons (pe_op op_add pe_int (pe_call (ok_law_take T) (hr.mono (by decide)) (by rfl) T.m_law_take T.F_law_take.kp T.b_law_take .nil pass0 (pa_cons (pv 4) (pa_cons pe_int pa_nil)))) (pa_cons (pe_op op_add pe_int (pe_call (ok_law_take T) (hr.mono (by decide)) (by rfl) T.m_law_take T.F_law_take.kp T.b_law_take .nil pass0 (pa_cons (pv 4) (pa_cons (pe_op op_powW pe_int pe_int) pa_nil)))) pa_nil)))) (pg_name (i := 1) sc_law.nd rfl (Or.inl rfl))
          (pss_one (ps_if (PW.pt (pw_or (pt_cmpR (op_neD hr.units) (pe_call (ok_law_full T) (hr.mono (by decide)) (by rfl) T.m_law_full T.F_law_full.kp T.b_law_full .nil pass0 (pa_cons (pv 1) pa_nil)) (pe_tup (pa_cons pe_str (pa_cons (pv 1) (pa_cons pe_bl pa_nil)))) (nomark _)) (pw_or1 (pt_cmpR op_ne (pe_callN0 (ok_pages_for T) (hr.mono (by decide)) (by rfl) T.m_pages_for T.F_pages_for.kp T.kb_pages_for_0_cards passL (pk_cons (pe_call (ok_law_take T) (hr.mono (by decide)) (by rfl) T.m_law_take T.F_law_take.kp T.b_law_take .nil pass0 (pa_cons (pv 4) (pa_cons pe_int pa_nil))) pk_nil)) pe_int (nomark _)))))
            (pss_one (ps_ret pe_bl))
            pss_nil))))))
      (pss_one (ps_ret pe_bl)))), ?_⟩
    refine ⟨_, rfl, by decide, by decide, for_range (lo := 0) (n := 97) (fun i σ H2 => ∃ v1 v2, σ = [some (.ref a), v1, v2, none, none] ∧ Same H H2) ⟨none, none, rfl, Same.refl H⟩ ?_ ?_⟩
    · rintro i σ H2 hi ⟨v1, v2, rfl, s2⟩
      obtain ⟨p, hp⟩ := pages_small (0 + (i : Int)) (by omega) (by omega)
      have hlog : (0 + (i : Int)).natAbs.log2 < 1920 := log_of (b := 10) (by omega) (by decide) (by decide)
      refine ⟨_, rfl, _, rfl, hlog, fun p' hp' => ?_, fun e => by rw [hp] at e; cases e⟩
      rw [hp] at hp'
      cases hp'
      refine ⟨_, rfl, _, rfl, .inl ⟨_, rfl, _, rfl, iteF ?_⟩⟩
      refine ⟨_, rfl, _, rfl, _, p, rfl, hp, fun H3 s3 => ⟨rfl, _, rfl, iteNS rfl ?_⟩⟩
      refine ⟨_, rfl, _, rfl, hlog, fun p' hp' => ?_, fun e => by rw [hp] at e; cases e⟩
      rw [hp] at hp'
      cases hp'
      exact ⟨_, rfl, rfl, _, rfl, iteNS rfl ⟨_, _, rfl, s2.trans s3⟩⟩
    · rintro σ H2 ⟨v1, v2, rfl, s2⟩
      have mb := mm_b (ns.map V.int).length 4 (by decide)
      refine ⟨_, rfl, a, _, rfl, .inl (s2.seq hS), _, _, rfl, _, _, rfl, _, rfl, by omega, by omega, for_range (lo := 0) (n := _) (fun i σ H2 => ∃ v1 v2 v3 v4, σ = [some (.ref a), v1, v2, v3, v4] ∧ Same H H2)
        ⟨_, _, _, _, rfl, s2⟩ ?_ ?_⟩
      · rintro i σ H2 hi ⟨v1, v2, v3, v4, rfl, s2⟩
        refine ⟨_, rfl, _, rfl, a, ns, _, rfl, s2.seq hS, by omega, by omega, fun p H3 hp bg s3 => ?_⟩
        refine ⟨_, rfl, p, _, _, rfl, bg, by decide, by decide, by decide, fun r1 H4 h10 h11 bg4 fr4 => ?_⟩
        refine ⟨_, _, rfl, rfl, _, rfl, _, _, rfl, rfl, ⟨by decide, by decide +kernel⟩, p, _, _, rfl, bg4, by decide, by decide, by decide, fun r2 H5 h20 h21 bg5 fr5 => ?_⟩
        refine ⟨_, _, rfl, rfl, sz2, fun q hq => ?_⟩
        have nqp : q ≠ p := bg5.ne hq
        have s5 : Same H (upd H5 q (.lst [.int (97 + r1), .int (97 + r2)])) := fun b o e => by
          have nb : b ≠ p := ne_of_none (s2 b o e) hp
          exact Same.new (Same.refl H5) hq b o (fr5 b o nb (fr4 b o nb (s3 b o (s2 b o e))))
        refine ⟨q, rfl, ⟨_, SqL.of upd_same⟩, for_list (K := K) (a := q) (xs := [.int (97 + r1), .int (97 + r2)]) (fun j σ H6 => ∃ v1, σ = [some (.ref a), v1, v2, some (.int (0 + (i : Int))), some (.ref p)] ∧ H6 q = some (.lst [.int (97 + r1), .int (97 + r2)]) ∧ Bag H6 p (2 + j) ∧ Same H H6)
          ⟨_, rfl, upd_same, bg5.mut nqp, s5⟩ (fun j σ H6 _ ⟨_, _, e, _⟩ => SqL.of e) ?_ ?_⟩
        · rintro j x σ H6 hx ⟨v1, rfl, hq6, bg6, s6⟩
          have hj : j < 2 := (List.getElem?_eq_some_iff.mp hx).1
          have hx2 : ∃ c : Int, x = .int c ∧ 97 ≤ c ∧ c < 2 ^ 80 := by
            have m := List.mem_of_getElem? hx
            simp only [List.mem_cons, List.not_mem_nil, or_false] at m
            have e20 : (10 : Int) ^ Int.toNat 20 = 100000000000000000000 := by decide
            have h21 : r2 < (10 : Int) ^ Int.toNat 20 := h21
            rw [e20] at h21
            rcases m with rfl | rfl
            · exact ⟨_, rfl, by omega, by omega⟩
            · exact ⟨_, rfl, by omega, by omega⟩
          obtain ⟨c, rfl, hc0, hc1⟩ := hx2
          have hlog : c.natAbs.log2 < 1920 := log_of (b := 80) (by omega) (by decide) (by decide)
          have hpn := pages_big c hc0
          refine ⟨_, rfl, _, rfl, hlog, fun p' e => (by rw [hpn] at e; cases e), fun _ t H7 s7 nt ht => ?_⟩
          refine ⟨_, rfl, sz3, fun u hu => ?_⟩
          have ntu : t ≠ u := ne_of_none ht hu
          refine ⟨.tuple [.str "Full", .int c, .bool true], .tuple [.str "Full", .int c, .bool true], .tup (SqT.of (by rw [upd_ne ntu]; exact ht)) (.cons (.str _) (.cons (.int _) (.cons (.bl _) .nil))), .tup (SqT.of upd_same) (.cons (.str _) (.cons (.int _) (.cons (.bl _) .nil))), full_ok c, full_ok c, _, rfl, ?_⟩
          rw [full_eq]
          refine iteF ?_
          have s8 : Same H6 (upd H7 u (.tup [.str "Full", .int c, .bl true])) := Same.new s7 hu
          refine ⟨_, rfl, p, _, _, rfl, bg6.tr s8, by omega, by decide, by decide, fun r3 H9 h30 h31 bg9 fr9 => ?_⟩
          have hp4 := pages_four r3 h30 h31
          refine ⟨rfl, rfl, _, rfl, log_of (b := 10) (by omega) (by decide) (by decide), fun p' e => ?_, fun e => by rw [hp4] at e; cases e⟩
          rw [hp4] at e
          cases e
          refine ⟨rfl, _, rfl, iteNS rfl ⟨_, rfl, ?_, bg9.up (by omega), ?_⟩⟩
          · exact fr9 q _ nqp (s8 q _ hq6)
          · intro b o e
            have nb : b ≠ p := ne_of_none (s2 b o e) hp
            exact fr9 b o nb (s8 b o (s6 b o e))
        · rintro σ H6 ⟨v1, rfl, _, _, s6⟩
          exact ⟨_, _, _, _, rfl, s6⟩
      · rintro σ H2 ⟨v1, v2, v3, v4, rfl, s2⟩
        exact k H2
end
theorem all_mk {l : PySem.W.OpenLaw} {w : World} {K : PySem.W.Frag} {h : Heap} {mg : Str → Option Value} {fa : Addr} (X : K.In h) (G : h.Ns mainGlobals mg) (hfa : mg "law" = some (.ref fa))
    {C_Full : Addr}
    {C_NoTitle : Addr}
    {C_Cut : Addr}
    {C_Down : Addr}
    {C_Crowded : Addr}
    {f_Full____init__ : Addr} {od_Full____init__ an_Full____init__ : Option Addr} {sl_Full____init__ : Array (Option Value)} {oc_Full____init__ kV_Full____init__ dc_Full____init__ pm_Full____init__ cd_Full____init__ ct_Full____init__ : Value}
    {f_NoTitle____init__ : Addr} {od_NoTitle____init__ an_NoTitle____init__ : Option Addr} {sl_NoTitle____init__ : Array (Option Value)} {oc_NoTitle____init__ kV_NoTitle____init__ dc_NoTitle____init__ pm_NoTitle____init__ cd_NoTitle____init__ ct_NoTitle____init__ : Value}
    {f_Cut____init__ : Addr} {od_Cut____init__ an_Cut____init__ : Option Addr} {sl_Cut____init__ : Array (Option Value)} {oc_Cut____init__ kV_Cut____init__ dc_Cut____init__ pm_Cut____init__ cd_Cut____init__ ct_Cut____init__ : Value}
    {f_Down____init__ : Addr} {od_Down____init__ an_Down____init__ : Option Addr} {sl_Down____init__ : Array (Option Value)} {oc_Down____init__ kV_Down____init__ dc_Down____init__ pm_Down____init__ cd_Down____init__ ct_Down____init__ : Value}
    {f_Crowded____init__ : Addr} {od_Crowded____init__ an_Crowded____init__ : Option Addr} {sl_Crowded____init__ : Array (Option Value)} {oc_Crowded____init__ kV_Crowded____init__ dc_Crowded____init__ pm_Crowded____init__ cd_Crowded____init__ ct_Crowded____init__ : Value}
    {f_is_room : Addr} {od_is_room an_is_room : Option Addr} {sl_is_room : Array (Option Value)} {oc_is_room kV_is_room dc_is_room pm_is_room cd_is_room ct_is_room : Value}
    {f_pages_for : Addr} {od_pages_for an_pages_for : Option Addr} {sl_pages_for : Array (Option Value)} {oc_pages_for kV_pages_for dc_pages_for pm_pages_for cd_pages_for ct_pages_for : Value}
    {f_law_bag : Addr} {od_law_bag an_law_bag : Option Addr} {sl_law_bag : Array (Option Value)} {oc_law_bag kV_law_bag dc_law_bag pm_law_bag cd_law_bag ct_law_bag : Value}
    {f_law_take : Addr} {od_law_take an_law_take : Option Addr} {sl_law_take : Array (Option Value)} {oc_law_take kV_law_take dc_law_take pm_law_take cd_law_take ct_law_take : Value}
    {f_law_pages : Addr} {od_law_pages an_law_pages : Option Addr} {sl_law_pages : Array (Option Value)} {oc_law_pages kV_law_pages dc_law_pages pm_law_pages cd_law_pages ct_law_pages : Value}
    {f_law_whole : Addr} {od_law_whole an_law_whole : Option Addr} {sl_law_whole : Array (Option Value)} {oc_law_whole kV_law_whole dc_law_whole pm_law_whole cd_law_whole ct_law_whole : Value}
    {f_law_full : Addr} {od_law_full an_law_full : Option Addr} {sl_law_full : Array (Option Value)} {oc_law_full kV_law_full dc_law_full pm_law_full cd_law_full ct_law_full : Value}
    {f_law : Addr} {od_law an_law : Option Addr} {sl_law : Array (Option Value)} {oc_law kV_law dc_law pm_law cd_law ct_law : Value}
    {a_PAGES : Addr}
    {od_PAGES : Option Addr} {nn_PAGES : Nat} {sl_PAGES : Array (Option Value)} {tk_PAGES_0 tk_PAGES_1 tk_PAGES_2 tk_PAGES_3 tk_PAGES_4 tk_PAGES_5 : Tok}
    (mC_Full : PySem.W.nsIn K mainGlobals "Full" = some (some (.ref C_Full)))
    (x1_Full : PySem.W.excInitIn K C_Full [.type "OverflowError", .type "ArithmeticError", .type "Exception", .type "BaseException", .type "object"] "OverflowError.__new__" = true)
    (x2_Full : PySem.W.excOver K C_Full [.type "OverflowError", .type "ArithmeticError", .type "Exception", .type "BaseException", .type "object"] = true)
    (x3_Full : PySem.W.hasDictIn K C_Full = true)
    (x4_Full : PySem.W.findIn K (.ref C_Full) "__setattr__" = some (some (.builtin "object.__setattr__")))
    (x5_Full : PySem.W.subIn K (.ref C_Full) (.type "BaseException") = some true)
    (x6_Full : PySem.W.typeIn K (.ref C_Full) = some (.type "type"))
    (x7_Full : PySem.W.keepIn K (.ref C_Full) = true)
    (i_Full : PySem.W.findIn K (.ref C_Full) "__init__" = some (some (.ref f_Full____init__)))
    (ti_Full : PySem.W.typeIn K (.ref f_Full____init__) = some (.type "function"))
    (y1_Full : PySem.W.findIn K (.ref C_Full) "__getattribute__" = some (some (.builtin "BaseException.__getattribute__")))
    (y2_Full : PySem.W.findIn K (.ref C_Full) "__getattr__" = some none)
    (y3_Full : PySem.W.findIn K (.ref C_Full) "__class__" = some (some (.builtin "object.__class__")))
    (y4_Full : PySem.W.specialIn K (.builtin "object.__class__") "__get__" = some (some (.builtin "getset_descriptor.__get__")))
    (y5_Full : PySem.W.takesIn K (.builtin "object.__class__") = some true)
    (y6_Full : PySem.W.mroIn K C_Full (.type "object") = some true)
    (n_Full_cards : PySem.W.findIn K (.ref C_Full) "cards" = some none)
    (mC_NoTitle : PySem.W.nsIn K mainGlobals "NoTitle" = some (some (.ref C_NoTitle)))
    (x1_NoTitle : PySem.W.excInitIn K C_NoTitle [.type "LookupError", .type "Exception", .type "BaseException", .type "object"] "LookupError.__new__" = true)
    (x2_NoTitle : PySem.W.excOver K C_NoTitle [.type "LookupError", .type "Exception", .type "BaseException", .type "object"] = true)
    (x3_NoTitle : PySem.W.hasDictIn K C_NoTitle = true)
    (x4_NoTitle : PySem.W.findIn K (.ref C_NoTitle) "__setattr__" = some (some (.builtin "object.__setattr__")))
    (x5_NoTitle : PySem.W.subIn K (.ref C_NoTitle) (.type "BaseException") = some true)
    (x6_NoTitle : PySem.W.typeIn K (.ref C_NoTitle) = some (.type "type"))
    (x7_NoTitle : PySem.W.keepIn K (.ref C_NoTitle) = true)
    (i_NoTitle : PySem.W.findIn K (.ref C_NoTitle) "__init__" = some (some (.ref f_NoTitle____init__)))
    (ti_NoTitle : PySem.W.typeIn K (.ref f_NoTitle____init__) = some (.type "function"))
    (y1_NoTitle : PySem.W.findIn K (.ref C_NoTitle) "__getattribute__" = some (some (.builtin "BaseException.__getattribute__")))
    (y2_NoTitle : PySem.W.findIn K (.ref C_NoTitle) "__getattr__" = some none)
    (y3_NoTitle : PySem.W.findIn K (.ref C_NoTitle) "__class__" = some (some (.builtin "object.__class__")))
    (y4_NoTitle : PySem.W.specialIn K (.builtin "object.__class__") "__get__" = some (some (.builtin "getset_descriptor.__get__")))
    (y5_NoTitle : PySem.W.takesIn K (.builtin "object.__class__") = some true)
    (y6_NoTitle : PySem.W.mroIn K C_NoTitle (.type "object") = some true)
    (n_NoTitle_title : PySem.W.findIn K (.ref C_NoTitle) "title" = some none)
    (mC_Cut : PySem.W.nsIn K mainGlobals "Cut" = some (some (.ref C_Cut)))
    (x1_Cut : PySem.W.excInitIn K C_Cut [.type "RuntimeError", .type "Exception", .type "BaseException", .type "object"] "RuntimeError.__new__" = true)
    (x2_Cut : PySem.W.excOver K C_Cut [.type "RuntimeError", .type "Exception", .type "BaseException", .type "object"] = true)
    (x3_Cut : PySem.W.hasDictIn K C_Cut = true)
    (x4_Cut : PySem.W.findIn K (.ref C_Cut) "__setattr__" = some (some (.builtin "object.__setattr__")))
    (x5_Cut : PySem.W.subIn K (.ref C_Cut) (.type "BaseException") = some true)
    (x6_Cut : PySem.W.typeIn K (.ref C_Cut) = some (.type "type"))
    (x7_Cut : PySem.W.keepIn K (.ref C_Cut) = true)
    (i_Cut : PySem.W.findIn K (.ref C_Cut) "__init__" = some (some (.ref f_Cut____init__)))
    (ti_Cut : PySem.W.typeIn K (.ref f_Cut____init__) = some (.type "function"))
    (y1_Cut : PySem.W.findIn K (.ref C_Cut) "__getattribute__" = some (some (.builtin "BaseException.__getattribute__")))
    (y2_Cut : PySem.W.findIn K (.ref C_Cut) "__getattr__" = some none)
    (y3_Cut : PySem.W.findIn K (.ref C_Cut) "__class__" = some (some (.builtin "object.__class__")))
    (y4_Cut : PySem.W.specialIn K (.builtin "object.__class__") "__get__" = some (some (.builtin "getset_descriptor.__get__")))
    (y5_Cut : PySem.W.takesIn K (.builtin "object.__class__") = some true)
    (y6_Cut : PySem.W.mroIn K C_Cut (.type "object") = some true)
    (mC_Down : PySem.W.nsIn K mainGlobals "Down" = some (some (.ref C_Down)))
    (x1_Down : PySem.W.excInitIn K C_Down [.type "RuntimeError", .type "Exception", .type "BaseException", .type "object"] "RuntimeError.__new__" = true)
    (x2_Down : PySem.W.excOver K C_Down [.type "RuntimeError", .type "Exception", .type "BaseException", .type "object"] = true)
    (x3_Down : PySem.W.hasDictIn K C_Down = true)
    (x4_Down : PySem.W.findIn K (.ref C_Down) "__setattr__" = some (some (.builtin "object.__setattr__")))
    (x5_Down : PySem.W.subIn K (.ref C_Down) (.type "BaseException") = some true)
    (x6_Down : PySem.W.typeIn K (.ref C_Down) = some (.type "type"))
    (x7_Down : PySem.W.keepIn K (.ref C_Down) = true)
    (i_Down : PySem.W.findIn K (.ref C_Down) "__init__" = some (some (.ref f_Down____init__)))
    (ti_Down : PySem.W.typeIn K (.ref f_Down____init__) = some (.type "function"))
    (y1_Down : PySem.W.findIn K (.ref C_Down) "__getattribute__" = some (some (.builtin "BaseException.__getattribute__")))
    (y2_Down : PySem.W.findIn K (.ref C_Down) "__getattr__" = some none)
    (y3_Down : PySem.W.findIn K (.ref C_Down) "__class__" = some (some (.builtin "object.__class__")))
    (y4_Down : PySem.W.specialIn K (.builtin "object.__class__") "__get__" = some (some (.builtin "getset_descriptor.__get__")))
    (y5_Down : PySem.W.takesIn K (.builtin "object.__class__") = some true)
    (y6_Down : PySem.W.mroIn K C_Down (.type "object") = some true)
    (mC_Crowded : PySem.W.nsIn K mainGlobals "Crowded" = some (some (.ref C_Crowded)))
    (x1_Crowded : PySem.W.excInitIn K C_Crowded [.type "OverflowError", .type "ArithmeticError", .type "Exception", .type "BaseException", .type "object"] "OverflowError.__new__" = true)
    (x2_Crowded : PySem.W.excOver K C_Crowded [.type "OverflowError", .type "ArithmeticError", .type "Exception", .type "BaseException", .type "object"] = true)
    (x3_Crowded : PySem.W.hasDictIn K C_Crowded = true)
    (x4_Crowded : PySem.W.findIn K (.ref C_Crowded) "__setattr__" = some (some (.builtin "object.__setattr__")))
    (x5_Crowded : PySem.W.subIn K (.ref C_Crowded) (.type "BaseException") = some true)
    (x6_Crowded : PySem.W.typeIn K (.ref C_Crowded) = some (.type "type"))
    (x7_Crowded : PySem.W.keepIn K (.ref C_Crowded) = true)
    (i_Crowded : PySem.W.findIn K (.ref C_Crowded) "__init__" = some (some (.ref f_Crowded____init__)))
    (ti_Crowded : PySem.W.typeIn K (.ref f_Crowded____init__) = some (.type "function"))
    (y1_Crowded : PySem.W.findIn K (.ref C_Crowded) "__getattribute__" = some (some (.builtin "BaseException.__getattribute__")))
    (y2_Crowded : PySem.W.findIn K (.ref C_Crowded) "__getattr__" = some none)
    (y3_Crowded : PySem.W.findIn K (.ref C_Crowded) "__class__" = some (some (.builtin "object.__class__")))
    (y4_Crowded : PySem.W.specialIn K (.builtin "object.__class__") "__get__" = some (some (.builtin "getset_descriptor.__get__")))
    (y5_Crowded : PySem.W.takesIn K (.builtin "object.__class__") = some true)
    (y6_Crowded : PySem.W.mroIn K C_Crowded (.type "object") = some true)
    (n_Crowded_most : PySem.W.findIn K (.ref C_Crowded) "most" = some none)
    (vi_LookupError : PySem.W.findCls K (.type "LookupError") (.type "type") "__init__" = some (.val (.builtin "LookupError.__init__")))
    (vi_OverflowError : PySem.W.findCls K (.type "OverflowError") (.type "type") "__init__" = some (.val (.builtin "OverflowError.__init__")))
    (vi_RuntimeError : PySem.W.findCls K (.type "RuntimeError") (.type "type") "__init__" = some (.val (.builtin "RuntimeError.__init__")))
    (l_Full____init__ : K.lookup f_Full____init__ = some ⟨oc_Full____init__, od_Full____init__, .func (PySem.W.fnOf "__init__" "Full.__init__" (defArgs s_Full____init__) (defBody s_Full____init__) (defScope s_Full____init__) .none kV_Full____init__ dc_Full____init__ pm_Full____init__ an_Full____init__ cd_Full____init__ ct_Full____init__), sl_Full____init__⟩)
    (c_Full____init__ : PySem.W.codeIn K cd_Full____init__ "Full.__init__" = true)
    (k_Full____init__ : PySem.W.keepIn K (.ref f_Full____init__) = true)
    (l_NoTitle____init__ : K.lookup f_NoTitle____init__ = some ⟨oc_NoTitle____init__, od_NoTitle____init__, .func (PySem.W.fnOf "__init__" "NoTitle.__init__" (defArgs s_NoTitle____init__) (defBody s_NoTitle____init__) (defScope s_NoTitle____init__) .none kV_NoTitle____init__ dc_NoTitle____init__ pm_NoTitle____init__ an_NoTitle____init__ cd_NoTitle____init__ ct_NoTitle____init__), sl_NoTitle____init__⟩)
    (c_NoTitle____init__ : PySem.W.codeIn K cd_NoTitle____init__ "NoTitle.__init__" = true)
    (k_NoTitle____init__ : PySem.W.keepIn K (.ref f_NoTitle____init__) = true)
    (l_Cut____init__ : K.lookup f_Cut____init__ = some ⟨oc_Cut____init__, od_Cut____init__, .func (PySem.W.fnOf "__init__" "Cut.__init__" (defArgs s_Cut____init__) (defBody s_Cut____init__) (defScope s_Cut____init__) .none kV_Cut____init__ dc_Cut____init__ pm_Cut____init__ an_Cut____init__ cd_Cut____init__ ct_Cut____init__), sl_Cut____init__⟩)
    (c_Cut____init__ : PySem.W.codeIn K cd_Cut____init__ "Cut.__init__" = true)
    (k_Cut____init__ : PySem.W.keepIn K (.ref f_Cut____init__) = true)
    (l_Down____init__ : K.lookup f_Down____init__ = some ⟨oc_Down____init__, od_Down____init__, .func (PySem.W.fnOf "__init__" "Down.__init__" (defArgs s_Down____init__) (defBody s_Down____init__) (defScope s_Down____init__) .none kV_Down____init__ dc_Down____init__ pm_Down____init__ an_Down____init__ cd_Down____init__ ct_Down____init__), sl_Down____init__⟩)
    (c_Down____init__ : PySem.W.codeIn K cd_Down____init__ "Down.__init__" = true)
    (k_Down____init__ : PySem.W.keepIn K (.ref f_Down____init__) = true)
    (l_Crowded____init__ : K.lookup f_Crowded____init__ = some ⟨oc_Crowded____init__, od_Crowded____init__, .func (PySem.W.fnOf "__init__" "Crowded.__init__" (defArgs s_Crowded____init__) (defBody s_Crowded____init__) (defScope s_Crowded____init__) .none kV_Crowded____init__ dc_Crowded____init__ pm_Crowded____init__ an_Crowded____init__ cd_Crowded____init__ ct_Crowded____init__), sl_Crowded____init__⟩)
    (c_Crowded____init__ : PySem.W.codeIn K cd_Crowded____init__ "Crowded.__init__" = true)
    (k_Crowded____init__ : PySem.W.keepIn K (.ref f_Crowded____init__) = true)
    (a_is_room : PySem.W.nsIn K mainGlobals "is_room" = some (some (.ref f_is_room)))
    (l_is_room : K.lookup f_is_room = some ⟨oc_is_room, od_is_room, .func (PySem.W.fnOf "is_room" "is_room" (defArgs s_is_room) (defBody s_is_room) (defScope s_is_room) .none kV_is_room dc_is_room pm_is_room an_is_room cd_is_room ct_is_room), sl_is_room⟩)
    (c_is_room : PySem.W.codeIn K cd_is_room "is_room" = true)
    (k_is_room : PySem.W.keepIn K (.ref f_is_room) = true)
    (a_pages_for : PySem.W.nsIn K mainGlobals "pages_for" = some (some (.ref f_pages_for)))
    (l_pages_for : K.lookup f_pages_for = some ⟨oc_pages_for, od_pages_for, .func (PySem.W.fnOf "pages_for" "pages_for" (defArgs s_pages_for) (defBody s_pages_for) (defScope s_pages_for) .none kV_pages_for dc_pages_for pm_pages_for an_pages_for cd_pages_for ct_pages_for), sl_pages_for⟩)
    (c_pages_for : PySem.W.codeIn K cd_pages_for "pages_for" = true)
    (k_pages_for : PySem.W.keepIn K (.ref f_pages_for) = true)
    (a_law_bag : PySem.W.nsIn K mainGlobals "_law_bag" = some (some (.ref f_law_bag)))
    (l_law_bag : K.lookup f_law_bag = some ⟨oc_law_bag, od_law_bag, .func (PySem.W.fnOf "_law_bag" "_law_bag" (defArgs s_law_bag) (defBody s_law_bag) (defScope s_law_bag) .none kV_law_bag dc_law_bag pm_law_bag an_law_bag cd_law_bag ct_law_bag), sl_law_bag⟩)
    (c_law_bag : PySem.W.codeIn K cd_law_bag "_law_bag" = true)
    (k_law_bag : PySem.W.keepIn K (.ref f_law_bag) = true)
    (a_law_take : PySem.W.nsIn K mainGlobals "_law_take" = some (some (.ref f_law_take)))
    (l_law_take : K.lookup f_law_take = some ⟨oc_law_take, od_law_take, .func (PySem.W.fnOf "_law_take" "_law_take" (defArgs s_law_take) (defBody s_law_take) (defScope s_law_take) .none kV_law_take dc_law_take pm_law_take an_law_take cd_law_take ct_law_take), sl_law_take⟩)
    (c_law_take : PySem.W.codeIn K cd_law_take "_law_take" = true)
    (k_law_take : PySem.W.keepIn K (.ref f_law_take) = true)
    (a_law_pages : PySem.W.nsIn K mainGlobals "_law_pages" = some (some (.ref f_law_pages)))
    (l_law_pages : K.lookup f_law_pages = some ⟨oc_law_pages, od_law_pages, .func (PySem.W.fnOf "_law_pages" "_law_pages" (defArgs s_law_pages) (defBody s_law_pages) (defScope s_law_pages) .none kV_law_pages dc_law_pages pm_law_pages an_law_pages cd_law_pages ct_law_pages), sl_law_pages⟩)
    (c_law_pages : PySem.W.codeIn K cd_law_pages "_law_pages" = true)
    (k_law_pages : PySem.W.keepIn K (.ref f_law_pages) = true)
    (a_law_whole : PySem.W.nsIn K mainGlobals "_law_whole" = some (some (.ref f_law_whole)))
    (l_law_whole : K.lookup f_law_whole = some ⟨oc_law_whole, od_law_whole, .func (PySem.W.fnOf "_law_whole" "_law_whole" (defArgs s_law_whole) (defBody s_law_whole) (defScope s_law_whole) .none kV_law_whole dc_law_whole pm_law_whole an_law_whole cd_law_whole ct_law_whole), sl_law_whole⟩)
    (c_law_whole : PySem.W.codeIn K cd_law_whole "_law_whole" = true)
    (k_law_whole : PySem.W.keepIn K (.ref f_law_whole) = true)
    (a_law_full : PySem.W.nsIn K mainGlobals "_law_full" = some (some (.ref f_law_full)))
    (l_law_full : K.lookup f_law_full = some ⟨oc_law_full, od_law_full, .func (PySem.W.fnOf "_law_full" "_law_full" (defArgs s_law_full) (defBody s_law_full) (defScope s_law_full) .none kV_law_full dc_law_full pm_law_full an_law_full cd_law_full ct_law_full), sl_law_full⟩)
    (c_law_full : PySem.W.codeIn K cd_law_full "_law_full" = true)
    (k_law_full : PySem.W.keepIn K (.ref f_law_full) = true)
    (a_law : PySem.W.nsIn K mainGlobals "law" = some (some (.ref f_law)))
    (l_law : K.lookup f_law = some ⟨oc_law, od_law, .func (PySem.W.fnOf "law" "law" (defArgs s_law) (defBody s_law) (defScope s_law) .none kV_law dc_law pm_law an_law cd_law ct_law), sl_law⟩)
    (c_law : PySem.W.codeIn K cd_law "law" = true)
    (k_law : PySem.W.keepIn K (.ref f_law) = true)
    (exm_Full : PySem.W.exmOne K (.ref C_Full) (.ref C_Full) = some true)
    (ka_Full : PySem.W.kitAny K (.ref C_Full) [.ref C_Crowded, .ref C_Cut, .ref C_Down, .ref C_NoTitle] = some false)
    (ko_Full : PySem.W.kitOne K (.ref C_Full) (.type "OverflowError") = some true)
    (z_LookupError : PySem.W.nsIn K mainGlobals "LookupError" = some none)
    (z_OverflowError : PySem.W.nsIn K mainGlobals "OverflowError" = some none)
    (z_RuntimeError : PySem.W.nsIn K mainGlobals "RuntimeError" = some none)
    (z_abs : PySem.W.nsIn K mainGlobals "abs" = some none)
    (z_bool : PySem.W.nsIn K mainGlobals "bool" = some none)
    (z_int : PySem.W.nsIn K mainGlobals "int" = some none)
    (z_isinstance : PySem.W.nsIn K mainGlobals "isinstance" = some none)
    (z_len : PySem.W.nsIn K mainGlobals "len" = some none)
    (z_max : PySem.W.nsIn K mainGlobals "max" = some none)
    (z_min : PySem.W.nsIn K mainGlobals "min" = some none)
    (z_range : PySem.W.nsIn K mainGlobals "range" = some none)
    (g_PAGES : PySem.W.nsIn K mainGlobals "PAGES" = some (some (.ref a_PAGES)))
    (lk_PAGES : K.lookup a_PAGES = some ⟨.type "tuple", od_PAGES, .seq #[.int 4 tk_PAGES_0, .int 8 tk_PAGES_1, .int 16 tk_PAGES_2, .int 32 tk_PAGES_3, .int 64 tk_PAGES_4, .int 128 tk_PAGES_5] nn_PAGES, sl_PAGES⟩) :
    ∃ fd : FuncData, (∀ (s : Shared) (v : Value), BindsTo s fd ⟨[v], []⟩ [("_law_script", v)]) ∧ ∀ base : Heap, K.In base → base.Ns mainGlobals mg → FnOk l.prog w K mg base CX0 5 fa fd ["_law_script"] (sp_law K) := by
  have e := hfa.symm.trans (PySem.W.mg_of X G a_law)
  have e : fa = f_law := by injection (Option.some.inj e)
  rw [e]
  have F_Full____init__ := fun_mk (st := s_Full____init__) l_Full____init__ c_Full____init__ k_Full____init__
  have b_Full____init__ := F_Full____init__.binds (ps := ["self", "cards"]) fun _ _ _ _ _ _ us hl => match us, hl with | [_, _], _ => rfl
  have F_NoTitle____init__ := fun_mk (st := s_NoTitle____init__) l_NoTitle____init__ c_NoTitle____init__ k_NoTitle____init__
  have b_NoTitle____init__ := F_NoTitle____init__.binds (ps := ["self", "title"]) fun _ _ _ _ _ _ us hl => match us, hl with | [_, _], _ => rfl
  have F_Cut____init__ := fun_mk (st := s_Cut____init__) l_Cut____init__ c_Cut____init__ k_Cut____init__
  have b_Cut____init__ := F_Cut____init__.binds (ps := ["self"]) fun _ _ _ _ _ _ us hl => match us, hl with | [_], _ => rfl
  have F_Down____init__ := fun_mk (st := s_Down____init__) l_Down____init__ c_Down____init__ k_Down____init__
  have b_Down____init__ := F_Down____init__.binds (ps := ["self"]) fun _ _ _ _ _ _ us hl => match us, hl with | [_], _ => rfl
  have F_Crowded____init__ := fun_mk (st := s_Crowded____init__) l_Crowded____init__ c_Crowded____init__ k_Crowded____init__
  have b_Crowded____init__ := F_Crowded____init__.binds (ps := ["self", "most"]) fun _ _ _ _ _ _ us hl => match us, hl with | [_, _], _ => rfl
  have F_is_room := fun_mk (st := s_is_room) l_is_room c_is_room k_is_room
  have b_is_room := F_is_room.binds (ps := ["pages", "cards"]) fun _ _ _ _ _ _ us hl => match us, hl with | [_, _], _ => rfl
  have F_pages_for := fun_mk (st := s_pages_for) l_pages_for c_pages_for k_pages_for
  have b_pages_for := F_pages_for.binds (ps := ["cards"]) fun _ _ _ _ _ _ us hl => match us, hl with | [_], _ => rfl
  have F_law_bag := fun_mk (st := s_law_bag) l_law_bag c_law_bag k_law_bag
  have b_law_bag := F_law_bag.binds (ps := ["_law_script", "_law_at"]) fun _ _ _ _ _ _ us hl => match us, hl with | [_, _], _ => rfl
  have F_law_take := fun_mk (st := s_law_take) l_law_take c_law_take k_law_take
  have b_law_take := F_law_take.binds (ps := ["_law_bag_here", "_law_many"]) fun _ _ _ _ _ _ us hl => match us, hl with | [_, _], _ => rfl
  have F_law_pages := fun_mk (st := s_law_pages) l_law_pages c_law_pages k_law_pages
  have b_law_pages := F_law_pages.binds (ps := ["_law_many"]) fun _ _ _ _ _ _ us hl => match us, hl with | [_], _ => rfl
  have F_law_whole := fun_mk (st := s_law_whole) l_law_whole c_law_whole k_law_whole
  have b_law_whole := F_law_whole.binds (ps := ["_law_odd_one"]) fun _ _ _ _ _ _ us hl => match us, hl with | [_], _ => rfl
  have F_law_full := fun_mk (st := s_law_full) l_law_full c_law_full k_law_full
  have b_law_full := F_law_full.binds (ps := ["_law_many"]) fun _ _ _ _ _ _ us hl => match us, hl with | [_], _ => rfl
  have F_law := fun_mk (st := s_law) l_law c_law k_law
  have b_law := F_law.binds (ps := ["_law_script"]) fun _ _ _ _ _ _ us hl => match us, hl with | [_], _ => rfl
  have kb_pages_for_0_cards : KBn K _ ["cards"] 0 ["cards"] (kg_kb_pages_for_0_cards (α := Value)) (kg_kb_pages_for_0_cards (α := V)) := ⟨fun s us ws _ h1 h2 => match us, h1, ws, h2 with | [], _, [_], _ => .of_eq (fd := PySem.W.fnOf "pages_for" "pages_for" (defArgs s_pages_for) (defBody s_pages_for) (defScope s_pages_for) .none kV_pages_for dc_pages_for pm_pages_for an_pages_for cd_pages_for ct_pages_for) rfl, kg_rel_kb_pages_for_0_cards⟩
  have T0 : ∃ T : Txt K mg, T.f_law = f_law ∧ T.fd_law = PySem.W.fnOf "law" "law" (defArgs s_law) (defBody s_law) (defScope s_law) .none kV_law dc_law pm_law an_law cd_law ct_law := ⟨⟨f_Full____init__, _, F_Full____init__, b_Full____init__,
    f_NoTitle____init__, _, F_NoTitle____init__, b_NoTitle____init__,
    f_Cut____init__, _, F_Cut____init__, b_Cut____init__,
    f_Down____init__, _, F_Down____init__, b_Down____init__,
    f_Crowded____init__, _, F_Crowded____init__, b_Crowded____init__,
    f_is_room, _, F_is_room, PySem.W.mg_of X G a_is_room, b_is_room,
    f_pages_for, _, F_pages_for, PySem.W.mg_of X G a_pages_for, b_pages_for,
    f_law_bag, _, F_law_bag, PySem.W.mg_of X G a_law_bag, b_law_bag,
    f_law_take, _, F_law_take, PySem.W.mg_of X G a_law_take, b_law_take,
    f_law_pages, _, F_law_pages, PySem.W.mg_of X G a_law_pages, b_law_pages,
    f_law_whole, _, F_law_whole, PySem.W.mg_of X G a_law_whole, b_law_whole,
    f_law_full, _, F_law_full, PySem.W.mg_of X G a_law_full, b_law_full,
    f_law, _, F_law, PySem.W.mg_of X G a_law, b_law,
    C_Full, PySem.W.mg_of X G mC_Full, ⟨x1_Full, x2_Full, x3_Full, x4_Full, x5_Full, x6_Full, x7_Full⟩, i_Full, ti_Full, ⟨y1_Full, y2_Full, x5_Full, x3_Full⟩, ⟨y1_Full, y2_Full, x5_Full, x3_Full, y3_Full, y4_Full, y5_Full, y6_Full⟩,
    n_Full_cards,
    C_NoTitle, PySem.W.mg_of X G mC_NoTitle, ⟨x1_NoTitle, x2_NoTitle, x3_NoTitle, x4_NoTitle, x5_NoTitle, x6_NoTitle, x7_NoTitle⟩, i_NoTitle, ti_NoTitle, ⟨y1_NoTitle, y2_NoTitle, x5_NoTitle, x3_NoTitle⟩, ⟨y1_NoTitle, y2_NoTitle, x5_NoTitle, x3_NoTitle, y3_NoTitle, y4_NoTitle, y5_NoTitle, y6_NoTitle⟩,
    n_NoTitle_title,
    C_Cut, PySem.W.mg_of X G mC_Cut, ⟨x1_Cut, x2_Cut, x3_Cut, x4_Cut, x5_Cut, x6_Cut, x7_Cut⟩, i_Cut, ti_Cut, ⟨y1_Cut, y2_Cut, x5_Cut, x3_Cut⟩, ⟨y1_Cut, y2_Cut, x5_Cut, x3_Cut, y3_Cut, y4_Cut, y5_Cut, y6_Cut⟩,
    C_Down, PySem.W.mg_of X G mC_Down, ⟨x1_Down, x2_Down, x3_Down, x4_Down, x5_Down, x6_Down, x7_Down⟩, i_Down, ti_Down, ⟨y1_Down, y2_Down, x5_Down, x3_Down⟩, ⟨y1_Down, y2_Down, x5_Down, x3_Down, y3_Down, y4_Down, y5_Down, y6_Down⟩,
    C_Crowded, PySem.W.mg_of X G mC_Crowded, ⟨x1_Crowded, x2_Crowded, x3_Crowded, x4_Crowded, x5_Crowded, x6_Crowded, x7_Crowded⟩, i_Crowded, ti_Crowded, ⟨y1_Crowded, y2_Crowded, x5_Crowded, x3_Crowded⟩, ⟨y1_Crowded, y2_Crowded, x5_Crowded, x3_Crowded, y3_Crowded, y4_Crowded, y5_Crowded, y6_Crowded⟩,
    n_Crowded_most,
    vi_LookupError,
    vi_OverflowError,
    vi_RuntimeError,
    exm_Full,
    ka_Full,
    ko_Full,
    kb_pages_for_0_cards,
    PySem.W.mg_none_of X G z_LookupError,
    PySem.W.mg_none_of X G z_OverflowError,
    PySem.W.mg_none_of X G z_RuntimeError,
    PySem.W.mg_none_of X G z_abs,
    PySem.W.mg_none_of X G z_bool,
    PySem.W.mg_none_of X G z_int,
    PySem.W.mg_none_of X G z_isinstance,
    PySem.W.mg_none_of X G z_len,
    PySem.W.mg_none_of X G z_max,
    PySem.W.mg_none_of X G z_min,
    PySem.W.mg_none_of X G z_range,
    a_PAGES, PySem.W.mg_of X G g_PAGES,
    (fun H => .inr ⟨_, _, _, lk_PAGES, rfl, rfl, by show 6 ≤ sizeLine; decide, .cons ⟨_, rfl⟩ (.cons ⟨_, rfl⟩ (.cons ⟨_, rfl⟩ (.cons ⟨_, rfl⟩ (.cons ⟨_, rfl⟩ (.cons ⟨_, rfl⟩ (.nil))))))⟩)⟩, rfl, rfl⟩
  obtain ⟨T, e1, e2⟩ := T0
  exact ⟨PySem.W.fnOf "law" "law" (defArgs s_law) (defBody s_law) (defScope s_law) .none kV_law dc_law pm_law an_law cd_law ct_law, fun s v => .of_eq rfl, fun base _ _ => e1 ▸ e2 ▸ ok_law T⟩
theorem walk {l : PySem.W.OpenLaw} {q : Program} {loose : List Str} {XP : (Str → Option Value) → Heap → Prop} {YP : World → Heap → Prop} {d : DefRec} {K : Params → PySem.W.Frag} (hn : l.most = some 63) (hdf : d.params.defaults = [])
    (hY : ∀ (w : World) (h : Heap), YP w h → (K w.params).In h)
    (F : ∀ (w : World) (mg : Str → Option Value) (fa : Addr) (h : Heap), (K w.params).In h → h.Ns mainGlobals mg → mg d.name = some (.ref fa) →
      ∃ fd : FuncData, (∀ (s : Shared) (u : Value), BindsTo s fd ⟨[u], []⟩ [("_law_script", u)]) ∧ ∀ base : Heap, (K w.params).In base → base.Ns mainGlobals mg → FnOk l.prog w (K w.params) mg base CX0 5 fa fd ["_law_script"] (sp_law (K w.params))) :
    PySem.W.WalkO q loose XP YP l.row.toRowW d [] (fun f vs => PySem.call f vs) :=
  L2.walk_of (n := 63) (k := 5) (x := "_law_script") (CX := fun _ => CX0) (sp := fun w => sp_law (K w.params)) hn (by decide) hdf ⟨rfl, by decide, by decide⟩ hY F (fun _ _ a ns hl _ hS => ⟨a, ns, rfl, hS, hl, fun _ => rfl⟩) fun _ _ _ _ _ z => z
end Tl
open PySem PySem.W PyProof.Rows
set_option maxRecDepth 100000 in
set_option maxHeartbeats 0 in
theorem PySem.Challenge.cw_taleless_k03_numbers_of_pages_holds : PySem.Challenge.rw_taleless_k03_numbers_of_pages.Holds := by
  w_on; o_law; k_head; (case hw => w_witness2)
  k_fill
  refine Tl.walk (l := PySem.Challenge.rw_taleless_k03_numbers_of_pages) rfl rfl (fun w h Y => PySem.W.kIn_of Y) ?F
  case F =>
    intro w mg fa h KX G hmg
    refine' Tl.all_mk KX G hmg ?mC_Full ?x1_Full ?x2_Full ?x3_Full ?x4_Full ?x5_Full ?x6_Full ?x7_Full ?i_Full ?ti_Full ?y1_Full ?y2_Full ?y3_Full ?y4_Full ?y5_Full ?y6_Full ?n_Full_cards ?mC_NoTitle ?x1_NoTitle ?x2_NoTitle ?x3_NoTitle ?x4_NoTitle ?x5_NoTitle ?x6_NoTitle ?x7_NoTitle ?i_NoTitle ?ti_NoTitle ?y1_NoTitle ?y2_NoTitle ?y3_NoTitle ?y4_NoTitle ?y5_NoTitle ?y6_NoTitle ?n_NoTitle_title ?mC_Cut ?x1_Cut ?x2_Cut ?x3_Cut ?x4_Cut ?x5_Cut ?x6_Cut ?x7_Cut ?i_Cut ?ti_Cut ?y1_Cut ?y2_Cut ?y3_Cut ?y4_Cut ?y5_Cut ?y6_Cut ?mC_Down ?x1_Down ?x2_Down ?x3_Down ?x4_Down ?x5_Down ?x6_Down ?x7_Down ?i_Down ?ti_Down ?y1_Down ?y2_Down ?y3_Down ?y4_Down ?y5_Down ?y6_Down ?mC_Crowded ?x1_Crowded ?x2_Crowded ?x3_Crowded ?x4_Crowded ?x5_Crowded ?x6_Crowded ?x7_Crowded ?i_Crowded ?ti_Crowded ?y1_Crowded ?y2_Crowded ?y3_Crowded ?y4_Crowded ?y5_Crowded ?y6_Crowded ?n_Crowded_most ?vi_LookupError ?vi_OverflowError ?vi_RuntimeError ?l_Full____init__ ?c_Full____init__ ?k_Full____init__ ?l_NoTitle____init__ ?c_NoTitle____init__ ?k_NoTitle____init__ ?l_Cut____init__ ?c_Cut____init__ ?k_Cut____init__ ?l_Down____init__ ?c_Down____init__ ?k_Down____init__ ?l_Crowded____init__ ?c_Crowded____init__ ?k_Crowded____init__ ?a_is_room ?l_is_room ?c_is_room ?k_is_room ?a_pages_for ?l_pages_for ?c_pages_for ?k_pages_for ?a_law_bag ?l_law_bag ?c_law_bag ?k_law_bag ?a_law_take ?l_law_take ?c_law_take ?k_law_take ?a_law_pages ?l_law_pages ?c_law_pages ?k_law_pages ?a_law_whole ?l_law_whole ?c_law_whole ?k_law_whole ?a_law_full ?l_law_full ?c_law_full ?k_law_full ?a_law ?l_law ?c_law ?k_law ?exm_Full ?ka_Full ?ko_Full ?z_LookupError ?z_OverflowError ?z_RuntimeError ?z_abs ?z_bool ?z_int ?z_isinstance ?z_len ?z_max ?z_min ?z_range ?g_PAGES ?lk_PAGES
    (case mC_Full => k_is)
    (case x1_Full => first | k_is | kx_is)
    (case x2_Full => first | k_is | kx_is)
    (case x3_Full => k_is)
    (case x4_Full => k_is)
    (case x5_Full => k_is)
    (case x6_Full => k_is)
    (case x7_Full => k_is)
    (case i_Full => k_is)
    (case ti_Full => k_is)
    (case y1_Full => k_is)
    (case y2_Full => k_is)
    (case y3_Full => k_is)
    (case y4_Full => k_is)
    (case y5_Full => k_is)
    (case y6_Full => k_is)
    (case n_Full_cards => k_is)
    (case mC_NoTitle => k_is)
    (case x1_NoTitle => first | k_is | kx_is)
    (case x2_NoTitle => first | k_is | kx_is)
    (case x3_NoTitle => k_is)
    (case x4_NoTitle => k_is)
    (case x5_NoTitle => k_is)
    (case x6_NoTitle => k_is)
    (case x7_NoTitle => k_is)
    (case i_NoTitle => k_is)
    (case ti_NoTitle => k_is)
    (case y1_NoTitle => k_is)
    (case y2_NoTitle => k_is)
    (case y3_NoTitle => k_is)
    (case y4_NoTitle => k_is)
    (case y5_NoTitle => k_is)
    (case y6_NoTitle => k_is)
    (case n_NoTitle_title => k_is)
    (case mC_Cut => k_is)
    (case x1_Cut => first | k_is | kx_is)
    (case x2_Cut => first | k_is | kx_is)
    (case x3_Cut => k_is)
    (case x4_Cut => k_is)
    (case x5_Cut => k_is)
    (case x6_Cut => k_is)
    (case x7_Cut => k_is)
    (case i_Cut => k_is)
    (case ti_Cut => k_is)
    (case y1_Cut => k_is)
    (case y2_Cut => k_is)
    (case y3_Cut => k_is)
    (case y4_Cut => k_is)
    (case y5_Cut => k_is)
    (case y6_Cut => k_is)
    (case mC_Down => k_is)
    (case x1_Down => first | k_is | kx_is)
    (case x2_Down => first | k_is | kx_is)
    (case x3_Down => k_is)
    (case x4_Down => k_is)
    (case x5_Down => k_is)
    (case x6_Down => k_is)
    (case x7_Down => k_is)
    (case i_Down => k_is)
    (case ti_Down => k_is)
    (case y1_Down => k_is)
    (case y2_Down => k_is)
    (case y3_Down => k_is)
    (case y4_Down => k_is)
    (case y5_Down => k_is)
    (case y6_Down => k_is)
    (case mC_Crowded => k_is)
    (case x1_Crowded => first | k_is | kx_is)
    (case x2_Crowded => first | k_is | kx_is)
    (case x3_Crowded => k_is)
    (case x4_Crowded => k_is)
    (case x5_Crowded => k_is)
    (case x6_Crowded => k_is)
    (case x7_Crowded => k_is)
    (case i_Crowded => k_is)
    (case ti_Crowded => k_is)
    (case y1_Crowded => k_is)
    (case y2_Crowded => k_is)
    (case y3_Crowded => k_is)
    (case y4_Crowded => k_is)
    (case y5_Crowded => k_is)
    (case y6_Crowded => k_is)
    (case n_Crowded_most => k_is)
    (case vi_LookupError => k_is)
    (case vi_OverflowError => k_is)
    (case vi_RuntimeError => k_is)
    (case l_Full____init__ => k_is)
    (case c_Full____init__ => k_is)
    (case k_Full____init__ => k_is)
    (case l_NoTitle____init__ => k_is)
    (case c_NoTitle____init__ => k_is)
    (case k_NoTitle____init__ => k_is)
    (case l_Cut____init__ => k_is)
    (case c_Cut____init__ => k_is)
    (case k_Cut____init__ => k_is)
    (case l_Down____init__ => k_is)
    (case c_Down____init__ => k_is)
    (case k_Down____init__ => k_is)
    (case l_Crowded____init__ => k_is)
    (case c_Crowded____init__ => k_is)
    (case k_Crowded____init__ => k_is)
    (case a_is_room => k_is)
    (case l_is_room => k_is)
    (case c_is_room => k_is)
    (case k_is_room => k_is)
    (case a_pages_for => k_is)
    (case l_pages_for => k_is)
    (case c_pages_for => k_is)
    (case k_pages_for => k_is)
    (case a_law_bag => k_is)
    (case l_law_bag => k_is)
    (case c_law_bag => k_is)
    (case k_law_bag => k_is)
    (case a_law_take => k_is)
    (case l_law_take => k_is)
    (case c_law_take => k_is)
    (case k_law_take => k_is)
    (case a_law_pages => k_is)
    (case l_law_pages => k_is)
    (case c_law_pages => k_is)
    (case k_law_pages => k_is)
    (case a_law_whole => k_is)
    (case l_law_whole => k_is)
    (case c_law_whole => k_is)
    (case k_law_whole => k_is)
    (case a_law_full => k_is)
    (case l_law_full => k_is)
    (case c_law_full => k_is)
    (case k_law_full => k_is)
    (case a_law => k_is)
    (case l_law => k_is)
    (case c_law => k_is)
    (case k_law => k_is)
    (case exm_Full => first | k_is | kit_is | kts_exm)
    (case ka_Full => first | k_is | kit_is | kts_exm)
    (case ko_Full => first | k_is | kit_is | kts_exm)
    (case z_LookupError => k_is)
    (case z_OverflowError => k_is)
    (case z_RuntimeError => k_is)
    (case z_abs => k_is)
    (case z_bool => k_is)
    (case z_int => k_is)
    (case z_isinstance => k_is)
    (case z_len => k_is)
    (case z_max => k_is)
    (case z_min => k_is)
    (case z_range => k_is)
    (case g_PAGES => k_is)
    (case lk_PAGES => k_is)
#print axioms PySem.Challenge.cw_taleless_k03_numbers_of_pages_holds
