import PyProof.Rows.All
import Wide.All
import OpenK.AllK
import Wide.FinOn
import HandS.ForMost
import HandS.Defaults
import HandS.IsInst
import HandS.Wide
import HandS.Walk
import PySem.Challenge.RW_taleless_k01_marks
set_option Elab.async false
set_option maxRecDepth 100000
set_option maxHeartbeats 4000000
namespace Tl
open PySem L2 TL
/-! frames: all that was tracked stays, but what stands at p -/
def Fr (p : Addr) (H H' : Hp) : Prop := ∀ b o, b ≠ p → H b = some o → H' b = some o
theorem Fr.refl {p : Addr} {H : Hp} : Fr p H H := fun _ _ _ e => e
theorem Fr.trans {p : Addr} {H H1 H2 : Hp} (a : Fr p H H1) (b : Fr p H1 H2) : Fr p H H2 := fun c o n e => b c o n (a c o n e)
theorem Fr.new {p q : Addr} {H H1 : Hp} {o : HO} (a : Fr p H H1) (h : H1 q = none) : Fr p H (upd H1 q o) := fun c u n e => by
  have e1 := a c u n e
  rw [upd_ne (ne_of_none e1 h)]
  exact e1
theorem Fr.at {p : Addr} {H H1 : Hp} {o : HO} (a : Fr p H H1) : Fr p H (upd H1 p o) := fun c u n e => by
  rw [upd_ne n]
  exact a c u n e
theorem Fr.of {p : Addr} {H H1 : Hp} (a : Same H H1) : Fr p H H1 := fun c u _ e => a c u e
theorem Fr.seq {K : PySem.W.Frag} {p a : Addr} {H H' : Hp} {xs : List V} (e : Fr p H H') (n : a ≠ p) (h : SqL K H a xs) : SqL K H' a xs := by
  rcases h with (h | ⟨o, h⟩) | h
  · exact .inl (.inl (e _ _ n h))
  · exact .inl (.inr ⟨o, e _ _ n h⟩)
  · exact .inr h
theorem Fr.tup {K : PySem.W.Frag} {p a : Addr} {H H' : Hp} {xs : List V} (e : Fr p H H') (n : a ≠ p) (h : SqT K H a xs) : SqT K H' a xs := by
  rcases h with (h | ⟨o, h⟩) | h
  · exact .inl (.inl (e _ _ n h))
  · exact .inl (.inr ⟨o, e _ _ n h⟩)
  · exact .inr h
theorem Fr.same {p : Addr} {H H1 : Hp} (a : Fr p H H1) (h : H p = none) : Same H H1 := fun b o e => a b o (ne_of_none e h) e
theorem Same.new {q : Addr} {H H1 : Hp} {o : HO} (a : Same H H1) (h : H1 q = none) : Same H (upd H1 q o) := fun c u e => by
  have e1 := a c u e
  rw [upd_ne (ne_of_none e1 h)]
  exact e1
theorem Fr.free {p q : Addr} {H H1 : Hp} (a : Fr p H H1) (h : H1 q = none) (n : q ≠ p) : H q = none := by
  cases e : H q with
  | none => rfl
  | some o =>
    rw [a q o n e] at h
    cases h
/-- an object that H does not know may change -/
theorem Fr.mut {p q : Addr} {H H1 : Hp} {o : HO} (a : Fr p H H1) (h : H q = none) : Fr p H (upd H1 q o) := fun c u n e => by
  rw [upd_ne (ne_of_none e h)]
  exact a c u n e
theorem Same.mut {q : Addr} {H H1 : Hp} {o : HO} (a : Same H H1) (h : H q = none) : Same H (upd H1 q o) := fun c u e => by
  rw [upd_ne (ne_of_none e h)]
  exact a c u e
/-- the law's bag of draws: three ints, at most n draws so far -/
def Bag (H : Hp) (p : Addr) (n : Nat) : Prop := ∃ a b c : Int, H p = some (.lst [.int a, .int b, .int c]) ∧ 0 ≤ a ∧ 0 ≤ b ∧ b < 2 ^ 62 ∧ 0 ≤ c ∧ c ≤ n
theorem Bag.up {H : Hp} {p : Addr} {n m : Nat} (b : Bag H p n) (h : n ≤ m) : Bag H p m := by
  obtain ⟨a, b, c, e, h1, h2, h3, h4, h5⟩ := b
  exact ⟨a, b, c, e, h1, h2, h3, h4, by omega⟩
theorem Bag.tr {H H' : Hp} {p : Addr} {n : Nat} (b : Bag H p n) (s : Same H H') : Bag H' p n := by
  obtain ⟨a, b, c, e, h⟩ := b
  exact ⟨a, b, c, s _ _ e, h⟩
theorem Bag.new {H : Hp} {p q : Addr} {n : Nat} {o : HO} (b : Bag H p n) (h : H q = none) : Bag (upd H q o) p n := b.tr (Same.new (Same.refl H) h)
theorem Bag.mut {H : Hp} {p q : Addr} {n : Nat} {o : HO} (b : Bag H p n) (h : q ≠ p) : Bag (upd H q o) p n := by
  obtain ⟨a, b, c, e, r⟩ := b
  exact ⟨a, b, c, by rw [upd_ne h.symm]; exact e, r⟩
theorem Bag.ne {H : Hp} {p q : Addr} {n : Nat} (b : Bag H p n) (h : H q = none) : q ≠ p := by
  obtain ⟨a, b, c, e, _⟩ := b
  exact (ne_of_none e h).symm
/-! lists by places -/
theorem take_snoc {α : Type} {l : List α} {i : Nat} {x : α} (h : l[i]? = some x) : l.take (i + 1) = l.take i ++ [x] := by
  rw [List.take_add_one, h]
  rfl
theorem fold_snoc {α β : Type} {f : β → α → β} {a : β} {l : List α} {i : Nat} {x : α} (h : l[i]? = some x) : (l.take (i + 1)).foldl f a = f ((l.take i).foldl f a) x := by
  rw [take_snoc h, List.foldl_append]
  rfl
theorem fold_all {α β : Type} {f : β → α → β} {a : β} {l : List α} {i : Nat} (h : i = l.length) : (l.take i).foldl f a = l.foldl f a := by
  rw [h, List.take_length]
/-- a for over a text: Pv by how many signs are gone -/
theorem for_str {z : Str} {j : Nat} {tb : TS} {D : Ends} {σ : St} {H : Hp} (Pv : Nat → St → Hp → Prop) (h0 : Pv 0 σ H)
    (hs : ∀ i c σ H, z.cps.toList[i]? = some c → Pv i σ H → tb { D with nx := Pv (i + 1), ct := Pv (i + 1), bk := D.nx } (σ.set j (some (.str ⟨#[c]⟩))) H) (hd : ∀ σ H, Pv z.cps.toList.length σ H → D.nx σ H) :
    ∃ W : Nat → Nat → St → Hp → Prop, (∃ m, W 0 m σ H) ∧ ∀ i m σ H, W i m σ H →
      ((Its z).stop i H ∧ D.nx σ H) ∨ ((Its z).go i H ∧ ∃ N : St → Hp → Prop, (∀ σ' H', N σ' H' → ∃ m', m' < m ∧ W (i + 1) m' σ' H') ∧ ∀ x H', (Its z).yld i H x H' → (gName j) x σ H' fun σ2 H2 => tb { D with nx := N, ct := N, bk := D.nx } σ2 H2) :=
  for_it walk_str Pv h0 (fun _ _ _ _ _ => True.intro) (fun i x σ H H' hi p y => by
    obtain ⟨rfl, c, hc, rfl⟩ := y
    exact hs i c σ H' (by rw [Array.getElem?_toList]; exact hc) p) (fun σ H p => hd σ H (by rw [Array.length_toList]; exact p))
/-- one sign of a text at a place within -/
theorem sign_at {z : Str} {r : Int} (h0 : 0 ≤ r) (h1 : r < (z.cps.toList.length : Int)) : ∃ c, atI z.cps.toList r = some c ∧ c ∈ z.cps.toList := by
  obtain ⟨j, rfl⟩ : ∃ j : Nat, r = (j : Int) := ⟨r.toNat, by omega⟩
  have hj : j < z.cps.toList.length := by omega
  exact ⟨z.cps.toList[j], atI_nat (List.getElem?_eq_getElem hj), List.getElem_mem hj⟩
/-- a text by its codes -/
def S (cs : List Nat) : Str := ⟨cs.toArray⟩
theorem tl_S (cs : List Nat) : tl (S cs) = cs := rfl
theorem S_tl (z : Str) : S (tl z) = z := ext_tl (tl_S _)
theorem S_inj {a b : List Nat} (h : S a = S b) : a = b := by rw [← tl_S a, ← tl_S b, h]
theorem S_len (cs : List Nat) : (S cs).length = cs.length := by rw [len_tl, tl_S]
theorem S_app (a b : List Nat) : S a ++ S b = S (a ++ b) := ext_tl (by rw [tl_append, tl_S, tl_S, tl_S])
theorem S_one (c : Nat) : (⟨#[c]⟩ : Str) = S [c] := rfl
theorem joinL_nil : ∀ ps : List (List Nat), joinL [] ps = ps.flatten
  | [] => rfl
  | [p] => by simp [joinL]
  | p :: q :: r => by
    show p ++ ([] ++ joinL [] (q :: r)) = _
    rw [joinL_nil (q :: r)]
    simp
theorem join_S (ps : List (List Nat)) : Txt.join (S []) (ps.map S) = S ps.flatten := ext_tl (by
  rw [join_eq, tl_join, tl_S, tl_S, List.map_map]
  rw [show (tl ∘ S) = id from rfl, List.map_id, joinL_nil])
theorem flat_ones : ∀ cs : List Nat, (cs.map fun c => [c]).flatten = cs
  | [] => rfl
  | c :: r => by
    rw [List.map_cons, List.flatten_cons, flat_ones r]
    rfl
theorem join_ones (cs : List Nat) : Txt.join (S []) (cs.map fun c => S [c]) = S cs := by
  have e := join_S (cs.map fun c => [c])
  rw [List.map_map, flat_ones] at e
  exact e
/-- texts of one sign each -/
def ones (cs : List Nat) : List V := (cs.map fun c => S [c]).map V.str
theorem ones_snoc (cs : List Nat) (c : Nat) : ones cs ++ [V.str ⟨#[c]⟩] = ones (cs ++ [c]) := by
  unfold ones
  rw [List.map_append, List.map_append]
  rfl
theorem ones_len (cs : List Nat) : (ones cs).length = cs.length := by
  unfold ones
  rw [List.length_map, List.length_map]
theorem ones_sum (cs : List Nat) (k : Nat) : ((cs.map fun c => S [c]).map (·.length)).sum + (cs.map fun c => S [c]).length * k = cs.length * (k + 1) := by
  rw [List.map_map, List.length_map]
  have e : (List.map ((fun x => x.length) ∘ fun c => S [c]) cs).sum = cs.length := by
    induction cs with
    | nil => rfl
    | cons c r ih => rw [List.map_cons, List.sum_cons, ih, List.length_cons]; show 1 + _ = _; omega
  rw [e, Nat.mul_succ]
  omega
theorem tYes_go {σ : St} {H : Hp} {F G : Hp → Prop} (h : F H) : tYes σ H (fun b H3 => if b = true then F H3 else G H3) := by
  show if true = true then F H else G H
  rw [if_pos rfl]
  exact h
/-- max(1, min(m, len)) -/
theorem mm_b (L : Nat) (m : Int) (h : 1 ≤ m) : 1 ≤ (if (if (L : Int) < m then (L : Int) else m) > 1 then (if (L : Int) < m then (L : Int) else m) else 1) ∧ (if (if (L : Int) < m then (L : Int) else m) > 1 then (if (L : Int) < m then (L : Int) else m) else 1) ≤ m := by
  split
  · split <;> omega
  · omega
theorem mul01 {i : Int} {c : Prop} [Decidable c] : CMul i (if c then 1 else 0) := .inr (by split <;> exact ⟨by decide, by decide⟩)
theorem sz_ {n : Nat} (h : n ≤ 100000 := by decide) : n ≤ sizeLine := Nat.le_trans h (by decide)
theorem sz_lt {n : Nat} (h : n < 100000) : n < sizeLine := Nat.lt_of_lt_of_le h (by decide)
theorem sz3 {a b c : V} : [a, b, c].length ≤ sizeLine := by show 3 ≤ sizeLine; decide
theorem sz2 {a b : V} : [a, b].length ≤ sizeLine := by show 2 ≤ sizeLine; decide
theorem sz1 {a : V} : [a].length ≤ sizeLine := by show 1 ≤ sizeLine; decide
theorem sz4 {a b c d : V} : [a, b, c, d].length ≤ sizeLine := by show 4 ≤ sizeLine; decide
theorem pos_ {n : Int} (h : 0 < n := by decide) : (0 : Int) < n := h
section
variable {X : Cx}
def CPowW (i j : Int) : Prop := 0 ≤ j ∧ (Builtin.Int.intBits i : Int) * j ≤ 2 ^ 27
theorem op_powW : OpR X (binaryOp .Pow) (rI CPowW fun i j => .int (i ^ j.toNat)) := opI fun _ _ _ _ _ _ _ hc q => PyProof.Rows.pow_int hc.1 hc.2 q
/-- a text so many times -/
def mulS (x : Str) (n : Int) : Str := if n < 1 then Str.empty else if (n == 1 || x.length == 0) = true then x else ⟨(List.replicate n.toNat x.cps).foldl (· ++ ·) #[]⟩
theorem rep_size (a : Array Nat) : ∀ (m : Nat) (acc : Array Nat), (List.foldl (fun x1 x2 => x1 ++ x2) acc (List.replicate m a)).size = acc.size + m * a.size
  | 0, acc => by simp
  | m + 1, acc => by
    rw [List.replicate_succ, List.foldl_cons, rep_size a m, Array.size_append, Nat.succ_mul]
    omega
theorem mulS_len (x : Str) (n : Int) (h : 0 ≤ n) : (mulS x n).length = x.length * n.toNat := by
  unfold mulS
  split
  · have e : n.toNat = 0 := by omega
    rw [e]
    rfl
  · split
    · rename_i h1 h2
      rcases Bool.or_eq_true _ _ ▸ h2 with h3 | h3
      · have e : n = 1 := by simpa using h3
        subst e
        simp
      · have e : x.length = 0 := by simpa using h3
        rw [e, Nat.zero_mul]
    · show (List.foldl (fun x1 x2 => x1 ++ x2) #[] (List.replicate n.toNat x.cps)).size = _
      rw [rep_size]
      show 0 + n.toNat * x.length = _
      rw [Nat.zero_add, Nat.mul_comm]
theorem op_mul_str : OpR X (binaryOp .Mult) (fun x y H Q => ∃ (i : Str) (n : Int), x = .str i ∧ y = .int n ∧ n < 2 ^ 30 ∧ -(2 ^ 30) < n ∧ i.length * n.toNat ≤ sizeLine ∧ Q (.str (mulS i n)) H) := by
  intro pins s σ H x y v u Q I rx ry h
  obtain ⟨i, n, rfl, rfl, h1, h2, h3, q⟩ := h
  obtain ⟨t, rfl⟩ := rx
  obtain ⟨t', rfl⟩ := ry
  have hs : sizeLine = 16777216 := by decide
  refine PySem.P.mul_str (by
    rw [decide_eq_false (by omega), decide_eq_false (by omega)]
    rfl) (fun a b => ?_) (fun a b => ?_) ?_
  · have e1 : (i.length : Int) * n ≤ 2 ^ 63 - 1 := by
      have e2 : ((i.length * n.toNat : Nat) : Int) = (i.length : Int) * n := by
        rw [Int.natCast_mul, Int.toNat_of_nonneg (by omega)]
      omega
    have e3 : (i.length : Int) ≤ (2 ^ 63 - 1) / n := (Int.le_ediv_iff_mul_le (by omega)).mpr e1
    omega
  · unfold Builtin.Str.tooLong
    exact decide_eq_false (by omega)
  · show Made.post _ _ _
    unfold mulS at q
    by_cases c1 : n < 1
    · rw [if_pos c1] at q ⊢
      exact ⟨by decide, ⟨.str Str.empty, H, I.tok _, ⟨_, rfl⟩, q⟩⟩
    · rw [if_neg c1] at q ⊢
      by_cases c2 : (n == 1 || i.length == 0) = true
      · rw [if_pos c2] at q ⊢
        exact ⟨.str i, H, I, ⟨_, rfl⟩, q⟩
      · rw [if_neg c2] at q ⊢
        exact ⟨by
          show (List.foldl (fun x1 x2 => x1 ++ x2) #[] (List.replicate n.toNat i.cps)).size ≤ sizeLine
          rw [rep_size]
          show 0 + n.toNat * i.length ≤ sizeLine
          rw [Nat.zero_add, Nat.mul_comm]
          exact h3, ⟨.str _, H, I.tok _, ⟨_, rfl⟩, q⟩⟩
end
section
variable {X : Cx} {CX : CXT} {k n : Nat} {f : Addr} {fd : FuncData} {ps ks : List Str} {sp : Sp} {E : XK} {x : Str} {p pos : Pos} {kws : List Keyword} {tk : TA} {g : List Value → List Value → List Value} {gV : List V → List V → List V}
/-- f(k = v, ..), no positional value -/
theorem pe_callN0 (F : FnOk X.prog X.w X.K X.mg X.base CX k f fd ps sp) (hr : Room k X.A) (hg : Gl X x) (hm : X.mg x = some (.ref f)) (hk : PySem.W.keepIn X.K (.ref f) = true) (hb : KBn X.K fd ps 0 ks g gV) (hx : Passes CX X E)
    (hkw : PK X kws tk) (hall : (backToKw pos (keywordEach kws X.env)).all (·.1.isSome) = true := by rfl) (hks : (backToKw pos (keywordEach kws X.env)).filterMap (·.1) = ks := by rfl)
    (hdb : (x == ("__debug__" : Str)) = false := by decide)
    (hpl : ((backTo pos (starEach [] X.env)).any (·.1) || (backToKw pos (keywordEach kws X.env)).any (·.1.isNone)) = false := by rfl) :
    PE X (.Call (.Name x p) [] kws pos) (tCallN 0 ks.length sp gV E tNil tk) := by
  refine ⟨fun pins s σ H Q I h => ?_⟩
  refine wpAny_Call_Name_kw (ld_glob I hg hm ?_ hdb)
  refine PySem.W.callWith_KW0 (h₀ := X.base) I.ok.mod.kin hk hall ?_ hpl
  refine thn (hkw.run pos pins s σ H _ I h) fun ws s2 ⟨zs, H2, I2, rz, l1, l2, q2⟩ => ⟨I2.kIn, ?_⟩
  rw [hks]
  exact run_fnN F hr hb hx I2 .nil rz rfl l2 q2
end
end Tl

namespace Tl
open PySem L2 TL
def top (i : Nat) : Stmt := PySem.Challenge.pw_taleless_k01_marks.main.body.getD i (.Pass ⟨0, 0, 0, 0⟩)
abbrev s_mark : Stmt := top 2
theorem sc_mark : FnScope ["seed", "text", "found", "sign", "more"] ["seed", "text"] (defScope s_mark) := ⟨rfl, rfl, rfl, by decide +kernel, rfl, by decide +kernel, by decide +kernel⟩
abbrev s_law_bag : Stmt := top 4
theorem sc_law_bag : FnScope ["_law_script", "_law_at", "_law_cell"] ["_law_script", "_law_at"] (defScope s_law_bag) := ⟨rfl, rfl, rfl, by decide +kernel, rfl, by decide +kernel, by decide +kernel⟩
abbrev s_law_take : Stmt := top 5
theorem sc_law_take : FnScope ["_law_bag_here", "_law_many", "_law_digit", "_law_primes", "_law_step", "_law_base", "_law_mixed", "_law_more"] ["_law_bag_here", "_law_many"] (defScope s_law_take) := ⟨rfl, rfl, rfl, by decide +kernel, rfl, by decide +kernel, by decide +kernel⟩
abbrev s_law_mark : Stmt := top 6
theorem sc_law_mark : FnScope ["_law_salt", "_law_words", "_law_found", "_law_sign"] ["_law_salt", "_law_words"] (defScope s_law_mark) := ⟨rfl, rfl, rfl, by decide +kernel, rfl, by decide +kernel, by decide +kernel⟩
abbrev s_law_name : Stmt := top 7
theorem sc_law_name : FnScope ["_law_bag_here", "_law_most", "_law_letters", "_law_k"] ["_law_bag_here", "_law_most"] (defScope s_law_name) := ⟨rfl, rfl, rfl, by decide +kernel, rfl, by decide +kernel, by decide +kernel⟩
abbrev s_law_seed : Stmt := top 8
theorem sc_law_seed : FnScope ["_law_bag_here"] ["_law_bag_here"] (defScope s_law_seed) := ⟨rfl, rfl, rfl, by decide +kernel, rfl, by decide +kernel, by decide +kernel⟩
abbrev s_law_of : Stmt := top 9
theorem sc_law_of : FnScope ["_law_bag_here", "_law_some_here"] ["_law_bag_here", "_law_some_here"] (defScope s_law_of) := ⟨rfl, rfl, rfl, by decide +kernel, rfl, by decide +kernel, by decide +kernel⟩
abbrev s_law_whole : Stmt := top 10
theorem sc_law_whole : FnScope ["_law_odd_one"] ["_law_odd_one"] (defScope s_law_whole) := ⟨rfl, rfl, rfl, by decide +kernel, rfl, by decide +kernel, by decide +kernel⟩
abbrev s_law_some : Stmt := top 11
theorem sc_law_some : FnScope ["_law_bag_here", "_law_signs", "_law_pick", "_law_k"] ["_law_bag_here"] (defScope s_law_some) := ⟨rfl, rfl, rfl, by decide +kernel, rfl, by decide +kernel, by decide +kernel⟩
abbrev s_law : Stmt := top 12
theorem sc_law : FnScope ["_law_script", "_law_at", "_law_bag_here", "_law_again", "_law_salt", "_law_words", "_law_place", "_law_one", "_law_told"] ["_law_script"] (defScope s_law) := ⟨rfl, rfl, rfl, by decide +kernel, rfl, by decide +kernel, by decide +kernel⟩
def kg_kb_mark_0_text_seed {α : Type} : List α → List α → List α
  | [], [ws0, ws1] => [ws1, ws0]
  | _, _ => []
theorem kg_rel_kb_mark_0_text_seed {vs : List V} {us : List Value} {zs : List V} {ws : List Value} (r1 : Vals vs us) (r2 : Vals zs ws) : Vals (kg_kb_mark_0_text_seed vs zs) (kg_kb_mark_0_text_seed us ws) := by
  match r1, r2 with
  | .nil, .cons ws0 (.cons ws1 (.nil)) => exact .cons ws1 (.cons ws0 (.nil))
  | .nil, .nil => exact .nil
  | .nil, .cons ws0 (.nil) => exact .nil
  | .nil, .cons ws0 (.cons ws1 (.cons ws2 (ws_))) => exact .nil
  | .cons us0 (us_), .nil => exact .nil
  | .cons us0 (us_), .cons ws0 (.nil) => exact .nil
  | .cons us0 (us_), .cons ws0 (.cons ws1 (.nil)) => exact .nil
  | .cons us0 (us_), .cons ws0 (.cons ws1 (.cons ws2 (ws_))) => exact .nil
structure Txt (K : PySem.W.Frag) (mg : Str → Option Value) where
  f_mark : Addr
  fd_mark : FuncData
  F_mark : Fun K "mark" "mark" s_mark f_mark fd_mark
  m_mark : mg "mark" = some (.ref f_mark)
  b_mark : Binds K fd_mark ["seed", "text"] []
  f_law_bag : Addr
  fd_law_bag : FuncData
  F_law_bag : Fun K "_law_bag" "_law_bag" s_law_bag f_law_bag fd_law_bag
  m_law_bag : mg "_law_bag" = some (.ref f_law_bag)
  b_law_bag : Binds K fd_law_bag ["_law_script", "_law_at"] []
  f_law_take : Addr
  fd_law_take : FuncData
  F_law_take : Fun K "_law_take" "_law_take" s_law_take f_law_take fd_law_take
  m_law_take : mg "_law_take" = some (.ref f_law_take)
  b_law_take : Binds K fd_law_take ["_law_bag_here", "_law_many"] []
  f_law_mark : Addr
  fd_law_mark : FuncData
  F_law_mark : Fun K "_law_mark" "_law_mark" s_law_mark f_law_mark fd_law_mark
  m_law_mark : mg "_law_mark" = some (.ref f_law_mark)
  b_law_mark : Binds K fd_law_mark ["_law_salt", "_law_words"] []
  f_law_name : Addr
  fd_law_name : FuncData
  F_law_name : Fun K "_law_name" "_law_name" s_law_name f_law_name fd_law_name
  m_law_name : mg "_law_name" = some (.ref f_law_name)
  b_law_name : Binds K fd_law_name ["_law_bag_here", "_law_most"] []
  f_law_seed : Addr
  fd_law_seed : FuncData
  F_law_seed : Fun K "_law_seed" "_law_seed" s_law_seed f_law_seed fd_law_seed
  m_law_seed : mg "_law_seed" = some (.ref f_law_seed)
  b_law_seed : Binds K fd_law_seed ["_law_bag_here"] []
  f_law_of : Addr
  fd_law_of : FuncData
  F_law_of : Fun K "_law_of" "_law_of" s_law_of f_law_of fd_law_of
  m_law_of : mg "_law_of" = some (.ref f_law_of)
  b_law_of : Binds K fd_law_of ["_law_bag_here", "_law_some_here"] []
  f_law_whole : Addr
  fd_law_whole : FuncData
  F_law_whole : Fun K "_law_whole" "_law_whole" s_law_whole f_law_whole fd_law_whole
  m_law_whole : mg "_law_whole" = some (.ref f_law_whole)
  b_law_whole : Binds K fd_law_whole ["_law_odd_one"] []
  f_law_some : Addr
  fd_law_some : FuncData
  F_law_some : Fun K "_law_some" "_law_some" s_law_some f_law_some fd_law_some
  m_law_some : mg "_law_some" = some (.ref f_law_some)
  b_law_some : Binds K fd_law_some ["_law_bag_here"] []
  f_law : Addr
  fd_law : FuncData
  F_law : Fun K "law" "law" s_law f_law fd_law
  m_law : mg "law" = some (.ref f_law)
  b_law : Binds K fd_law ["_law_script"] []
  kb_mark_0_text_seed : KBn K fd_mark ["seed", "text"] 0 ["text", "seed"] (kg_kb_mark_0_text_seed (α := Value)) (kg_kb_mark_0_text_seed (α := V))
  z_abs : mg "abs" = none
  z_bool : mg "bool" = none
  z_int : mg "int" = none
  z_isinstance : mg "isinstance" = none
  z_len : mg "len" = none
  z_max : mg "max" = none
  z_min : mg "min" = none
  z_ord : mg "ord" = none
  z_range : mg "range" = none
  t_MARKS : Tok
  g_MARKS : mg "MARKS" = some (.int 1009 t_MARKS)
section
variable {P : Program} {w : World} {K : PySem.W.Frag} {mg : Str → Option Value} {base : Heap}
/-! mark -/
/-- the mark of a text's codes by a seed -/
def markI (s : Int) (cs : List Nat) : Int := cs.foldl (fun (m : Int) (c : Nat) => ((m + (c : Int)) * (m + (c : Int)) + 331 * m + 7) % 1009) (s % 1009)
theorem markI_b (s : Int) (cs : List Nat) : 0 ≤ markI s cs ∧ markI s cs < 1009 := by
  unfold markI
  suffices h : ∀ (m : Int), 0 ≤ m ∧ m < 1009 → 0 ≤ cs.foldl (fun (m : Int) (c : Nat) => ((m + (c : Int)) * (m + (c : Int)) + 331 * m + 7) % 1009) m ∧ cs.foldl (fun (m : Int) (c : Nat) => ((m + (c : Int)) * (m + (c : Int)) + 331 * m + 7) % 1009) m < 1009 from h _ (by omega)
  induction cs with
  | nil => exact fun m h => h
  | cons c r ih => exact fun m h => ih _ ⟨Int.emod_nonneg _ (show (1009 : Int) ≠ 0 by decide), Int.emod_lt_of_pos _ (show (0 : Int) < 1009 by decide)⟩
theorem markI_snoc {s : Int} {cs : List Nat} {i c : Nat} (h : cs[i]? = some c) : markI s (cs.take (i + 1)) = ((markI s (cs.take i) + (c : Int)) * (markI s (cs.take i) + (c : Int)) + 331 * markI s (cs.take i) + 7) % 1009 := fold_snoc h
/-- all codes of a text are codes -/
def CodesOk (z : Str) : Prop := ∀ c ∈ z.cps.toList, c < 2 ^ 30
def sp_mark : Sp := fun vs H Q _ => ∃ (s : Int) (z : Str), vs = [.int s, .str z] ∧ CodesOk z ∧ Q (.int (markI s z.cps.toList)) H
theorem ok_mark (T : Txt K mg) : FnOk P w K mg base CX0 1 T.f_mark T.fd_mark ["seed", "text"] sp_mark := by
  refine T.F_mark.ok sc_mark (fun vs H Q E h => ?_) (fun cdv A outer s H vs Q E hr h => ?_)
  · obtain ⟨s, z, rfl, _⟩ := h
    rfl
  · obtain ⟨sd, z, rfl, hz, k⟩ := h
    refine ⟨_, (pss_cons (ps_set (i := 2) sc_mark.nd rfl (Or.inl rfl) (pe_op op_mod (pv 0) (pe_glob (v := .int 1009) (by rfl) T.g_MARKS ⟨_, rfl⟩)))
      (pss_cons (ps_for PassesOwn.never (by rfl) (pi_str (pv 1)) (pg_name (i := 3) sc_mark.nd rfl (Or.inl rfl))
        (pss_cons (ps_set (i := 4) sc_mark.nd rfl (Or.inl rfl) (pe_op op_add (pv 2) (pe_callB call_ord (by rfl) T.z_ord (by decide +kernel) (pa_cons (pv 3) pa_nil))))
        (pss_one (ps_set (i := 2) sc_mark.nd rfl (Or.inl rfl) (pe_op op_mod (pe_op op_add (pe_op op_add (pe_op op_mul (pv 4) (pv 4)) (pe_op op_mul pe_int (pv 2))) pe_int) (pe_glob (v := .int 1009) (by rfl) T.g_MARKS ⟨_, rfl⟩))))))
      (pss_one (ps_ret (pv 2))))), ?_⟩
    refine ⟨_, rfl, _, _, rfl, rfl, (by show (0 : Int) < 1009; decide), ?_⟩
    refine ⟨_, rfl, z, rfl, for_str (fun i σ H2 => ∃ m v1 v2, σ = [some (.int sd), some (.str z), some (.int m), v1, v2] ∧ m = markI sd (z.cps.toList.take i) ∧ H2 = H) ⟨_, none, none, rfl, rfl, rfl⟩ ?_ ?_⟩
    · rintro i c σ H2 hc ⟨m, v1, v2, rfl, rfl, rfl⟩
      have b := markI_b sd (z.cps.toList.take i)
      have c1 : c < 2 ^ 30 := hz c (List.mem_of_getElem? hc)
      refine ⟨_, rfl, _, rfl, _, rfl, rfl, _, _, rfl, rfl, ?_⟩
      refine ⟨_, rfl, _, rfl, _, _, rfl, rfl, .inl ⟨?_, ?_⟩, _, rfl, _, _, rfl, rfl, .inl ⟨by decide, by decide⟩, _, _, rfl, rfl, _, _, rfl, rfl, _, _, rfl, rfl, (by show (0 : Int) < 1009; decide), ?_⟩
      · show -(2 ^ 64) < markI sd (z.cps.toList.take i) + (c : Int)
        omega
      · show markI sd (z.cps.toList.take i) + (c : Int) < 2 ^ 64
        omega
      · exact ⟨_, _, _, rfl, (markI_snoc hc).symm, rfl⟩
    · rintro σ H2 ⟨m, v1, v2, rfl, rfl, rfl⟩
      refine ⟨_, rfl, ?_⟩
      rw [List.take_length]
      exact k
/-! _law_bag -/
def sp_law_bag (K : PySem.W.Frag) : Sp := fun vs H Q _ => ∃ (a : Addr) (ns : List Int) (i : Int), vs = [.ref a, .int i] ∧ SqL K H a (ns.map V.int) ∧ 0 ≤ i ∧ i ≤ 63 ∧
  ∀ (p : Addr) (H' : Hp), H p = none → Bag H' p 0 → Same H H' → Q (.ref p) H'
theorem atI_ints {ns : List Int} {i : Int} (h0 : 0 ≤ i) (h1 : i < (ns.length : Int)) : ∃ z, atI (ns.map V.int) i = some (.int z) ∧ z ∈ ns := by
  obtain ⟨j, rfl⟩ : ∃ j : Nat, i = (j : Int) := ⟨i.toNat, by omega⟩
  have hj : j < ns.length := by omega
  refine ⟨ns[j], atI_nat ?_, List.getElem_mem hj⟩
  rw [List.getElem?_map, List.getElem?_eq_getElem hj]
  rfl
theorem ok_law_bag (T : Txt K mg) : FnOk P w K mg base CX0 1 T.f_law_bag T.fd_law_bag ["_law_script", "_law_at"] (sp_law_bag K) := by
  refine T.F_law_bag.ok sc_law_bag (fun vs H Q E h => ?_) (fun cdv A outer s H vs Q E hr h => ?_)
  · obtain ⟨a, ns, i, rfl, _⟩ := h
    rfl
  · obtain ⟨a, ns, i, rfl, hS, hi0, hi1, k⟩ := h
    refine ⟨_, (pss_cons (ps_set (i := 2) sc_law_bag.nd rfl (Or.inl rfl) pe_int)
      (pss_cons (ps_if (pt_cmpR op_lt (pv 1) (pe_callB call_len_seq (by rfl) T.z_len (by decide +kernel) (pa_cons (pv 0) pa_nil)) (nomark _))
        (pss_one (ps_set (i := 2) sc_law_bag.nd rfl (Or.inl rfl) (pe_callB call_abs (by rfl) T.z_abs (by decide +kernel) (pa_cons (pe_ix ix_list (pv 0) (pv 1) (fun _ _ => rfl)) pa_nil))))
        pss_nil)
      (pss_one (ps_ret (pe_lst (pa_cons (pe_op op_mul (pv 2) (pe_callTy call_int1 (by rfl) T.z_int (by decide +kernel) (pa_cons (pe_cmpR op_ge (pv 2) (pe_op op_powW pe_int pe_int) (nomark _)) pa_nil))) (pa_cons (pe_op op_add (pe_op op_add (pe_op op_add (pe_op op_mod (pv 2) pe_int) (pe_op op_mul (pe_op op_mul pe_int (pv 1)) (pv 1))) (pe_op op_mul pe_int (pv 1))) pe_int) (pa_cons pe_int pa_nil)))))))), ?_⟩
    have fin : ∀ cell : Int, 0 ≤ cell → ∀ p, H p = none → Q (.ref p) (upd H p (.lst [.int (cell * (if decide (10 ^ 18 ≤ cell) = true then 1 else 0)), .int (cell % 2305843009213693951 + 8191 * i * i + 131 * i + 5), .int 0])) := fun cell hc p hp => by
      have m0 := Int.emod_nonneg cell (show (2305843009213693951 : Int) ≠ 0 by decide)
      have m1 := Int.emod_lt_of_pos cell (show (0 : Int) < 2305843009213693951 by decide)
      have e1 : 8191 * i * i ≤ 8191 * 63 * 63 := Int.mul_le_mul (by omega) hi1 hi0 (by omega)
      have e2 : 0 ≤ 8191 * i * i := Int.mul_nonneg (by omega) hi0
      refine k p _ hp ⟨_, _, _, upd_same, ?_, by omega, by omega, by decide, by decide⟩ (Same.new (Same.refl H) hp)
      split <;> omega
    refine ⟨_, rfl, _, rfl, a, _, rfl, .inl hS, _, _, rfl, rfl, _, rfl, ?_⟩
    refine ite2 (fun h0 => ?_) (fun h0 => ?_)
    · have h0 : i < ((ns.map V.int).length : Int) := of_decide_eq_true h0
      rw [List.length_map] at h0
      obtain ⟨z, ez, _⟩ := atI_ints hi0 h0
      refine ⟨_, rfl, _, rfl, a, _, _, _, rfl, rfl, hS, ez, _, rfl, ?_⟩
      refine ⟨_, rfl, _, rfl, _, _, rfl, rfl, ⟨by decide, by decide +kernel⟩, _, _, rfl, rfl, .inr ⟨_, rfl, _, _, rfl, rfl, mul01, ?_⟩⟩
      refine ⟨_, rfl, _, _, rfl, rfl, (by show (0 : Int) < 2305843009213693951; decide), _, rfl, _, _, rfl, rfl, .inl ⟨by decide, by decide⟩, _, rfl, _, _, rfl, rfl, .inr ⟨by omega, by omega⟩, _, _, rfl, rfl, _, rfl, _, _, rfl, rfl, .inl ⟨by decide, by decide⟩, _, _, rfl, rfl, _, _, rfl, rfl, sz3, fun p hp => ?_⟩
      exact fin _ (by split <;> omega) p hp
    · refine ⟨_, rfl, _, rfl, _, _, rfl, rfl, ⟨by decide, by decide +kernel⟩, _, _, rfl, rfl, .inr ⟨_, rfl, _, _, rfl, rfl, mul01, ?_⟩⟩
      refine ⟨_, rfl, _, _, rfl, rfl, (by show (0 : Int) < 2305843009213693951; decide), _, rfl, _, _, rfl, rfl, .inl ⟨by decide, by decide⟩, _, rfl, _, _, rfl, rfl, .inr ⟨by omega, by omega⟩, _, _, rfl, rfl, _, rfl, _, _, rfl, rfl, .inl ⟨by decide, by decide⟩, _, _, rfl, rfl, _, _, rfl, rfl, sz3, fun p hp => ?_⟩
      exact fin 0 (by decide) p hp
/-! _law_take -/
def sp_law_take : Sp := fun vs H Q _ => ∃ (p : Addr) (n : Nat) (many : Int), vs = [.ref p, .int many] ∧ Bag H p n ∧ n < 2 ^ 40 ∧ 0 < many ∧ many < 2 ^ 30 ∧
  ∀ (r : Int) (H' : Hp), 0 ≤ r → r < many → Bag H' p (n + 1) → Fr p H H' → Q (.int r) H'
theorem take_pow {b c : Int} (h1 : 0 ≤ b) (h2 : b < 2 ^ 62) (h3 : 0 ≤ c) (h4 : c ≤ 2 ^ 40) : CPowW (b * (2 * c + 1) + 5003 * c * c + 97) 3 := by
  refine ⟨by decide, ?_⟩
  have e1 : b * (2 * c + 1) ≤ 2 ^ 62 * (2 * c + 1) := Int.mul_le_mul_of_nonneg_right (by omega) (by omega)
  have e2 : 5003 * c * c ≤ 5003 * 2 ^ 40 * 2 ^ 40 := Int.mul_le_mul (by omega) (by omega) (by omega) (by omega)
  have e3 : 0 ≤ b * (2 * c + 1) := Int.mul_nonneg h1 (by omega)
  have e4 : 0 ≤ 5003 * c * c := Int.mul_nonneg (by omega) h3
  have e5 : (b * (2 * c + 1) + 5003 * c * c + 97).natAbs < 2 ^ 120 := by omega
  have e6 : Builtin.Int.intBits (b * (2 * c + 1) + 5003 * c * c + 97) ≤ 120 := PyProof.Rows.intBits_le e5
  omega
theorem ok_law_take (T : Txt K mg) : FnOk P w K mg base CX0 1 T.f_law_take T.fd_law_take ["_law_bag_here", "_law_many"] sp_law_take := by
  refine T.F_law_take.ok sc_law_take (fun vs H Q E h => ?_) (fun cdv A outer s H vs Q E hr h => ?_)
  · obtain ⟨p, n, many, rfl, _⟩ := h
    rfl
  · obtain ⟨p, n, many, rfl, bg, hn, hm0, hm1, k⟩ := h
    obtain ⟨a, b, c, hp, ha, hb0, hb1, hc0, hc1⟩ := bg
    refine ⟨_, (pss_cons (ps_if (pt_cmpR op_gt (pe_ix ix_list (pv 0) pe_int (fun _ _ => rfl)) pe_int (nomark _))
        (pss_cons (ps_set (i := 2) sc_law_take.nd rfl (Or.inl rfl) (pe_op op_mod (pe_ix ix_list (pv 0) pe_int (fun _ _ => rfl)) (pv 1)))
        (pss_cons (ps_asg (pe_op op_fdiv (pe_ix ix_list (pv 0) pe_int (fun _ _ => rfl)) (pv 1)) (pg_sub (pv 0) pe_int set_list))
        (pss_one (ps_ret (pv 2)))))
        pss_nil)
      (pss_cons (ps_set (i := 3) sc_law_take.nd rfl (Or.inl rfl) (pe_tup (pa_cons pe_int (pa_cons pe_int (pa_cons pe_int (pa_cons pe_int (pa_cons pe_int (pa_cons pe_int (pa_cons pe_int pa_nil)))))))))
      (pss_cons (ps_asg (pe_op op_add (pe_ix ix_list (pv 0) pe_int (fun _ _ => rfl)) pe_int) (pg_sub (pv 0) pe_int set_list))
      (pss_cons (ps_set (i := 4) sc_law_take.nd rfl (Or.inl rfl) (pe_ix ix_list (pv 0) pe_int (fun _ _ => rfl)))
      (pss_cons (ps_set (i := 5) sc_law_take.nd rfl (Or.inl rfl) (pe_op op_add (pe_op op_add (pe_op op_mul (pe_ix ix_list (pv 0) pe_int (fun _ _ => rfl)) (pe_op op_add (pe_op op_mul pe_int (pv 4)) pe_int)) (pe_op op_mul (pe_op op_mul pe_int (pv 4)) (pv 4))) pe_int))
      (pss_cons (ps_set (i := 6) sc_law_take.nd rfl (Or.inl rfl) (pe_op op_mod (pe_op op_powW (pv 5) pe_int) (pe_ix ix_tup (pv 3) (pe_op op_mod (pv 4) pe_int) (fun _ _ => rfl))))
      (pss_cons (ps_set (i := 7) sc_law_take.nd rfl (Or.inl rfl) (pe_op op_add (pe_op op_add (pe_op op_fdiv (pv 6) pe_int) (pe_op op_mul pe_int (pv 4))) pe_int))
      (pss_one (ps_ret (pe_op op_mod (pe_op op_fdiv (pe_op op_mod (pe_op op_mul (pv 6) (pv 7)) (pe_ix ix_tup (pv 3) (pe_op op_mod (pe_op op_add (pv 4) pe_int) pe_int) (fun _ _ => rfl))) pe_int) (pv 1))))))))))), ?_⟩
    refine ⟨_, rfl, p, _, _, _, rfl, rfl, SqL.of hp, rfl, _, _, rfl, rfl, _, rfl, ?_⟩
    refine ite2 (fun h0 => ?_) (fun h0 => ?_)
    · have h0 : 0 < a := of_decide_eq_true h0
      refine ⟨_, rfl, p, _, _, _, rfl, rfl, SqL.of hp, rfl, _, rfl, _, _, rfl, rfl, hm0, ?_⟩
      refine ⟨_, rfl, p, _, _, _, rfl, rfl, SqL.of hp, rfl, _, rfl, _, _, rfl, rfl, ⟨hm0, by omega⟩, _, rfl, p, _, _, 0, rfl, rfl, hp, rfl, ?_⟩
      refine ⟨_, rfl, ?_⟩
      exact k _ _ (Int.emod_nonneg _ (by omega)) (Int.emod_lt_of_pos _ hm0) ⟨a / many, b, c, upd_same, Int.ediv_nonneg ha (by omega), hb0, hb1, hc0, by omega⟩ Fr.refl.at
    · refine ⟨by decide, fun q hq => ?_⟩
      have nqp : p ≠ q := ne_of_none hp hq
      have hp1 : upd H q (.tup [.int 2147483647, .int 2147483629, .int 2147483587, .int 2147483579, .int 2147483563, .int 2147483549, .int 2147483543]) p = some (.lst [.int a, .int b, .int c]) := by rw [upd_ne nqp]; exact hp
      refine ⟨_, rfl, p, _, _, _, rfl, rfl, SqL.of hp1, rfl, _, _, rfl, rfl, _, rfl, p, _, _, 2, rfl, rfl, hp1, rfl, ?_⟩
      have hp2 : upd (upd H q (.tup [.int 2147483647, .int 2147483629, .int 2147483587, .int 2147483579, .int 2147483563, .int 2147483549, .int 2147483543])) p (.lst [.int a, .int b, .int (c + 1)]) p = some (.lst [.int a, .int b, .int (c + 1)]) := upd_same
      have hq2 : upd (upd H q (.tup [.int 2147483647, .int 2147483629, .int 2147483587, .int 2147483579, .int 2147483563, .int 2147483549, .int 2147483543])) p (.lst [.int a, .int b, .int (c + 1)]) q = some (.tup [.int 2147483647, .int 2147483629, .int 2147483587, .int 2147483579, .int 2147483563, .int 2147483549, .int 2147483543]) := by rw [upd_ne nqp.symm, upd_same]
      have pr : ∀ i : Int, ∃ m : Int, atI [V.int 2147483647, .int 2147483629, .int 2147483587, .int 2147483579, .int 2147483563, .int 2147483549, .int 2147483543] (i % 7) = some (.int m) ∧ 0 < m ∧ m < 2 ^ 31 := fun i => by
        have h1 := Int.emod_nonneg i (show (7 : Int) ≠ 0 by decide)
        have h2 := Int.emod_lt_of_pos i (show (0 : Int) < 7 by decide)
        obtain ⟨j, e⟩ : ∃ j : Nat, i % 7 = (j : Int) := ⟨(i % 7).toNat, by omega⟩
        rw [e] at h2 ⊢
        match j, h2 with
        | 0, _ => exact ⟨_, rfl, by decide, by decide⟩
        | 1, _ => exact ⟨_, rfl, by decide, by decide⟩
        | 2, _ => exact ⟨_, rfl, by decide, by decide⟩
        | 3, _ => exact ⟨_, rfl, by decide, by decide⟩
        | 4, _ => exact ⟨_, rfl, by decide, by decide⟩
        | 5, _ => exact ⟨_, rfl, by decide, by decide⟩
        | 6, _ => exact ⟨_, rfl, by decide, by decide⟩
      obtain ⟨m1, em1, hm10, hm11⟩ := pr (c + 1)
      obtain ⟨m2, em2, hm20, hm21⟩ := pr (c + 1 + 2)
      refine ⟨_, rfl, p, _, _, _, rfl, rfl, SqL.of hp2, rfl, ?_⟩
      refine ⟨_, rfl, p, _, _, _, rfl, rfl, SqL.of hp2, rfl, _, rfl, _, _, rfl, rfl, .inl ⟨by decide, by decide⟩, _, _, rfl, rfl, _, _, rfl, rfl, .inl ⟨by omega, by omega⟩, ?_⟩
      refine ⟨_, rfl, _, _, rfl, rfl, .inl ⟨by decide, by decide⟩, _, rfl, _, _, rfl, rfl, .inr ⟨by omega, by omega⟩, _, _, rfl, rfl, _, _, rfl, rfl, ?_⟩
      refine ⟨_, rfl, _, _, rfl, rfl, take_pow hb0 hb1 (by omega) (by omega), _, rfl, _, rfl, _, _, rfl, rfl, (by show (0 : Int) < 7; decide), q, _, _, _, rfl, rfl, SqT.of hq2, em1, _, _, rfl, rfl, hm10, ?_⟩
      have v1 := Int.emod_nonneg ((b * (2 * (c + 1) + 1) + 5003 * (c + 1) * (c + 1) + 97) ^ Int.toNat 3) (show m1 ≠ 0 by omega)
      have v2 := Int.emod_lt_of_pos ((b * (2 * (c + 1) + 1) + 5003 * (c + 1) * (c + 1) + 97) ^ Int.toNat 3) hm10
      refine ⟨_, rfl, _, _, rfl, rfl, ⟨by decide, by decide⟩, _, rfl, _, _, rfl, rfl, .inl ⟨by decide, by decide⟩, _, _, rfl, rfl, _, _, rfl, rfl, ?_⟩
      refine ⟨_, rfl, _, rfl, _, _, rfl, rfl, .inl ⟨by omega, by omega⟩, _, rfl, _, rfl, _, _, rfl, rfl, _, _, rfl, rfl, (by show (0 : Int) < 7; decide), q, _, _, _, rfl, rfl, SqT.of hq2, em2, _, _, rfl, rfl, hm20, _, _, rfl, rfl, ⟨by decide, by decide⟩, _, rfl, _, _, rfl, rfl, hm0, ?_⟩
      exact k _ _ (Int.emod_nonneg _ (by omega)) (Int.emod_lt_of_pos _ hm0) ⟨a, b, c + 1, hp2, ha, hb0, hb1, by omega, by omega⟩ (Fr.at (Fr.new Fr.refl hq))
/-! _law_mark -/
def sp_law_mark : Sp := fun vs H Q _ => ∃ (s : Int) (z : Str), vs = [.int s, .str z] ∧ CodesOk z ∧ Q (.int (markI s z.cps.toList)) H
theorem ok_law_mark (T : Txt K mg) : FnOk P w K mg base CX0 1 T.f_law_mark T.fd_law_mark ["_law_salt", "_law_words"] sp_law_mark := by
  refine T.F_law_mark.ok sc_law_mark (fun vs H Q E h => ?_) (fun cdv A outer s H vs Q E hr h => ?_)
  · obtain ⟨s, z, rfl, _⟩ := h
    rfl
  · obtain ⟨sd, z, rfl, hz, k⟩ := h
    refine ⟨_, (pss_cons (ps_set (i := 2) sc_law_mark.nd rfl (Or.inl rfl) (pe_op op_mod (pv 0) pe_int))
      (pss_cons (ps_for PassesOwn.never (by rfl) (pi_str (pv 1)) (pg_name (i := 3) sc_law_mark.nd rfl (Or.inl rfl))
        (pss_one (ps_set (i := 2) sc_law_mark.nd rfl (Or.inl rfl) (pe_op op_mod (pe_op op_add (pe_op op_add (pe_op op_mul (pe_op op_add (pv 2) (pe_callB call_ord (by rfl) T.z_ord (by decide +kernel) (pa_cons (pv 3) pa_nil))) (pe_op op_add (pv 2) (pe_callB call_ord (by rfl) T.z_ord (by decide +kernel) (pa_cons (pv 3) pa_nil)))) (pe_op op_mul pe_int (pv 2))) pe_int) pe_int))))
      (pss_one (ps_ret (pv 2))))), ?_⟩
    refine ⟨_, rfl, _, _, rfl, rfl, (by show (0 : Int) < 1009; decide), ?_⟩
    refine ⟨_, rfl, z, rfl, for_str (fun i σ H2 => ∃ m v1, σ = [some (.int sd), some (.str z), some (.int m), v1] ∧ m = markI sd (z.cps.toList.take i) ∧ H2 = H) ⟨_, none, rfl, rfl, rfl⟩ ?_ ?_⟩
    · rintro i c σ H2 hc ⟨m, v1, rfl, rfl, rfl⟩
      have b := markI_b sd (z.cps.toList.take i)
      have c1 : c < 2 ^ 30 := hz c (List.mem_of_getElem? hc)
      refine ⟨_, rfl, _, rfl, _, rfl, rfl, _, _, rfl, rfl, _, rfl, _, rfl, _, rfl, rfl, _, _, rfl, rfl, ?_⟩
      refine ⟨_, _, rfl, rfl, .inl ⟨?_, ?_⟩, _, rfl, _, _, rfl, rfl, .inl ⟨by decide, by decide⟩, _, _, rfl, rfl, _, _, rfl, rfl, _, _, rfl, rfl, (by show (0 : Int) < 1009; decide), ?_⟩
      · show -(2 ^ 64) < markI sd (z.cps.toList.take i) + (c : Int)
        omega
      · show markI sd (z.cps.toList.take i) + (c : Int) < 2 ^ 64
        omega
      · exact ⟨_, _, rfl, (markI_snoc hc).symm, rfl⟩
    · rintro σ H2 ⟨m, v1, rfl, rfl, rfl⟩
      refine ⟨_, rfl, ?_⟩
      rw [List.take_length]
      exact k
/-! _law_whole -/
/-- whether a thing is a whole number: an int does, a bool, None, a text, a list, a tuple don't -/
def sp_law_whole : Sp := fun vs H Q _ => ∃ x : V, vs = [x] ∧ ((∃ i, x = .int i ∧ Q (.bl true) H) ∨ (∃ b, x = .bl b ∧ Q (.bl false) H) ∨ (x = .non ∧ Q (.bl false) H) ∨ (∃ z, x = .str z ∧ Q (.bl false) H))
theorem ok_law_whole (T : Txt K mg) : FnOk P w K mg base CX0 1 T.f_law_whole T.fd_law_whole ["_law_odd_one"] sp_law_whole := by
  refine T.F_law_whole.ok sc_law_whole (fun vs H Q E h => ?_) (fun cdv A outer s H vs Q E hr h => ?_)
  · obtain ⟨x, rfl, _⟩ := h
    rfl
  · obtain ⟨x, rfl, h⟩ := h
    refine ⟨_, (pss_one (ps_ret (pe_and (pe_callB call_isi (by rfl) T.z_isinstance (by decide +kernel) (pa_cons (pv 0) (pa_cons (pe_bltn (v := .ty "int") (u := .type "int") (by rfl) T.z_int (by decide +kernel) rfl) pa_nil))) (pe_one (pe_not (pe_callB call_isi (by rfl) T.z_isinstance (by decide +kernel) (pa_cons (pv 0) (pa_cons (pe_bltn (v := .ty "bool") (u := .type "bool") (by rfl) T.z_bool (by decide +kernel) rfl) pa_nil)))))))), ?_⟩
    rcases h with ⟨i, rfl, k⟩ | ⟨b, rfl, k⟩ | ⟨rfl, k⟩ | ⟨z, rfl, k⟩
    · refine ⟨_, rfl, _, _, _, _, true, rfl, .ty "int", .base (.int _), kit_ty (by decide +kernel), _, rfl, iteT ?_⟩
      exact ⟨_, rfl, _, _, _, _, false, rfl, .ty "bool", .base (.int _), kit_ty (by decide +kernel), _, rfl, k⟩
    · refine ⟨_, rfl, _, _, _, _, true, rfl, .ty "int", .base (.bl _), kit_ty (by decide +kernel), _, rfl, iteT ?_⟩
      exact ⟨_, rfl, _, _, _, _, true, rfl, .ty "bool", .base (.bl _), kit_ty (by decide +kernel), _, rfl, k⟩
    · exact ⟨_, rfl, _, _, _, _, false, rfl, .ty "int", .base .non, kit_ty (by decide +kernel), _, rfl, iteF k⟩
    · exact ⟨_, rfl, _, _, _, _, false, rfl, .ty "int", .base (.str _), kit_ty (by decide +kernel), _, rfl, iteF k⟩
/-! _law_name -/
theorem letters_ok : ∀ c ∈ tl "abcdefghijklmnopqrstuvwxyz", 97 ≤ c ∧ c ≤ 122 := by decide
/-- so many letters -/
def Nm (cs : List Nat) (most : Int) : Prop := 1 ≤ cs.length ∧ (cs.length : Int) ≤ most ∧ ∀ c ∈ cs, 97 ≤ c ∧ c ≤ 122
def sp_law_name : Sp := fun vs H Q _ => ∃ (p : Addr) (n : Nat) (most : Int), vs = [.ref p, .int most] ∧ Bag H p n ∧ n + 20 < 2 ^ 40 ∧ 0 < most ∧ most ≤ 8 ∧
  ∀ (cs : List Nat) (H' : Hp), Nm cs most → Bag H' p (n + 9) → Fr p H H' → Q (.str (S cs)) H'
theorem ok_law_name (T : Txt K mg) : FnOk P w K mg base CX0 2 T.f_law_name T.fd_law_name ["_law_bag_here", "_law_most"] sp_law_name := by
  refine T.F_law_name.ok sc_law_name (fun vs H Q E h => ?_) (fun cdv A outer s H vs Q E hr h => ?_)
  · obtain ⟨p, n, most, rfl, _⟩ := h
    rfl
  · obtain ⟨p, n, most, rfl, bg, hn, hm0, hm1, k⟩ := h
    refine ⟨_, (pss_cons (ps_set (i := 2) sc_law_name.nd rfl (Or.inr rfl) pe_str)
      (pss_one (ps_ret (pe_join pe_str (pe_lc (own := [("_law_k", 3)]) (g := gName 3) (by rfl) sc_law_name.nd (pi_range1 (by rfl) T.z_range (pa_cons (pe_op op_add pe_int (pe_call (ok_law_take T) (hr.mono (by decide)) (by rfl) T.m_law_take T.F_law_take.kp T.b_law_take .nil pass0 (pa_cons (pv 0) (pa_cons (pv 1) pa_nil)))) pa_nil)) (blkOk_by (own := [("_law_k", 3)]) (N := ["_law_bag_here", "_law_most", "_law_letters", "_law_k"]) (sc := defScope s_law_name) (by decide +kernel)) (fun _ _ _ _ _ => (pg_name (i := 3) sc_law_name.nd rfl (Or.inl rfl))) (fun _ _ _ _ _ => pts_nil) (fun _ _ _ _ _ => (pe_ix ix_str (pv 2) (pe_call (ok_law_take T) (hr.mono (by decide)) (by rfl) T.m_law_take T.F_law_take.kp T.b_law_take .nil pass0 (pa_cons (pv 0) (pa_cons pe_int pa_nil))) (fun _ _ => rfl)))))))), ?_⟩
    refine ⟨⟨_, rfl⟩, _, rfl, _, rfl, p, n, most, rfl, bg, by omega, hm0, by omega, fun r H1 h0 h1 bg1 fr1 => ?_⟩
    refine ⟨_, _, rfl, rfl, _, rfl, by omega, by omega, fun D hD => ?_⟩
    have nDp : D ≠ p := bg1.ne hD
    have hD0 : H D = none := fr1.free hD nDp
    refine lc_range (lo := 0) (n := (1 + r).toNat) (fun i H2 => ∃ cs : List Nat, cs.length = i ∧ (∀ c ∈ cs, 97 ≤ c ∧ c ≤ 122) ∧ H2 D = some (.lst (ones cs)) ∧ Bag H2 p (n + 1 + i) ∧ Fr p H H2)
      ⟨[], rfl, (fun _ h => nomatch h), upd_same, bg1.mut nDp, fr1.mut hD0⟩ ?_ ?_
    · rintro i H2 hi ⟨cs, hl, hc, hD2, bg2, fr2⟩
      refine ⟨rfl, tYes_go ?_⟩
      refine ⟨_, rfl, _, rfl, p, _, _, rfl, bg2, by omega, by decide, by decide, fun r2 H3 h20 h21 bg3 fr3 => ?_⟩
      obtain ⟨c, ec, mc⟩ := sign_at (z := "abcdefghijklmnopqrstuvwxyz") h20 h21
      refine ⟨_, _, _, rfl, rfl, by decide, ec, _, fr3 D _ nDp hD2, by rw [ones_len]; exact sz_lt (by omega), cs ++ [c], by rw [List.length_append, hl]; rfl, fun x hx => ?_, ?_, ?_, ?_⟩
      · rcases List.mem_append.mp hx with h | h
        · exact hc x h
        · rw [List.mem_singleton.mp h]
          exact letters_ok c mc
      · rw [← ones_snoc]
        exact upd_same
      · exact (bg3.up (by omega)).mut nDp
      · exact (fr2.trans fr3).mut hD0
    · rintro H2 ⟨cs, hl, hc, hD2, bg2, fr2⟩
      refine ⟨_, D, cs.map fun c => S [c], rfl, rfl, .inl (SqL.of hD2), ?_, ?_⟩
      · rw [ones_sum]
        show cs.length * (0 + 1) ≤ 16777216
        omega
      · rw [show (Str.ofString "" : Str) = S [] from rfl, join_ones]
        exact k cs H2 ⟨by omega, by omega, hc⟩ (bg2.up (by omega)) fr2
/-! _law_seed -/
def sp_law_seed : Sp := fun vs H Q _ => ∃ (p : Addr) (n : Nat), vs = [.ref p] ∧ Bag H p n ∧ n + 20 < 2 ^ 40 ∧
  ∀ (r : Int) (H' : Hp), 0 ≤ r → r ≤ 999999 → Bag H' p (n + 2) → Fr p H H' → Q (.int r) H'
theorem ok_law_seed (T : Txt K mg) : FnOk P w K mg base CX0 2 T.f_law_seed T.fd_law_seed ["_law_bag_here"] sp_law_seed := by
  refine T.F_law_seed.ok sc_law_seed (fun vs H Q E h => ?_) (fun cdv A outer s H vs Q E hr h => ?_)
  · obtain ⟨p, n, rfl, _⟩ := h
    rfl
  · obtain ⟨p, n, rfl, bg, hn, k⟩ := h
    refine ⟨_, (pss_one (ps_ret (pe_ix ix_list (pe_lst (pa_cons pe_int (pa_cons pe_int (pa_cons pe_int (pa_cons (pe_call (ok_law_take T) (hr.mono (by decide)) (by rfl) T.m_law_take T.F_law_take.kp T.b_law_take .nil pass0 (pa_cons (pv 0) (pa_cons pe_int pa_nil))) pa_nil))))) (pe_call (ok_law_take T) (hr.mono (by decide)) (by rfl) T.m_law_take T.F_law_take.kp T.b_law_take .nil pass0 (pa_cons (pv 0) (pa_cons pe_int pa_nil))) (fun _ _ => rfl)))), ?_⟩
    refine ⟨_, rfl, p, n, _, rfl, bg, by omega, by decide, by decide, fun r H1 h0 h1 bg1 fr1 => ?_⟩
    refine ⟨sz4, fun q hq => ?_⟩
    have nqp : q ≠ p := bg1.ne hq
    refine ⟨_, rfl, p, _, _, rfl, bg1.mut nqp, by omega, by decide, by decide, fun r2 H2 h20 h21 bg2 fr2 => ?_⟩
    have hq2 : H2 q = some (.lst [.int 0, .int 7, .int 999999, .int r]) := fr2 q _ nqp upd_same
    have e : ∃ v : Int, atI [V.int 0, .int 7, .int 999999, .int r] r2 = some (.int v) ∧ 0 ≤ v ∧ v ≤ 999999 := by
      obtain ⟨j, rfl⟩ : ∃ j : Nat, r2 = (j : Int) := ⟨r2.toNat, by omega⟩
      match j, h21 with
      | 0, _ => exact ⟨_, rfl, by decide, by decide⟩
      | 1, _ => exact ⟨_, rfl, by decide, by decide⟩
      | 2, _ => exact ⟨_, rfl, by decide, by decide⟩
      | 3, _ => exact ⟨_, rfl, h0, by omega⟩
    obtain ⟨v, ev, hv0, hv1⟩ := e
    refine ⟨q, _, _, _, rfl, rfl, SqL.of hq2, ev, ?_⟩
    exact k v H2 hv0 hv1 bg2 ((fr1.new hq).trans fr2)
/-! _law_of -/
def sp_law_of : Sp := fun vs H Q _ => ∃ (p : Addr) (n : Nat) (z : Str), vs = [.ref p, .str z] ∧ Bag H p n ∧ n + 20 < 2 ^ 40 ∧ 0 < z.length ∧ z.length ≤ 1000 ∧
  ∀ (c : Nat) (H' : Hp), c ∈ tl z → Bag H' p (n + 1) → Fr p H H' → Q (.str ⟨#[c]⟩) H'
theorem ok_law_of (T : Txt K mg) : FnOk P w K mg base CX0 2 T.f_law_of T.fd_law_of ["_law_bag_here", "_law_some_here"] sp_law_of := by
  refine T.F_law_of.ok sc_law_of (fun vs H Q E h => ?_) (fun cdv A outer s H vs Q E hr h => ?_)
  · obtain ⟨p, n, z, rfl, _⟩ := h
    rfl
  · obtain ⟨p, n, z, rfl, bg, hn, hz0, hz1, k⟩ := h
    refine ⟨_, (pss_one (ps_ret (pe_ix ix_str (pv 1) (pe_call (ok_law_take T) (hr.mono (by decide)) (by rfl) T.m_law_take T.F_law_take.kp T.b_law_take .nil pass0 (pa_cons (pv 0) (pa_cons (pe_callB call_len_str (by rfl) T.z_len (by decide +kernel) (pa_cons (pv 1) pa_nil)) pa_nil))) (fun _ _ => rfl)))), ?_⟩
    refine ⟨_, rfl, _, rfl, _, rfl, z, rfl, sz_ (by omega), p, n, _, rfl, bg, by omega, by omega, by omega, fun r H1 h0 h1 bg1 fr1 => ?_⟩
    rw [len_tl] at h1
    obtain ⟨c, ec, mc⟩ := sign_at (z := z) h0 h1
    exact ⟨_, _, _, rfl, rfl, sz_ (by omega), ec, k c H1 mc bg1 fr1⟩
/-! _law_some -/
/-- signs of texts -/
def signsZ : Str := " !\"#$&'()*+,-./0123456789:;<=>?@ABCDEFGHIJKLMNOPQRSTUVWXYZ[\\]^_`abcdefghijklmnopqrstuvwxyz{|}~"
theorem signsZ_len : signsZ.length = 94 := by decide
theorem signsZ_ok : ∀ c ∈ tl signsZ, c < 127 := by decide
def sp_law_some : Sp := fun vs H Q _ => ∃ (p : Addr) (n : Nat), vs = [.ref p] ∧ Bag H p n ∧ n + 200 < 2 ^ 40 ∧
  ∀ (cs : List Nat) (H' : Hp), cs.length ≤ 100 → (∀ c ∈ cs, c < 127) → Bag H' p (n + 100) → Fr p H H' → Q (.str (S cs)) H'
theorem rep_mem (a : Array Nat) {c : Nat} : ∀ (m : Nat) (acc : Array Nat), c ∈ (List.foldl (fun x1 x2 => x1 ++ x2) acc (List.replicate m a)).toList → c ∈ acc.toList ∨ c ∈ a.toList
  | 0, acc, h => .inl h
  | m + 1, acc, h => by
    rw [List.replicate_succ, List.foldl_cons] at h
    rcases rep_mem a m _ h with h | h
    · rw [Array.toList_append] at h
      exact List.mem_append.mp h
    · exact .inr h
theorem mulS_mem {x : Str} {n : Int} {c : Nat} (h : c ∈ tl (mulS x n)) : c ∈ tl x := by
  unfold mulS at h
  split at h
  · exact nomatch h
  · split at h
    · exact h
    · rcases rep_mem x.cps _ _ h with h | h
      · exact nomatch h
      · exact h
theorem ok_law_some (T : Txt K mg) : FnOk P w K mg base CX0 3 T.f_law_some T.fd_law_some ["_law_bag_here"] sp_law_some := by
  refine T.F_law_some.ok sc_law_some (fun vs H Q E h => ?_) (fun cdv A outer s H vs Q E hr h => ?_)
  · obtain ⟨p, n, rfl, _⟩ := h
    rfl
  · obtain ⟨p, n, rfl, bg, hn, k⟩ := h
    refine ⟨_, (pss_cons (ps_set (i := 1) sc_law_some.nd rfl (Or.inr rfl) pe_str)
      (pss_cons (ps_set (i := 2) sc_law_some.nd rfl (Or.inl rfl) (pe_call (ok_law_take T) (hr.mono (by decide)) (by rfl) T.m_law_take T.F_law_take.kp T.b_law_take .nil pass0 (pa_cons (pv 0) (pa_cons pe_int pa_nil))))
      (pss_cons (ps_if (pt_cmpR op_eq (pv 2) pe_int (nomark _))
        (pss_one (ps_ret (pe_op op_mul_str (pe_ix ix_str (pv 1) (pe_call (ok_law_take T) (hr.mono (by decide)) (by rfl) T.m_law_take T.F_law_take.kp T.b_law_take .nil pass0 (pa_cons (pv 0) (pa_cons (pe_callB call_len_str (by rfl) T.z_len (by decide +kernel) (pa_cons (pv 1) pa_nil)) pa_nil))) (fun _ _ => rfl)) (pe_call (ok_law_take T) (hr.mono (by decide)) (by rfl) T.m_law_take T.F_law_take.kp T.b_law_take .nil pass0 (pa_cons (pv 0) (pa_cons pe_int pa_nil))))))
        pss_nil)
      (pss_cons (ps_if (pt_cmpR op_eq (pv 2) pe_int (nomark _))
        (pss_one (ps_ret (pe_op op_add_str (pe_op op_add_str (pe_op op_add_str pe_str (pe_call (ok_law_name T) (hr.mono (by decide)) (by rfl) T.m_law_name T.F_law_name.kp T.b_law_name .nil pass0 (pa_cons (pv 0) (pa_cons pe_int pa_nil)))) pe_str) (pe_call (ok_law_name T) (hr.mono (by decide)) (by rfl) T.m_law_name T.F_law_name.kp T.b_law_name .nil pass0 (pa_cons (pv 0) (pa_cons pe_int pa_nil))))))
        pss_nil)
      (pss_one (ps_ret (pe_join pe_str (pe_lc (own := [("_law_k", 3)]) (g := gName 3) (by rfl) sc_law_some.nd (pi_range1 (by rfl) T.z_range (pa_cons (pe_call (ok_law_take T) (hr.mono (by decide)) (by rfl) T.m_law_take T.F_law_take.kp T.b_law_take .nil pass0 (pa_cons (pv 0) (pa_cons (pe_ix ix_list (pe_lst (pa_cons pe_int (pa_cons pe_int pa_nil))) (pe_op op_sub (pv 2) pe_int) (fun _ _ => rfl)) pa_nil))) pa_nil)) (blkOk_by (own := [("_law_k", 3)]) (N := ["_law_bag_here", "_law_signs", "_law_pick", "_law_k"]) (sc := defScope s_law_some) (by decide +kernel)) (fun _ _ _ _ _ => (pg_name (i := 3) sc_law_some.nd rfl (Or.inl rfl))) (fun _ _ _ _ _ => pts_nil) (fun _ _ _ _ _ => (pe_call (ok_law_of T) (hr.mono (by decide)) (by rfl) T.m_law_of T.F_law_of.kp T.b_law_of .nil pass0 (pa_cons (pv 0) (pa_cons (pv 1) pa_nil)))))))))))), ?_⟩
    refine ⟨_, rfl, p, n, _, rfl, bg, by omega, by decide, by decide, fun r H1 h0 h1 bg1 fr1 => ?_⟩
    refine ⟨_, rfl, rfl, _, rfl, ?_⟩
    refine ite2 (fun e0 => ?_) (fun e0 => ?_)
    · refine ⟨_, rfl, _, rfl, _, rfl, signsZ, rfl, by decide, p, _, _, rfl, bg1, by omega, by decide, by decide, fun r2 H2 h20 h21 bg2 fr2 => ?_⟩
      obtain ⟨c, ec, mc⟩ := sign_at (z := signsZ) h20 h21
      refine ⟨_, _, _, rfl, rfl, by decide, ec, _, rfl, p, _, _, rfl, bg2, by omega, by decide, by decide, fun r3 H3 h30 h31 bg3 fr3 => ?_⟩
      refine ⟨_, _, rfl, rfl, by omega, by omega, ?_, ?_⟩
      · show 1 * r3.toNat ≤ sizeLine
        exact sz_ (by omega)
      · rw [← S_tl (mulS _ r3)]
        refine k _ H3 ?_ (fun x hx => ?_) (bg3.up (by omega)) ((fr1.trans fr2).trans fr3)
        · rw [← len_tl, mulS_len _ _ h30]
          show 1 * r3.toNat ≤ 100
          omega
        · have hx := mulS_mem hx
          rw [S_one, tl_S] at hx
          rw [List.mem_singleton.mp hx]
          exact signsZ_ok c mc
    · refine ⟨_, rfl, rfl, _, rfl, ?_⟩
      refine ite2 (fun e1 => ?_) (fun e1 => ?_)
      · refine ⟨_, rfl, p, _, _, rfl, bg1, by omega, by decide, by decide, fun cs H2 nm bg2 fr2 => ?_⟩
        refine ⟨_, _, rfl, rfl, ?_, _, _, rfl, rfl, ?_, _, rfl, p, _, _, rfl, bg2, by omega, by decide, by decide, fun cs2 H3 nm2 bg3 fr3 => ?_⟩
        · rw [S_len]
          show 2 + cs.length ≤ sizeLine
          have := nm.2.1
          exact sz_ (by omega)
        · rw [show (Str.ofString "r:" : Str) = S [114, 58] from rfl, S_app, S_len]
          show cs.length + 2 + 1 ≤ sizeLine
          have := nm.2.1
          exact sz_ (by omega)
        · have l1 := nm.2.1
          have l2 := nm2.2.1
          rw [show (Str.ofString "r:" : Str) = S [114, 58] from rfl, show (Str.ofString ":" : Str) = S [58] from rfl, S_app, S_app]
          refine ⟨_, _, rfl, rfl, ?_, ?_⟩
          · rw [S_len, S_len, List.length_append, List.length_append]
            show 2 + cs.length + 1 + cs2.length ≤ sizeLine
            exact sz_ (by omega)
          · rw [S_app]
            refine k _ H3 ?_ (fun x hx => ?_) (bg3.up (by omega)) ((fr1.trans fr2).trans fr3)
            · rw [List.length_append, List.length_append, List.length_append]
              show 2 + cs.length + 1 + cs2.length ≤ 100
              omega
            · have h1 := nm.2.2 x
              have h2 := nm2.2.2 x
              simp only [List.mem_append, List.mem_cons, List.not_mem_nil, or_false] at hx
              rcases hx with (((h | h) | h) | h) | h
              · omega
              · omega
              · have := h1 h
                omega
              · omega
              · have := h2 h
                omega
      · refine ⟨⟨_, rfl⟩, _, rfl, sz2, fun q hq => ?_⟩
        have nqp : q ≠ p := bg1.ne hq
        have hr2 : r = 2 ∨ r = 3 := by
          have e0 : ¬ r = 0 := fun z => e0 (decide_eq_true (by rw [z]))
          have e1 : ¬ r = 1 := fun z => e1 (decide_eq_true (by rw [z]))
          omega
        have e : ∃ v : Int, atI [V.int 10, .int 98] (r - 2) = some (.int v) ∧ 0 < v ∧ v ≤ 98 := by
          rcases hr2 with rfl | rfl
          · exact ⟨_, rfl, by decide, by decide⟩
          · exact ⟨_, rfl, by decide, by decide⟩
        obtain ⟨v, ev, hv0, hv1⟩ := e
        refine ⟨_, rfl, _, _, rfl, rfl, q, _, _, _, rfl, rfl, SqL.of upd_same, ev, p, _, _, rfl, bg1.mut nqp, by omega, hv0, by omega, fun r2 H2 h20 h21 bg2 fr2 => ?_⟩
        have fr2 : Fr p H H2 := (fr1.new hq).trans fr2
        refine ⟨_, rfl, by omega, by omega, fun D hD => ?_⟩
        have nDp : D ≠ p := bg2.ne hD
        have hD0 : H D = none := fr2.free hD nDp
        refine lc_range (lo := 0) (n := r2.toNat) (fun i H2 => ∃ cs : List Nat, cs.length = i ∧ (∀ c ∈ cs, c < 127) ∧ H2 D = some (.lst (ones cs)) ∧ Bag H2 p (n + 2 + i) ∧ Fr p H H2)
          ⟨[], rfl, (fun _ h => nomatch h), upd_same, bg2.mut nDp, fr2.mut hD0⟩ ?_ ?_
        · rintro i H3 hi ⟨cs, hl, hc, hD3, bg3, fr3⟩
          refine ⟨rfl, tYes_go ?_⟩
          refine ⟨_, rfl, _, rfl, p, _, _, rfl, bg3, by omega, by decide, by decide, fun c H4 mc bg4 fr4 => ?_⟩
          refine ⟨_, fr4 D _ nDp hD3, by rw [ones_len]; exact sz_lt (by omega), cs ++ [c], by rw [List.length_append, hl]; rfl, fun x hx => ?_, ?_, ?_, ?_⟩
          · rcases List.mem_append.mp hx with h | h
            · exact hc x h
            · rw [List.mem_singleton.mp h]
              exact signsZ_ok c mc
          · rw [← ones_snoc]
            exact upd_same
          · exact (bg4.up (by omega)).mut nDp
          · exact (fr3.trans fr4).mut hD0
        · rintro H3 ⟨cs, hl, hc, hD3, bg3, fr3⟩
          refine ⟨_, D, cs.map fun c => S [c], rfl, rfl, .inl (SqL.of hD3), ?_, ?_⟩
          · rw [ones_sum]
            show cs.length * (0 + 1) ≤ 16777216
            omega
          · rw [show (Str.ofString "" : Str) = S [] from rfl, join_ones]
            exact k cs H3 (by omega) hc (bg3.up (by omega)) fr3
/-! law -/
/-- a text with small codes, not too long -/
def Sm (z : Str) : Prop := z.length ≤ 1000 ∧ ∀ c ∈ tl z, c < 127
theorem Sm.ok {z : Str} (h : Sm z) : CodesOk z := fun c m => Nat.lt_trans (h.2 c m) (by decide)
theorem Sm.of {cs : List Nat} (h : cs.length ≤ 1000) (h2 : ∀ c ∈ cs, c < 127) : Sm (S cs) := ⟨by rw [S_len]; exact h, by rw [tl_S]; exact h2⟩
theorem Sm.nm {cs : List Nat} {m : Int} (h : Nm cs m) (hm : m ≤ 8) : (S cs).length ≤ 8 ∧ ∀ c ∈ tl (S cs), c < 127 := ⟨by rw [S_len]; have := h.2.1; omega, by rw [tl_S]; intro c hc; have := h.2.2 c hc; omega⟩
theorem Sm.cut {z : Str} (h : (∀ c ∈ tl z, c < 127)) (lo hi : Option Int) : ∀ c ∈ tl (cutS z lo hi), c < 127 := fun c m => h c (List.mem_of_mem_drop (List.mem_of_mem_take m))
theorem Sm.app {x y : Str} (h : ∀ c ∈ tl x, c < 127) (h2 : ∀ c ∈ tl y, c < 127) : ∀ c ∈ tl (x ++ y), c < 127 := fun c m => by
  rw [tl_append] at m
  rcases List.mem_append.mp m with m | m
  · exact h c m
  · exact h2 c m
theorem app_len (x y : Str) : (x ++ y).length = x.length + y.length := by rw [len_tl, tl_append, List.length_append, ← len_tl, ← len_tl]
def sp_law (K : PySem.W.Frag) : Sp := fun vs H Q _ => ∃ (a : Addr) (ns : List Int), vs = [.ref a] ∧ SqL K H a (ns.map V.int) ∧ ns.length ≤ 63 ∧ ∀ H', Q (.bl true) H'
theorem ok_law (T : Txt K mg) : FnOk P w K mg base CX0 4 T.f_law T.fd_law ["_law_script"] (sp_law K) := by
  refine T.F_law.ok sc_law (fun vs H Q E h => ?_) (fun cdv A outer s H vs Q E hr h => ?_)
  · obtain ⟨a, ns, rfl, _⟩ := h
    rfl
  · obtain ⟨a, ns, rfl, hS, hl, k⟩ := h
    refine ⟨_, (pss_cons (ps_for PassesOwn.never (by rfl) (pi_range1 (by rfl) T.z_range (pa_cons (pe_callB (call_max2 rfl) (by rfl) T.z_max (by decide +kernel) (pa_cons pe_int (pa_cons (pe_callB (call_min2 rfl) (by rfl) T.z_min (by decide +kernel) (pa_cons pe_int (pa_cons (pe_callB call_len_seq (by rfl) T.z_len (by decide +kernel) (pa_cons (pv 0) pa_nil)) pa_nil))) pa_nil))) pa_nil)) (pg_name (i := 1) sc_law.nd rfl (Or.inl rfl))
        (pss_cons (ps_set (i := 2) sc_law.nd rfl (Or.inl rfl) (pe_call (ok_law_bag T) (hr.mono (by decide)) (by rfl) T.m_law_bag T.F_law_bag.kp T.b_law_bag .nil pass0 (pa_cons (pv 0) (pa_cons (pv 1) pa_nil))))
        (pss_one (ps_for PassesOwn.never (by rfl) (pi_range1 (by rfl) T.z_range (pa_cons pe_int pa_nil)) (pg_name (i := 3) sc_law.nd rfl (Or.inl rfl))
          (pss_cons (ps_par (i := 4) (j := 5) (by rfl) sc_law.nd rfl rfl (by decide) rfl rfl (pa_cons (pe_call (ok_law_seed T) (hr.mono (by decide)) (by rfl) T.m_law_seed T.F_law_seed.kp T.b_law_seed .nil pass0 (pa_cons (pv 2) pa_nil)) (pa_cons (pe_call (ok_law_some T) (hr.mono (by decide)) (by rfl) T.m_law_some T.F_law_some.kp T.b_law_some .nil pass0 (pa_cons (pv 2) pa_nil)) pa_nil)) (by rfl))
          (pss_cons (ps_set (i := 6) sc_law.nd rfl (Or.inl rfl) (pe_call (ok_law_take T) (hr.mono (by decide)) (by rfl) T.m_law_take T.F_law_take.kp T.b_law_take .nil pass0 (pa_cons (pv 2) (pa_cons (pe_op op_add (pe_callB call_len_str (by rfl) T.z_len (by decide +kernel) (pa_cons (pv 5) pa_nil)) pe_int) pa_nil))))
          (pss_one (ps_for PassesOwn.never (by rfl) (pi_list (pe_lst (pa_cons (pv 5) (pa_cons (pe_op op_add_str (pe_op op_add_str (pe_slice sl_str (pv 5) po_none (po_some (pv 6))) (pe_call (ok_law_name T) (hr.mono (by decide)) (by rfl) T.m_law_name T.F_law_name.kp T.b_law_name .nil pass0 (pa_cons (pv 2) (pa_cons pe_int pa_nil)))) (pe_slice sl_str (pv 5) (po_some (pe_op op_add (pv 6) pe_int)) po_none)) (pa_cons (pe_op op_add_str (pv 5) (pe_call (ok_law_name T) (hr.mono (by decide)) (by rfl) T.m_law_name T.F_law_name.kp T.b_law_name .nil pass0 (pa_cons (pv 2) (pa_cons pe_int pa_nil)))) (pa_cons (pv 5) pa_nil)))))) (pg_name (i := 7) sc_law.nd rfl (Or.inl rfl))
            (pss_cons (ps_set (i := 8) sc_law.nd rfl (Or.inl rfl) (pe_call (ok_mark T) (hr.mono (by decide)) (by rfl) T.m_mark T.F_mark.kp T.b_mark .nil pass0 (pa_cons (pv 4) (pa_cons (pv 7) pa_nil))))
            (pss_cons (ps_if (PW.pt (pw_or (pt_not (pt_val (pe_call (ok_law_whole T) (hr.mono (by decide)) (by rfl) T.m_law_whole T.F_law_whole.kp T.b_law_whole .nil pass0 (pa_cons (pv 8) pa_nil)))) (pw_or (pt_cmpR op_ne (pv 8) (pe_call (ok_law_mark T) (hr.mono (by decide)) (by rfl) T.m_law_mark T.F_law_mark.kp T.b_law_mark .nil pass0 (pa_cons (pv 4) (pa_cons (pv 7) pa_nil))) (nomark _)) (pw_or1 (pt_not (pt_chain op_le op_lt pe_int (pv 8) (pe_glob (v := .int 1009) (by rfl) T.g_MARKS ⟨_, rfl⟩)))))))
              (pss_one (ps_ret pe_bl))
              pss_nil)
            (pss_one (ps_if (pt_cmpR op_ne (pe_callN0 (ok_mark T) (hr.mono (by decide)) (by rfl) T.m_mark T.F_mark.kp T.kb_mark_0_text_seed pass0 (pk_cons (pv 7) (pk_cons (pv 4) pk_nil))) (pv 8) (nomark _))
              (pss_one (ps_ret pe_bl))
              pss_nil))))))))))))
      (pss_one (ps_ret (pe_cmpR op_eq (pe_glob (v := .int 1009) (by rfl) T.g_MARKS ⟨_, rfl⟩) pe_int (nomark _))))), ?_⟩
    have mb := mm_b (ns.map V.int).length 6 (by decide)
    refine ⟨_, rfl, a, _, rfl, .inl hS, _, _, rfl, _, _, rfl, _, rfl, by omega, by omega, for_range (lo := 0) (n := _) (fun i σ H2 => ∃ v1 v2 v3 v4 v5 v6 v7 v8, σ = [some (.ref a), v1, v2, v3, v4, v5, v6, v7, v8] ∧ Same H H2)
      ⟨none, none, none, none, none, none, none, none, rfl, Same.refl H⟩ ?_ ?_⟩
    · rintro i σ H2 hi ⟨v1, v2, v3, v4, v5, v6, v7, v8, rfl, s2⟩
      refine ⟨_, rfl, _, rfl, a, ns, _, rfl, s2.seq hS, by omega, by omega, fun p H3 hp bg s3 => ?_⟩
      refine ⟨_, rfl, by decide, by decide, for_range (lo := 0) (n := 4) (fun j σ H4 => ∃ v3 v4 v5 v6 v7 v8, σ = [some (.ref a), some (.int (0 + (i : Int))), some (.ref p), v3, v4, v5, v6, v7, v8] ∧ Bag H4 p (500 * j) ∧ Fr p H3 H4)
        ⟨_, _, _, _, _, _, rfl, bg, Fr.refl⟩ ?_ ?_⟩
      · rintro j σ H4 hj ⟨v3, v4, v5, v6, v7, v8, rfl, bg4, fr4⟩
        refine ⟨_, rfl, p, _, rfl, bg4, by omega, fun sd H5 hs0 hs1 bg5 fr5 => ?_⟩
        refine ⟨_, rfl, p, _, rfl, bg5, by omega, fun cs H6 hc0 hc1 bg6 fr6 => ?_⟩
        refine ⟨_, _, rfl, ?_⟩
        refine ⟨_, rfl, _, rfl, _, rfl, sz_ (by rw [S_len]; omega), _, _, rfl, rfl, p, _, _, rfl, bg6, by omega, by omega, by rw [S_len]; omega, fun pl H7 hp0 hp1 bg7 fr7 => ?_⟩
        have sm0 : ∀ c ∈ tl (S cs), c < 127 := by rw [tl_S]; exact hc1
        have ln0 : (S cs).length ≤ 100 := by rw [S_len]; exact hc0
        have c1 := cutS_length (S cs) none (some pl)
        have c2 := cutS_length (S cs) (some (pl + 1)) none
        refine ⟨_, rfl, _, rfl, _, rfl, _, rfl, _, rfl, sz_ (by omega), _, rfl, p, _, _, rfl, bg7, by omega, by decide, by decide, fun n1 H8 nm1 bg8 fr8 => ?_⟩
        have l1 := Sm.nm nm1 (by decide)
        refine ⟨_, _, rfl, rfl, sz_ (by omega), _, rfl, _, rfl, _, _, rfl, rfl, _, rfl, _, rfl, sz_ (by omega), _, _, rfl, rfl, sz_ (by rw [app_len]; omega), ?_⟩
        refine ⟨_, rfl, _, rfl, p, _, _, rfl, bg8, by omega, by decide, by decide, fun n2 H9 nm2 bg9 fr9 => ?_⟩
        have l2 := Sm.nm nm2 (by decide)
        refine ⟨_, _, rfl, rfl, sz_ (by omega), _, rfl, sz4, fun q hq => ?_⟩
        have nqp : q ≠ p := bg9.ne hq
        have fr : Fr p H3 H9 := ((((fr4.trans fr5).trans fr6).trans fr7).trans fr8).trans fr9
        have bg9 : Bag H9 p (500 * (j + 1)) := bg9.up (by omega)
        refine ⟨q, rfl, ⟨_, SqL.of upd_same⟩, for_list (K := K) (a := q) (xs := _) (fun i2 σ H4 => ∃ v7 v8, σ = [some (.ref a), some (.int (0 + (i : Int))), some (.ref p), some (.int (0 + (j : Int))), some (.int sd), some (.str (S cs)), some (.int pl), v7, v8] ∧ H4 = upd H9 q (.lst [.str (S cs), .str (cutS (S cs) none (some pl) ++ S n1 ++ cutS (S cs) (some (pl + 1)) none), .str (S cs ++ S n2), .str (S cs)]))
          ⟨_, _, rfl, rfl⟩ (fun i2 σ H4 _ ⟨_, _, _, e⟩ => e ▸ SqL.of upd_same) ?_ ?_⟩
        · rintro i2 x σ H4 hx ⟨v7, v8, rfl, rfl⟩
          have hx2 : ∃ z, x = .str z ∧ Sm z := by
            have m := List.mem_of_getElem? hx
            simp only [List.mem_cons, List.not_mem_nil, or_false] at m
            rcases m with rfl | rfl | rfl | rfl
            · exact ⟨_, rfl, by omega, sm0⟩
            · refine ⟨_, rfl, by rw [app_len, app_len]; omega, Sm.app (Sm.app (Sm.cut sm0 _ _) l1.2) (Sm.cut sm0 _ _)⟩
            · exact ⟨_, rfl, by rw [app_len]; omega, Sm.app sm0 l2.2⟩
            · exact ⟨_, rfl, by omega, sm0⟩
          obtain ⟨z, rfl, smz⟩ := hx2
          have mk := markI_b sd z.cps.toList
          refine ⟨_, rfl, _, rfl, _, _, rfl, smz.ok, ?_⟩
          refine ⟨_, rfl, _, rfl, .inl ⟨_, rfl, _, rfl, iteF ?_⟩⟩
          refine ⟨_, rfl, _, rfl, _, rfl, _, _, rfl, smz.ok, rfl, _, rfl, iteNS rfl ?_⟩
          refine ⟨_, rfl, _, _, rfl, rfl, _, rfl, ite2 (fun _ => ?_) (fun z0 => absurd (decide_eq_true mk.1) z0)⟩
          refine ⟨_, _, rfl, rfl, _, rfl, ite2 (fun z1 => ?_) (fun _ => ?_)⟩
          · rw [decide_eq_true mk.2] at z1
            cases z1
          · refine ⟨_, rfl, _, rfl, rfl, rfl, _, _, rfl, smz.ok, _, rfl, rfl, _, rfl, iteNS rfl ?_⟩
            exact ⟨_, _, rfl, rfl⟩
        · rintro σ H4 ⟨v7, v8, rfl, rfl⟩
          exact ⟨_, _, _, _, _, _, rfl, bg9.mut nqp, fr.new hq⟩
      · rintro σ H4 ⟨v3, v4, v5, v6, v7, v8, rfl, bg4, fr4⟩
        exact ⟨_, _, _, _, _, _, _, _, rfl, s2.trans (fun b o e => fr4 b o (ne_of_none e hp) (s3 b o e))⟩
    · rintro σ H2 ⟨v1, v2, v3, v4, v5, v6, v7, v8, rfl, s2⟩
      exact ⟨rfl, k H2⟩
end
theorem all_mk {l : PySem.W.OpenLaw} {w : World} {K : PySem.W.Frag} {h : Heap} {mg : Str → Option Value} {fa : Addr} (X : K.In h) (G : h.Ns mainGlobals mg) (hfa : mg "law" = some (.ref fa))
    {f_mark : Addr} {od_mark an_mark : Option Addr} {sl_mark : Array (Option Value)} {oc_mark kV_mark dc_mark pm_mark cd_mark ct_mark : Value}
    {f_law_bag : Addr} {od_law_bag an_law_bag : Option Addr} {sl_law_bag : Array (Option Value)} {oc_law_bag kV_law_bag dc_law_bag pm_law_bag cd_law_bag ct_law_bag : Value}
    {f_law_take : Addr} {od_law_take an_law_take : Option Addr} {sl_law_take : Array (Option Value)} {oc_law_take kV_law_take dc_law_take pm_law_take cd_law_take ct_law_take : Value}
    {f_law_mark : Addr} {od_law_mark an_law_mark : Option Addr} {sl_law_mark : Array (Option Value)} {oc_law_mark kV_law_mark dc_law_mark pm_law_mark cd_law_mark ct_law_mark : Value}
    {f_law_name : Addr} {od_law_name an_law_name : Option Addr} {sl_law_name : Array (Option Value)} {oc_law_name kV_law_name dc_law_name pm_law_name cd_law_name ct_law_name : Value}
    {f_law_seed : Addr} {od_law_seed an_law_seed : Option Addr} {sl_law_seed : Array (Option Value)} {oc_law_seed kV_law_seed dc_law_seed pm_law_seed cd_law_seed ct_law_seed : Value}
    {f_law_of : Addr} {od_law_of an_law_of : Option Addr} {sl_law_of : Array (Option Value)} {oc_law_of kV_law_of dc_law_of pm_law_of cd_law_of ct_law_of : Value}
    {f_law_whole : Addr} {od_law_whole an_law_whole : Option Addr} {sl_law_whole : Array (Option Value)} {oc_law_whole kV_law_whole dc_law_whole pm_law_whole cd_law_whole ct_law_whole : Value}
    {f_law_some : Addr} {od_law_some an_law_some : Option Addr} {sl_law_some : Array (Option Value)} {oc_law_some kV_law_some dc_law_some pm_law_some cd_law_some ct_law_some : Value}
    {f_law : Addr} {od_law an_law : Option Addr} {sl_law : Array (Option Value)} {oc_law kV_law dc_law pm_law cd_law ct_law : Value}
    {t_MARKS : Tok}
    (a_mark : PySem.W.nsIn K mainGlobals "mark" = some (some (.ref f_mark)))
    (l_mark : K.lookup f_mark = some ⟨oc_mark, od_mark, .func (PySem.W.fnOf "mark" "mark" (defArgs s_mark) (defBody s_mark) (defScope s_mark) .none kV_mark dc_mark pm_mark an_mark cd_mark ct_mark), sl_mark⟩)
    (c_mark : PySem.W.codeIn K cd_mark "mark" = true)
    (k_mark : PySem.W.keepIn K (.ref f_mark) = true)
    (a_law_bag : PySem.W.nsIn K mainGlobals "_law_bag" = some (some (.ref f_law_bag)))
    (l_law_bag : K.lookup f_law_bag = some ⟨oc_law_bag, od_law_bag, .func (PySem.W.fnOf "_law_bag" "_law_bag" (defArgs s_law_bag) (defBody s_law_bag) (defScope s_law_bag) .none kV_law_bag dc_law_bag pm_law_bag an_law_bag cd_law_bag ct_law_bag), sl_law_bag⟩)
    (c_law_bag : PySem.W.codeIn K cd_law_bag "_law_bag" = true)
    (k_law_bag : PySem.W.keepIn K (.ref f_law_bag) = true)
    (a_law_take : PySem.W.nsIn K mainGlobals "_law_take" = some (some (.ref f_law_take)))
    (l_law_take : K.lookup f_law_take = some ⟨oc_law_take, od_law_take, .func (PySem.W.fnOf "_law_take" "_law_take" (defArgs s_law_take) (defBody s_law_take) (defScope s_law_take) .none kV_law_take dc_law_take pm_law_take an_law_take cd_law_take ct_law_take), sl_law_take⟩)
    (c_law_take : PySem.W.codeIn K cd_law_take "_law_take" = true)
    (k_law_take : PySem.W.keepIn K (.ref f_law_take) = true)
    (a_law_mark : PySem.W.nsIn K mainGlobals "_law_mark" = some (some (.ref f_law_mark)))
    (l_law_mark : K.lookup f_law_mark = some ⟨oc_law_mark, od_law_mark, .func (PySem.W.fnOf "_law_mark" "_law_mark" (defArgs s_law_mark) (defBody s_law_mark) (defScope s_law_mark) .none kV_law_mark dc_law_mark pm_law_mark an_law_mark cd_law_mark ct_law_mark), sl_law_mark⟩)
    (c_law_mark : PySem.W.codeIn K cd_law_mark "_law_mark" = true)
    (k_law_mark : PySem.W.keepIn K (.ref f_law_mark) = true)
    (a_law_name : PySem.W.nsIn K mainGlobals "_law_name" = some (some (.ref f_law_name)))
    (l_law_name : K.lookup f_law_name = some ⟨oc_law_name, od_law_name, .func (PySem.W.fnOf "_law_name" "_law_name" (defArgs s_law_name) (defBody s_law_name) (defScope s_law_name) .none kV_law_name dc_law_name pm_law_name an_law_name cd_law_name ct_law_name), sl_law_name⟩)
    (c_law_name : PySem.W.codeIn K cd_law_name "_law_name" = true)
    (k_law_name : PySem.W.keepIn K (.ref f_law_name) = true)
    (a_law_seed : PySem.W.nsIn K mainGlobals "_law_seed" = some (some (.ref f_law_seed)))
    (l_law_seed : K.lookup f_law_seed = some ⟨oc_law_seed, od_law_seed, .func (PySem.W.fnOf "_law_seed" "_law_seed" (defArgs s_law_seed) (defBody s_law_seed) (defScope s_law_seed) .none kV_law_seed dc_law_seed pm_law_seed an_law_seed cd_law_seed ct_law_seed), sl_law_seed⟩)
    (c_law_seed : PySem.W.codeIn K cd_law_seed "_law_seed" = true)
    (k_law_seed : PySem.W.keepIn K (.ref f_law_seed) = true)
    (a_law_of : PySem.W.nsIn K mainGlobals "_law_of" = some (some (.ref f_law_of)))
    (l_law_of : K.lookup f_law_of = some ⟨oc_law_of, od_law_of, .func (PySem.W.fnOf "_law_of" "_law_of" (defArgs s_law_of) (defBody s_law_of) (defScope s_law_of) .none kV_law_of dc_law_of pm_law_of an_law_of cd_law_of ct_law_of), sl_law_of⟩)
    (c_law_of : PySem.W.codeIn K cd_law_of "_law_of" = true)
    (k_law_of : PySem.W.keepIn K (.ref f_law_of) = true)
    (a_law_whole : PySem.W.nsIn K mainGlobals "_law_whole" = some (some (.ref f_law_whole)))
    (l_law_whole : K.lookup f_law_whole = some ⟨oc_law_whole, od_law_whole, .func (PySem.W.fnOf "_law_whole" "_law_whole" (defArgs s_law_whole) (defBody s_law_whole) (defScope s_law_whole) .none kV_law_whole dc_law_whole pm_law_whole an_law_whole cd_law_whole ct_law_whole), sl_law_whole⟩)
    (c_law_whole : PySem.W.codeIn K cd_law_whole "_law_whole" = true)
    (k_law_whole : PySem.W.keepIn K (.ref f_law_whole) = true)
    (a_law_some : PySem.W.nsIn K mainGlobals "_law_some" = some (some (.ref f_law_some)))
    (l_law_some : K.lookup f_law_some = some ⟨oc_law_some, od_law_some, .func (PySem.W.fnOf "_law_some" "_law_some" (defArgs s_law_some) (defBody s_law_some) (defScope s_law_some) .none kV_law_some dc_law_some pm_law_some an_law_some cd_law_some ct_law_some), sl_law_some⟩)
    (c_law_some : PySem.W.codeIn K cd_law_some "_law_some" = true)
    (k_law_some : PySem.W.keepIn K (.ref f_law_some) = true)
    (a_law : PySem.W.nsIn K mainGlobals "law" = some (some (.ref f_law)))
    (l_law : K.lookup f_law = some ⟨oc_law, od_law, .func (PySem.W.fnOf "law" "law" (defArgs s_law) (defBody s_law) (defScope s_law) .none kV_law dc_law pm_law an_law cd_law ct_law), sl_law⟩)
    (c_law : PySem.W.codeIn K cd_law "law" = true)
    (k_law : PySem.W.keepIn K (.ref f_law) = true)
    (z_abs : PySem.W.nsIn K mainGlobals "abs" = some none)
    (z_bool : PySem.W.nsIn K mainGlobals "bool" = some none)
    (z_int : PySem.W.nsIn K mainGlobals "int" = some none)
    (z_isinstance : PySem.W.nsIn K mainGlobals "isinstance" = some none)
    (z_len : PySem.W.nsIn K mainGlobals "len" = some none)
    (z_max : PySem.W.nsIn K mainGlobals "max" = some none)
    (z_min : PySem.W.nsIn K mainGlobals "min" = some none)
    (z_ord : PySem.W.nsIn K mainGlobals "ord" = some none)
    (z_range : PySem.W.nsIn K mainGlobals "range" = some none)
    (g_MARKS : PySem.W.nsIn K mainGlobals "MARKS" = some (some (.int 1009 t_MARKS))) :
    ∃ fd : FuncData, (∀ (s : Shared) (v : Value), BindsTo s fd ⟨[v], []⟩ [("_law_script", v)]) ∧ ∀ base : Heap, K.In base → base.Ns mainGlobals mg → FnOk l.prog w K mg base CX0 4 fa fd ["_law_script"] (sp_law K) := by
  have e := hfa.symm.trans (PySem.W.mg_of X G a_law)
  have e : fa = f_law := by injection (Option.some.inj e)
  rw [e]
  have F_mark := fun_mk (st := s_mark) l_mark c_mark k_mark
  have b_mark := F_mark.binds (ps := ["seed", "text"]) fun _ _ _ _ _ _ us hl => match us, hl with | [_, _], _ => rfl
  have F_law_bag := fun_mk (st := s_law_bag) l_law_bag c_law_bag k_law_bag
  have b_law_bag := F_law_bag.binds (ps := ["_law_script", "_law_at"]) fun _ _ _ _ _ _ us hl => match us, hl with | [_, _], _ => rfl
  have F_law_take := fun_mk (st := s_law_take) l_law_take c_law_take k_law_take
  have b_law_take := F_law_take.binds (ps := ["_law_bag_here", "_law_many"]) fun _ _ _ _ _ _ us hl => match us, hl with | [_, _], _ => rfl
  have F_law_mark := fun_mk (st := s_law_mark) l_law_mark c_law_mark k_law_mark
  have b_law_mark := F_law_mark.binds (ps := ["_law_salt", "_law_words"]) fun _ _ _ _ _ _ us hl => match us, hl with | [_, _], _ => rfl
  have F_law_name := fun_mk (st := s_law_name) l_law_name c_law_name k_law_name
  have b_law_name := F_law_name.binds (ps := ["_law_bag_here", "_law_most"]) fun _ _ _ _ _ _ us hl => match us, hl with | [_, _], _ => rfl
  have F_law_seed := fun_mk (st := s_law_seed) l_law_seed c_law_seed k_law_seed
  have b_law_seed := F_law_seed.binds (ps := ["_law_bag_here"]) fun _ _ _ _ _ _ us hl => match us, hl with | [_], _ => rfl
  have F_law_of := fun_mk (st := s_law_of) l_law_of c_law_of k_law_of
  have b_law_of := F_law_of.binds (ps := ["_law_bag_here", "_law_some_here"]) fun _ _ _ _ _ _ us hl => match us, hl with | [_, _], _ => rfl
  have F_law_whole := fun_mk (st := s_law_whole) l_law_whole c_law_whole k_law_whole
  have b_law_whole := F_law_whole.binds (ps := ["_law_odd_one"]) fun _ _ _ _ _ _ us hl => match us, hl with | [_], _ => rfl
  have F_law_some := fun_mk (st := s_law_some) l_law_some c_law_some k_law_some
  have b_law_some := F_law_some.binds (ps := ["_law_bag_here"]) fun _ _ _ _ _ _ us hl => match us, hl with | [_], _ => rfl
  have F_law := fun_mk (st := s_law) l_law c_law k_law
  have b_law := F_law.binds (ps := ["_law_script"]) fun _ _ _ _ _ _ us hl => match us, hl with | [_], _ => rfl
  have kb_mark_0_text_seed : KBn K _ ["seed", "text"] 0 ["text", "seed"] (kg_kb_mark_0_text_seed (α := Value)) (kg_kb_mark_0_text_seed (α := V)) := ⟨fun s us ws _ h1 h2 => match us, h1, ws, h2 with | [], _, [_, _], _ => .of_eq (fd := PySem.W.fnOf "mark" "mark" (defArgs s_mark) (defBody s_mark) (defScope s_mark) .none kV_mark dc_mark pm_mark an_mark cd_mark ct_mark) rfl, kg_rel_kb_mark_0_text_seed⟩
  have T0 : ∃ T : Txt K mg, T.f_law = f_law ∧ T.fd_law = PySem.W.fnOf "law" "law" (defArgs s_law) (defBody s_law) (defScope s_law) .none kV_law dc_law pm_law an_law cd_law ct_law := ⟨⟨f_mark, _, F_mark, PySem.W.mg_of X G a_mark, b_mark,
    f_law_bag, _, F_law_bag, PySem.W.mg_of X G a_law_bag, b_law_bag,
    f_law_take, _, F_law_take, PySem.W.mg_of X G a_law_take, b_law_take,
    f_law_mark, _, F_law_mark, PySem.W.mg_of X G a_law_mark, b_law_mark,
    f_law_name, _, F_law_name, PySem.W.mg_of X G a_law_name, b_law_name,
    f_law_seed, _, F_law_seed, PySem.W.mg_of X G a_law_seed, b_law_seed,
    f_law_of, _, F_law_of, PySem.W.mg_of X G a_law_of, b_law_of,
    f_law_whole, _, F_law_whole, PySem.W.mg_of X G a_law_whole, b_law_whole,
    f_law_some, _, F_law_some, PySem.W.mg_of X G a_law_some, b_law_some,
    f_law, _, F_law, PySem.W.mg_of X G a_law, b_law,
    kb_mark_0_text_seed,
    PySem.W.mg_none_of X G z_abs,
    PySem.W.mg_none_of X G z_bool,
    PySem.W.mg_none_of X G z_int,
    PySem.W.mg_none_of X G z_isinstance,
    PySem.W.mg_none_of X G z_len,
    PySem.W.mg_none_of X G z_max,
    PySem.W.mg_none_of X G z_min,
    PySem.W.mg_none_of X G z_ord,
    PySem.W.mg_none_of X G z_range,
    t_MARKS, PySem.W.mg_of X G g_MARKS⟩, rfl, rfl⟩
  obtain ⟨T, e1, e2⟩ := T0
  exact ⟨PySem.W.fnOf "law" "law" (defArgs s_law) (defBody s_law) (defScope s_law) .none kV_law dc_law pm_law an_law cd_law ct_law, fun s v => .of_eq rfl, fun base _ _ => e1 ▸ e2 ▸ ok_law T⟩
theorem walk {l : PySem.W.OpenLaw} {q : Program} {loose : List Str} {XP : (Str → Option Value) → Heap → Prop} {YP : World → Heap → Prop} {d : DefRec} {K : Params → PySem.W.Frag} (hn : l.most = some 63) (hdf : d.params.defaults = [])
    (hY : ∀ (w : World) (h : Heap), YP w h → (K w.params).In h)
    (F : ∀ (w : World) (mg : Str → Option Value) (fa : Addr) (h : Heap), (K w.params).In h → h.Ns mainGlobals mg → mg d.name = some (.ref fa) →
      ∃ fd : FuncData, (∀ (s : Shared) (u : Value), BindsTo s fd ⟨[u], []⟩ [("_law_script", u)]) ∧ ∀ base : Heap, (K w.params).In base → base.Ns mainGlobals mg → FnOk l.prog w (K w.params) mg base CX0 4 fa fd ["_law_script"] (sp_law (K w.params))) :
    PySem.W.WalkO q loose XP YP l.row.toRowW d [] (fun f vs => PySem.call f vs) :=
  L2.walk_of (n := 63) (k := 4) (x := "_law_script") (CX := fun _ => CX0) (sp := fun w => sp_law (K w.params)) hn (by decide) hdf ⟨rfl, by decide, by decide⟩ hY F (fun _ _ a ns hl _ hS => ⟨a, ns, rfl, hS, hl, fun _ => rfl⟩) fun _ _ _ _ _ z => z
end Tl
open PySem PySem.W PyProof.Rows
set_option maxRecDepth 100000 in
set_option maxHeartbeats 0 in
theorem PySem.Challenge.cw_taleless_k01_marks_holds : PySem.Challenge.rw_taleless_k01_marks.Holds := by
  w_on; o_law; k_head; (case hw => w_witness2)
  k_fill
  refine Tl.walk (l := PySem.Challenge.rw_taleless_k01_marks) rfl rfl (fun w h Y => PySem.W.kIn_of Y) ?F
  case F =>
    intro w mg fa h KX G hmg
    refine' Tl.all_mk KX G hmg ?a_mark ?l_mark ?c_mark ?k_mark ?a_law_bag ?l_law_bag ?c_law_bag ?k_law_bag ?a_law_take ?l_law_take ?c_law_take ?k_law_take ?a_law_mark ?l_law_mark ?c_law_mark ?k_law_mark ?a_law_name ?l_law_name ?c_law_name ?k_law_name ?a_law_seed ?l_law_seed ?c_law_seed ?k_law_seed ?a_law_of ?l_law_of ?c_law_of ?k_law_of ?a_law_whole ?l_law_whole ?c_law_whole ?k_law_whole ?a_law_some ?l_law_some ?c_law_some ?k_law_some ?a_law ?l_law ?c_law ?k_law ?z_abs ?z_bool ?z_int ?z_isinstance ?z_len ?z_max ?z_min ?z_ord ?z_range ?g_MARKS
    (case a_mark => k_is)
    (case l_mark => k_is)
    (case c_mark => k_is)
    (case k_mark => k_is)
    (case a_law_bag => k_is)
    (case l_law_bag => k_is)
    (case c_law_bag => k_is)
    (case k_law_bag => k_is)
    (case a_law_take => k_is)
    (case l_law_take => k_is)
    (case c_law_take => k_is)
    (case k_law_take => k_is)
    (case a_law_mark => k_is)
    (case l_law_mark => k_is)
    (case c_law_mark => k_is)
    (case k_law_mark => k_is)
    (case a_law_name => k_is)
    (case l_law_name => k_is)
    (case c_law_name => k_is)
    (case k_law_name => k_is)
    (case a_law_seed => k_is)
    (case l_law_seed => k_is)
    (case c_law_seed => k_is)
    (case k_law_seed => k_is)
    (case a_law_of => k_is)
    (case l_law_of => k_is)
    (case c_law_of => k_is)
    (case k_law_of => k_is)
    (case a_law_whole => k_is)
    (case l_law_whole => k_is)
    (case c_law_whole => k_is)
    (case k_law_whole => k_is)
    (case a_law_some => k_is)
    (case l_law_some => k_is)
    (case c_law_some => k_is)
    (case k_law_some => k_is)
    (case a_law => k_is)
    (case l_law => k_is)
    (case c_law => k_is)
    (case k_law => k_is)
    (case z_abs => k_is)
    (case z_bool => k_is)
    (case z_int => k_is)
    (case z_isinstance => k_is)
    (case z_len => k_is)
    (case z_max => k_is)
    (case z_min => k_is)
    (case z_ord => k_is)
    (case z_range => k_is)
    (case g_MARKS => k_is)
#print axioms PySem.Challenge.cw_taleless_k01_marks_holds
