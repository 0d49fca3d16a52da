import PyProof.Rows.All
import Wide.All
import OpenK.AllK
import Wide.FinOn
import HandS.ForMost
import HandS.Defaults
import HandS.IsInst
import HandS.Wide
import HandS.Walk
import HandS.Style
import HandS.TupAny
import HandS.List
import HandS.MakeKwOnly
import PySem.Challenge.RW_taleless_k11_cards_written
set_option Elab.async false
set_option maxRecDepth 100000
set_option maxHeartbeats 4000000
set_option autoImplicit false
set_option linter.unusedVariables false
namespace Tl
open PySem L2 TL
/-! frames: all that was tracked stays, but what stands at p -/
def Fr (p : Addr) (H H' : Hp) : Prop := ∀ b o, b ≠ p → H b = some o → H' b = some o
theorem Fr.refl {p : Addr} {H : Hp} : Fr p H H := fun _ _ _ e => e
theorem Fr.trans {p : Addr} {H H1 H2 : Hp} (a : Fr p H H1) (b : Fr p H1 H2) : Fr p H H2 := fun c o n e => b c o n (a c o n e)
theorem Fr.new {p q : Addr} {H H1 : Hp} {o : HO} (a : Fr p H H1) (h : H1 q = none) : Fr p H (upd H1 q o) := fun c u n e => by
  have e1 := a c u n e
  rw [upd_ne (ne_of_none e1 h)]
  exact e1
theorem Fr.at {p : Addr} {H H1 : Hp} {o : HO} (a : Fr p H H1) : Fr p H (upd H1 p o) := fun c u n e => by
  rw [upd_ne n]
  exact a c u n e
theorem Fr.of {p : Addr} {H H1 : Hp} (a : Same H H1) : Fr p H H1 := fun c u _ e => a c u e
theorem Fr.seq {K : PySem.W.Frag} {p a : Addr} {H H' : Hp} {xs : List V} (e : Fr p H H') (n : a ≠ p) (h : SqL K H a xs) : SqL K H' a xs := by
  rcases h with (h | ⟨o, h⟩) | h
  · exact .inl (.inl (e _ _ n h))
  · exact .inl (.inr ⟨o, e _ _ n h⟩)
  · exact .inr h
theorem Fr.tup {K : PySem.W.Frag} {p a : Addr} {H H' : Hp} {xs : List V} (e : Fr p H H') (n : a ≠ p) (h : SqT K H a xs) : SqT K H' a xs := by
  rcases h with (h | ⟨o, h⟩) | h
  · exact .inl (.inl (e _ _ n h))
  · exact .inl (.inr ⟨o, e _ _ n h⟩)
  · exact .inr h
theorem Fr.same {p : Addr} {H H1 : Hp} (a : Fr p H H1) (h : H p = none) : Same H H1 := fun b o e => a b o (ne_of_none e h) e
theorem Same.new {q : Addr} {H H1 : Hp} {o : HO} (a : Same H H1) (h : H1 q = none) : Same H (upd H1 q o) := fun c u e => by
  have e1 := a c u e
  rw [upd_ne (ne_of_none e1 h)]
  exact e1
theorem Fr.free {p q : Addr} {H H1 : Hp} (a : Fr p H H1) (h : H1 q = none) (n : q ≠ p) : H q = none := by
  cases e : H q with
  | none => rfl
  | some o =>
    rw [a q o n e] at h
    cases h
/-- an object that H does not know may change -/
theorem Fr.mut {p q : Addr} {H H1 : Hp} {o : HO} (a : Fr p H H1) (h : H q = none) : Fr p H (upd H1 q o) := fun c u n e => by
  rw [upd_ne (ne_of_none e h)]
  exact a c u n e
theorem Same.mut {q : Addr} {H H1 : Hp} {o : HO} (a : Same H H1) (h : H q = none) : Same H (upd H1 q o) := fun c u e => by
  rw [upd_ne (ne_of_none e h)]
  exact a c u e
/-- the law's bag of draws: three ints, at most n draws so far -/
def Bag (H : Hp) (p : Addr) (n : Nat) : Prop := ∃ a b c : Int, H p = some (.lst [.int a, .int b, .int c]) ∧ 0 ≤ a ∧ 0 ≤ b ∧ b < 2 ^ 62 ∧ 0 ≤ c ∧ c ≤ n
theorem Bag.up {H : Hp} {p : Addr} {n m : Nat} (b : Bag H p n) (h : n ≤ m) : Bag H p m := by
  obtain ⟨a, b, c, e, h1, h2, h3, h4, h5⟩ := b
  exact ⟨a, b, c, e, h1, h2, h3, h4, by omega⟩
theorem Bag.tr {H H' : Hp} {p : Addr} {n : Nat} (b : Bag H p n) (s : Same H H') : Bag H' p n := by
  obtain ⟨a, b, c, e, h⟩ := b
  exact ⟨a, b, c, s _ _ e, h⟩
theorem Bag.new {H : Hp} {p q : Addr} {n : Nat} {o : HO} (b : Bag H p n) (h : H q = none) : Bag (upd H q o) p n := b.tr (Same.new (Same.refl H) h)
theorem Bag.mut {H : Hp} {p q : Addr} {n : Nat} {o : HO} (b : Bag H p n) (h : q ≠ p) : Bag (upd H q o) p n := by
  obtain ⟨a, b, c, e, r⟩ := b
  exact ⟨a, b, c, by rw [upd_ne h.symm]; exact e, r⟩
theorem Bag.ne {H : Hp} {p q : Addr} {n : Nat} (b : Bag H p n) (h : H q = none) : q ≠ p := by
  obtain ⟨a, b, c, e, _⟩ := b
  exact (ne_of_none e h).symm
/-! lists by places -/
theorem take_snoc {α : Type} {l : List α} {i : Nat} {x : α} (h : l[i]? = some x) : l.take (i + 1) = l.take i ++ [x] := by
  rw [List.take_add_one, h]
  rfl
theorem fold_snoc {α β : Type} {f : β → α → β} {a : β} {l : List α} {i : Nat} {x : α} (h : l[i]? = some x) : (l.take (i + 1)).foldl f a = f ((l.take i).foldl f a) x := by
  rw [take_snoc h, List.foldl_append]
  rfl
theorem fold_all {α β : Type} {f : β → α → β} {a : β} {l : List α} {i : Nat} (h : i = l.length) : (l.take i).foldl f a = l.foldl f a := by
  rw [h, List.take_length]
/-- a for over a text: Pv by how many signs are gone -/
theorem for_str {z : Str} {j : Nat} {tb : TS} {D : Ends} {σ : St} {H : Hp} (Pv : Nat → St → Hp → Prop) (h0 : Pv 0 σ H)
    (hs : ∀ i c σ H, z.cps.toList[i]? = some c → Pv i σ H → tb { D with nx := Pv (i + 1), ct := Pv (i + 1), bk := D.nx } (σ.set j (some (.str ⟨#[c]⟩))) H) (hd : ∀ σ H, Pv z.cps.toList.length σ H → D.nx σ H) :
    ∃ W : Nat → Nat → St → Hp → Prop, (∃ m, W 0 m σ H) ∧ ∀ i m σ H, W i m σ H →
      ((Its z).stop i H ∧ D.nx σ H) ∨ ((Its z).go i H ∧ ∃ N : St → Hp → Prop, (∀ σ' H', N σ' H' → ∃ m', m' < m ∧ W (i + 1) m' σ' H') ∧ ∀ x H', (Its z).yld i H x H' → (gName j) x σ H' fun σ2 H2 => tb { D with nx := N, ct := N, bk := D.nx } σ2 H2) :=
  for_it walk_str Pv h0 (fun _ _ _ _ _ => True.intro) (fun i x σ H H' hi p y => by
    obtain ⟨rfl, c, hc, rfl⟩ := y
    exact hs i c σ H' (by rw [Array.getElem?_toList]; exact hc) p) (fun σ H p => hd σ H (by rw [Array.length_toList]; exact p))
/-- one sign of a text at a place within -/
theorem sign_at {z : Str} {r : Int} (h0 : 0 ≤ r) (h1 : r < (z.cps.toList.length : Int)) : ∃ c, atI z.cps.toList r = some c ∧ c ∈ z.cps.toList := by
  obtain ⟨j, rfl⟩ : ∃ j : Nat, r = (j : Int) := ⟨r.toNat, by omega⟩
  have hj : j < z.cps.toList.length := by omega
  exact ⟨z.cps.toList[j], atI_nat (List.getElem?_eq_getElem hj), List.getElem_mem hj⟩
/-- a text by its codes -/
def S (cs : List Nat) : Str := ⟨cs.toArray⟩
theorem tl_S (cs : List Nat) : tl (S cs) = cs := rfl
theorem S_tl (z : Str) : S (tl z) = z := ext_tl (tl_S _)
theorem S_inj {a b : List Nat} (h : S a = S b) : a = b := by rw [← tl_S a, ← tl_S b, h]
theorem S_len (cs : List Nat) : (S cs).length = cs.length := by rw [len_tl, tl_S]
theorem S_app (a b : List Nat) : S a ++ S b = S (a ++ b) := ext_tl (by rw [tl_append, tl_S, tl_S, tl_S])
theorem S_one (c : Nat) : (⟨#[c]⟩ : Str) = S [c] := rfl
theorem joinL_nil : ∀ ps : List (List Nat), joinL [] ps = ps.flatten
  | [] => rfl
  | [p] => by simp [joinL]
  | p :: q :: r => by
    show p ++ ([] ++ joinL [] (q :: r)) = _
    rw [joinL_nil (q :: r)]
    simp
theorem join_S (ps : List (List Nat)) : Txt.join (S []) (ps.map S) = S ps.flatten := ext_tl (by
  rw [join_eq, tl_join, tl_S, tl_S, List.map_map]
  rw [show (tl ∘ S) = id from rfl, List.map_id, joinL_nil])
theorem flat_ones : ∀ cs : List Nat, (cs.map fun c => [c]).flatten = cs
  | [] => rfl
  | c :: r => by
    rw [List.map_cons, List.flatten_cons, flat_ones r]
    rfl
theorem join_ones (cs : List Nat) : Txt.join (S []) (cs.map fun c => S [c]) = S cs := by
  have e := join_S (cs.map fun c => [c])
  rw [List.map_map, flat_ones] at e
  exact e
/-- texts of one sign each -/
def ones (cs : List Nat) : List V := (cs.map fun c => S [c]).map V.str
theorem ones_snoc (cs : List Nat) (c : Nat) : ones cs ++ [V.str ⟨#[c]⟩] = ones (cs ++ [c]) := by
  unfold ones
  rw [List.map_append, List.map_append]
  rfl
theorem ones_len (cs : List Nat) : (ones cs).length = cs.length := by
  unfold ones
  rw [List.length_map, List.length_map]
theorem ones_sum (cs : List Nat) (k : Nat) : ((cs.map fun c => S [c]).map (·.length)).sum + (cs.map fun c => S [c]).length * k = cs.length * (k + 1) := by
  rw [List.map_map, List.length_map]
  have e : (List.map ((fun x => x.length) ∘ fun c => S [c]) cs).sum = cs.length := by
    induction cs with
    | nil => rfl
    | cons c r ih => rw [List.map_cons, List.sum_cons, ih, List.length_cons]; show 1 + _ = _; omega
  rw [e, Nat.mul_succ]
  omega
theorem tYes_go {σ : St} {H : Hp} {F G : Hp → Prop} (h : F H) : tYes σ H (fun b H3 => if b = true then F H3 else G H3) := by
  show if true = true then F H else G H
  rw [if_pos rfl]
  exact h
/-- max(1, min(m, len)) -/
theorem mm_b (L : Nat) (m : Int) (h : 1 ≤ m) : 1 ≤ (if (if (L : Int) < m then (L : Int) else m) > 1 then (if (L : Int) < m then (L : Int) else m) else 1) ∧ (if (if (L : Int) < m then (L : Int) else m) > 1 then (if (L : Int) < m then (L : Int) else m) else 1) ≤ m := by
  split
  · split <;> omega
  · omega
theorem mul01 {i : Int} {c : Prop} [Decidable c] : CMul i (if c then 1 else 0) := .inr (by split <;> exact ⟨by decide, by decide⟩)
theorem sz_ {n : Nat} (h : n ≤ 100000 := by decide) : n ≤ sizeLine := Nat.le_trans h (by decide)
theorem sz_lt {n : Nat} (h : n < 100000) : n < sizeLine := Nat.lt_of_lt_of_le h (by decide)
theorem sz3 {a b c : V} : [a, b, c].length ≤ sizeLine := by show 3 ≤ sizeLine; decide
theorem sz2 {a b : V} : [a, b].length ≤ sizeLine := by show 2 ≤ sizeLine; decide
theorem sz1 {a : V} : [a].length ≤ sizeLine := by show 1 ≤ sizeLine; decide
theorem sz4 {a b c d : V} : [a, b, c, d].length ≤ sizeLine := by show 4 ≤ sizeLine; decide
theorem pos_ {n : Int} (h : 0 < n := by decide) : (0 : Int) < n := h
theorem str_empty_app (z : Str) : Str.empty ++ z = z := ext_tl (by rw [tl_append]; rfl)
theorem int_text_room {a : Int} (h : a.natAbs.log2 < 1920) {z : Str} (hz : z.length ≤ 1000) : (Str.ofString (toString a) ++ z).length ≤ sizeLine := by
  have e : (Str.ofString (toString a) ++ z).length = (Str.ofString (toString a)).length + z.length := by rw [len_tl, tl_append, List.length_append, ← len_tl, ← len_tl]
  have e2 := int_text_length_le (k := 1920) (by decide) h
  rw [e, ofString_length, sizeLine_eq]
  omega
section
variable {X : Cx}
def CPowW (i j : Int) : Prop := 0 ≤ j ∧ (Builtin.Int.intBits i : Int) * j ≤ 2 ^ 27
theorem op_powW : OpR X (binaryOp .Pow) (rI CPowW fun i j => .int (i ^ j.toNat)) := opI fun _ _ _ _ _ _ _ hc q => PyProof.Rows.pow_int hc.1 hc.2 q
/-- a text so many times -/
def mulS (x : Str) (n : Int) : Str := if n < 1 then Str.empty else if (n == 1 || x.length == 0) = true then x else ⟨(List.replicate n.toNat x.cps).foldl (· ++ ·) #[]⟩
theorem rep_size (a : Array Nat) : ∀ (m : Nat) (acc : Array Nat), (List.foldl (fun x1 x2 => x1 ++ x2) acc (List.replicate m a)).size = acc.size + m * a.size
  | 0, acc => by simp
  | m + 1, acc => by
    rw [List.replicate_succ, List.foldl_cons, rep_size a m, Array.size_append, Nat.succ_mul]
    omega
theorem mulS_len (x : Str) (n : Int) (h : 0 ≤ n) : (mulS x n).length = x.length * n.toNat := by
  unfold mulS
  split
  · have e : n.toNat = 0 := by omega
    rw [e]
    rfl
  · split
    · rename_i h1 h2
      rcases Bool.or_eq_true _ _ ▸ h2 with h3 | h3
      · have e : n = 1 := by simpa using h3
        subst e
        simp
      · have e : x.length = 0 := by simpa using h3
        rw [e, Nat.zero_mul]
    · show (List.foldl (fun x1 x2 => x1 ++ x2) #[] (List.replicate n.toNat x.cps)).size = _
      rw [rep_size]
      show 0 + n.toNat * x.length = _
      rw [Nat.zero_add, Nat.mul_comm]
theorem op_mul_str : OpR X (binaryOp .Mult) (fun x y H Q => ∃ (i : Str) (n : Int), x = .str i ∧ y = .int n ∧ n < 2 ^ 30 ∧ -(2 ^ 30) < n ∧ i.length * n.toNat ≤ sizeLine ∧ Q (.str (mulS i n)) H) := by
  intro pins s σ H x y v u Q I rx ry h
  obtain ⟨i, n, rfl, rfl, h1, h2, h3, q⟩ := h
  obtain ⟨t, rfl⟩ := rx
  obtain ⟨t', rfl⟩ := ry
  have hs : sizeLine = 16777216 := by decide
  refine PySem.P.mul_str (by
    rw [decide_eq_false (by omega), decide_eq_false (by omega)]
    rfl) (fun a b => ?_) (fun a b => ?_) ?_
  · have e1 : (i.length : Int) * n ≤ 2 ^ 63 - 1 := by
      have e2 : ((i.length * n.toNat : Nat) : Int) = (i.length : Int) * n := by
        rw [Int.natCast_mul, Int.toNat_of_nonneg (by omega)]
      omega
    have e3 : (i.length : Int) ≤ (2 ^ 63 - 1) / n := (Int.le_ediv_iff_mul_le (by omega)).mpr e1
    omega
  · unfold Builtin.Str.tooLong
    exact decide_eq_false (by omega)
  · show Made.post _ _ _
    unfold mulS at q
    by_cases c1 : n < 1
    · rw [if_pos c1] at q ⊢
      exact ⟨by decide, ⟨.str Str.empty, H, I.tok _, ⟨_, rfl⟩, q⟩⟩
    · rw [if_neg c1] at q ⊢
      by_cases c2 : (n == 1 || i.length == 0) = true
      · rw [if_pos c2] at q ⊢
        exact ⟨.str i, H, I, ⟨_, rfl⟩, q⟩
      · rw [if_neg c2] at q ⊢
        exact ⟨by
          show (List.foldl (fun x1 x2 => x1 ++ x2) #[] (List.replicate n.toNat i.cps)).size ≤ sizeLine
          rw [rep_size]
          show 0 + n.toNat * i.length ≤ sizeLine
          rw [Nat.zero_add, Nat.mul_comm]
          exact h3, ⟨.str _, H, I.tok _, ⟨_, rfl⟩, q⟩⟩
end
section
variable {X : Cx} {CX : CXT} {k n : Nat} {f : Addr} {fd : FuncData} {ps ks : List Str} {sp : Sp} {E : XK} {x : Str} {p pos : Pos} {kws : List Keyword} {tk : TA} {g : List Value → List Value → List Value} {gV : List V → List V → List V}
/-- f(k = v, ..), no positional value -/
theorem pe_callN0 (F : FnOk X.prog X.w X.K X.mg X.base CX k f fd ps sp) (hr : Room k X.A) (hg : Gl X x) (hm : X.mg x = some (.ref f)) (hk : PySem.W.keepIn X.K (.ref f) = true) (hb : KBn X.K fd ps 0 ks g gV) (hx : Passes CX X E)
    (hkw : PK X kws tk) (hall : (backToKw pos (keywordEach kws X.env)).all (·.1.isSome) = true := by rfl) (hks : (backToKw pos (keywordEach kws X.env)).filterMap (·.1) = ks := by rfl)
    (hdb : (x == ("__debug__" : Str)) = false := by decide)
    (hpl : ((backTo pos (starEach [] X.env)).any (·.1) || (backToKw pos (keywordEach kws X.env)).any (·.1.isNone)) = false := by rfl) :
    PE X (.Call (.Name x p) [] kws pos) (tCallN 0 ks.length sp gV E tNil tk) := by
  refine ⟨fun pins s σ H Q I h => ?_⟩
  refine wpAny_Call_Name_kw (ld_glob I hg hm ?_ hdb)
  refine PySem.W.callWith_KW0 (h₀ := X.base) I.ok.mod.kin hk hall ?_ hpl
  refine thn (hkw.run pos pins s σ H _ I h) fun ws s2 ⟨zs, H2, I2, rz, l1, l2, q2⟩ => ⟨I2.kIn, ?_⟩
  rw [hks]
  exact run_fnN F hr hb hx I2 .nil rz rfl l2 q2
end
end Tl

namespace Tl
open PySem L2 TL
/-! ### a logic over data: the heap is hidden -/
inductive D where
  | non | bl (b : Bool) | int (i : Int) | str (x : Str) | lst (xs : List D) | tup (xs : List D) | dic (kvs : List (Key × D))
/-- scalars -/
def scl : V → Bool
  | .non => true | .bl _ => true | .int _ => true | .str _ => true | _ => false
def ofV : V → D
  | .bl b => .bl b | .int i => .int i | .str x => .str x | _ => .non
def Sub (G H : Hp) : Prop := ∀ b o, G b = some o → H b = some o
theorem Sub.refl (G : Hp) : Sub G G := fun _ _ h => h
theorem Sub.trans {G H I : Hp} (a : Sub G H) (b : Sub H I) : Sub G I := fun x o h => b x o (a x o h)
theorem Sub.new {G : Hp} {p : Addr} {o : HO} (h : G p = none) : Sub G (upd G p o) := fun b u e => by
  rw [upd_ne (ne_of_none e h)]
  exact e
theorem Sub.up {G H : Hp} {p : Addr} {o : HO} (s : Sub G H) : Sub (upd G p o) (upd H p o) := fun b u e => by
  by_cases h : b = p
  · subst h
    rw [upd_same] at e ⊢
    exact e
  · rw [upd_ne h] at e ⊢
    exact s b u e
theorem Sub.off {G H : Hp} {p : Addr} {o : HO} (s : Sub G H) (h : G p = none) : Sub G (upd H p o) := fun b u e => by
  rw [upd_ne (ne_of_none e h)]
  exact s b u e
theorem Sub.none {G H : Hp} {p : Addr} (s : Sub G H) (h : H p = none) : G p = none := by
  cases e : G p with
  | none => rfl
  | some o =>
    rw [s p o e] at h
    cases h
theorem Sub.seq {K : PySem.W.Frag} {G H : Hp} {a : Addr} {xs : List V} (e : Sub G H) (h : SqT K G a xs) : SqT K H a xs := by
  rcases h with (h | ⟨o, h⟩) | h
  · exact .inl (.inl (e _ _ h))
  · exact .inl (.inr ⟨o, e _ _ h⟩)
  · exact .inr h
theorem Sub.seqL {K : PySem.W.Frag} {G H : Hp} {a : Addr} {xs : List V} (e : Sub G H) (h : SqL K G a xs) : SqL K H a xs := by
  rcases h with (h | ⟨o, h⟩) | h
  · exact .inl (.inl (e _ _ h))
  · exact .inl (.inr ⟨o, e _ _ h⟩)
  · exact .inr h
theorem Sub.rd {G H : Hp} {a : Addr} {u : HO} (e : Sub G H) (h : Rd G a u) : Rd H a u := by
  rcases h with h | ⟨o, h⟩
  · exact .inl (e _ _ h)
  · exact .inr ⟨o, e _ _ h⟩
mutual
/-- the value v stands for the data d in G -/
inductive Is (K : PySem.W.Frag) (G : Hp) : V → D → Prop where
  | non : Is K G .non .non
  | bl (b : Bool) : Is K G (.bl b) (.bl b)
  | int (i : Int) : Is K G (.int i) (.int i)
  | str (x : Str) : Is K G (.str x) (.str x)
  | lst {p : Addr} {xs : List V} {ds : List D} (h : G p = some (.lst xs)) (a : IsAll K G xs ds) : Is K G (.ref p) (.lst ds)
  | tup {p : Addr} {xs : List V} {ds : List D} (h : SqT K G p xs) (a : IsAll K G xs ds) : Is K G (.ref p) (.tup ds)
  | dic {p : Addr} {kvs : List (Key × V)} {es : List (Key × D)} (h : Rd G p (.dK kvs)) (a : IsKv K G kvs es) : Is K G (.ref p) (.dic es)
inductive IsAll (K : PySem.W.Frag) (G : Hp) : List V → List D → Prop where
  | nil : IsAll K G [] []
  | cons {x : V} {xs : List V} {d : D} {ds : List D} (h : Is K G x d) (r : IsAll K G xs ds) : IsAll K G (x :: xs) (d :: ds)
inductive IsKv (K : PySem.W.Frag) (G : Hp) : List (Key × V) → List (Key × D) → Prop where
  | nil : IsKv K G [] []
  | cons {k : Key} {x : V} {xs : List (Key × V)} {d : D} {ds : List (Key × D)} (h : Is K G x d) (r : IsKv K G xs ds) : IsKv K G ((k, x) :: xs) ((k, d) :: ds)
end
section
variable {K : PySem.W.Frag} {G G' : Hp}
mutual
theorem Is.mono (s : Sub G G') : ∀ {v : V} {d : D}, Is K G v d → Is K G' v d
  | _, _, .non => .non
  | _, _, .bl b => .bl b
  | _, _, .int i => .int i
  | _, _, .str x => .str x
  | _, _, .lst h a => .lst (s _ _ h) (IsAll.mono s a)
  | _, _, .tup h a => .tup (s.seq h) (IsAll.mono s a)
  | _, _, .dic h a => .dic (s.rd h) (IsKv.mono s a)
theorem IsAll.mono (s : Sub G G') : ∀ {vs : List V} {ds : List D}, IsAll K G vs ds → IsAll K G' vs ds
  | _, _, .nil => .nil
  | _, _, .cons h r => .cons (Is.mono s h) (IsAll.mono s r)
theorem IsKv.mono (s : Sub G G') : ∀ {vs : List (Key × V)} {ds : List (Key × D)}, IsKv K G vs ds → IsKv K G' vs ds
  | _, _, .nil => .nil
  | _, _, .cons h r => .cons (Is.mono s h) (IsKv.mono s r)
end
theorem Is.scl : ∀ {v : V}, scl v = true → Is K G v (ofV v)
  | .non, _ => .non
  | .bl _, _ => .bl _
  | .int _, _ => .int _
  | .str _, _ => .str _
theorem IsAll.len {vs : List V} {ds : List D} (h : IsAll K G vs ds) : vs.length = ds.length := by
  induction vs generalizing ds with
  | nil => cases h; rfl
  | cons x xs ih =>
    cases h with
    | cons a r => rw [List.length_cons, List.length_cons, ih r]
theorem IsAll.get : ∀ {vs : List V} {ds : List D} {i : Nat} {v : V}, IsAll K G vs ds → vs[i]? = some v → ∃ d, ds[i]? = some d ∧ Is K G v d
  | _, _, _, _, .nil, e => by simp at e
  | _, _, 0, _, .cons h _, e => by
    have e := Option.some.inj e
    subst e
    exact ⟨_, rfl, h⟩
  | _, _, i + 1, v, .cons _ r, e => by
    obtain ⟨d, h1, h2⟩ := IsAll.get (i := i) (v := v) r (by simpa using e)
    exact ⟨d, by simpa using h1, h2⟩
theorem IsAll.at : ∀ {vs : List V} {ds : List D} {i : Nat} {d : D}, IsAll K G vs ds → ds[i]? = some d → ∃ v, vs[i]? = some v ∧ Is K G v d
  | _, _, _, _, .nil, e => by simp at e
  | _, _, 0, _, .cons h _, e => by
    have e := Option.some.inj e
    subst e
    exact ⟨_, rfl, h⟩
  | _, _, i + 1, v, .cons _ r, e => by
    obtain ⟨d, h1, h2⟩ := IsAll.at (i := i) (d := v) r (by simpa using e)
    exact ⟨d, by simpa using h1, h2⟩
theorem IsAll.app : ∀ {vs ws : List V} {ds es : List D}, IsAll K G vs ds → IsAll K G ws es → IsAll K G (vs ++ ws) (ds ++ es)
  | _, _, _, _, .nil, b => b
  | _, _, _, _, .cons h r, b => .cons h (IsAll.app r b)
theorem IsAll.set {v : V} {d : D} (h : Is K G v d) : ∀ {vs : List V} {ds : List D} (i : Nat), IsAll K G vs ds → IsAll K G (vs.set i v) (ds.set i d)
  | _, _, _, .nil => .nil
  | _, _, 0, .cons _ r => .cons h r
  | _, _, i + 1, .cons a r => .cons a (IsAll.set h i r)
theorem IsAll.take : ∀ {vs : List V} {ds : List D} (n : Nat), IsAll K G vs ds → IsAll K G (vs.take n) (ds.take n)
  | _, _, 0, _ => .nil
  | _, _, _ + 1, .nil => .nil
  | _, _, n + 1, .cons h r => .cons h (IsAll.take n r)
theorem IsAll.drop : ∀ {vs : List V} {ds : List D} (n : Nat), IsAll K G vs ds → IsAll K G (vs.drop n) (ds.drop n)
  | _, _, 0, r => r
  | _, _, _ + 1, .nil => .nil
  | _, _, n + 1, .cons _ r => IsAll.drop n r
theorem IsAll.rep {v : V} {d : D} (h : Is K G v d) : ∀ n : Nat, IsAll K G (List.replicate n v) (List.replicate n d)
  | 0 => .nil
  | n + 1 => .cons h (IsAll.rep h n)
theorem IsAll.ints : ∀ ns : List Int, IsAll K G (ns.map V.int) (ns.map D.int)
  | [] => .nil
  | n :: r => .cons (.int n) (IsAll.ints r)
theorem IsAll.erase : ∀ {vs : List V} {ds : List D} (n : Nat), IsAll K G vs ds → IsAll K G (vs.eraseIdx n) (ds.eraseIdx n)
  | _, _, _, .nil => .nil
  | _, _, 0, .cons _ r => r
  | _, _, n + 1, .cons h r => .cons h (IsAll.erase n r)
end
/-! ### the environment -/
inductive Slot where
  | un | d (x : D) | own (xs : List D) | raw (v : V) | bag | scr (ns : List Int)
def SlotOk (K : PySem.W.Frag) (B : Option Addr) (M : Addr → Prop) (G H : Hp) : Option V → Slot → Prop
  | _, .un => True
  | o, .d x => ∃ v, o = some v ∧ Is K G v x
  | o, .own xs => ∃ (p : Addr) (vs : List V), o = some (.ref p) ∧ H p = some (.lst vs) ∧ IsAll K G vs xs ∧ G p = none ∧ M p ∧ B ≠ some p
  | o, .raw v => o = some v
  | o, .bag => ∃ p, o = some (.ref p) ∧ B = some p
  | o, .scr ns => ∃ a, o = some (.ref a) ∧ SqL K G a (ns.map V.int)
/-- G: what never changes any more; owned lists and the bag stand in H alone; G0, H0: at the start; M: what may be changed -/
structure En (K : PySem.W.Frag) (B : Option Addr) (M : Addr → Prop) (n : Nat) (G0 H0 G H : Hp) (σ : L2.St) (δ : List Slot) : Prop where
  sub0 : Sub G0 G
  sub : Sub G H
  same : ∀ b o, H0 b = some o → ¬ M b → H b = some o
  free : ∀ b, H b = none → M b
  fresh : ∀ b, ¬ M b → G0 b = none → G b = none
  bagged : ∀ p, B = some p → Bag H p n ∧ G p = none ∧ M p
  len : σ.length = δ.length
  slot : ∀ (i : Nat) (s : Slot), δ[i]? = some s → SlotOk K B M G H (σ[i]?.getD none) s
  dis : ∀ (i j : Nat) (p : Addr) (xs ys : List D), δ[i]? = some (.own xs) → δ[j]? = some (.own ys) → σ[i]? = some (some (.ref p)) → σ[j]? = some (some (.ref p)) → i = j
/-- what a caller is told -/
structure Eo (K : PySem.W.Frag) (B : Option Addr) (n : Nat) (G0 H0 G H : Hp) : Prop where
  sub0 : Sub G0 G
  sub : Sub G H
  same : ∀ b o, H0 b = some o → B ≠ some b → H b = some o
  fresh : ∀ b, H0 b ≠ none → B ≠ some b → G0 b = none → G b = none
  bagged : ∀ p, B = some p → Bag H p n ∧ G p = none
/-- what a def may change: what is new, and the bag -/
def MOf (B : Option Addr) (H0 : Hp) : Addr → Prop := fun b => H0 b = none ∨ B = some b
theorem ne_M {M : Addr → Prop} {p b : Addr} (mp : M p) (h : ¬ M b) : b ≠ p := fun z => h (by rw [z]; exact mp)
theorem not_none {α : Type} {x : Option α} {y : α} (h : x = some y) : x ≠ none := by
  rw [h]
  exact fun z => nomatch z
section
variable {K : PySem.W.Frag} {B : Option Addr} {M : Addr → Prop} {n : Nat} {G0 H0 G H : Hp} {σ : L2.St} {δ : List Slot}
theorem Bag.some {H : Hp} {p : Addr} {n : Nat} (b : Bag H p n) : H p ≠ none := by
  obtain ⟨a, b, c, e, _⟩ := b
  exact not_none e
theorem En.out (E : En K B (MOf B H0) n G0 H0 G H σ δ) : Eo K B n G0 H0 G H :=
  ⟨E.sub0, E.sub, fun b o e nb => E.same b o e fun z => z.elim (fun y => by rw [e] at y; cases y) nb, fun b h0 nb g0 => E.fresh b (fun z => z.elim h0 nb) g0, fun p hp => ⟨(E.bagged p hp).1, (E.bagged p hp).2.1⟩⟩
theorem look_some {i : Nat} {o : V} (h : σ[i]?.getD none = some o) : σ[i]? = some (some o) := by
  cases q : σ[i]? with
  | none =>
    rw [q] at h
    cases h
  | some u =>
    rw [q] at h
    exact congrArg Option.some h
theorem En.var (E : En K B M n G0 H0 G H σ δ) {i : Nat} {x : D} (h : δ[i]? = some (.d x)) : ∃ v, σ[i]? = some (some v) ∧ Is K G v x := by
  obtain ⟨v, e, a⟩ := E.slot i _ h
  exact ⟨v, look_some e, a⟩
theorem En.ownd (E : En K B M n G0 H0 G H σ δ) {i : Nat} {xs : List D} (h : δ[i]? = some (.own xs)) : ∃ p vs, σ[i]? = some (some (.ref p)) ∧ H p = some (.lst vs) ∧ IsAll K G vs xs ∧ G p = none ∧ M p ∧ B ≠ some p := by
  obtain ⟨p, vs, e, a⟩ := E.slot i _ h
  exact ⟨p, vs, look_some e, a⟩
theorem En.rawd (E : En K B M n G0 H0 G H σ δ) {i : Nat} {v : V} (h : δ[i]? = some (.raw v)) : σ[i]? = some (some v) := look_some (E.slot i _ h)
theorem En.bagd (E : En K B M n G0 H0 G H σ δ) {i : Nat} (h : δ[i]? = some .bag) : ∃ p, σ[i]? = some (some (.ref p)) ∧ B = some p := by
  obtain ⟨p, e, a⟩ := E.slot i _ h
  exact ⟨p, look_some e, a⟩
/-- the persistent part and the heap grow, owned lists and the bag as they were (the bag may have been drawn from) -/
theorem En.grow {n' : Nat} {G' H' : Hp} (E : En K B M n G0 H0 G H σ δ) (sg : Sub G G') (s : Sub G' H') (k : ∀ b o, H b = some o → B ≠ some b → H' b = some o) (fr : ∀ b, H b ≠ none → G b = none → G' b = none) (bg : ∀ p, B = some p → Bag H' p n') : En K B M n' G0 H0 G' H' σ δ where
  sub0 := E.sub0.trans sg
  sub := s
  same := fun b o e nm => k b o (E.same b o e nm) fun z => nm (E.bagged b z).2.2
  free := fun b hb => by
    by_cases z : B = some b
    · exact (E.bagged b z).2.2
    · cases e : H b with
      | none => exact E.free b e
      | some o =>
        rw [k b o e z] at hb
        cases hb
  fresh := fun b nm g0 => fr b (fun z => nm (E.free b z)) (E.fresh b nm g0)
  bagged := fun p hp => by
    obtain ⟨b1, b2, b3⟩ := E.bagged p hp
    exact ⟨bg p hp, fr p b1.some b2, b3⟩
  len := E.len
  slot := fun i s hs => by
    have h := E.slot i s hs
    cases s with
    | un => trivial
    | d x =>
      obtain ⟨v, e, a⟩ := h
      exact ⟨v, e, a.mono sg⟩
    | own xs =>
      obtain ⟨p, vs, e, hp, a, gp, mp, np⟩ := h
      exact ⟨p, vs, e, k p _ hp np, a.mono sg, fr p (not_none hp) gp, mp, np⟩
    | raw v => exact h
    | bag => exact h
    | scr ns => exact ⟨_, h.choose_spec.1, sg.seqL h.choose_spec.2⟩
  dis := E.dis
theorem En.set {i : Nat} {o : Option V} {s : Slot} (E : En K B M n G0 H0 G H σ δ) (h : SlotOk K B M G H o s) (hd : ∀ xs, s ≠ .own xs) : En K B M n G0 H0 G H (σ.set i o) (δ.set i s) where
  sub0 := E.sub0
  sub := E.sub
  same := E.same
  free := E.free
  fresh := E.fresh
  bagged := E.bagged
  len := by rw [List.length_set, List.length_set, E.len]
  slot := fun j t ht => by
    by_cases hj : i = j
    · subst hj
      have hi : i < δ.length := by
        have := (List.getElem?_eq_some_iff.mp ht).1
        rw [List.length_set] at this
        exact this
      rw [List.getElem?_set_self hi] at ht
      rw [List.getElem?_set_self (by rw [E.len]; exact hi)]
      cases ht
      exact h
    · rw [List.getElem?_set_ne hj] at ht
      rw [List.getElem?_set_ne hj]
      exact E.slot j t ht
  dis := fun j k p xs ys hj hk sj sk => by
    have key : ∀ (m : Nat) (zs : List D), (δ.set i s)[m]? = some (.own zs) → m ≠ i := fun m zs hm z => by
      subst z
      have hi : m < δ.length := by
        have := (List.getElem?_eq_some_iff.mp hm).1
        rw [List.length_set] at this
        exact this
      rw [List.getElem?_set_self hi] at hm
      exact absurd (Option.some.inj hm) (hd zs)
    have e1 := (key j xs hj).symm
    have e2 := (key k ys hk).symm
    rw [List.getElem?_set_ne e1] at hj sj
    rw [List.getElem?_set_ne e2] at hk sk
    exact E.dis j k p xs ys hj hk sj sk
/-- a new object, tracked for good -/
theorem En.laid {p : Addr} {o : HO} (E : En K B M n G0 H0 G H σ δ) (hp : H p = none) : En K B M n G0 H0 (upd G p o) (upd H p o) σ δ :=
  E.grow (Sub.new (E.sub.none hp)) E.sub.up (fun b u e _ => by rw [upd_ne (ne_of_none e hp)]; exact e)
    (fun b hb gb => by
      have : b ≠ p := fun z => hb (by rw [z]; exact hp)
      rw [upd_ne this]
      exact gb) (fun q hq => (E.bagged q hq).1.new hp)
/-- a new list, owned by the slot i -/
theorem En.own {i : Nat} {p : Addr} {vs : List V} {xs : List D} (E : En K B M n G0 H0 G H σ δ) (hp : H p = none) (a : IsAll K G vs xs) : En K B M n G0 H0 G (upd H p (.lst vs)) (σ.set i (some (.ref p))) (δ.set i (.own xs)) := by
  have gp := E.sub.none hp
  have nb : B ≠ some p := fun z => (E.bagged p z).1.some hp
  have E1 : En K B M n G0 H0 G (upd H p (.lst vs)) σ δ := E.grow (Sub.refl G) (E.sub.off gp) (fun b u e _ => by rw [upd_ne (ne_of_none e hp)]; exact e) (fun b _ g => g) (fun q hq => (E.bagged q hq).1.new hp)
  refine ⟨E1.sub0, E1.sub, E1.same, E1.free, E1.fresh, E1.bagged, by rw [List.length_set, List.length_set, E.len], fun j t ht => ?_, fun j k q xs' ys' hj hk sj sk => ?_⟩
  · by_cases hj : i = j
    · subst hj
      have hi : i < δ.length := by
        have := (List.getElem?_eq_some_iff.mp ht).1
        rw [List.length_set] at this
        exact this
      rw [List.getElem?_set_self hi] at ht
      rw [List.getElem?_set_self (by rw [E.len]; exact hi)]
      cases ht
      exact ⟨p, vs, rfl, upd_same, a, gp, E.free p hp, nb⟩
    · rw [List.getElem?_set_ne hj] at ht
      rw [List.getElem?_set_ne hj]
      exact E1.slot j t ht
  · have key : ∀ (m : Nat) (zs : List D), δ[m]? = some (.own zs) → σ[m]? = some (some (.ref p)) → False := fun m zs hm sm => by
      obtain ⟨q, ws, e1, e2, _⟩ := E.ownd hm
      rw [sm] at e1
      have e1 : p = q := by injection (Option.some.inj (Option.some.inj e1))
      rw [← e1, hp] at e2
      cases e2
    have at_ : ∀ (zs : List D), (δ.set i (.own xs))[i]? = some (.own zs) → (σ.set i (some (.ref p)))[i]? = some (some (.ref q)) → p = q := fun zs hm sm => by
      have hi : i < δ.length := by
        have := (List.getElem?_eq_some_iff.mp hm).1
        rw [List.length_set] at this
        exact this
      rw [List.getElem?_set_self (by rw [E.len]; exact hi)] at sm
      injection (Option.some.inj (Option.some.inj sm))
    by_cases e1 : i = j
    · subst e1
      by_cases e2 : i = k
      · exact e2
      · have sj := at_ xs' hj sj
        rw [List.getElem?_set_ne e2] at hk sk
        exact (key k ys' hk (by rw [sj]; exact sk)).elim
    · by_cases e2 : i = k
      · subst e2
        have sk := at_ ys' hk sk
        rw [List.getElem?_set_ne e1] at hj sj
        exact (key j xs' hj (by rw [sk]; exact sj)).elim
      · rw [List.getElem?_set_ne e1] at hj sj
        rw [List.getElem?_set_ne e2] at hk sk
        exact E.dis j k q xs' ys' hj hk sj sk
/-- an owned list is changed -/
theorem En.chg {i : Nat} {p : Addr} {vs vs' : List V} {xs xs' : List D} (E : En K B M n G0 H0 G H σ δ) (hi : δ[i]? = some (.own xs)) (hs : σ[i]? = some (some (.ref p))) (hp : H p = some (.lst vs)) (a : IsAll K G vs' xs') : En K B M n G0 H0 G (upd H p (.lst vs')) σ (δ.set i (.own xs')) := by
  obtain ⟨q, ws, e1, e2, _, gp, mp, nb⟩ := E.ownd hi
  rw [hs] at e1
  have e1 : p = q := by injection (Option.some.inj (Option.some.inj e1))
  subst e1
  have hil : i < δ.length := (List.getElem?_eq_some_iff.mp hi).1
  refine ⟨E.sub0, E.sub.off gp, fun b o e hb => ?_, fun b hb => ?_, E.fresh, fun r hr => ?_, by rw [List.length_set, E.len], fun j t ht => ?_, fun j k r zs ys hj hk sj sk => ?_⟩
  · rw [upd_ne (ne_M mp hb)]
    exact E.same b o e hb
  · by_cases z : b = p
    · rw [z]
      exact mp
    · rw [upd_ne z] at hb
      exact E.free b hb
  · obtain ⟨b1, b2, b3⟩ := E.bagged r hr
    exact ⟨b1.mut fun z => nb (by rw [z]; exact hr), b2, b3⟩
  · by_cases hj : i = j
    · subst hj
      rw [List.getElem?_set_self hil] at ht
      cases ht
      rw [hs]
      exact ⟨p, vs', rfl, upd_same, a, gp, mp, nb⟩
    · rw [List.getElem?_set_ne hj] at ht
      have h := E.slot j t ht
      cases t with
      | un => trivial
      | d x => exact h
      | own zs =>
        obtain ⟨r, us, f1, f2, f3⟩ := h
        refine ⟨r, us, f1, ?_, f3⟩
        rw [upd_ne]
        · exact f2
        · intro z
          subst z
          exact hj (E.dis i j r xs zs hi ht hs (look_some f1))
      | raw v => exact h
      | bag => exact h
      | scr ns => exact h
  · have hj' : ∀ (m : Nat) (zs : List D), (δ.set i (.own xs'))[m]? = some (.own zs) → ∃ zs, δ[m]? = some (.own zs) := fun m zs hm => by
      by_cases e1 : i = m
      · exact ⟨xs, e1 ▸ hi⟩
      · rw [List.getElem?_set_ne e1] at hm
        exact ⟨zs, hm⟩
    obtain ⟨_, g1⟩ := hj' j zs hj
    obtain ⟨_, g2⟩ := hj' k ys hk
    exact E.dis j k r _ _ g1 g2 sj sk
/-- an owned list becomes one that never changes -/
theorem En.frz {i : Nat} {xs : List D} (E : En K B M n G0 H0 G H σ δ) (hi : δ[i]? = some (.own xs)) : ∃ G', Sub G G' ∧ En K B M n G0 H0 G' H σ (δ.set i (.d (.lst xs))) := by
  obtain ⟨p, vs, e1, e2, a, gp, mp, nb⟩ := E.ownd hi
  have hil : i < δ.length := (List.getElem?_eq_some_iff.mp hi).1
  have sg : Sub G (upd G p (.lst vs)) := Sub.new gp
  refine ⟨upd G p (.lst vs), sg, E.sub0.trans sg, fun b o e => ?_, E.same, E.free, fun b hb gb => ?_, fun r hr => ?_, by rw [List.length_set, E.len], fun j t ht => ?_, fun j k r zs ys hj hk sj sk => ?_⟩
  · by_cases hb : b = p
    · subst hb
      rw [upd_same] at e
      cases e
      exact e2
    · rw [upd_ne hb] at e
      exact E.sub b o e
  · rw [upd_ne (ne_M mp hb)]
    exact E.fresh b hb gb
  · obtain ⟨b1, b2, b3⟩ := E.bagged r hr
    exact ⟨b1, by rw [upd_ne fun z => nb (by rw [← z]; exact hr)]; exact b2, b3⟩
  · by_cases hj : i = j
    · subst hj
      rw [List.getElem?_set_self hil] at ht
      cases ht
      rw [e1]
      exact ⟨_, rfl, .lst upd_same (a.mono sg)⟩
    · rw [List.getElem?_set_ne hj] at ht
      have h := E.slot j t ht
      cases t with
      | un => trivial
      | d x =>
        obtain ⟨v, f1, f2⟩ := h
        exact ⟨v, f1, f2.mono sg⟩
      | own zs =>
        obtain ⟨r, us, f1, f2, f3, f4, f5⟩ := h
        refine ⟨r, us, f1, f2, f3.mono sg, ?_, f5⟩
        rw [upd_ne]
        · exact f4
        · intro z
          subst z
          exact hj (E.dis i j r xs zs hi ht e1 (look_some f1))
      | raw v => exact h
      | bag => exact h
      | scr ns => exact ⟨_, h.choose_spec.1, sg.seqL h.choose_spec.2⟩
  · have hj' : ∀ (m : Nat) (zs : List D), (δ.set i (.d (.lst xs)))[m]? = some (.own zs) → δ[m]? = some (.own zs) := fun m zs hm => by
      by_cases e : i = m
      · subst e
        rw [List.getElem?_set_self hil] at hm
        cases hm
      · rw [List.getElem?_set_ne e] at hm
        exact hm
    exact E.dis j k r zs ys (hj' j zs hj) (hj' k ys hk) sj sk
/-- the start is put anew: all that stands now stays, but what M says less c -/
theorem En.rebase {c : Addr} (E : En K B M n G0 H0 G H σ δ) (hc : B ≠ some c) (ho : ∀ (i : Nat) (xs : List D), δ[i]? = some (.own xs) → σ[i]? ≠ some (some (.ref c))) (hs : H c ≠ none) : En K B (fun b => M b ∧ b ≠ c) n G H G H σ δ where
  sub0 := Sub.refl G
  sub := E.sub
  same := fun b o e _ => e
  free := fun b hb => ⟨E.free b hb, fun z => hs (z ▸ hb)⟩
  fresh := fun b _ g => g
  bagged := fun p hp => ⟨(E.bagged p hp).1, (E.bagged p hp).2.1, (E.bagged p hp).2.2, fun z => hc (z ▸ hp)⟩
  len := E.len
  slot := fun i s hs => by
    have h := E.slot i s hs
    cases s with
    | un => trivial
    | d x => exact h
    | own xs =>
      obtain ⟨p, vs, e, hp, a, gp, mp, np⟩ := h
      exact ⟨p, vs, e, hp, a, gp, ⟨mp, fun z => ho i xs hs (z ▸ look_some e)⟩, np⟩
    | raw v => exact h
    | bag => exact h
    | scr ns => exact h
  dis := E.dis
/-- and back -/
theorem En.back {n' : Nat} {c : Addr} {G' H' : Hp} {σ' : L2.St} {δ' : List Slot} (E : En K B M n G0 H0 G H σ δ) (E' : En K B (fun b => M b ∧ b ≠ c) n' G H G' H' σ' δ') (mc : M c) : En K B M n' G0 H0 G' H' σ' δ' where
  sub0 := E.sub0.trans E'.sub0
  sub := E'.sub
  same := fun b o e nm => E'.same b o (E.same b o e nm) fun z => nm z.1
  free := fun b hb => (E'.free b hb).1
  fresh := fun b nm g0 => E'.fresh b (fun z => nm z.1) (E.fresh b nm g0)
  bagged := fun p hp => ⟨(E'.bagged p hp).1, (E'.bagged p hp).2.1, (E'.bagged p hp).2.2.1⟩
  len := E'.len
  slot := fun i s hs => by
    have h := E'.slot i s hs
    cases s with
    | un => trivial
    | d x => exact h
    | own xs =>
      obtain ⟨p, vs, e, hp, a, gp, mp, np⟩ := h
      exact ⟨p, vs, e, hp, a, gp, mp.1, np⟩
    | raw v => exact h
    | bag => exact h
    | scr ns => exact h
  dis := E'.dis
/-- the same heap and slots, the changed cell c beside them -/
theorem En.beside {c : Addr} {o : HO} (E : En K B M n G0 H0 G H σ δ) (hc : B ≠ some c) (gc : G c = none) (mc : M c) (ho : ∀ (i : Nat) (xs : List D), δ[i]? = some (.own xs) → σ[i]? ≠ some (some (.ref c))) : En K B M n G0 H0 G (upd H c o) σ δ where
  sub0 := E.sub0
  sub := E.sub.off gc
  same := fun b u e nm => by
    rw [upd_ne (ne_M mc nm)]
    exact E.same b u e nm
  free := fun b hb => by
    by_cases z : b = c
    · rw [z]
      exact mc
    · rw [upd_ne z] at hb
      exact E.free b hb
  fresh := E.fresh
  bagged := fun p hp => ⟨(E.bagged p hp).1.mut fun z => hc (z ▸ hp), (E.bagged p hp).2⟩
  len := E.len
  slot := fun i s hs => by
    have h := E.slot i s hs
    cases s with
    | un => trivial
    | d x => exact h
    | own xs =>
      obtain ⟨p, vs, e, hp, r⟩ := h
      exact ⟨p, vs, e, by rw [upd_ne (fun (z : p = c) => ho i xs hs (by rw [← z]; exact look_some e))]; exact hp, r⟩
    | raw v => exact h
    | bag => exact h
    | scr ns => exact h
  dis := E.dis
end
end Tl

namespace Tl
open PySem L2 TL
/-! ### judgements over data -/
section
variable (K : PySem.W.Frag)
def GK (te : TE) (δ : List Slot) (n : Nat) (Φ : D → Nat → Prop) : Prop :=
  ∀ (B : Option Addr) (M : Addr → Prop) (G0 H0 G H : Hp) (σ : L2.St), En K B M n G0 H0 G H σ δ → ∀ Q : VK, (∀ (v : V) (d : D) (G' H' : Hp) (n' : Nat), Φ d n' → En K B M n' G0 H0 G' H' σ δ → Sub G G' → Is K G' v d → Q v H') → te σ H Q
def GA (ta : TA) (δ : List Slot) (n : Nat) (Φ : List D → Nat → Prop) : Prop :=
  ∀ (B : Option Addr) (M : Addr → Prop) (G0 H0 G H : Hp) (σ : L2.St), En K B M n G0 H0 G H σ δ → ∀ Q : List V → Hp → Prop, (∀ (vs : List V) (ds : List D) (G' H' : Hp) (n' : Nat), Φ ds n' → En K B M n' G0 H0 G' H' σ δ → Sub G G' → IsAll K G' vs ds → Q vs H') → ta σ H Q
def GT (tt : TT) (δ : List Slot) (n : Nat) (Φ : Bool → Nat → Prop) : Prop :=
  ∀ (B : Option Addr) (M : Addr → Prop) (G0 H0 G H : Hp) (σ : L2.St), En K B M n G0 H0 G H σ δ → ∀ Q : Bool → Hp → Prop, (∀ (b : Bool) (G' H' : Hp) (n' : Nat), Φ b n' → En K B M n' G0 H0 G' H' σ δ → Sub G G' → Q b H') → tt σ H Q
def GO (to : TO) (δ : List Slot) (n : Nat) (Φ : Option Int → Nat → Prop) : Prop :=
  ∀ (B : Option Addr) (M : Addr → Prop) (G0 H0 G H : Hp) (σ : L2.St), En K B M n G0 H0 G H σ δ → ∀ Q : Option Int → Hp → Prop, (∀ (b : Option Int) (G' H' : Hp) (n' : Nat), Φ b n' → En K B M n' G0 H0 G' H' σ δ → Sub G G' → Q b H') → to σ H Q
/-- a two-place operation, a one-place one, a call, on data -/
def RK (r : R2) (x y : D) (δ : List Slot) (n : Nat) (Φ : D → Nat → Prop) : Prop :=
  ∀ (B : Option Addr) (M : Addr → Prop) (G0 H0 G H : Hp) (σ : L2.St), En K B M n G0 H0 G H σ δ → ∀ (v w : V), Is K G v x → Is K G w y → ∀ Q : VK, (∀ (v : V) (d : D) (G' H' : Hp) (n' : Nat), Φ d n' → En K B M n' G0 H0 G' H' σ δ → Sub G G' → Is K G' v d → Q v H') → r v w H Q
def RU (r : V → Hp → VK → Prop) (x : D) (δ : List Slot) (n : Nat) (Φ : D → Nat → Prop) : Prop :=
  ∀ (B : Option Addr) (M : Addr → Prop) (G0 H0 G H : Hp) (σ : L2.St), En K B M n G0 H0 G H σ δ → ∀ (v : V), Is K G v x → ∀ Q : VK, (∀ (v : V) (d : D) (G' H' : Hp) (n' : Nat), Φ d n' → En K B M n' G0 H0 G' H' σ δ → Sub G G' → Is K G' v d → Q v H') → r v H Q
def RC (r : List V → Hp → VK → Prop) (xs : List D) (δ : List Slot) (n : Nat) (Φ : D → Nat → Prop) : Prop :=
  ∀ (B : Option Addr) (M : Addr → Prop) (G0 H0 G H : Hp) (σ : L2.St), En K B M n G0 H0 G H σ δ → ∀ (vs : List V), IsAll K G vs xs → ∀ Q : VK, (∀ (v : V) (d : D) (G' H' : Hp) (n' : Nat), Φ d n' → En K B M n' G0 H0 G' H' σ δ → Sub G G' → Is K G' v d → Q v H') → r vs H Q
def RS (r : V → Option Int → Option Int → Hp → VK → Prop) (x : D) (lo hi : Option Int) (δ : List Slot) (n : Nat) (Φ : D → Nat → Prop) : Prop :=
  ∀ (B : Option Addr) (M : Addr → Prop) (G0 H0 G H : Hp) (σ : L2.St), En K B M n G0 H0 G H σ δ → ∀ (v : V), Is K G v x → ∀ Q : VK, (∀ (v : V) (d : D) (G' H' : Hp) (n' : Nat), Φ d n' → En K B M n' G0 H0 G' H' σ δ → Sub G G' → Is K G' v d → Q v H') → r v lo hi H Q
/-- a def's promise, on data -/
def SC (sp : Sp) (xs : List D) (δ : List Slot) (n : Nat) (Φ : D → Nat → Prop) : Prop :=
  ∀ (B : Option Addr) (M : Addr → Prop) (G0 H0 G H : Hp) (σ : L2.St), En K B M n G0 H0 G H σ δ → ∀ (vs : List V), IsAll K G vs xs → ∀ (Q : VK) (E : XK), (∀ (v : V) (d : D) (G' H' : Hp) (n' : Nat), Φ d n' → En K B M n' G0 H0 G' H' σ δ → Sub G G' → Is K G' v d → Q v H') → sp vs H Q E
def SB (sp : Sp) (xs : List D) (δ : List Slot) (n : Nat) (Φ : D → Nat → Prop) : Prop :=
  ∀ (p : Addr) (M : Addr → Prop) (G0 H0 G H : Hp) (σ : L2.St), En K (some p) M n G0 H0 G H σ δ → ∀ (vs : List V), IsAll K G vs xs → ∀ (Q : VK) (E : XK), (∀ (v : V) (d : D) (G' H' : Hp) (n' : Nat), Φ d n' → En K (some p) M n' G0 H0 G' H' σ δ → Sub G G' → Is K G' v d → Q v H') → sp (.ref p :: vs) H Q E
def GS (B : Option Addr) (ts : TS) (δ : List Slot) (n : Nat) (N : List Slot → Nat → Prop) (R : D → Nat → Prop) (Bk Ct : List Slot → Nat → Prop) : Prop :=
  ∀ (G0 H0 G H : Hp) (σ : L2.St) (E : Ends), En K B (MOf B H0) n G0 H0 G H σ δ → (∀ σ' δ' G' H' n', N δ' n' → En K B (MOf B H0) n' G0 H0 G' H' σ' δ' → Sub G G' → E.nx σ' H') →
    (∀ v d G' H' n', R d n' → Eo K B n' G0 H0 G' H' → Is K G' v d → E.rt v H') → (∀ σ' δ' G' H' n', Bk δ' n' → En K B (MOf B H0) n' G0 H0 G' H' σ' δ' → Sub G G' → E.bk σ' H') → (∀ σ' δ' G' H' n', Ct δ' n' → En K B (MOf B H0) n' G0 H0 G' H' σ' δ' → Sub G G' → E.ct σ' H') → ts E σ H
end
section
variable {K : PySem.W.Frag} {B : Option Addr} {δ : List Slot} {n : Nat} {Φ : D → Nat → Prop} {ta tb te : TE} {aa ab : TA} {tt tu : TT} {N Bk Ct : List Slot → Nat → Prop} {R : D → Nat → Prop} {ts tz : TS}
/-! expressions -/
theorem gk_var {i : Nat} {x : D} (h : δ[i]? = some (.d x)) (k : Φ x n) : GK K (tVar i) δ n Φ := fun B M G0 H0 G H σ E Q q => by
  obtain ⟨v, e, a⟩ := E.var h
  exact ⟨v, e, q v x G H n k E (Sub.refl G) a⟩
theorem gk_c {v : V} (h : scl v = true) (k : Φ (ofV v) n) : GK K (tC v) δ n Φ := fun B M G0 H0 G H σ E Q q => q v _ G H n k E (Sub.refl G) (Is.scl h)
theorem gk_ct {a : Addr} {xs : List V} {ds : List D} (h : ∀ H, SqT K H a xs) (hx : ∀ G, IsAll K G xs ds) (k : Φ (.tup ds) n) : GK K (tC (.ref a)) δ n Φ := fun B M G0 H0 G H σ E Q q => q _ _ G H n k E (Sub.refl G) (.tup (h G) (hx G))
theorem gk_op {r : R2} (h : GK K ta δ n fun x n1 => GK K tb δ n1 fun y n2 => RK K r x y δ n2 Φ) : GK K (tOp r ta tb) δ n Φ := fun B M G0 H0 G H σ E Q q =>
  h B M G0 H0 G H σ E _ fun v x G1 H1 n1 f1 E1 s1 a1 => f1 B M G0 H0 G1 H1 σ E1 _ fun w y G2 H2 n2 f2 E2 s2 a2 => f2 B M G0 H0 G2 H2 σ E2 v w (a1.mono s2) a2 Q fun u d G3 H3 n3 f3 E3 s3 a3 => q u d G3 H3 n3 f3 E3 ((s1.trans s2).trans s3) a3
theorem gk_un {r : V → Hp → VK → Prop} (h : GK K ta δ n fun x n1 => RU K r x δ n1 Φ) : GK K (tUn r ta) δ n Φ := fun B M G0 H0 G H σ E Q q =>
  h B M G0 H0 G H σ E _ fun v x G1 H1 n1 f1 E1 s1 a1 => f1 B M G0 H0 G1 H1 σ E1 v a1 Q fun u d G3 H3 n3 f3 E3 s3 a3 => q u d G3 H3 n3 f3 E3 (s1.trans s3) a3
theorem ga_nil {Φ : List D → Nat → Prop} (k : Φ [] n) : GA K tNil δ n Φ := fun B M G0 H0 G H σ E Q q => q [] [] G H n k E (Sub.refl G) .nil
theorem ga_cons {Φ : List D → Nat → Prop} (h : GK K ta δ n fun x n1 => GA K aa δ n1 fun xs n2 => Φ (x :: xs) n2) : GA K (tCons ta aa) δ n Φ := fun B M G0 H0 G H σ E Q q =>
  h B M G0 H0 G H σ E _ fun v x G1 H1 n1 f1 E1 s1 a1 => f1 B M G0 H0 G1 H1 σ E1 _ fun vs xs G2 H2 n2 f2 E2 s2 a2 => q (v :: vs) (x :: xs) G2 H2 n2 f2 E2 (s1.trans s2) (.cons (a1.mono s2) a2)
theorem gk_tup (h : GA K aa δ n fun xs n1 => xs.length ≤ 100000 ∧ Φ (.tup xs) n1) : GK K (tTup aa) δ n Φ := fun B M G0 H0 G H σ E Q q =>
  h B M G0 H0 G H σ E _ fun vs xs G1 H1 n1 f1 E1 s1 a1 => ⟨by rw [a1.len]; exact sz_ f1.1, fun p hp =>
    have s2 := Sub.new (o := .tup vs) (E1.sub.none hp)
    q _ _ _ _ n1 f1.2 (E1.laid hp) (s1.trans s2) (.tup (SqT.of upd_same) (a1.mono s2))⟩
theorem gk_lst (h : GA K aa δ n fun xs n1 => xs.length ≤ 100000 ∧ Φ (.lst xs) n1) : GK K (tLst aa) δ n Φ := fun B M G0 H0 G H σ E Q q =>
  h B M G0 H0 G H σ E _ fun vs xs G1 H1 n1 f1 E1 s1 a1 => ⟨by rw [a1.len]; exact sz_ f1.1, fun p hp =>
    have s2 := Sub.new (o := .lst vs) (E1.sub.none hp)
    q _ _ _ _ n1 f1.2 (E1.laid hp) (s1.trans s2) (.lst upd_same (a1.mono s2))⟩
theorem gk_cb {r : List V → Hp → VK → Prop} (h : GA K aa δ n fun xs n1 => RC K r xs δ n1 Φ) : GK K (tCB r aa) δ n Φ := fun B M G0 H0 G H σ E Q q =>
  h B M G0 H0 G H σ E _ fun vs xs G1 H1 n1 f1 E1 s1 a1 => f1 B M G0 H0 G1 H1 σ E1 vs a1 Q fun u d G3 H3 n3 f3 E3 s3 a3 => q u d G3 H3 n3 f3 E3 (s1.trans s3) a3
theorem gk_call {sp : Sp} {E : XK} (h : GA K aa δ n fun xs n1 => SC K sp xs δ n1 Φ) : GK K (tCall sp [] E aa) δ n Φ := fun B M G0 H0 G H σ E Q q =>
  h B M G0 H0 G H σ E _ fun vs xs G1 H1 n1 f1 E1 s1 a1 => by
    show sp (vs ++ []) _ _ _
    rw [List.append_nil]
    exact f1 B M G0 H0 G1 H1 σ E1 vs a1 Q _ fun u d G3 H3 n3 f3 E3 s3 a3 => q u d G3 H3 n3 f3 E3 (s1.trans s3) a3
/-- the bag stands first -/
theorem gk_callB {sp : Sp} {E : XK} {i : Nat} (hi : δ[i]? = some .bag) (h : GA K aa δ n fun xs n1 => SB K sp xs δ n1 Φ) : GK K (tCall sp [] E (tCons (tVar i) aa)) δ n Φ := fun B M G0 H0 G H σ E Q q => by
  obtain ⟨p, e, rfl⟩ := E.bagd hi
  refine ⟨.ref p, e, ?_⟩
  refine h (some p) M G0 H0 G H σ E _ fun vs xs G1 H1 n1 f1 E1 s1 a1 => ?_
  show sp ((.ref p :: vs) ++ []) _ _ _
  rw [List.append_nil]
  exact f1 p M G0 H0 G1 H1 σ E1 vs a1 Q _ fun u d G3 H3 n3 f3 E3 s3 a3 => q u d G3 H3 n3 f3 E3 (s1.trans s3) a3
theorem gk_callN {sp : Sp} {E : XK} {k m : Nat} {gV : List V → List V → List V} {gD : List D → List D → List D} (hg : ∀ {G : Hp} {vs zs : List V} {xs ys : List D}, IsAll K G vs xs → IsAll K G zs ys → IsAll K G (gV vs zs) (gD xs ys))
    (h : GA K aa δ n fun xs n1 => GA K ab δ n1 fun ys n2 => xs.length = k ∧ ys.length = m ∧ SC K sp (gD xs ys) δ n2 Φ) : GK K (tCallN k m sp gV E aa ab) δ n Φ := fun B M G0 H0 G H σ E Q q =>
  h B M G0 H0 G H σ E _ fun vs xs G1 H1 n1 f1 E1 s1 a1 => f1 B M G0 H0 G1 H1 σ E1 _ fun zs ys G2 H2 n2 f2 E2 s2 a2 =>
    ⟨(a1.len).trans f2.1, (a2.len).trans f2.2.1, f2.2.2 B M G0 H0 G2 H2 σ E2 _ (hg (a1.mono s2) a2) Q _ fun u d G3 H3 n3 f3 E3 s3 a3 => q u d G3 H3 n3 f3 E3 ((s1.trans s2).trans s3) a3⟩
theorem gk_ifE (h : GT K tt δ n fun b n1 => (b = true → GK K ta δ n1 Φ) ∧ (b = false → GK K tb δ n1 Φ)) : GK K (tIf tt ta tb) δ n Φ := fun B M G0 H0 G H σ E Q q =>
  h B M G0 H0 G H σ E _ fun b G1 H1 n1 f1 E1 s1 => by
    cases b with
    | true =>
      show ta σ H1 Q
      exact f1.1 rfl B M G0 H0 G1 H1 σ E1 Q fun u d G3 H3 n3 f3 E3 s3 a3 => q u d G3 H3 n3 f3 E3 (s1.trans s3) a3
    | false =>
      show tb σ H1 Q
      exact f1.2 rfl B M G0 H0 G1 H1 σ E1 Q fun u d G3 H3 n3 f3 E3 s3 a3 => q u d G3 H3 n3 f3 E3 (s1.trans s3) a3
theorem gk_andV (h : GK K ta δ n fun x n1 => ∃ b, x = .bl b ∧ (b = true → GK K tb δ n1 Φ) ∧ (b = false → Φ (.bl false) n1)) : GK K (tAndV ta tb) δ n Φ := fun B M G0 H0 G H σ E Q q =>
  h B M G0 H0 G H σ E _ fun v x G1 H1 n1 f1 E1 s1 a1 => by
    obtain ⟨b, rfl, h1, h2⟩ := f1
    cases a1
    refine ⟨b, rfl, ?_⟩
    cases b with
    | true =>
      show tb σ H1 Q
      exact h1 rfl B M G0 H0 G1 H1 σ E1 Q fun u d G3 H3 n3 f3 E3 s3 a3 => q u d G3 H3 n3 f3 E3 (s1.trans s3) a3
    | false => exact q _ _ G1 H1 n1 (h2 rfl) E1 s1 (.bl false)
theorem gk_orV (h : GK K ta δ n fun x n1 => ∃ b, x = .bl b ∧ (b = true → Φ (.bl true) n1) ∧ (b = false → GK K tb δ n1 Φ)) : GK K (tOrV ta tb) δ n Φ := fun B M G0 H0 G H σ E Q q =>
  h B M G0 H0 G H σ E _ fun v x G1 H1 n1 f1 E1 s1 a1 => by
    obtain ⟨b, rfl, h1, h2⟩ := f1
    cases a1
    refine ⟨b, rfl, ?_⟩
    cases b with
    | true => exact q _ _ G1 H1 n1 (h1 rfl) E1 s1 (.bl true)
    | false =>
      show tb σ H1 Q
      exact h2 rfl B M G0 H0 G1 H1 σ E1 Q fun u d G3 H3 n3 f3 E3 s3 a3 => q u d G3 H3 n3 f3 E3 (s1.trans s3) a3
theorem gk_notV (h : GK K ta δ n fun x n1 => ∃ b, x = .bl b ∧ Φ (.bl (!b)) n1) : GK K (tNotV ta) δ n Φ := fun B M G0 H0 G H σ E Q q =>
  h B M G0 H0 G H σ E _ fun v x G1 H1 n1 f1 E1 s1 a1 => by
    obtain ⟨b, rfl, h1⟩ := f1
    cases a1
    exact ⟨b, rfl, q _ _ G1 H1 n1 h1 E1 s1 (.bl _)⟩
theorem go_none {Φ : Option Int → Nat → Prop} (k : Φ none n) : GO K tNoPart δ n Φ := fun B M G0 H0 G H σ E Q q => q none G H n k E (Sub.refl G)
theorem go_some {Φ : Option Int → Nat → Prop} (h : GK K ta δ n fun x n1 => ∃ i, x = .int i ∧ Φ (some i) n1) : GO K (tPart ta) δ n Φ := fun B M G0 H0 G H σ E Q q =>
  h B M G0 H0 G H σ E _ fun v x G1 H1 n1 f1 E1 s1 a1 => by
    obtain ⟨i, rfl, h1⟩ := f1
    cases a1
    exact ⟨i, rfl, q _ G1 H1 n1 h1 E1 s1⟩
theorem gk_sl {r : V → Option Int → Option Int → Hp → VK → Prop} {tl th : TO} (h : GK K te δ n fun x n1 => GO K tl δ n1 fun lo n2 => GO K th δ n2 fun hi n3 => RS K r x lo hi δ n3 Φ) : GK K (tSl r te tl th) δ n Φ := fun B M G0 H0 G H σ E Q q =>
  h B M G0 H0 G H σ E _ fun v x G1 H1 n1 f1 E1 s1 a1 => f1 B M G0 H0 G1 H1 σ E1 _ fun lo G2 H2 n2 f2 E2 s2 => f2 B M G0 H0 G2 H2 σ E2 _ fun hi G3 H3 n3 f3 E3 s3 =>
    f3 B M G0 H0 G3 H3 σ E3 v ((a1.mono s2).mono s3) Q fun u d G4 H4 n4 f4 E4 s4 a4 => q u d G4 H4 n4 f4 E4 (((s1.trans s2).trans s3).trans s4) a4
/-- o.join(list of texts) -/
theorem gk_m1 {r : V → List V → Hp → VK → Prop} (h : GK K ta δ n fun x n1 => ∃ z, x = .str z ∧ GK K tb δ n1 fun y n2 => RU K (fun w H Q => r (.str z) [w] H Q) y δ n2 Φ) : GK K (tM1 r ta tb) δ n Φ := fun B M G0 H0 G H σ E Q q =>
  h B M G0 H0 G H σ E _ fun v x G1 H1 n1 f1 E1 s1 a1 => by
    obtain ⟨z, rfl, h1⟩ := f1
    cases a1
    exact ⟨⟨z, rfl⟩, h1 B M G0 H0 G1 H1 σ E1 _ fun w y G2 H2 n2 f2 E2 s2 a2 => f2 B M G0 H0 G2 H2 σ E2 w a2 Q fun u d G4 H4 n4 f4 E4 s4 a4 => q u d G4 H4 n4 f4 E4 ((s1.trans s2).trans s4) a4⟩
/-! tests -/
section
variable {Φ : Bool → Nat → Prop}
theorem gt_test (h : GK K te δ n fun x n1 => ∃ b, x = .bl b ∧ Φ b n1) : GT K (tTest te) δ n Φ := fun B M G0 H0 G H σ E Q q =>
  h B M G0 H0 G H σ E _ fun v x G1 H1 n1 f1 E1 s1 a1 => by
    obtain ⟨b, rfl, h1⟩ := f1
    cases a1
    exact ⟨b, rfl, q b G1 H1 n1 h1 E1 s1⟩
theorem gt_B (h : GK K te δ n fun x n1 => ∃ b, x = .bl b ∧ Φ b n1) : GT K (tB te) δ n Φ := gt_test h
theorem gt_not (h : GT K tt δ n fun b n1 => Φ (!b) n1) : GT K (tNot tt) δ n Φ := fun B M G0 H0 G H σ E Q q => h B M G0 H0 G H σ E _ fun b G1 H1 n1 f1 E1 s1 => q _ G1 H1 n1 f1 E1 s1
theorem gt_and (h : GT K tt δ n fun b n1 => (b = true → GT K tu δ n1 Φ) ∧ (b = false → Φ false n1)) : GT K (tAnd tt tu) δ n Φ := fun B M G0 H0 G H σ E Q q =>
  h B M G0 H0 G H σ E _ fun b G1 H1 n1 f1 E1 s1 => by
    cases b with
    | true =>
      show tu σ H1 Q
      exact f1.1 rfl B M G0 H0 G1 H1 σ E1 Q fun c G2 H2 n2 f2 E2 s2 => q c G2 H2 n2 f2 E2 (s1.trans s2)
    | false => exact q false G1 H1 n1 (f1.2 rfl) E1 s1
theorem gt_or (h : GT K tt δ n fun b n1 => (b = true → Φ true n1) ∧ (b = false → GT K tu δ n1 Φ)) : GT K (tOr tt tu) δ n Φ := fun B M G0 H0 G H σ E Q q =>
  h B M G0 H0 G H σ E _ fun b G1 H1 n1 f1 E1 s1 => by
    cases b with
    | true => exact q true G1 H1 n1 (f1.1 rfl) E1 s1
    | false =>
      show tu σ H1 Q
      exact f1.2 rfl B M G0 H0 G1 H1 σ E1 Q fun c G2 H2 n2 f2 E2 s2 => q c G2 H2 n2 f2 E2 (s1.trans s2)
theorem gt_yes (k : Φ true n) : GT K tYes δ n Φ := fun B M G0 H0 G H σ E Q q => q true G H n k E (Sub.refl G)
end
/-! operators on data -/
theorem rk_I0 {g : Int → Int → V} {i j : Int} (h : scl (g i j) = true) (k : Φ (ofV (g i j)) n) : RK K (rI0 g) (.int i) (.int j) δ n Φ := fun B M G0 H0 G H σ E v w a b Q q => by
  cases a
  cases b
  exact ⟨i, j, rfl, rfl, q _ _ G H n k E (Sub.refl G) (Is.scl h)⟩
theorem rk_I {C : Int → Int → Prop} {g : Int → Int → V} {i j : Int} (h : scl (g i j) = true) (hc : C i j) (k : Φ (ofV (g i j)) n) : RK K (rI C g) (.int i) (.int j) δ n Φ := fun B M G0 H0 G H σ E v w a b Q q => by
  cases a
  cases b
  exact ⟨i, j, rfl, rfl, hc, q _ _ G H n k E (Sub.refl G) (Is.scl h)⟩
theorem ru_U {g : Int → V} {i : Int} (h : scl (g i) = true) (k : Φ (ofV (g i)) n) : RU K (rU g) (.int i) δ n Φ := fun B M G0 H0 G H σ E v a Q q => by
  cases a
  exact ⟨i, rfl, q _ _ G H n k E (Sub.refl G) (Is.scl h)⟩
/-- a scalar's value -/
def toV : D → Option V
  | .non => some .non | .bl b => some (.bl b) | .int i => some (.int i) | .str x => some (.str x) | _ => none
theorem Is.val {G : Hp} {v u : V} {d : D} (a : Is K G v d) (h : toV d = some u) : v = u := by
  cases a <;> first | exact Option.some.inj h | (cases h)
theorem rk_eq {x y : D} {u w : V} (hx : toV x = some u) (hy : toV y = some w) (hs : scal u w = true) (k : Φ (.bl (decide (u = w))) n) : RK K rEq x y δ n Φ := fun B M G0 H0 G H σ E v v' a b Q q => by
  cases a.val hx
  cases b.val hy
  exact ⟨hs, q _ _ G H n k E (Sub.refl G) (.bl _)⟩
theorem rk_ne {x y : D} {u w : V} (hx : toV x = some u) (hy : toV y = some w) (hs : scal u w = true) (k : Φ (.bl (!decide (u = w))) n) : RK K rNe x y δ n Φ := fun B M G0 H0 G H σ E v v' a b Q q => by
  cases a.val hx
  cases b.val hy
  exact ⟨hs, q _ _ G H n k E (Sub.refl G) (.bl _)⟩
def isNonD : D → Bool
  | .non => true | _ => false
theorem Is.non_iff {G : Hp} {v : V} {d : D} (a : Is K G v d) : decide (v = .non) = isNonD d := by
  cases a <;> first | rfl | (simp [isNonD])
theorem rk_isN {x : D} (k : Φ (.bl (isNonD x)) n) : RK K (fun x y H Q => y = .non ∧ Q (.bl (decide (x = .non))) H) x .non δ n Φ := fun B M G0 H0 G H σ E v v' a b Q q => by
  cases b
  exact ⟨rfl, by rw [a.non_iff]; exact q _ _ G H n k E (Sub.refl G) (.bl _)⟩
theorem rk_notN {x : D} (k : Φ (.bl (!isNonD x)) n) : RK K (fun x y H Q => y = .non ∧ Q (.bl (!decide (x = .non))) H) x .non δ n Φ := fun B M G0 H0 G H σ E v v' a b Q q => by
  cases b
  exact ⟨rfl, by rw [a.non_iff]; exact q _ _ G H n k E (Sub.refl G) (.bl _)⟩
theorem rk_addS {x y : Str} (h : x.length + y.length ≤ sizeLine) (k : Φ (.str (x ++ y)) n) : RK K (fun x y H Q => ∃ i j, x = .str i ∧ y = .str j ∧ i.length + j.length ≤ sizeLine ∧ Q (.str (i ++ j)) H) (.str x) (.str y) δ n Φ := fun B M G0 H0 G H σ E v w a b Q q => by
  cases a
  cases b
  exact ⟨x, y, rfl, rfl, h, q _ _ G H n k E (Sub.refl G) (.str _)⟩
theorem rk_mulS {x : Str} {m : Int} (h1 : m < 2 ^ 30) (h2 : -(2 ^ 30) < m) (h : x.length * m.toNat ≤ sizeLine) (k : Φ (.str (mulS x m)) n) : RK K (fun x y H Q => ∃ (i : Str) (n : Int), x = .str i ∧ y = .int n ∧ n < 2 ^ 30 ∧ -(2 ^ 30) < n ∧ i.length * n.toNat ≤ sizeLine ∧ Q (.str (mulS i n)) H) (.str x) (.int m) δ n Φ := fun B M G0 H0 G H σ E v w a b Q q => by
  cases a
  cases b
  exact ⟨x, m, rfl, rfl, h1, h2, h, q _ _ G H n k E (Sub.refl G) (.str _)⟩
theorem rk_ltS {x y : Str} (k : Φ (.bl (decide (tl x < tl y))) n) : RK K (fun x y H Q => ∃ i j, x = .str i ∧ y = .str j ∧ Q (.bl (decide (i.cps.toList < j.cps.toList))) H) (.str x) (.str y) δ n Φ := fun B M G0 H0 G H σ E v w a b Q q => by
  cases a
  cases b
  exact ⟨x, y, rfl, rfl, q _ _ G H n k E (Sub.refl G) (.bl _)⟩
theorem rk_cat {xs ys : List D} (h : xs.length + ys.length ≤ 100000) (k : Φ (.lst (xs ++ ys)) n) : RK K rCat (.lst xs) (.lst ys) δ n Φ := fun B M G0 H0 G H σ E v w a b Q q => by
  cases a with
  | lst h1 a1 =>
    cases b with
    | lst h2 a2 =>
      refine ⟨_, _, _, _, rfl, rfl, E.sub _ _ h1, E.sub _ _ h2, by rw [a1.len, a2.len]; exact sz_ h, fun p hp => ?_⟩
      have s2 : ∀ o, Sub G (upd G p o) := fun o => Sub.new (E.sub.none hp)
      exact q _ _ _ _ n k (E.laid hp) (s2 _) (.lst upd_same ((a1.app a2).mono (s2 _)))
theorem IsAll.repF {G : Hp} {vs : List V} {ds : List D} (a : IsAll K G vs ds) : ∀ m : Nat, IsAll K G (List.replicate m vs).flatten (List.replicate m ds).flatten
  | 0 => .nil
  | m + 1 => by
    rw [List.replicate_succ, List.replicate_succ, List.flatten_cons, List.flatten_cons]
    exact a.app (IsAll.repF a m)
theorem rk_rep {xs : List D} {m : Int} (h1 : m < 2 ^ 30) (h2 : -(2 ^ 30) < m) (h : xs.length * m.toNat ≤ 100000) (k : Φ (.lst (List.replicate m.toNat xs).flatten) n) : RK K rRep (.lst xs) (.int m) δ n Φ := fun B M G0 H0 G H σ E v w a b Q q => by
  cases a with
  | lst h1' a1 =>
    cases b
    refine ⟨_, m, _, rfl, rfl, E.sub _ _ h1', by omega, by omega, by rw [a1.len]; exact sz_ h, fun p hp => ?_⟩
    have s2 : ∀ o, Sub G (upd G p o) := fun o => Sub.new (E.sub.none hp)
    exact q _ _ _ _ n k (E.laid hp) (s2 _) (.lst upd_same ((a1.repF _).mono (s2 _)))
theorem atI_lt {α : Type} {xs : List α} {i : Int} {v : α} (h : atI xs i = some v) : ∃ j : Nat, ixN xs.length i = some j ∧ xs[j]? = some v := by
  unfold atI at h
  cases e : ixN xs.length i with
  | none =>
    rw [e] at h
    cases h
  | some j =>
    rw [e] at h
    exact ⟨j, rfl, h⟩
theorem IsAll.atI {G : Hp} {vs : List V} {ds : List D} {i : Int} {d : D} (a : IsAll K G vs ds) (h : L2.atI ds i = some d) : ∃ v, L2.atI vs i = some v ∧ Is K G v d := by
  obtain ⟨j, e1, e2⟩ := atI_lt h
  obtain ⟨v, e3, e4⟩ := a.at e2
  refine ⟨v, ?_, e4⟩
  unfold L2.atI
  rw [a.len, e1]
  exact e3
theorem rk_ixL {xs : List D} {i : Int} {d : D} (h : L2.atI xs i = some d) (k : Φ d n) : RK K (rIxL K) (.lst xs) (.int i) δ n Φ := fun B M G0 H0 G H σ E v w a b Q q => by
  cases a with
  | lst h1 a1 =>
    cases b
    obtain ⟨v, e1, e2⟩ := a1.atI h
    exact ⟨_, _, i, v, rfl, rfl, SqL.of (E.sub _ _ h1), e1, q _ _ G H n k E (Sub.refl G) e2⟩
theorem rk_ixT {xs : List D} {i : Int} {d : D} (h : L2.atI xs i = some d) (k : Φ d n) : RK K (rIxT K) (.tup xs) (.int i) δ n Φ := fun B M G0 H0 G H σ E v w a b Q q => by
  cases a with
  | tup h1 a1 =>
    cases b
    obtain ⟨v, e1, e2⟩ := a1.atI h
    exact ⟨_, _, i, v, rfl, rfl, E.sub.seq h1, e1, q _ _ G H n k E (Sub.refl G) e2⟩
theorem rk_ixS {z : Str} {i : Int} {c : Nat} (hz : z.length ≤ 100000) (h : L2.atI (tl z) i = some c) (k : Φ (.str (S [c])) n) : RK K rIxS (.str z) (.int i) δ n Φ := fun B M G0 H0 G H σ E v w a b Q q => by
  cases a
  cases b
  exact ⟨z, i, c, rfl, rfl, sz_ hz, h, q _ _ G H n k E (Sub.refl G) (.str _)⟩
theorem rs_str {z : Str} {lo hi : Option Int} (hz : z.length ≤ 100000) (k : Φ (.str (cutS z lo hi)) n) : RS K rSlS (.str z) lo hi δ n Φ := fun B M G0 H0 G H σ E v a Q q => by
  cases a
  exact ⟨z, rfl, sz_ hz, q _ _ G H n k E (Sub.refl G) (.str _)⟩
def cutD (xs : List D) (lo hi : Option Int) : List D := (xs.drop (HT.sIx xs.length 0 lo)).take (HT.sIx xs.length xs.length hi - HT.sIx xs.length 0 lo)
theorem IsAll.cut {G : Hp} {vs : List V} {ds : List D} (a : IsAll K G vs ds) (lo hi : Option Int) : IsAll K G (cutV vs lo hi) (cutD ds lo hi) := by
  unfold cutV cutD
  rw [a.len]
  exact (a.drop _).take _
theorem rs_lst {xs : List D} {lo hi : Option Int} (k : Φ (.lst (cutD xs lo hi)) n) : RS K (rSlL K) (.lst xs) lo hi δ n Φ := fun B M G0 H0 G H σ E v a Q q => by
  cases a with
  | lst h1 a1 =>
    refine ⟨_, _, rfl, SqL.of (E.sub _ _ h1), fun p hp => ?_⟩
    have s2 : ∀ o, Sub G (upd G p o) := fun o => Sub.new (E.sub.none hp)
    exact q _ _ _ _ n k (E.laid hp) (s2 _) (.lst upd_same ((a1.cut lo hi).mono (s2 _)))
/-! built-ins on data -/
theorem rc_lenS {z : Str} (h : z.length ≤ 100000) (k : Φ (.int z.length) n) : RC K (fun xs H Q => ∃ z, xs = [.str z] ∧ z.length ≤ sizeLine ∧ Q (.int z.length) H) [.str z] δ n Φ := fun B M G0 H0 G H σ E vs a Q q => by
  cases a with
  | cons a r =>
    cases r
    cases a
    exact ⟨z, rfl, sz_ h, q _ _ G H n k E (Sub.refl G) (.int _)⟩
theorem rc_lenL {xs : List D} (k : Φ (.int xs.length) n) : RC K (fun xs H Q => ∃ p ys, xs = [.ref p] ∧ (SqL K H p ys ∨ SqT K H p ys) ∧ Q (.int ys.length) H) [.lst xs] δ n Φ := fun B M G0 H0 G H σ E vs a Q q => by
  cases a with
  | cons a r =>
    cases r
    cases a with
    | lst h1 a1 => exact ⟨_, _, rfl, .inl (SqL.of (E.sub _ _ h1)), by rw [a1.len]; exact q _ _ G H n k E (Sub.refl G) (.int _)⟩
theorem rc_lenT {xs : List D} (k : Φ (.int xs.length) n) : RC K (fun xs H Q => ∃ p ys, xs = [.ref p] ∧ (SqL K H p ys ∨ SqT K H p ys) ∧ Q (.int ys.length) H) [.tup xs] δ n Φ := fun B M G0 H0 G H σ E vs a Q q => by
  cases a with
  | cons a r =>
    cases r
    cases a with
    | tup h1 a1 => exact ⟨_, _, rfl, .inr (E.sub.seq h1), by rw [a1.len]; exact q _ _ G H n k E (Sub.refl G) (.int _)⟩
theorem rc_ord {c : Nat} (k : Φ (.int c) n) : RC K (fun xs H Q => ∃ x, xs = [.str x] ∧ x.length = 1 ∧ Q (.int (x.cps.getD 0 0 : Nat)) H) [.str (S [c])] δ n Φ := fun B M G0 H0 G H σ E vs a Q q => by
  cases a with
  | cons a r =>
    cases r
    cases a
    exact ⟨S [c], rfl, rfl, q _ _ G H n k E (Sub.refl G) (.int _)⟩
theorem rc_abs {i : Int} (k : Φ (.int (if i < 0 then -i else i)) n) : RC K (fun xs H Q => ∃ i, xs = [.int i] ∧ Q (.int (if i < 0 then -i else i)) H) [.int i] δ n Φ := fun B M G0 H0 G H σ E vs a Q q => by
  cases a with
  | cons a r =>
    cases r
    cases a
    exact ⟨i, rfl, q _ _ G H n k E (Sub.refl G) (.int _)⟩
theorem rc_int1 {i : Int} (k : Φ (.int i) n) : RC K (fun xs H Q => (∃ i, xs = [.int i] ∧ Q (.int i) H) ∨ ∃ k, xs = [.bl k] ∧ Q (.int (if k then 1 else 0)) H) [.int i] δ n Φ := fun B M G0 H0 G H σ E vs a Q q => by
  cases a with
  | cons a r =>
    cases r
    cases a
    exact .inl ⟨i, rfl, q _ _ G H n k E (Sub.refl G) (.int _)⟩
theorem rc_intB {b : Bool} (k : Φ (.int (if b then 1 else 0)) n) : RC K (fun xs H Q => (∃ i, xs = [.int i] ∧ Q (.int i) H) ∨ ∃ k, xs = [.bl k] ∧ Q (.int (if k then 1 else 0)) H) [.bl b] δ n Φ := fun B M G0 H0 G H σ E vs a Q q => by
  cases a with
  | cons a r =>
    cases r
    cases a
    exact .inr ⟨b, rfl, q _ _ G H n k E (Sub.refl G) (.int _)⟩
theorem rc_max2 {i j : Int} (k : Φ (.int (if j > i then j else i)) n) : RC K (fun xs H Q => ∃ i j, xs = [.int i, .int j] ∧ Q (.int (if j > i then j else i)) H) [.int i, .int j] δ n Φ := fun B M G0 H0 G H σ E vs a Q q => by
  cases a with
  | cons a r =>
    cases r with
    | cons b r =>
      cases r
      cases a
      cases b
      exact ⟨i, j, rfl, q _ _ G H n k E (Sub.refl G) (.int _)⟩
theorem rc_min2 {i j : Int} (k : Φ (.int (if j < i then j else i)) n) : RC K (fun xs H Q => ∃ i j, xs = [.int i, .int j] ∧ Q (.int (if j < i then j else i)) H) [.int i, .int j] δ n Φ := fun B M G0 H0 G H σ E vs a Q q => by
  cases a with
  | cons a r =>
    cases r with
    | cons b r =>
      cases r
      cases a
      cases b
      exact ⟨i, j, rfl, q _ _ G H n k E (Sub.refl G) (.int _)⟩
/-- ''.join(list of texts) -/
theorem ru_join {z : Str} {ys : List Str} (h : (ys.map (·.length)).sum + ys.length * z.length ≤ 16777216) (k : Φ (.str (Txt.join z ys)) n) :
    RU K (fun w H Q => (fun x xs H Q => ∃ a p, ∃ ys : List Str, x = .str a ∧ xs = [.ref p] ∧ (SqL K H p (ys.map V.str) ∨ SqT K H p (ys.map V.str)) ∧ (ys.map (·.length)).sum + ys.length * a.length ≤ 16777216 ∧ Q (.str (Txt.join a ys)) H) (V.str z) [w] H Q) (.lst (ys.map D.str)) δ n Φ := fun B M G0 H0 G H σ E v a Q q => by
  cases a with
  | @lst p xs _ h1 a1 =>
    have e : ∀ (ys : List Str) (xs : List V), IsAll K G xs (ys.map D.str) → xs = ys.map V.str := by
      intro ys
      induction ys with
      | nil => intro xs a; cases a; rfl
      | cons y r ih =>
        intro xs a
        cases a with
        | cons a b =>
          cases a
          rw [ih _ b]
          rfl
    have e := e ys xs a1
    subst e
    exact ⟨z, p, ys, rfl, rfl, .inl (SqL.of (E.sub _ _ h1)), h, q _ _ G H n k E (Sub.refl G) (.str _)⟩
theorem rc_listL {xs : List D} (k : Φ (.lst xs) n) : RC K (fun ws H Q => ∃ p ys, ws = [.ref p] ∧ (SqL K H p ys ∨ SqT K H p ys) ∧ ∀ l, H l = none → Q (.ref l) (upd H l (.lst ys))) [.lst xs] δ n Φ := fun B M G0 H0 G H σ E vs a Q q => by
  cases a with
  | cons a r =>
    cases r
    cases a with
    | lst h1 a1 =>
      refine ⟨_, _, rfl, .inl (SqL.of (E.sub _ _ h1)), fun p hp => ?_⟩
      have s2 : ∀ o, Sub G (upd G p o) := fun o => Sub.new (E.sub.none hp)
      exact q _ _ _ _ n k (E.laid hp) (s2 _) (.lst upd_same (a1.mono (s2 _)))
/-! statements -/
theorem gs_seq (h : GS K B ts δ n (fun δ' n' => GS K B tz δ' n' N R Bk Ct) R Bk Ct) : GS K B (tSeq ts tz) δ n N R Bk Ct := fun G0 H0 G H σ E e hn hr hb hc =>
  h G0 H0 G H σ { E with nx := tz E } e (fun σ' δ' G' H' n' q e' s' => q G0 H0 G' H' σ' E e' (fun σ2 δ2 G2 H2 n2 x y z => hn σ2 δ2 G2 H2 n2 x y (s'.trans z)) hr (fun σ2 δ2 G2 H2 n2 x y z => hb σ2 δ2 G2 H2 n2 x y (s'.trans z)) (fun σ2 δ2 G2 H2 n2 x y z => hc σ2 δ2 G2 H2 n2 x y (s'.trans z))) hr hb hc
theorem gs_next (k : N δ n) : GS K B tNext δ n N R Bk Ct := fun G0 H0 G H σ E e hn hr hb hc => hn σ δ G H n k e (Sub.refl G)
theorem gs_brk (k : Bk δ n) : GS K B tBreak δ n N R Bk Ct := fun G0 H0 G H σ E e hn hr hb hc => hb σ δ G H n k e (Sub.refl G)
theorem gs_cont (k : Ct δ n) : GS K B tCont δ n N R Bk Ct := fun G0 H0 G H σ E e hn hr hb hc => hc σ δ G H n k e (Sub.refl G)
theorem gs_asg {i : Nat} (h : GK K te δ n fun d n' => N (δ.set i (.d d)) n') : GS K B (tAsg te (gName i)) δ n N R Bk Ct := fun G0 H0 G H σ E e hn hr hb hc =>
  h B (MOf B H0) G0 H0 G H σ e _ fun v d G1 H1 n1 f1 E1 s1 a1 => hn _ _ G1 H1 n1 f1 (E1.set (s := .d d) ⟨v, rfl, a1⟩ fun _ z => nomatch z) s1
theorem gs_ret (h : GK K te δ n R) : GS K B (tRet te) δ n N R Bk Ct := fun G0 H0 G H σ E e hn hr hb hc => h B (MOf B H0) G0 H0 G H σ e _ fun v d G1 H1 n1 f1 E1 s1 a1 => hr v d G1 H1 n1 f1 E1.out a1
theorem gs_drop (h : GK K te δ n fun _ n' => N δ n') : GS K B (tDrop te) δ n N R Bk Ct := fun G0 H0 G H σ E e hn hr hb hc => h B (MOf B H0) G0 H0 G H σ e _ fun v d G1 H1 n1 f1 E1 s1 a1 => hn σ δ G1 H1 n1 f1 E1 s1
theorem gs_if (h : GT K tt δ n fun b n1 => (b = true → GS K B ts δ n1 N R Bk Ct) ∧ (b = false → GS K B tz δ n1 N R Bk Ct)) : GS K B (tIfS tt ts tz) δ n N R Bk Ct := fun G0 H0 G H σ E e hn hr hb hc =>
  h B (MOf B H0) G0 H0 G H σ e _ fun b G1 H1 n1 f1 E1 s1 => by
    cases b with
    | true =>
      show ts E σ H1
      exact f1.1 rfl G0 H0 G1 H1 σ E E1 (fun σ2 δ2 G2 H2 n2 x y z => hn σ2 δ2 G2 H2 n2 x y (s1.trans z)) hr (fun σ2 δ2 G2 H2 n2 x y z => hb σ2 δ2 G2 H2 n2 x y (s1.trans z)) (fun σ2 δ2 G2 H2 n2 x y z => hc σ2 δ2 G2 H2 n2 x y (s1.trans z))
    | false =>
      show tz E σ H1
      exact f1.2 rfl G0 H0 G1 H1 σ E E1 (fun σ2 δ2 G2 H2 n2 x y z => hn σ2 δ2 G2 H2 n2 x y (s1.trans z)) hr (fun σ2 δ2 G2 H2 n2 x y z => hb σ2 δ2 G2 H2 n2 x y (s1.trans z)) (fun σ2 δ2 G2 H2 n2 x y z => hc σ2 δ2 G2 H2 n2 x y (s1.trans z))
theorem gs_par {i j : Nat} (h : GA K aa δ n fun ds n' => ∃ x y, ds = [x, y] ∧ N ((δ.set i (.d x)).set j (.d y)) n') : GS K B (tPar i j aa) δ n N R Bk Ct := fun G0 H0 G H σ E e hn hr hb hc =>
  h B (MOf B H0) G0 H0 G H σ e _ fun vs ds G1 H1 n1 f1 E1 s1 a1 => by
    obtain ⟨x, y, rfl, f1⟩ := f1
    cases a1 with
    | cons ha r =>
      cases r with
      | cons hb' r =>
        cases r
        exact ⟨_, _, rfl, hn _ _ G1 H1 n1 f1 ((E1.set (s := .d x) ⟨_, rfl, ha⟩ fun _ z => nomatch z).set (s := .d y) ⟨_, rfl, hb'⟩ fun _ z => nomatch z) s1⟩
/-- x = [..]: a list of one's own -/
theorem gs_own {i : Nat} (h : GA K aa δ n fun ds n' => ds.length ≤ 100000 ∧ N (δ.set i (.own ds)) n') : GS K B (tAsg (tLst aa) (gName i)) δ n N R Bk Ct := fun G0 H0 G H σ E e hn hr hb hc =>
  h B (MOf B H0) G0 H0 G H σ e _ fun vs ds G1 H1 n1 f1 E1 s1 a1 => ⟨by rw [a1.len]; exact sz_ f1.1, fun p hp => hn _ _ G1 _ n1 f1.2 (E1.own hp a1) s1⟩
/-- x = list(y) -/
theorem gs_ownL {i : Nat} (h : GA K aa δ n fun ds n' => ∃ xs, ds = [.lst xs] ∧ N (δ.set i (.own xs)) n') : GS K B (tAsg (tCB (fun ws H Q => ∃ p ys, ws = [.ref p] ∧ (SqL K H p ys ∨ SqT K H p ys) ∧ ∀ l, H l = none → Q (.ref l) (upd H l (.lst ys))) aa) (gName i)) δ n N R Bk Ct := fun G0 H0 G H σ E e hn hr hb hc =>
  h B (MOf B H0) G0 H0 G H σ e _ fun vs ds G1 H1 n1 f1 E1 s1 a1 => by
    obtain ⟨xs, rfl, f1⟩ := f1
    cases a1 with
    | cons ha r =>
      cases r
      cases ha with
      | lst h1 a1 => exact ⟨_, _, rfl, .inl (SqL.of (E1.sub _ _ h1)), fun p hp => hn _ _ G1 _ n1 f1 (E1.own hp a1) s1⟩
/-- an owned list turns into one that stays -/
theorem gs_frz {i : Nat} {xs : List D} (hi : δ[i]? = some (.own xs)) (h : GS K B ts (δ.set i (.d (.lst xs))) n N R Bk Ct) : GS K B ts δ n N R Bk Ct := fun G0 H0 G H σ E e hn hr hb hc => by
  obtain ⟨G', s, e'⟩ := e.frz hi
  exact h G0 H0 G' H σ E e' (fun σ2 δ2 G2 H2 n2 x y z => hn σ2 δ2 G2 H2 n2 x y (s.trans z)) hr (fun σ2 δ2 G2 H2 n2 x y z => hb σ2 δ2 G2 H2 n2 x y (s.trans z)) (fun σ2 δ2 G2 H2 n2 x y z => hc σ2 δ2 G2 H2 n2 x y (s.trans z))
/-- x.append(e), x owned -/
theorem gs_app {i : Nat} {xs : List D} (hi : δ[i]? = some (.own xs)) (hl : xs.length < 100000) (h : GK K te δ n fun d n' => N (δ.set i (.own (xs ++ [d]))) n') : GS K B (tDrop (tBM K "list" rAppend (tVar i) (tCons te tNil))) δ n N R Bk Ct := fun G0 H0 G H σ E e hn hr hb hc => by
  obtain ⟨p, vs, e1, e2, a, gp, h0⟩ := e.ownd hi
  refine ⟨_, e1, .inl ⟨rfl, _, SqL.of e2⟩, ?_⟩
  refine h B (MOf B H0) G0 H0 G H σ e _ fun v d G1 H1 n1 f1 E1 s1 a1 => ?_
  obtain ⟨q, ws, g1, g2, b, _⟩ := E1.ownd hi
  rw [e1] at g1
  have g1 : p = q := by injection (Option.some.inj (Option.some.inj g1))
  subst g1
  exact ⟨p, ws, v, rfl, rfl, g2, by rw [b.len]; exact sz_lt hl, hn _ _ G1 _ n1 f1 (E1.chg hi e1 g2 (b.app (.cons a1 .nil))) s1⟩
/-- x[j] = e, x owned -/
theorem gs_setL {i : Nat} {xs : List D} (hi : δ[i]? = some (.own xs)) (h : GK K te δ n fun d n1 => GK K ta δ n1 fun y n2 => ∃ j : Nat, y = .int j ∧ j < xs.length ∧ N (δ.set i (.own (xs.set j d))) n2) : GS K B (tAsg te (gSub (tVar i) ta rSetL)) δ n N R Bk Ct := fun G0 H0 G H σ E e hn hr hb hc => by
  refine h B (MOf B H0) G0 H0 G H σ e _ fun v d G1 H1 n1 f1 E1 s1 a1 => ?_
  obtain ⟨p, vs, e1, e2, a, gp, h0⟩ := E1.ownd hi
  refine ⟨_, e1, ?_⟩
  refine f1 B (MOf B H0) G0 H0 G1 H1 σ E1 _ fun w y G2 H2 n2 f2 E2 s2 a2 => ?_
  obtain ⟨j, rfl, hj, f2⟩ := f2
  obtain ⟨q, ws, g1, g2, b, _⟩ := E2.ownd hi
  rw [e1] at g1
  have g1 : p = q := by injection (Option.some.inj (Option.some.inj g1))
  subst g1
  cases a2
  refine ⟨p, ws, (j : Int), j, rfl, rfl, g2, ?_, hn _ _ G2 _ n2 f2 (E2.chg hi e1 g2 (b.set (a1.mono s2) j)) (s1.trans s2)⟩
  unfold ixN
  rw [if_pos (by omega), if_pos (by rw [b.len]; omega)]
  rfl
/-- x[i], len(x), x owned -/
theorem gk_ownIx {i : Nat} {xs : List D} (hi : δ[i]? = some (.own xs)) (h : GK K ta δ n fun y n1 => ∃ j d, y = .int j ∧ L2.atI xs j = some d ∧ Φ d n1) : GK K (tOp (rIxL K) (tVar i) ta) δ n Φ := fun B M G0 H0 G H σ E Q q => by
  obtain ⟨p, vs, e1, e2, a, gp, h0⟩ := E.ownd hi
  refine ⟨_, e1, ?_⟩
  refine h B M G0 H0 G H σ E _ fun w y G2 H2 n2 f2 E2 s2 a2 => ?_
  obtain ⟨j, d, rfl, hj, f2⟩ := f2
  obtain ⟨r, ws, g1, g2, b, _⟩ := E2.ownd hi
  rw [e1] at g1
  have g1 : p = r := by injection (Option.some.inj (Option.some.inj g1))
  subst g1
  cases a2
  obtain ⟨v, w1, w2⟩ := b.atI hj
  exact ⟨p, ws, j, v, rfl, rfl, SqL.of g2, w1, q v d G2 H2 n2 f2 E2 s2 w2⟩
theorem gk_ownLen {i : Nat} {xs : List D} (hi : δ[i]? = some (.own xs)) (k : Φ (.int xs.length) n) : GK K (tCB (fun xs H Q => ∃ p ys, xs = [.ref p] ∧ (SqL K H p ys ∨ SqT K H p ys) ∧ Q (.int ys.length) H) (tCons (tVar i) tNil)) δ n Φ := fun B M G0 H0 G H σ E Q q => by
  obtain ⟨p, vs, e1, e2, a, gp, h0⟩ := E.ownd hi
  exact ⟨_, e1, p, vs, rfl, .inl (SqL.of e2), by rw [a.len]; exact q _ _ G H n k E (Sub.refl G) (.int _)⟩
end
end Tl

namespace Tl
open PySem L2 TL
/-! ### promises over data -/
def spF (K : PySem.W.Frag) {α : Type} (enc : α → List D) (pre : α → Prop) (post : α → D → Prop) : Sp := fun vs H Q _ => ∃ (G : Hp) (a : α), Sub G H ∧ IsAll K G vs (enc a) ∧ pre a ∧
  ∀ (v : V) (d : D) (G' H' : Hp), post a d → Eo K none 0 G H G' H' → Is K G' v d → Q v H'
def spG (K : PySem.W.Frag) {α : Type} (enc : α → List D) (pre : Nat → α → Prop) (post : Nat → α → D → Nat → Prop) : Sp := fun vs H Q _ => ∃ (G : Hp) (p : Addr) (n : Nat) (a : α) (rest : List V), vs = .ref p :: rest ∧ Sub G H ∧ G p = none ∧ Bag H p n ∧ IsAll K G rest (enc a) ∧ pre n a ∧
  ∀ (v : V) (d : D) (G' H' : Hp) (n' : Nat), post n a d n' → Eo K (some p) n' G H G' H' → Is K G' v d → Q v H'
section
variable {K : PySem.W.Frag} {δ : List Slot} {n : Nat} {Φ : D → Nat → Prop} {α : Type} {enc : α → List D}
theorem sc_F {pre : α → Prop} {post : α → D → Prop} {xs : List D} (a : α) (e : xs = enc a) (hp : pre a) (k : ∀ d, post a d → Φ d n) : SC K (spF K enc pre post) xs δ n Φ := fun B M G0 H0 G H σ E vs h Q X q =>
  ⟨G, a, E.sub, e ▸ h, hp, fun v d G' H' hd eo hv => q v d G' H' n (k d hd) (E.grow eo.sub0 eo.sub (fun b o e _ => eo.same b o e (fun z => nomatch z)) (fun b hb gb => eo.fresh b hb (fun z => nomatch z) gb)
    (fun p hp => (E.bagged p hp).1.tr fun b o e => eo.same b o e (fun z => nomatch z))) eo.sub0 hv⟩
theorem sb_G {pre : Nat → α → Prop} {post : Nat → α → D → Nat → Prop} {xs : List D} (a : α) (e : xs = enc a) (hp : pre n a) (k : ∀ d n', post n a d n' → Φ d n') : SB K (spG K enc pre post) xs δ n Φ := fun p M G0 H0 G H σ E vs h Q X q =>
  have b := E.bagged p rfl
  ⟨G, p, n, a, vs, rfl, E.sub, b.2.1, b.1, e ▸ h, hp, fun v d G' H' n' hd eo hv => q v d G' H' n' (k d n' hd) (E.grow eo.sub0 eo.sub (fun b o e nb => eo.same b o e nb)
    (fun b hb gb => by
      by_cases z : some p = some b
      · exact (eo.bagged b (by rw [← z])).2
      · exact eo.fresh b hb z gb)
    (fun r hr => (eo.bagged r hr).1)) eo.sub0 hv⟩
end
/-! ### a def by its body -/
def startD (N : List Str) (ds : List D) : List Slot := ds.map Slot.d ++ List.replicate (N.length - ds.length) .un
def startG (N : List Str) (ds : List D) : List Slot := .bag :: (ds.map Slot.d ++ List.replicate (N.length - (ds.length + 1)) .un)
section
variable {K : PySem.W.Frag}
theorem slots_app {B : Option Addr} {M : Addr → Prop} {G H : Hp} {vs : List V} {ds : List D} (a : IsAll K G vs ds) (m : Nat) (i : Nat) (s : Slot) (h : (ds.map Slot.d ++ List.replicate m .un)[i]? = some s) :
    SlotOk K B M G H ((vs.map some ++ List.replicate m none)[i]?.getD none) s ∧ ∀ xs, s ≠ .own xs := by
  by_cases hi : i < ds.length
  · rw [List.getElem?_append_left (by rw [List.length_map]; exact hi), List.getElem?_map] at h
    obtain ⟨d, hd, rfl⟩ := Option.map_eq_some_iff.mp h
    obtain ⟨v, hv, iv⟩ := a.at hd
    rw [List.getElem?_append_left (by rw [List.length_map, a.len]; exact hi), List.getElem?_map, hv]
    exact ⟨⟨v, rfl, iv⟩, fun _ z => nomatch z⟩
  · rw [List.getElem?_append_right (by rw [List.length_map]; omega)] at h
    have := List.mem_of_getElem? h
    rw [List.mem_replicate] at this
    rw [this.2]
    exact ⟨True.intro, fun _ z => nomatch z⟩
theorem En.start {G H : Hp} {vs : List V} {ds : List D} {N : List Str} (s : Sub G H) (a : IsAll K G vs ds) : En K none (MOf none H) 0 G H G H (L2.start N vs) (startD N ds) where
  sub0 := Sub.refl G
  sub := s
  same := fun b o e _ => e
  free := fun b hb => .inl hb
  fresh := fun b _ g => g
  bagged := fun p z => nomatch z
  len := by
    unfold L2.start startD
    rw [List.length_append, List.length_append, List.length_map, List.length_map, List.length_replicate, List.length_replicate, a.len]
  slot := fun i t ht => by
    unfold L2.start
    rw [a.len]
    exact (slots_app a _ i t ht).1
  dis := fun i j p xs ys hi hj si sj => absurd rfl ((slots_app (B := none) (M := MOf none H) (H := H) a _ i _ hi).2 xs)
theorem En.startB {G H : Hp} {p : Addr} {n : Nat} {vs : List V} {ds : List D} {N : List Str} (s : Sub G H) (gp : G p = none) (bg : Bag H p n) (a : IsAll K G vs ds) : En K (some p) (MOf (some p) H) n G H G H (L2.start N (.ref p :: vs)) (startG N ds) where
  sub0 := Sub.refl G
  sub := s
  same := fun b o e _ => e
  free := fun b hb => .inl hb
  fresh := fun b _ g => g
  bagged := fun q z => by
    cases z
    exact ⟨bg, gp, .inr rfl⟩
  len := by
    unfold L2.start startG
    simp only [List.length_append, List.length_map, List.length_replicate, List.length_cons, a.len]
    omega
  slot := fun i t ht => by
    unfold L2.start
    rw [List.length_cons, a.len]
    unfold startG at ht
    cases i with
    | zero =>
      cases ht
      exact ⟨p, rfl, rfl⟩
    | succ i => exact (slots_app a _ i t ht).1
  dis := fun i j q xs ys hi hj si sj => by
    unfold startG at hi
    cases i with
    | zero => cases hi
    | succ i => exact absurd rfl ((slots_app (B := none) (M := MOf none H) (H := H) a _ i _ hi).2 xs)
end
section
variable {P : Program} {w : World} {K : PySem.W.Frag} {mg : Str → Option Value} {base : Heap} {α : Type} {enc : α → List D}
theorem fn_F {x qual : Str} {st : Stmt} {f : Addr} {fd : FuncData} {N ps : List Str} {k : Nat} {pre : α → Prop} {post : α → D → Prop} (F : Fun K x qual st f fd) (S : FnScope N ps (defScope st)) (hl : ∀ a, (enc a).length = ps.length)
    (hb : ∀ (cdv : Value) (A : Around) (outer : List Env) (s : Shared) (H : Hp) (E : XK), Room k (A.deeper (PyProof.Rows.envOfC qual (defScope st) s.heap.objs.size f cdv)) →
      ∃ t, PSs (cxOf CX0 P w K mg base N qual (defScope st) f cdv A outer s H E).nox (defBody st) t ∧ ∀ a, pre a → GS K none t (startD N (enc a)) 0 (fun _ _ => post a .non) (fun d _ => post a d) (fun _ _ => False) (fun _ _ => False)) :
    FnOk P w K mg base CX0 (k + 1) f fd ps (spF K enc pre post) := by
  refine F.ok S (fun vs H Q E h => ?_) (fun cdv A outer s H vs Q E hr h => ?_)
  · obtain ⟨G, a, _, hv, _⟩ := h
    rw [hv.len, hl a]
  · obtain ⟨G, a, hs, hv, hp, q⟩ := h
    obtain ⟨t, h1, h2⟩ := hb cdv A outer s H E hr
    refine ⟨t, h1, h2 a hp G H G H _ _ (En.start hs hv) (fun σ' δ' G' H' n' hd e _ => q .non .non G' H' hd ?_ .non) (fun v d G' H' n' hd eo hv => q v d G' H' hd ?_ hv) (fun _ _ _ _ _ z => z.elim) (fun _ _ _ _ _ z => z.elim)⟩
    · exact ⟨e.out.sub0, e.out.sub, e.out.same, e.out.fresh, fun _ z => nomatch z⟩
    · exact ⟨eo.sub0, eo.sub, eo.same, eo.fresh, fun _ z => nomatch z⟩
theorem fn_G {x qual : Str} {st : Stmt} {f : Addr} {fd : FuncData} {N ps : List Str} {k : Nat} {pre : Nat → α → Prop} {post : Nat → α → D → Nat → Prop} (F : Fun K x qual st f fd) (S : FnScope N ps (defScope st)) (hl : ∀ a, (enc a).length + 1 = ps.length)
    (hb : ∀ (cdv : Value) (A : Around) (outer : List Env) (s : Shared) (H : Hp) (E : XK), Room k (A.deeper (PyProof.Rows.envOfC qual (defScope st) s.heap.objs.size f cdv)) →
      ∃ t, PSs (cxOf CX0 P w K mg base N qual (defScope st) f cdv A outer s H E).nox (defBody st) t ∧ ∀ p n a, pre n a → GS K (some p) t (startG N (enc a)) n (fun _ n' => post n a .non n') (fun d n' => post n a d n') (fun _ _ => False) (fun _ _ => False)) :
    FnOk P w K mg base CX0 (k + 1) f fd ps (spG K enc pre post) := by
  refine F.ok S (fun vs H Q E h => ?_) (fun cdv A outer s H vs Q E hr h => ?_)
  · obtain ⟨G, p, n, a, rest, rfl, _, _, _, hv, _⟩ := h
    rw [List.length_cons, hv.len, hl a]
  · obtain ⟨G, p, n, a, rest, rfl, hs, gp, bg, hv, hp, q⟩ := h
    obtain ⟨t, h1, h2⟩ := hb cdv A outer s H E hr
    exact ⟨t, h1, h2 p n a hp G H G H _ _ (En.startB hs gp bg hv) (fun σ' δ' G' H' n' hd e _ => q .non .non G' H' n' hd e.out .non) (fun v d G' H' n' hd eo hv => q v d G' H' n' hd eo hv) (fun _ _ _ _ _ z => z.elim) (fun _ _ _ _ _ z => z.elim)⟩
end
/-! ### targets and iterators over data -/
def SameOff (vs : List Nat) (σ' σ : L2.St) : Prop := σ'.length = σ.length ∧ ∀ i, i ∉ vs → σ'[i]? = σ[i]?
/-- putting x into a target: the slots δ become δ' -/
def GG (K : PySem.W.Frag) (g : TG) (x : D) (δ δ' : List Slot) (vs : List Nat) : Prop :=
  ∀ (B : Option Addr) (M : Addr → Prop) (n : Nat) (G0 H0 G H : Hp) (σ : L2.St), En K B M n G0 H0 G H σ δ → ∀ v, Is K G v x → ∀ Q : L2.St → Hp → Prop, (∀ σ', En K B M n G0 H0 G H σ' δ' → SameOff vs σ' σ → Q σ' H) → g v σ H Q
def GGs (K : PySem.W.Frag) (g : TGs) (xs : List D) (δ δ' : List Slot) (vs : List Nat) : Prop :=
  ∀ (B : Option Addr) (M : Addr → Prop) (n : Nat) (G0 H0 G H : Hp) (σ : L2.St), En K B M n G0 H0 G H σ δ → ∀ us, IsAll K G us xs → ∀ Q : L2.St → Hp → Prop, (∀ σ', En K B M n G0 H0 G H σ' δ' → SameOff vs σ' σ → Q σ' H) → g us σ H Q
/-- the iterator gives the data xs, one by one -/
def IterD (K : PySem.W.Frag) (J : It) (G : Hp) (xs : List D) : Prop :=
  ∀ G' H', Sub G G' → Sub G' H' → ∀ i, (i = xs.length → J.stop i H') ∧ ∀ x, xs[i]? = some x → J.go i H' ∧ ∀ v H'', J.yld i H' v H'' → (H'' = H' ∧ Is K G' v x) ∨ ∃ p o, H' p = none ∧ H'' = upd H' p o ∧ Is K (upd G' p o) v x
def GI (K : PySem.W.Frag) (wi : TI) (δ : List Slot) (n : Nat) (Ψ : List D → Nat → Prop) : Prop :=
  ∀ (B : Option Addr) (M : Addr → Prop) (G0 H0 G H : Hp) (σ : L2.St), En K B M n G0 H0 G H σ δ → ∀ R : It → Hp → Prop, (∀ J xs G' H' n', Ψ xs n' → En K B M n' G0 H0 G' H' σ δ → Sub G G' → IterD K J G' xs → R J H') → wi σ H R
def wipeD (δ : List Slot) : List Nat → List Slot
  | [] => δ
  | v :: vs => (wipeD δ vs).set v .un
section
variable {K : PySem.W.Frag} {δ : List Slot} {n : Nat} {te : TE} {aa : TA}
theorem SameOff.refl {vs : List Nat} {σ : L2.St} : SameOff vs σ σ := ⟨rfl, fun _ _ => rfl⟩
theorem SameOff.set {vs : List Nat} {σ : L2.St} {j : Nat} {o : Option V} (h : j ∈ vs) : SameOff vs (σ.set j o) σ := ⟨by rw [List.length_set], fun i hi => by
  rw [List.getElem?_set_ne]
  intro z
  subst z
  exact hi h⟩
theorem SameOff.trans {vs : List Nat} {σ σ' σ2 : L2.St} (a : SameOff vs σ2 σ') (b : SameOff vs σ' σ) : SameOff vs σ2 σ := ⟨a.1.trans b.1, fun i hi => (a.2 i hi).trans (b.2 i hi)⟩
theorem wipe_at {σ : L2.St} {vs : List Nat} {i : Nat} (h : i ∉ vs) : (wipe σ vs)[i]? = σ[i]? := by
  induction vs with
  | nil => rfl
  | cons v vs ih =>
    unfold wipe
    rw [List.getElem?_set_ne (fun z => h (by rw [z]; exact List.mem_cons_self))]
    exact ih fun z => h (List.mem_cons_of_mem _ z)
theorem wipe_in {σ : L2.St} {vs : List Nat} {i : Nat} (h : i ∈ vs) (hi : i < σ.length) : (wipe σ vs)[i]? = some none := by
  induction vs with
  | nil => cases h
  | cons v vs ih =>
    unfold wipe
    by_cases z : v = i
    · subst z
      rw [List.getElem?_set_self (by rw [wipe_length]; exact hi)]
    · rw [List.getElem?_set_ne z]
      rcases List.mem_cons.mp h with y | y
      · exact absurd y.symm z
      · exact ih y
theorem SameOff.wipe {vs : List Nat} {σ' σ : L2.St} (h : SameOff vs σ' σ) : L2.wipe σ' vs = L2.wipe σ vs := by
  apply List.ext_getElem?
  intro i
  by_cases hi : i ∈ vs
  · by_cases hl : i < σ.length
    · rw [wipe_in hi hl, wipe_in hi (by rw [h.1]; exact hl)]
    · rw [List.getElem?_eq_none (by rw [wipe_length, h.1]; omega), List.getElem?_eq_none (by rw [wipe_length]; omega)]
  · rw [wipe_at hi, wipe_at hi]
    exact h.2 i hi
theorem SameOff.off {vs : List Nat} {σ : L2.St} : SameOff vs (L2.wipe σ vs) σ := ⟨wipe_length σ vs, fun _ hi => wipe_at hi⟩
theorem En.wipe {B : Option Addr} {M : Addr → Prop} {G0 H0 G H : Hp} {σ : L2.St} (E : En K B M n G0 H0 G H σ δ) : ∀ vs : List Nat, En K B M n G0 H0 G H (L2.wipe σ vs) (wipeD δ vs)
  | [] => E
  | v :: vs => (En.wipe E vs).set (i := v) (s := .un) (o := none) True.intro fun _ z => nomatch z
theorem gg_name {j : Nat} {x : D} {vs : List Nat} (h : j ∈ vs) : GG K (gName j) x δ (δ.set j (.d x)) vs := fun B M n G0 H0 G H σ E v a Q q => q _ (E.set (s := .d x) ⟨v, rfl, a⟩ fun _ z => nomatch z) (.set h)
theorem ggs_nil {vs : List Nat} : GGs K gNil [] δ δ vs := fun B M n G0 H0 G H σ E us a Q q => by
  cases a
  exact ⟨rfl, q σ E .refl⟩
theorem ggs_cons {g : TG} {gs : TGs} {x : D} {xs : List D} {δ1 δ2 : List Slot} {vs : List Nat} (h : GG K g x δ δ1 vs) (h2 : GGs K gs xs δ1 δ2 vs) : GGs K (gCons g gs) (x :: xs) δ δ2 vs := fun B M n G0 H0 G H σ E us a Q q => by
  cases a with
  | cons a r => exact ⟨_, _, rfl, h B M n G0 H0 G H σ E _ a _ fun σ1 E1 s1 => h2 B M n G0 H0 G H σ1 E1 _ r _ fun σ2 E2 s2 => q σ2 E2 (s2.trans s1)⟩
theorem gg_tup {m : Nat} {gs : TGs} {xs : List D} {δ1 : List Slot} {vs : List Nat} (hm : xs.length = m) (h : GGs K gs xs δ δ1 vs) : GG K (gTup K m gs) (.tup xs) δ δ1 vs := fun B M n G0 H0 G H σ E v a Q q => by
  cases a with
  | tup h1 a1 => exact ⟨_, _, rfl, E.sub.seq h1, (a1.len).trans hm, h B M n G0 H0 G H σ E _ a1 Q q⟩
/-! the iterators -/
theorem gi_list {Ψ : List D → Nat → Prop} (h : GK K te δ n fun d n1 => ∃ xs, d = .lst xs ∧ Ψ xs n1) : GI K (iList K te) δ n Ψ := fun B M G0 H0 G H σ E R r =>
  h B M G0 H0 G H σ E _ fun v d G1 H1 n1 f1 E1 s1 a1 => by
    obtain ⟨xs, rfl, f1⟩ := f1
    cases a1 with
    | @lst p vs _ h1 a1 =>
      refine ⟨p, rfl, ⟨vs, SqL.of (E1.sub _ _ h1)⟩, r _ xs G1 H1 n1 f1 E1 s1 fun G' H' s2 s3 i => ⟨fun hi => ⟨vs, SqL.of (s3 _ _ (s2 _ _ h1)), by rw [a1.len, hi]; exact Nat.le_refl _⟩, fun x hx => ?_⟩⟩
      obtain ⟨u, hu, iu⟩ := a1.at hx
      refine ⟨⟨vs, u, SqL.of (s3 _ _ (s2 _ _ h1)), hu⟩, fun v H'' y => .inl ⟨y.1, ?_⟩⟩
      have := y.2 vs (SqL.of (s3 _ _ (s2 _ _ h1)))
      rw [hu] at this
      cases this
      exact iu.mono s2
theorem gi_tup {Ψ : List D → Nat → Prop} (h : GK K te δ n fun d n1 => ∃ xs, d = .tup xs ∧ Ψ xs n1) : GI K (iTup K te) δ n Ψ := fun B M G0 H0 G H σ E R r =>
  h B M G0 H0 G H σ E _ fun v d G1 H1 n1 f1 E1 s1 a1 => by
    obtain ⟨xs, rfl, f1⟩ := f1
    cases a1 with
    | @tup p vs _ h1 a1 =>
      refine ⟨p, rfl, ⟨vs, E1.sub.seq h1⟩, r _ xs G1 H1 n1 f1 E1 s1 fun G' H' s2 s3 i => ⟨fun hi => ⟨vs, s3.seq (s2.seq h1), by rw [a1.len, hi]; exact Nat.le_refl _⟩, fun x hx => ?_⟩⟩
      obtain ⟨u, hu, iu⟩ := a1.at hx
      refine ⟨⟨vs, u, s3.seq (s2.seq h1), hu⟩, fun v H'' y => .inl ⟨y.1, ?_⟩⟩
      have := y.2 vs (s3.seq (s2.seq h1))
      rw [hu] at this
      cases this
      exact iu.mono s2
def charsD (z : Str) : List D := (tl z).map fun c => D.str (S [c])
theorem gi_str {Ψ : List D → Nat → Prop} (h : GK K te δ n fun d n1 => ∃ z, d = .str z ∧ Ψ (charsD z) n1) : GI K (iStr te) δ n Ψ := fun B M G0 H0 G H σ E R r =>
  h B M G0 H0 G H σ E _ fun v d G1 H1 n1 f1 E1 s1 a1 => by
    obtain ⟨z, rfl, f1⟩ := f1
    cases a1
    have hl : (charsD z).length = z.cps.size := by
      unfold charsD
      rw [List.length_map]
      exact Array.length_toList
    refine ⟨z, rfl, r _ _ G1 H1 n1 f1 E1 s1 fun G' H' s2 s3 i => ⟨fun hi => ?_, fun x hx => ?_⟩⟩
    · show z.cps.size ≤ i
      omega
    · have hi : i < z.cps.size := hl ▸ (List.getElem?_eq_some_iff.mp hx).1
      refine ⟨hi, fun v H'' y => .inl ⟨y.1, ?_⟩⟩
      obtain ⟨c, hc, rfl⟩ := y.2
      unfold charsD at hx
      rw [List.getElem?_map] at hx
      have e : (tl z)[i]? = some c := by
        show z.cps.toList[i]? = some c
        rw [Array.getElem?_toList]
        exact hc
      rw [e] at hx
      cases hx
      exact .str _
def rangeD (lo : Int) (m : Nat) : List D := (List.range m).map fun i : Nat => D.int (lo + i)
theorem rangeD_at {lo : Int} {m i : Nat} {x : D} (h : (rangeD lo m)[i]? = some x) : i < m ∧ x = .int (lo + i) := by
  unfold rangeD at h
  rw [List.getElem?_map] at h
  by_cases hi : i < m
  · rw [List.getElem?_range hi] at h
    cases h
    exact ⟨hi, rfl⟩
  · rw [List.getElem?_eq_none (by rw [List.length_range]; omega)] at h
    cases h
theorem rangeD_len {lo : Int} {m : Nat} : (rangeD lo m).length = m := by
  unfold rangeD
  rw [List.length_map, List.length_range]
theorem iter_rng {G : Hp} {lo : Int} {m : Nat} : IterD K (Itr lo m) G (rangeD lo m) := fun G' H' s2 s3 i => ⟨fun hi => by
    rw [rangeD_len] at hi
    exact Nat.le_of_eq hi.symm, fun x hx => by
    obtain ⟨h1, rfl⟩ := rangeD_at hx
    refine ⟨h1, fun v H'' y => .inl ⟨y.1, ?_⟩⟩
    rw [y.2]
    exact .int _⟩
theorem gi_rng1 {Ψ : List D → Nat → Prop} (h : GA K aa δ n fun ds n1 => ∃ m : Int, ds = [.int m] ∧ -(2 ^ 62) ≤ m ∧ m < 2 ^ 62 ∧ Ψ (rangeD 0 m.toNat) n1) : GI K (iRng1 aa) δ n Ψ := fun B M G0 H0 G H σ E R r =>
  h B M G0 H0 G H σ E _ fun vs ds G1 H1 n1 f1 E1 s1 a1 => by
    obtain ⟨m, rfl, h1, h2, f1⟩ := f1
    cases a1 with
    | cons a b =>
      cases b
      cases a
      exact ⟨m, rfl, h1, h2, r _ _ G1 H1 n1 f1 E1 s1 iter_rng⟩
theorem gi_rng2 {Ψ : List D → Nat → Prop} (h : GA K aa δ n fun ds n1 => ∃ a b : Int, ds = [.int a, .int b] ∧ (-(2 ^ 62) ≤ a ∧ a < 2 ^ 62 ∧ -(2 ^ 62) ≤ b ∧ b < 2 ^ 62) ∧ Ψ (rangeD a (b - a).toNat) n1) : GI K (iRng2 aa) δ n Ψ := fun B M G0 H0 G H σ E R r =>
  h B M G0 H0 G H σ E _ fun vs ds G1 H1 n1 f1 E1 s1 a1 => by
    obtain ⟨i, j, rfl, h1, f1⟩ := f1
    cases a1 with
    | cons a b =>
      cases b with
      | cons b c =>
        cases c
        cases a
        cases b
        exact ⟨i, j, rfl, h1, r _ _ G1 H1 n1 f1 E1 s1 iter_rng⟩
def enumD (xs : List D) : List D := xs.mapIdx fun i x => D.tup [.int (i : Nat), x]
theorem gi_enum {Ψ : List D → Nat → Prop} (h : GA K aa δ n fun ds n1 => ∃ xs, ds = [.lst xs] ∧ Ψ (enumD xs) n1) : GI K (iEnum K aa) δ n Ψ := fun B M G0 H0 G H σ E R r =>
  h B M G0 H0 G H σ E _ fun vs ds G1 H1 n1 f1 E1 s1 a1 => by
    obtain ⟨xs, rfl, f1⟩ := f1
    cases a1 with
    | cons a b =>
      cases b
      cases a with
      | @lst p vs _ h1 a1 =>
        refine ⟨p, vs, rfl, SqL.of (E1.sub _ _ h1), r _ _ G1 H1 n1 f1 E1 s1 fun G' H' s2 s3 i => ⟨fun hi => ⟨vs, SqL.of (s3 _ _ (s2 _ _ h1)), ?_⟩, fun x hx => ?_⟩⟩
        · unfold enumD at hi
          rw [List.length_mapIdx] at hi
          rw [a1.len, hi]
          exact Nat.le_refl _
        · unfold enumD at hx
          rw [List.getElem?_mapIdx] at hx
          obtain ⟨d, hd, rfl⟩ := Option.map_eq_some_iff.mp hx
          obtain ⟨u, hu, iu⟩ := a1.at hd
          refine ⟨⟨vs, u, SqL.of (s3 _ _ (s2 _ _ h1)), hu⟩, fun v H'' y => .inr ?_⟩
          obtain ⟨T, u', rfl, y1, y2, y3⟩ := y
          have := y3 vs (SqL.of (s3 _ _ (s2 _ _ h1)))
          rw [hu] at this
          cases this
          have sn := Sub.new (o := .tup [.int (i : Nat), u]) (s3.none y1)
          exact ⟨T, _, y1, y2, .tup (SqT.of upd_same) (.cons (.int _) (.cons ((iu.mono s2).mono sn) .nil))⟩
end
/-! ### loops -/
section
variable {K : PySem.W.Frag} {B : Option Addr} {δ : List Slot} {n : Nat} {Φ : D → Nat → Prop} {N Bk Ct : List Slot → Nat → Prop} {R : D → Nat → Prop} {tb : TS} {wi : TI} {g : TG}
theorem En.yld {B : Option Addr} {M : Addr → Prop} {G0 H0 G H H' : Hp} {σ : L2.St} {v : V} {x : D} (E : En K B M n G0 H0 G H σ δ) (y : (H' = H ∧ Is K G v x) ∨ ∃ p o, H p = none ∧ H' = upd H p o ∧ Is K (upd G p o) v x) :
    ∃ G', Sub G G' ∧ En K B M n G0 H0 G' H' σ δ ∧ Is K G' v x ∧ ∀ c, H c ≠ none → H' c = H c ∧ G' c = G c := by
  rcases y with ⟨rfl, a⟩ | ⟨p, o, hp, rfl, a⟩
  · exact ⟨G, Sub.refl G, E, a, fun c _ => ⟨rfl, rfl⟩⟩
  · refine ⟨_, Sub.new (E.sub.none hp), E.laid hp, a, fun c hc => ?_⟩
    have : c ≠ p := fun z => hc (by rw [z]; exact hp)
    exact ⟨upd_ne this, upd_ne this⟩
/-- a list beside the slots becomes one that stays -/
theorem En.settle {B : Option Addr} {M : Addr → Prop} {G0 H0 G H : Hp} {σ : L2.St} {c : Addr} {o : HO} (E : En K B M n G0 H0 G H σ δ) (hc : H c = some o) (gc : G c = none) (mc : M c) (nb : B ≠ some c) (oc : ∀ (i : Nat) (xs : List D), δ[i]? = some (.own xs) → σ[i]? ≠ some (some (.ref c))) : En K B M n G0 H0 (upd G c o) H σ δ where
  sub0 := E.sub0.trans (Sub.new gc)
  sub := fun b u e => by
    by_cases hb : b = c
    · subst hb
      rw [upd_same] at e
      cases e
      exact hc
    · rw [upd_ne hb] at e
      exact E.sub b u e
  same := E.same
  free := E.free
  fresh := fun b nm g0 => by
    rw [upd_ne (ne_M mc nm)]
    exact E.fresh b nm g0
  bagged := fun p hp => by
    obtain ⟨b1, b2, b3⟩ := E.bagged p hp
    exact ⟨b1, by rw [upd_ne fun z => nb (by rw [← z]; exact hp)]; exact b2, b3⟩
  len := E.len
  slot := fun i s hs => by
    have h := E.slot i s hs
    cases s with
    | un => trivial
    | d x =>
      obtain ⟨v, e, a⟩ := h
      exact ⟨v, e, a.mono (Sub.new gc)⟩
    | own xs =>
      obtain ⟨p, us, e, hp, a, gp, r⟩ := h
      exact ⟨p, us, e, hp, a.mono (Sub.new gc), by rw [upd_ne fun (z : p = c) => oc i xs hs (by rw [← z]; exact look_some e)]; exact gp, r⟩
    | raw v => exact h
    | bag => exact h
    | scr ns => exact ⟨_, h.choose_spec.1, (Sub.new gc).seqL h.choose_spec.2⟩
  dis := E.dis
theorem gs_for (h : GI K wi δ n fun xs n1 => ∃ Iv : Nat → List Slot → Nat → Prop, Iv 0 δ n1 ∧ (∀ i x δ' n', xs[i]? = some x → Iv i δ' n' → ∃ δ2 vs, GG K g x δ' δ2 vs ∧ GS K B tb δ2 n' (Iv (i + 1)) R N (Iv (i + 1))) ∧ ∀ δ' n', Iv xs.length δ' n' → N δ' n') :
    GS K B (tFor wi g tb) δ n N R Bk Ct := fun G0 H0 G H σ E e hn hr hb hc =>
  h B (MOf B H0) G0 H0 G H σ e _ fun J xs G1 H1 n1 f1 E1 s1 a1 => by
    obtain ⟨Iv, h0, hs, hd⟩ := f1
    refine ⟨fun i m σ' H' => m = xs.length - i ∧ i ≤ xs.length ∧ ∃ δ' n' G', Iv i δ' n' ∧ En K B (MOf B H0) n' G0 H0 G' H' σ' δ' ∧ Sub G1 G', ⟨xs.length, by simp, Nat.zero_le _, δ, n1, G1, h0, E1, Sub.refl G1⟩, ?_⟩
    rintro i m σ' H' ⟨rfl, hi, δ', n', G', iv, e', s'⟩
    obtain ⟨j1, j2⟩ := a1 G' H' s' e'.sub i
    by_cases hlt : i < xs.length
    · obtain ⟨x, hx⟩ : ∃ x, xs[i]? = some x := ⟨xs[i], by simp [hlt]⟩
      obtain ⟨jg, jy⟩ := j2 x hx
      refine .inr ⟨jg, fun σ' H' => ∃ δ' n' G', Iv (i + 1) δ' n' ∧ En K B (MOf B H0) n' G0 H0 G' H' σ' δ' ∧ Sub G1 G', fun σ2 H2 q => ⟨xs.length - (i + 1), by omega, rfl, hlt, q⟩, fun v H'' y => ?_⟩
      obtain ⟨G2, s2, e2, a2, _⟩ := e'.yld (jy v H'' y)
      obtain ⟨δ2, vs, gg, hb⟩ := hs i x δ' n' hx iv
      refine gg B _ n' G0 H0 G2 H'' σ' e2 v a2 _ fun σ3 e3 _ => ?_
      exact hb G0 H0 G2 H'' σ3 _ e3 (fun σ4 δ4 G4 H4 n4 q e4 s4 => ⟨δ4, n4, G4, q, e4, (s'.trans s2).trans s4⟩) hr (fun σ4 δ4 G4 H4 n4 q e4 s4 => hn σ4 δ4 G4 H4 n4 q e4 ((s1.trans (s'.trans s2)).trans s4)) (fun σ4 δ4 G4 H4 n4 q e4 s4 => ⟨δ4, n4, G4, q, e4, (s'.trans s2).trans s4⟩)
    · have ei : i = xs.length := by omega
      subst ei
      exact .inl ⟨j1 rfl, hn σ' δ' G' H' n' (hd δ' n' iv) e' (s1.trans s')⟩
theorem gs_while {tc : TT} (Iv : Nat → List Slot → Nat → Prop) (m0 : Nat) (h0 : Iv m0 δ n)
    (hs : ∀ m δ' n', Iv m δ' n' → GT K tc δ' n' fun b n1 => (b = true → GS K B tb δ' n1 (fun δ2 n2 => ∃ m', m' < m ∧ Iv m' δ2 n2) R N (fun δ2 n2 => ∃ m', m' < m ∧ Iv m' δ2 n2)) ∧ (b = false → N δ' n1)) : GS K B (tWhile tc tb) δ n N R Bk Ct := fun G0 H0 G H σ E e hn hr hb hc => by
  refine ⟨fun m σ' H' => ∃ δ' n' G', Iv m δ' n' ∧ En K B (MOf B H0) n' G0 H0 G' H' σ' δ' ∧ Sub G G', ⟨m0, δ, n, G, h0, e, Sub.refl G⟩, ?_⟩
  rintro m σ' H' ⟨δ', n', G', iv, e', s'⟩
  refine hs m δ' n' iv B (MOf B H0) G0 H0 G' H' σ' e' _ fun b G2 H2 n2 f2 E2 s2 => ?_
  cases b with
  | true =>
    refine ⟨fun σ3 H3 => ∃ m', m' < m ∧ ∃ δ' n' G', Iv m' δ' n' ∧ En K B (MOf B H0) n' G0 H0 G' H3 σ3 δ' ∧ Sub G G', fun σ3 H3 h => h, ?_⟩
    exact f2.1 rfl G0 H0 G2 H2 σ' _ E2 (fun σ3 δ3 G3 H3 n3 ⟨m', hm, q⟩ e3 s3 => ⟨m', hm, δ3, n3, G3, q, e3, (s'.trans s2).trans s3⟩) hr (fun σ3 δ3 G3 H3 n3 q e3 s3 => hn σ3 δ3 G3 H3 n3 q e3 ((s'.trans s2).trans s3))
      (fun σ3 δ3 G3 H3 n3 ⟨m', hm, q⟩ e3 s3 => ⟨m', hm, δ3, n3, G3, q, e3, (s'.trans s2).trans s3⟩)
  | false => exact hn σ' δ' G2 H2 n2 (f2.2 rfl) E2 (s'.trans s2)
end
/-! ### comprehensions -/
section
variable {K : PySem.W.Frag} {δ : List Slot} {n : Nat} {Φ : D → Nat → Prop} {te : TE} {tt : TT} {wi : TI} {g : TG} {vs : List Nat}
/-- what stands between two turns: the new list at c -/
def Lw (K : PySem.W.Frag) (B : Option Addr) (M : Addr → Prop) (G0 H0 G1 : Hp) (σ : L2.St) (δ : List Slot) (Iv : Nat → List D → Nat → Prop) (c : Addr) (i : Nat) (H : Hp) : Prop :=
  ∃ (acc : List D) (va : List V) (n' : Nat) (G' : Hp), Iv i acc n' ∧ acc.length ≤ i ∧ H c = some (.lst va) ∧ IsAll K G' va acc ∧ G' c = none ∧ En K B M n' G0 H0 G' H σ δ ∧ Sub G1 G'
theorem wipeD_at {i : Nat} (h : i ∉ vs) : (wipeD δ vs)[i]? = δ[i]? := by
  induction vs with
  | nil => rfl
  | cons v vs ih =>
    unfold wipeD
    rw [List.getElem?_set_ne (fun z => h (by rw [z]; exact List.mem_cons_self))]
    exact ih fun z => h (List.mem_cons_of_mem _ z)
/-- slots off vs the same -/
def OffD (vs : List Nat) (δ2 δ : List Slot) : Prop := ∀ i, i ∉ vs → δ2[i]? = δ[i]?
/-- back to the def's own slots -/
theorem En.home {B : Option Addr} {M : Addr → Prop} {G0 H0 G' H : Hp} {σ σ2 : L2.St} {δ2 : List Slot} {c : Addr} {n' n2 : Nat} {G2 H2 : Hp} (E : En K B M n' G0 H0 G' H σ δ) (e : En K B (fun b => M b ∧ b ≠ c) n2 G' H G2 H2 σ2 δ2) (so : SameOff vs σ2 σ) (sd : OffD vs δ2 δ) (ho : ∀ i ∈ vs, ∀ xs, δ[i]? ≠ some (.own xs)) : En K B M n2 G0 H0 G2 H2 σ δ := by
  refine ⟨E.sub0.trans e.sub0, e.sub, fun b o h0 nm => e.same b o (E.same b o h0 nm) fun z => nm z.1, fun b hb => (e.free b hb).1, fun b nm g0 => e.fresh b (fun z => nm z.1) (E.fresh b nm g0), fun p hp => ⟨(e.bagged p hp).1, (e.bagged p hp).2.1, (e.bagged p hp).2.2.1⟩, E.len, fun m t ht => ?_, E.dis⟩
  have old := E.slot m t ht
  cases t with
  | un => trivial
  | d y =>
    obtain ⟨u, f1, f2⟩ := old
    exact ⟨u, f1, f2.mono e.sub0⟩
  | own ys =>
    have hm : m ∉ vs := fun z => ho m z ys ht
    have h2 := e.slot m (.own ys) ((sd m hm).trans ht)
    rw [so.2 m hm] at h2
    obtain ⟨p, ws, f1, f2, f3, f4, f5, f6⟩ := h2
    exact ⟨p, ws, f1, f2, f3, f4, f5.1, f6⟩
  | raw u => exact old
  | bag => exact old
  | scr ns => exact ⟨_, old.choose_spec.1, e.sub0.seqL old.choose_spec.2⟩
theorem gk_lc (ho : ∀ i ∈ vs, ∀ xs, δ[i]? ≠ some (.own xs)) (h : GI K wi δ n fun xs n1 => xs.length ≤ 50000 ∧ ∃ Iv : Nat → List D → Nat → Prop, Iv 0 [] n1 ∧ (∀ i x acc n', xs[i]? = some x → Iv i acc n' → acc.length ≤ i → ∃ δ2, GG K g x (wipeD δ vs) δ2 vs ∧ OffD vs δ2 δ ∧
      GT K tt δ2 n' fun b n2 => (b = true → GK K te δ2 n2 fun y n3 => Iv (i + 1) (acc ++ [y]) n3) ∧ (b = false → Iv (i + 1) acc n2)) ∧ ∀ acc n', Iv xs.length acc n' → acc.length ≤ xs.length → Φ (.lst acc) n') :
    GK K (tLc wi g tt te vs) δ n Φ := fun B M G0 H0 G H σ E Q q =>
  h B M G0 H0 G H σ E _ fun J xs G1 H1 n1 f1 E1 s1 a1 => by
    obtain ⟨hx5, Iv, h0, hs, hd⟩ := f1
    intro c hc
    have nbc : B ≠ some c := fun z => (E1.bagged c z).1.some hc
    have gc := E1.sub.none hc
    have mc := E1.free c hc
    have oc : ∀ (i : Nat) (xs : List D), δ[i]? = some (.own xs) → σ[i]? ≠ some (some (.ref c)) := fun i xs hi z => by
      obtain ⟨p, us, e1, e2, _⟩ := E1.ownd hi
      rw [z] at e1
      cases e1
      rw [hc] at e2
      cases e2
    refine ⟨fun i m H' => m = xs.length - i ∧ i ≤ xs.length ∧ Lw K B M G0 H0 G1 σ δ Iv c i H', ⟨xs.length, by simp, Nat.zero_le _, [], [], n1, G1, h0, Nat.le_refl _, upd_same, .nil, gc, E1.beside nbc gc mc oc, Sub.refl G1⟩, ?_⟩
    rintro i m H' ⟨rfl, hi, acc, va, n', G', iv, hl, hc', ia, gc', e', s'⟩
    obtain ⟨j1, j2⟩ := a1 G' H' s' e'.sub i
    by_cases hlt : i < xs.length
    · obtain ⟨x, hx⟩ : ∃ x, xs[i]? = some x := ⟨xs[i], by simp [hlt]⟩
      obtain ⟨jg, jy⟩ := j2 x hx
      refine .inr ⟨jg, Lw K B M G0 H0 G1 σ δ Iv c (i + 1), fun H2 q => ⟨xs.length - (i + 1), by omega, rfl, hlt, q⟩, fun v H'' y => ?_⟩
      obtain ⟨G2, s2, e2, a2, kc⟩ := e'.yld (jy v H'' y)
      have hc2 : H'' c = some (.lst va) ∧ G2 c = none := by
        obtain ⟨k1, k2⟩ := kc c (not_none hc')
        exact ⟨k1.trans hc', k2.trans gc'⟩
      obtain ⟨hc2, gc2⟩ := hc2
      obtain ⟨δ2, gg, od, ht⟩ := hs i x acc n' hx iv hl
      have Eb := (e2.rebase (c := c) nbc oc (not_none hc2)).wipe vs
      refine gg B _ n' G2 H'' G2 H'' _ Eb v a2 _ fun σ3 e3 s3 => ⟨?_, ?_⟩
      · rw [s3.wipe]
        exact SameOff.off.wipe
      · have so : SameOff vs σ3 σ := s3.trans SameOff.off
        refine ht B _ G2 H'' G2 H'' σ3 e3 _ fun b G4 H4 n4 f4 e4 s4 => ?_
        have ncm : ¬ (M c ∧ c ≠ c) := fun z => z.2 rfl
        cases b with
        | false =>
          show Lw K B M G0 H0 G1 σ δ Iv c (i + 1) H4
          exact ⟨acc, va, n4, G4, f4.2 rfl, by omega, e4.same c _ hc2 ncm, (ia.mono s2).mono s4, e4.fresh c ncm gc2, e2.home e4 so od ho, (s'.trans s2).trans s4⟩
        | true =>
          show te σ3 H4 _
          refine f4.1 rfl B _ G2 H'' G4 H4 σ3 e4 _ fun y d G5 H5 n5 f5 e5 s5 a5 => ?_
          have hc5 := e5.same c _ hc2 ncm
          have gc5 := e5.fresh c ncm gc2
          refine ⟨va, hc5, by rw [ia.len]; exact sz_lt (by omega), acc ++ [d], va ++ [y], n5, G5, f5, by rw [List.length_append, List.length_singleton]; omega, upd_same, (((ia.mono s2).mono s4).mono s5).app (.cons a5 .nil), gc5, (e2.home e5 so od ho).beside nbc gc5 mc oc, ((s'.trans s2).trans s4).trans s5⟩
    · have ei : i = xs.length := by omega
      subst ei
      -- the new list becomes one that stays
      have sn := Sub.new (o := .lst va) gc'
      exact .inl ⟨j1 rfl, q _ (.lst acc) _ H' n' (hd acc n' iv hl) (e'.settle hc' gc' mc nbc oc) ((s1.trans s').trans sn) (.lst upd_same (ia.mono sn))⟩
end
end Tl

namespace Tl
open PySem L2 TL
/-! ### promises over data: by what they lead to -/
def spP (K : PySem.W.Frag) (Pc : List D → (D → Prop) → Prop) : Sp := fun vs H Q _ => ∃ (G : Hp) (ds : List D) (Φ : D → Prop), Sub G H ∧ IsAll K G vs ds ∧ Pc ds Φ ∧
  ∀ (v : V) (d : D) (G' H' : Hp), Φ d → Eo K none 0 G H G' H' → Is K G' v d → Q v H'
def spB (K : PySem.W.Frag) (Pc : Nat → List D → (D → Nat → Prop) → Prop) : Sp := fun vs H Q _ => ∃ (G : Hp) (p : Addr) (n : Nat) (rest : List V) (ds : List D) (Φ : D → Nat → Prop), vs = .ref p :: rest ∧ Sub G H ∧ G p = none ∧ Bag H p n ∧ IsAll K G rest ds ∧ Pc n ds Φ ∧
  ∀ (v : V) (d : D) (G' H' : Hp) (n' : Nat), Φ d n' → Eo K (some p) n' G H G' H' → Is K G' v d → Q v H'
/-- the law's own -/
def spL (K : PySem.W.Frag) : Sp := fun vs H Q _ => ∃ (a : Addr) (ns : List Int), vs = [.ref a] ∧ SqL K H a (ns.map V.int) ∧ ns.length ≤ 63 ∧ ∀ H', Q (.bl true) H'
section
variable {K : PySem.W.Frag} {B : Option Addr} {δ : List Slot} {n : Nat} {Φ : D → Nat → Prop}
theorem sc_P {Pc : List D → (D → Prop) → Prop} {xs : List D} (k : Pc xs fun d => Φ d n) : SC K (spP K Pc) xs δ n Φ := fun B M G0 H0 G H σ E vs h Q X q =>
  ⟨G, xs, _, E.sub, h, k, fun v d G' H' hd eo hv => q v d G' H' n hd (E.grow eo.sub0 eo.sub (fun b o e _ => eo.same b o e (fun z => nomatch z)) (fun b hb gb => eo.fresh b hb (fun z => nomatch z) gb)
    (fun p hp => (E.bagged p hp).1.tr fun b o e => eo.same b o e (fun z => nomatch z))) eo.sub0 hv⟩
theorem sb_P {Pc : Nat → List D → (D → Nat → Prop) → Prop} {xs : List D} (k : Pc n xs Φ) : SB K (spB K Pc) xs δ n Φ := fun p M G0 H0 G H σ E vs h Q X q =>
  have b := E.bagged p rfl
  ⟨G, p, n, vs, xs, _, rfl, E.sub, b.2.1, b.1, h, k, fun v d G' H' n' hd eo hv => q v d G' H' n' hd (E.grow eo.sub0 eo.sub (fun b o e nb => eo.same b o e nb)
    (fun b hb gb => by
      by_cases z : some p = some b
      · exact (eo.bagged b (by rw [← z])).2
      · exact eo.fresh b hb z gb)
    (fun r hr => (eo.bagged r hr).1)) eo.sub0 hv⟩
/-- the bag was drawn from -/
theorem En.drawn {p : Addr} {n' : Nat} {M : Addr → Prop} {G0 H0 G H H' : Hp} {σ : L2.St} (E : En K (some p) M n G0 H0 G H σ δ) (bg : Bag H' p n') (fr : Fr p H H') : En K (some p) M n' G0 H0 G H' σ δ :=
  E.grow (Sub.refl G) (fun b o e => fr b o (fun z => by rw [z, (E.bagged p rfl).2.1] at e; cases e) (E.sub b o e)) (fun b o e nb => fr b o (fun z => nb (by rw [z])) e) (fun b _ g => g) (fun q hq => by cases hq; exact bg)
end
section
variable {P : Program} {w : World} {K : PySem.W.Frag} {mg : Str → Option Value} {base : Heap}
theorem fn_P {x qual : Str} {st : Stmt} {f : Addr} {fd : FuncData} {N ps : List Str} {k : Nat} {Pc : List D → (D → Prop) → Prop} (F : Fun K x qual st f fd) (S : FnScope N ps (defScope st)) (hl : ∀ ds Φ, Pc ds Φ → ds.length = ps.length)
    (hb : ∀ (cdv : Value) (A : Around) (outer : List Env) (s : Shared) (H : Hp) (E : XK), Room k (A.deeper (PyProof.Rows.envOfC qual (defScope st) s.heap.objs.size f cdv)) →
      ∃ t, PSs (cxOf CX0 P w K mg base N qual (defScope st) f cdv A outer s H E).nox (defBody st) t ∧ ∀ ds Φ, Pc ds Φ → GS K none t (startD N ds) 0 (fun _ _ => Φ .non) (fun d _ => Φ d) (fun _ _ => False) (fun _ _ => False)) :
    FnOk P w K mg base CX0 (k + 1) f fd ps (spP K Pc) := by
  refine F.ok S (fun vs H Q E h => ?_) (fun cdv A outer s H vs Q E hr h => ?_)
  · obtain ⟨G, ds, Φ, _, hv, hp, _⟩ := h
    rw [hv.len, hl ds Φ hp]
  · obtain ⟨G, ds, Φ, hs, hv, hp, q⟩ := h
    obtain ⟨t, h1, h2⟩ := hb cdv A outer s H E hr
    refine ⟨t, h1, h2 ds Φ hp G H G H _ _ (En.start hs hv) (fun σ' δ' G' H' n' hd e _ => q .non .non G' H' hd ?_ .non) (fun v d G' H' n' hd eo hv => q v d G' H' hd ?_ hv) (fun _ _ _ _ _ z => z.elim) (fun _ _ _ _ _ z => z.elim)⟩
    · exact ⟨e.out.sub0, e.out.sub, e.out.same, e.out.fresh, fun _ z => nomatch z⟩
    · exact ⟨eo.sub0, eo.sub, eo.same, eo.fresh, fun _ z => nomatch z⟩
theorem fn_B {x qual : Str} {st : Stmt} {f : Addr} {fd : FuncData} {N ps : List Str} {k : Nat} {Pc : Nat → List D → (D → Nat → Prop) → Prop} (F : Fun K x qual st f fd) (S : FnScope N ps (defScope st)) (hl : ∀ n ds Φ, Pc n ds Φ → ds.length + 1 = ps.length)
    (hb : ∀ (cdv : Value) (A : Around) (outer : List Env) (s : Shared) (H : Hp) (E : XK), Room k (A.deeper (PyProof.Rows.envOfC qual (defScope st) s.heap.objs.size f cdv)) →
      ∃ t, PSs (cxOf CX0 P w K mg base N qual (defScope st) f cdv A outer s H E).nox (defBody st) t ∧ ∀ p n ds Φ, Pc n ds Φ → GS K (some p) t (startG N ds) n (fun _ n' => Φ .non n') Φ (fun _ _ => False) (fun _ _ => False)) :
    FnOk P w K mg base CX0 (k + 1) f fd ps (spB K Pc) := by
  refine F.ok S (fun vs H Q E h => ?_) (fun cdv A outer s H vs Q E hr h => ?_)
  · obtain ⟨G, p, n, rest, ds, Φ, rfl, _, _, _, hv, hp, _⟩ := h
    rw [List.length_cons, hv.len, hl n ds Φ hp]
  · obtain ⟨G, p, n, rest, ds, Φ, rfl, hs, gp, bg, hv, hp, q⟩ := h
    obtain ⟨t, h1, h2⟩ := hb cdv A outer s H E hr
    exact ⟨t, h1, h2 p n ds Φ hp G H G H _ _ (En.startB hs gp bg hv) (fun σ' δ' G' H' n' hd e _ => q .non .non G' H' n' hd e.out .non) (fun v d G' H' n' hd eo hv => q v d G' H' n' hd eo hv) (fun _ _ _ _ _ z => z.elim) (fun _ _ _ _ _ z => z.elim)⟩
theorem En.startS {H : Hp} {a : Addr} {ns : List Int} {N : List Str} (h : SqL K H a (ns.map V.int)) : ∃ G, En K none (MOf none H) 0 G H G H (L2.start N [.ref a]) (.scr ns :: List.replicate (N.length - 1) .un) := by
  refine ⟨fun b => if b = a then H b else none, Sub.refl _, fun b o e => ?_, fun b o e _ => e, fun b hb => .inl hb, fun b _ g => g, fun p z => (nomatch z), ?_, fun i s hs => ?_, fun i j p xs ys hi hj si sj => ?_⟩
  · by_cases z : b = a
    · simpa [z] using e
    · simp [z] at e
  · unfold L2.start
    simp
  · cases i with
    | zero =>
      cases hs
      refine ⟨a, rfl, ?_⟩
      rcases h with (h | ⟨o, h⟩) | h
      · exact .inl (.inl (by simp [h]))
      · exact .inl (.inr ⟨o, by simp [h]⟩)
      · exact .inr h
    | succ i =>
      have : s = .un := (List.mem_replicate.mp (List.mem_of_getElem? (show (List.replicate (N.length - 1) Slot.un)[i]? = some s from hs))).2
      rw [this]
      trivial
  · cases i with
    | zero => cases hi
    | succ i =>
      have := (List.mem_replicate.mp (List.mem_of_getElem? (show (List.replicate (N.length - 1) Slot.un)[i]? = some _ from hi))).2
      cases this
theorem fn_L {x qual : Str} {st : Stmt} {f : Addr} {fd : FuncData} {N ps : List Str} {k : Nat} (F : Fun K x qual st f fd) (S : FnScope N ps (defScope st)) (hl : ps.length = 1)
    (hb : ∀ (cdv : Value) (A : Around) (outer : List Env) (s : Shared) (H : Hp) (E : XK), Room k (A.deeper (PyProof.Rows.envOfC qual (defScope st) s.heap.objs.size f cdv)) →
      ∃ t, PSs (cxOf CX0 P w K mg base N qual (defScope st) f cdv A outer s H E).nox (defBody st) t ∧ ∀ ns : List Int, ns.length ≤ 63 → GS K none t (.scr ns :: List.replicate (N.length - 1) .un) 0 (fun _ _ => False) (fun d _ => d = .bl true) (fun _ _ => False) (fun _ _ => False)) :
    FnOk P w K mg base CX0 (k + 1) f fd ps (spL K) := by
  refine F.ok S (fun vs H Q E h => ?_) (fun cdv A outer s H vs Q E hr h => ?_)
  · obtain ⟨a, ns, rfl, _⟩ := h
    rw [hl]
    rfl
  · obtain ⟨a, ns, rfl, hS, hn, q⟩ := h
    obtain ⟨t, h1, h2⟩ := hb cdv A outer s H E hr
    obtain ⟨G, e0⟩ := En.startS (N := N) hS
    refine ⟨t, h1, h2 ns hn G H G H _ _ e0 (fun _ _ _ _ _ z => z.elim) (fun v d G' H' n' hd eo hv => ?_) (fun _ _ _ _ _ z => z.elim) (fun _ _ _ _ _ z => z.elim)⟩
    subst hd
    cases hv
    exact q H'
end
/-! ### the law's bag -/
def unbag (δ : List Slot) : List Slot := δ.map fun s => match s with | .bag => .un | s => s
section
variable {K : PySem.W.Frag} {B : Option Addr} {δ : List Slot} {n : Nat} {Φ : D → Nat → Prop} {te ta tb : TE} {aa : TA} {N Bk Ct : List Slot → Nat → Prop} {R : D → Nat → Prop} {ts : TS}
theorem mof_eq {p : Addr} {H0 : Hp} (h : H0 p = none) : MOf (some p) H0 = MOf none H0 := by
  funext b
  apply propext
  constructor
  · rintro (z | z)
    · exact .inl z
    · cases z
      exact .inl h
  · rintro (z | z)
    · exact .inl z
    · cases z
theorem En.unbag {p : Addr} {G0 H0 G H : Hp} {σ : L2.St} (h0 : H0 p = none) (E : En K (some p) (MOf (some p) H0) n G0 H0 G H σ δ) : En K none (MOf none H0) 0 G0 H0 G H σ (Tl.unbag δ) := by
  rw [mof_eq h0] at E
  have key : ∀ (i : Nat) (xs : List D), (Tl.unbag δ)[i]? = some (.own xs) → δ[i]? = some (.own xs) := fun i xs hi => by
    unfold Tl.unbag at hi
    rw [List.getElem?_map] at hi
    obtain ⟨t, h1, h2⟩ := Option.map_eq_some_iff.mp hi
    cases t <;> first | (cases h2; exact h1) | (cases h2)
  refine ⟨E.sub0, E.sub, E.same, E.free, E.fresh, fun q z => (nomatch z), by rw [E.len]; unfold Tl.unbag; rw [List.length_map], fun i s hs => ?_, fun i j q xs ys hi hj si sj => E.dis i j q xs ys (key i xs hi) (key j ys hj) si sj⟩
  unfold Tl.unbag at hs
  rw [List.getElem?_map] at hs
  obtain ⟨t, h1, h2⟩ := Option.map_eq_some_iff.mp hs
  have h := E.slot i t h1
  cases t with
  | un => cases h2; trivial
  | d x => cases h2; exact h
  | own xs =>
    cases h2
    obtain ⟨q, vs, e, hp, a, gp, mp, np⟩ := h
    exact ⟨q, vs, e, hp, a, gp, mp, fun z => nomatch z⟩
  | raw v => cases h2; exact h
  | bag => cases h2; trivial
  | scr ns => cases h2; exact h
/-- x = a call that gives a new bag, and what follows; spb: the promise of that call -/
theorem gs_newbag {spb : Sp} {X : XK} {i j : Nat} {ns : List Int} (hspb : ∀ (a : Addr) (i : Int) (H : Hp) (Q : VK) (E : XK), SqL K H a (ns.map V.int) → 0 ≤ i → i ≤ 63 → (∀ (p : Addr) (H' : Hp), H p = none → Bag H' p 0 → Same H H' → Q (.ref p) H') → spb [.ref a, .int i] H Q E)
    (hi : δ[i]? = some (.scr ns)) (hj : ∀ xs, δ[j]? ≠ some (.own xs)) (h : GK K te δ n fun d _ => ∃ k : Int, d = .int k ∧ 0 ≤ k ∧ k ≤ 63 ∧ ∀ p, GS K (some p) ts (δ.set j .bag) 0 (fun δ' _ => N (unbag δ') 0) (fun d _ => R d 0) (fun δ' _ => Bk (unbag δ') 0) (fun δ' _ => Ct (unbag δ') 0)) :
    GS K none (tSeq (tAsg (tCall spb [] X (tCons (tVar i) (tCons te tNil))) (gName j)) ts) δ n N R Bk Ct := fun G0 H0 G H σ E e hn hr hb hc => by
  obtain ⟨a, e1, e2⟩ := e.slot i _ hi
  refine ⟨_, look_some e1, ?_⟩
  refine h none (MOf none H0) G0 H0 G H σ e _ fun v d G1 H1 n1 f1 E1 s1 a1 => ?_
  obtain ⟨k, rfl, k0, k1, f1⟩ := f1
  cases a1
  refine hspb a k H1 _ _ (E1.sub.seqL (s1.seqL e2)) k0 k1 fun p H2 hp bg sm => ?_
  have h0p : H0 p = none := (E1.free p hp).elim id fun z => nomatch z
  have gp : G1 p = none := E1.sub.none hp
  have E2 : En K none (MOf none H0) n1 G0 H0 G1 H2 σ δ := E1.grow (Sub.refl G1) (fun b o e => sm b o (E1.sub b o e)) (fun b o e _ => sm b o e) (fun b _ g => g) (fun q z => nomatch z)
  have E3 : En K (some p) (MOf (some p) H0) 0 G0 H0 G1 H2 (σ.set j (some (.ref p))) (δ.set j .bag) := by
    have hno : ∀ (m : Nat) (xs : List D), (δ.set j .bag)[m]? = some (.own xs) → m ≠ j ∧ δ[m]? = some (.own xs) := fun m xs hm => by
      by_cases z : j = m
      · subst z
        by_cases hl : j < δ.length
        · rw [List.getElem?_set_self hl] at hm
          cases hm
        · rw [List.getElem?_eq_none (by rw [List.length_set]; omega)] at hm
          cases hm
      · rw [List.getElem?_set_ne z] at hm
        exact ⟨fun y => z y.symm, hm⟩
    rw [mof_eq h0p]
    refine ⟨E2.sub0, E2.sub, E2.same, E2.free, E2.fresh, fun q z => ?_, by rw [List.length_set, List.length_set, E2.len], fun m t ht => ?_, fun m l q xs ys hm hl sm sl => ?_⟩
    · cases z
      exact ⟨bg, gp, .inl h0p⟩
    · by_cases z : j = m
      · subst z
        have hl : j < δ.length := by
          have := (List.getElem?_eq_some_iff.mp ht).1
          rw [List.length_set] at this
          exact this
        rw [List.getElem?_set_self hl] at ht
        rw [List.getElem?_set_self (by rw [E2.len]; exact hl)]
        cases ht
        exact ⟨p, rfl, rfl⟩
      · rw [List.getElem?_set_ne z] at ht
        rw [List.getElem?_set_ne z]
        have h := E2.slot m t ht
        cases t with
        | un => trivial
        | d x => exact h
        | own xs =>
          obtain ⟨q, vs, e, hq, a, gq, mq, nq⟩ := h
          have e2' := E1.slot m _ ht
          obtain ⟨q', vs', e', hq', _⟩ := e2'
          rw [e] at e'
          cases e'
          exact ⟨q, vs, e, hq, a, gq, mq, fun z => by cases z; rw [hp] at hq'; cases hq'⟩
        | raw v => exact h
        | bag =>
          obtain ⟨q, _, z⟩ := h
          cases z
        | scr ns => exact h
    · obtain ⟨n1, d1⟩ := hno m xs hm
      obtain ⟨n2, d2⟩ := hno l ys hl
      rw [List.getElem?_set_ne n1.symm] at sm
      rw [List.getElem?_set_ne n2.symm] at sl
      exact E2.dis m l q xs ys d1 d2 sm sl
  show ts E (σ.set j (some (.ref p))) H2
  exact f1 p G0 H0 G1 H2 _ E E3 (fun σ2 δ2 G2 H3 n2 x y z => hn σ2 _ G2 H3 0 x (y.unbag h0p) (s1.trans z)) (fun v d G' H' n' x eo iv => hr v d G' H' 0 x ⟨eo.sub0, eo.sub, fun b o hb _ => eo.same b o hb (fun z => by cases z; rw [h0p] at hb; cases hb), fun b hb _ g0 => eo.fresh b hb (fun z => by cases z; exact hb h0p) g0, fun _ z => nomatch z⟩ iv)
    (fun σ2 δ2 G2 H3 n2 x y z => hb σ2 _ G2 H3 0 x (y.unbag h0p) (s1.trans z)) (fun σ2 δ2 G2 H3 n2 x y z => hc σ2 _ G2 H3 0 x (y.unbag h0p) (s1.trans z))
/-- len(script) -/
theorem gk_scrLen {i : Nat} {ns : List Int} (hi : δ[i]? = some (.scr ns)) (k : Φ (.int ns.length) n) : GK K (tCB (fun xs H Q => ∃ p ys, xs = [.ref p] ∧ (SqL K H p ys ∨ SqT K H p ys) ∧ Q (.int ys.length) H) (tCons (tVar i) tNil)) δ n Φ := fun B M G0 H0 G H σ E Q q => by
  obtain ⟨a, e1, e2⟩ := E.slot i _ hi
  exact ⟨_, look_some e1, a, ns.map V.int, rfl, .inl (E.sub.seqL e2), by rw [List.length_map]; exact q _ _ G H n k E (Sub.refl G) (.int _)⟩
/-! ### more rules -/
theorem rk_add {i j : Int} (k : Φ (.int (i + j)) n) : RK K (rI0 fun i j => .int (i + j)) (.int i) (.int j) δ n Φ := rk_I0 rfl k
theorem rk_sub {i j : Int} (k : Φ (.int (i - j)) n) : RK K (rI0 fun i j => .int (i - j)) (.int i) (.int j) δ n Φ := rk_I0 rfl k
theorem rk_lt {i j : Int} (k : Φ (.bl (decide (i < j))) n) : RK K (rI0 fun i j => .bl (decide (i < j))) (.int i) (.int j) δ n Φ := rk_I0 rfl k
theorem rk_le {i j : Int} (k : Φ (.bl (decide (i ≤ j))) n) : RK K (rI0 fun i j => .bl (decide (i ≤ j))) (.int i) (.int j) δ n Φ := rk_I0 rfl k
theorem rk_gt {i j : Int} (k : Φ (.bl (decide (j < i))) n) : RK K (rI0 fun i j => .bl (decide (j < i))) (.int i) (.int j) δ n Φ := rk_I0 rfl k
theorem rk_ge {i j : Int} (k : Φ (.bl (decide (j ≤ i))) n) : RK K (rI0 fun i j => .bl (decide (j ≤ i))) (.int i) (.int j) δ n Φ := rk_I0 rfl k
theorem rk_mul {i j : Int} (h : CMul i j) (k : Φ (.int (i * j)) n) : RK K (rI CMul fun i j => .int (i * j)) (.int i) (.int j) δ n Φ := rk_I rfl h k
theorem rk_fdiv {i j : Int} (h : CDiv i j) (k : Φ (.int (i / j)) n) : RK K (rI CDiv fun i j => .int (i / j)) (.int i) (.int j) δ n Φ := rk_I rfl h k
theorem rk_mod {i j : Int} (h : 0 < j) (k : Φ (.int (i % j)) n) : RK K (rI (fun _ j => 0 < j) fun i j => .int (i % j)) (.int i) (.int j) δ n Φ := rk_I rfl h k
theorem rk_eqI {i j : Int} (k : Φ (.bl (decide (i = j))) n) : RK K rEq (.int i) (.int j) δ n Φ := rk_eq rfl rfl rfl (by simpa using k)
theorem rk_neI {i j : Int} (k : Φ (.bl (!decide (i = j))) n) : RK K rNe (.int i) (.int j) δ n Φ := rk_ne rfl rfl rfl (by simpa using k)
theorem rk_eqS {i j : Str} (k : Φ (.bl (decide (i = j))) n) : RK K rEq (.str i) (.str j) δ n Φ := rk_eq rfl rfl rfl (by simpa using k)
theorem rk_neS {i j : Str} (k : Φ (.bl (!decide (i = j))) n) : RK K rNe (.str i) (.str j) δ n Φ := rk_ne rfl rfl rfl (by simpa using k)
theorem rk_eqB {i j : Bool} (k : Φ (.bl (decide (i = j))) n) : RK K rEq (.bl i) (.bl j) δ n Φ := rk_eq rfl rfl rfl (by simpa using k)
theorem rk_neB {i j : Bool} (k : Φ (.bl (!decide (i = j))) n) : RK K rNe (.bl i) (.bl j) δ n Φ := rk_ne rfl rfl rfl (by simpa using k)
theorem ru_neg {i : Int} (k : Φ (.int (-i)) n) : RU K (rU fun i => .int (-i)) (.int i) δ n Φ := ru_U rfl k
/-- a < b < c -/
theorem gk_chain {tc : TE} {r r' : R2} (h : GK K ta δ n fun x n1 => GK K tb δ n1 fun y n2 => RK K r x y δ n2 fun z n3 => ∃ k, z = .bl k ∧ (k = true → GK K tc δ n3 fun u n4 => RK K r' y u δ n4 Φ) ∧ (k = false → Φ (.bl false) n3)) : GK K (tChain r r' ta tb tc) δ n Φ := fun B M G0 H0 G H σ E Q q =>
  h B M G0 H0 G H σ E _ fun v x G1 H1 n1 f1 E1 s1 a1 => f1 B M G0 H0 G1 H1 σ E1 _ fun w y G2 H2 n2 f2 E2 s2 a2 => f2 B M G0 H0 G2 H2 σ E2 v w (a1.mono s2) a2 _ fun u d G3 H3 n3 f3 E3 s3 a3 => by
    obtain ⟨k, rfl, h1, h2⟩ := f3
    cases a3
    refine ⟨k, rfl, ?_⟩
    cases k with
    | true =>
      rw [if_pos rfl]
      exact h1 rfl B M G0 H0 G3 H3 σ E3 _ fun u' d' G4 H4 n4 f4 E4 s4 a4 => f4 B M G0 H0 G4 H4 σ E4 w u' ((a2.mono s3).mono s4) a4 Q fun u5 d5 G5 H5 n5 f5 E5 s5 a5 => q u5 d5 G5 H5 n5 f5 E5 ((((s1.trans s2).trans s3).trans s4).trans s5) a5
    | false =>
      rw [if_neg Bool.false_ne_true]
      exact q _ _ G3 H3 n3 (h2 rfl) E3 ((s1.trans s2).trans s3) (.bl _)
theorem gs_par3 {i j l : Nat} (h : GA K aa δ n fun ds n' => ∃ x y z, ds = [x, y, z] ∧ N (((δ.set i (.d x)).set j (.d y)).set l (.d z)) n') : GS K B (tPar3 i j l aa) δ n N R Bk Ct := fun G0 H0 G H σ E e hn hr hb hc =>
  h B (MOf B H0) G0 H0 G H σ e _ fun vs ds G1 H1 n1 f1 E1 s1 a1 => by
    obtain ⟨x, y, z, rfl, f1⟩ := f1
    cases a1 with
    | cons ha r =>
      cases r with
      | cons hb' r =>
        cases r with
        | cons hc' r =>
          cases r
          exact ⟨_, _, _, rfl, hn _ _ G1 H1 n1 f1 (((E1.set (s := .d x) ⟨_, rfl, ha⟩ fun _ z => nomatch z).set (s := .d y) ⟨_, rfl, hb'⟩ fun _ z => nomatch z).set (s := .d z) ⟨_, rfl, hc'⟩ fun _ z => nomatch z) s1⟩
/-- a, b = e -/
theorem gs_unp {g : TG} {vs : List Nat} (h : GK K te δ n fun d n' => ∃ δ', GG K g d δ δ' vs ∧ N δ' n') : GS K B (tAsg te g) δ n N R Bk Ct := fun G0 H0 G H σ E e hn hr hb hc =>
  h B (MOf B H0) G0 H0 G H σ e _ fun v d G1 H1 n1 f1 E1 s1 a1 => by
    obtain ⟨δ', g1, f1⟩ := f1
    exact g1 B _ n1 G0 H0 G1 H1 σ E1 v a1 _ fun σ' E2 _ => hn σ' δ' G1 H1 n1 f1 E2 s1
/-- tuple(x) -/
theorem rc_tupL {xs : List D} (k : Φ (.tup xs) n) : RC K (fun xs H Q => ∃ p ys, xs = [.ref p] ∧ ((SqL K H p ys ∧ ∀ l, H l = none → Q (.ref l) (upd H l (.tup ys))) ∨ (SqT K H p ys ∧ Q (.ref p) H))) [.lst xs] δ n Φ := fun B M G0 H0 G H σ E vs a Q q => by
  cases a with
  | cons a r =>
    cases r
    cases a with
    | lst h1 a1 =>
      refine ⟨_, _, rfl, .inl ⟨SqL.of (E.sub _ _ h1), fun p hp => ?_⟩⟩
      have s2 : ∀ o, Sub G (upd G p o) := fun o => Sub.new (E.sub.none hp)
      exact q _ _ _ _ n k (E.laid hp) (s2 _) (.tup (SqT.of upd_same) (a1.mono (s2 _)))
theorem rc_tupT {xs : List D} (k : Φ (.tup xs) n) : RC K (fun xs H Q => ∃ p ys, xs = [.ref p] ∧ ((SqL K H p ys ∧ ∀ l, H l = none → Q (.ref l) (upd H l (.tup ys))) ∨ (SqT K H p ys ∧ Q (.ref p) H))) [.tup xs] δ n Φ := fun B M G0 H0 G H σ E vs a Q q => by
  cases a with
  | cons a r =>
    cases r
    cases a with
    | tup h1 a1 => exact ⟨_, _, rfl, .inr ⟨E.sub.seq h1, q _ _ G H n k E (Sub.refl G) (.tup h1 a1)⟩⟩
theorem rc_listT {xs : List D} (k : Φ (.lst xs) n) : RC K (fun ws H Q => ∃ p ys, ws = [.ref p] ∧ (SqL K H p ys ∨ SqT K H p ys) ∧ ∀ l, H l = none → Q (.ref l) (upd H l (.lst ys))) [.tup xs] δ n Φ := fun B M G0 H0 G H σ E vs a Q q => by
  cases a with
  | cons a r =>
    cases r
    cases a with
    | tup h1 a1 =>
      refine ⟨_, _, rfl, .inr (E.sub.seq h1), fun p hp => ?_⟩
      have s2 : ∀ o, Sub G (upd G p o) := fun o => Sub.new (E.sub.none hp)
      exact q _ _ _ _ n k (E.laid hp) (s2 _) (.lst upd_same (a1.mono (s2 _)))
/-- tuples: + and slices -/
theorem rk_catT {xs ys : List D} (h : xs.length + ys.length ≤ 100000) (k : Φ (.tup (xs ++ ys)) n) : RK K (rCatA K) (.tup xs) (.tup ys) δ n Φ := fun B M G0 H0 G H σ E v w a b Q q => by
  cases a with
  | @tup p vs _ h1 a1 =>
    cases b with
    | @tup p2 ws _ h2 a2 =>
      refine ⟨_, _, _, _, rfl, rfl, E.sub.seq h1, E.sub.seq h2, by rw [a1.len, a2.len]; exact sz_ h, fun e => ?_, fun _ e => ?_, fun _ _ p hp => ?_⟩
      · subst e
        cases a1
        exact q _ _ G H n k E (Sub.refl G) (.tup h2 a2)
      · subst e
        cases a2
        rw [List.append_nil] at k
        exact q _ _ G H n k E (Sub.refl G) (.tup h1 a1)
      · have s2 : ∀ o, Sub G (upd G p o) := fun o => Sub.new (E.sub.none hp)
        exact q _ _ _ _ n k (E.laid hp) (s2 _) (.tup (SqT.of upd_same) ((a1.app a2).mono (s2 _)))
theorem cut_whole {xs : List D} {lo hi : Option Int} (h : HT.sIx xs.length 0 lo = 0 ∧ HT.sIx xs.length xs.length hi = xs.length) : cutD xs lo hi = xs := by
  unfold cutD
  rw [h.1, h.2, Nat.sub_zero, List.drop_zero, List.take_length]
theorem rs_tup {xs : List D} {lo hi : Option Int} (k : Φ (.tup (cutD xs lo hi)) n) : RS K (rSlA K) (.tup xs) lo hi δ n Φ := fun B M G0 H0 G H σ E v a Q q => by
  cases a with
  | @tup p vs _ h1 a1 =>
    refine ⟨_, _, rfl, E.sub.seq h1, fun e => ?_, fun _ p hp => ?_⟩
    · rw [a1.len] at e
      rw [cut_whole e] at k
      exact q _ _ G H n k E (Sub.refl G) (.tup h1 a1)
    · have s2 : ∀ o, Sub G (upd G p o) := fun o => Sub.new (E.sub.none hp)
      exact q _ _ _ _ n k (E.laid hp) (s2 _) (.tup (SqT.of upd_same) ((a1.cut lo hi).mono (s2 _)))
/-! ### == of data -/
mutual
def toP : D → PyData
  | .non => .none
  | .bl b => .bool b
  | .int i => .int i
  | .str x => .str x
  | .lst xs => .list (toPs xs)
  | .tup xs => .tuple (toPs xs)
  | .dic _ => .none
def toPs : List D → List PyData
  | [] => []
  | x :: xs => toP x :: toPs xs
end
/-- no dict within, texts well, k deep at most -/
inductive Shp : Nat → D → Prop where
  | non {k : Nat} : Shp k .non
  | bl {k : Nat} (b : Bool) : Shp k (.bl b)
  | int {k : Nat} (i : Int) : Shp k (.int i)
  | str {k : Nat} {x : Str} (h : ∀ c ∈ tl x, c < 1114112) : Shp k (.str x)
  | lst {k : Nat} {xs : List D} (h : ∀ x ∈ xs, Shp k x) : Shp (k + 1) (.lst xs)
  | tup {k : Nat} {xs : List D} (h : ∀ x ∈ xs, Shp k x) : Shp (k + 1) (.tup xs)
mutual
theorem Is.dp {G H : Hp} (s : Sub G H) : ∀ {v : V} {d : D} {k : Nat}, Is K G v d → Shp k d → Dp K H v (toP d)
  | _, _, _, .non, _ => by unfold toP; exact .non
  | _, _, _, .bl b, _ => by unfold toP; exact .bl b
  | _, _, _, .int i, _ => by unfold toP; exact .int i
  | _, _, _, .str x, _ => by unfold toP; exact .str x
  | _, _, _, .lst h a, hs => by
    unfold toP
    cases hs with
    | lst hs => exact .lst (SqL.of (s _ _ h)) (IsAll.dp s a hs)
  | _, _, _, .tup h a, hs => by
    unfold toP
    cases hs with
    | tup hs => exact .tup (s.seq h) (IsAll.dp s a hs)
  | _, _, _, .dic _ _, hs => by cases hs
theorem IsAll.dp {G H : Hp} (s : Sub G H) : ∀ {vs : List V} {ds : List D} {k : Nat}, IsAll K G vs ds → (∀ x ∈ ds, Shp k x) → DpAll K H vs (toPs ds)
  | _, _, _, .nil, _ => by unfold toPs; exact .nil
  | _, _, _, .cons h r, hs => by
    unfold toPs
    exact .cons (Is.dp s h (hs _ List.mem_cons_self)) (IsAll.dp s r fun x hx => hs x (List.mem_cons_of_mem _ hx))
end
theorem toPs_lay {xs : List D} : (∀ x ∈ xs, (toP x).canLay0 = true) → PyData.canLayAll0 (toPs xs) = true := by
  induction xs with
  | nil => intro _; unfold toPs PyData.canLayAll0; rfl
  | cons x xs ih =>
    intro h
    unfold toPs PyData.canLayAll0
    rw [h x List.mem_cons_self, ih fun y hy => h y (List.mem_cons_of_mem _ hy)]
    rfl
theorem toPs_depth {xs : List D} {k : Nat} : (∀ x ∈ xs, (toP x).depth ≤ k) → PyData.depthAll (toPs xs) ≤ k := by
  induction xs with
  | nil => intro _; unfold toPs PyData.depthAll; exact Nat.zero_le _
  | cons x xs ih =>
    intro h
    unfold toPs PyData.depthAll
    exact Nat.max_le.mpr ⟨h x List.mem_cons_self, ih fun y hy => h y (List.mem_cons_of_mem _ hy)⟩
theorem Shp.ok {k : Nat} {d : D} (h : Shp k d) : (toP d).canLay0 = true ∧ (toP d).depth ≤ k := by
  induction h with
  | non => unfold toP; simp [PyData.canLay0, PyData.depth]
  | bl => unfold toP; simp [PyData.canLay0, PyData.depth]
  | int => unfold toP; simp [PyData.canLay0, PyData.depth]
  | @str k x h =>
    unfold toP
    simp only [PyData.canLay0, PyData.depth, Nat.zero_le, and_true]
    unfold PyData.strOk
    rw [Array.all_eq_true']
    intro c hc
    exact decide_eq_true (h c (Array.mem_toList_iff.mpr hc))
  | lst h ih =>
    unfold toP
    simp only [PyData.canLay0, PyData.depth]
    exact ⟨toPs_lay fun x hx => (ih x hx).1, Nat.succ_le_succ (toPs_depth fun x hx => (ih x hx).2)⟩
  | tup h ih =>
    unfold toP
    simp only [PyData.canLay0, PyData.depth]
    exact ⟨toPs_lay fun x hx => (ih x hx).1, Nat.succ_le_succ (toPs_depth fun x hx => (ih x hx).2)⟩
theorem Shp.shaped {k : Nat} {d : D} (h : Shp k d) (hk : k ≤ 64) : SeqAt.shaped (toP d) = true := by
  unfold SeqAt.shaped
  rw [h.ok.1, decide_eq_true (Nat.le_trans h.ok.2 hk)]
  rfl
def eqD (x y : D) : Bool := PyData.eqv (toP x) (toP y)
theorem eqD_self {k : Nat} {x : D} (h : Shp k x) : eqD x x = true := PySem.SeqAt.eqv_refl _ h.ok.1
theorem rk_eqD {j k : Nat} {x y : D} (hx : Shp j x) (hy : Shp k y) (hj : j ≤ 64) (hk : k ≤ 64) (q : Φ (.bl (eqD x y)) n) : RK K (rEqD K) x y δ n Φ := fun B M G0 H0 G H σ E v w a b Q qq =>
  ⟨_, _, a.dp E.sub hx, b.dp E.sub hy, hx.shaped hj, hy.shaped hk, qq _ _ G H n q E (Sub.refl G) (.bl _)⟩
theorem rk_neD {j k : Nat} {x y : D} (hx : Shp j x) (hy : Shp k y) (hj : j ≤ 64) (hk : k ≤ 64) (q : Φ (.bl (!eqD x y)) n) : RK K (rNeD K) x y δ n Φ := fun B M G0 H0 G H σ E v w a b Q qq =>
  ⟨_, _, a.dp E.sub hx, b.dp E.sub hy, hx.shaped hj, hy.shaped hk, qq _ _ G H n q E (Sub.refl G) (.bl _)⟩
/-- of the same -/
theorem rk_neSame {k : Nat} {x y : D} (e : x = y) (hx : Shp k x) (hk : k ≤ 64) (q : Φ (.bl false) n) : RK K (rNeD K) x y δ n Φ := by
  subst e
  exact rk_neD hx hx hk hk (by rw [eqD_self hx]; exact q)
theorem rk_eqSame {k : Nat} {x y : D} (e : x = y) (hx : Shp k x) (hk : k ≤ 64) (q : Φ (.bl true) n) : RK K (rEqD K) x y δ n Φ := by
  subst e
  exact rk_eqD hx hx hk hk (by rw [eqD_self hx]; exact q)
theorem shp_ints {k : Nat} {ns : List Int} : ∀ x ∈ ns.map D.int, Shp k x := fun x hx => by
  obtain ⟨i, _, rfl⟩ := List.mem_map.mp hx
  exact .int i
/-! ### isinstance -/
def tyn : D → String
  | .non => "NoneType" | .bl _ => "bool" | .int _ => "int" | .str _ => "str" | .lst _ => "list" | .tup _ => "tuple" | .dic _ => "dict"
theorem Is.ty {G H : Hp} {v : V} {d : D} (s : Sub G H) (a : Is K G v d) : TyX K H v (.type (tyn d)) := by
  cases a with
  | non => exact .base .non
  | bl b => exact .base (.bl b)
  | int i => exact .base (.int i)
  | str x => exact .base (.str x)
  | lst h _ => exact .base (.lst (s _ _ h))
  | tup h _ =>
    rcases s.seq h with (h | ⟨o, h⟩) | ⟨o, _, _, h, c, _⟩
    · exact .base (.tup h)
    · exact .fTuple h
    · exact .kTuple h c
  | dic h _ =>
    rcases s.rd h with h | ⟨o, h⟩
    · exact .base (.dK h)
    · exact .fDict h
/-- isinstance of a type's own, by name -/
def KitB (K : PySem.W.Frag) (t c : String) (b : Bool) : Prop := PySem.W.kitOne K (.type t) (.type c) = some b
theorem gk_isi {c : String} (h : GK K te δ n fun d n1 => ∃ b, KitB K (tyn d) c b ∧ Φ (.bl b) n1) : GK K (tCB (rIsi K) (tCons te (tCons (tC (.ty c)) tNil))) δ n Φ := fun B M G0 H0 G H σ E Q q =>
  h B M G0 H0 G H σ E _ fun v d G1 H1 n1 f1 E1 s1 a1 => by
    obtain ⟨b, hb, f1⟩ := f1
    exact ⟨v, .ty c, _, _, b, rfl, .ty c, a1.ty E1.sub, hb, q _ _ G1 H1 n1 f1 E1 s1 (.bl b)⟩
theorem kitOne_self {t : Value} : PySem.W.kitOne K t t = some true := by
  unfold PySem.W.kitOne
  rw [if_pos (beq_self_eq_true t)]
/-- a call whose last arguments are defaults -/
theorem gk_callD {sp : Sp} {E : XK} {ds : List V} {es : List D} (hd : ∀ G, IsAll K G ds es) (h : GA K aa δ n fun xs n1 => SC K sp (xs ++ es) δ n1 Φ) : GK K (tCall sp ds E aa) δ n Φ := fun B M G0 H0 G H σ E Q q =>
  h B M G0 H0 G H σ E _ fun vs xs G1 H1 n1 f1 E1 s1 a1 => f1 B M G0 H0 G1 H1 σ E1 _ (a1.app (hd G1)) Q _ fun u d G3 H3 n3 f3 E3 s3 a3 => q u d G3 H3 n3 f3 E3 (s1.trans s3) a3
end
end Tl

namespace Tl
open PySem L2 TL
section
variable {K : PySem.W.Frag} {B : Option Addr} {δ : List Slot} {n : Nat} {Φ : D → Nat → Prop} {te ta tb : TE} {aa : TA} {tt : TT} {wi : TI} {g : TG} {vs : List Nat} {N Bk Ct : List Slot → Nat → Prop} {R : D → Nat → Prop} {ts : TS}
/-! ### short forms -/
theorem gk_i {i : Int} (k : Φ (.int i) n) : GK K (tC (.int i)) δ n Φ := gk_c rfl k
theorem gk_s {x : Str} (k : Φ (.str x) n) : GK K (tC (.str x)) δ n Φ := gk_c rfl k
theorem gk_b {b : Bool} (k : Φ (.bl b) n) : GK K (tC (.bl b)) δ n Φ := gk_c rfl k
theorem gk_n (k : Φ .non n) : GK K (tC .non) δ n Φ := gk_c rfl k
theorem OffD.wipe : OffD vs (wipeD δ vs) δ := fun _ hi => wipeD_at hi
theorem OffD.set {δ2 : List Slot} {j : Nat} {s : Slot} (h : OffD vs δ2 δ) (hj : j ∈ vs) : OffD vs (δ2.set j s) δ := fun i hi => by
  rw [List.getElem?_set_ne (fun z => hi (by rw [← z]; exact hj))]
  exact h i hi
/-- one name, each element by the same function -/
theorem gk_map1 {j : Nat} {f : D → D} (ho : ∀ xs, δ[j]? ≠ some (.own xs)) (h : GI K wi δ n fun xs n1 => xs.length ≤ 50000 ∧ (∀ x ∈ xs, GK K te ((wipeD δ [j]).set j (.d x)) n1 fun y n2 => y = f x ∧ n2 = n1) ∧ Φ (.lst (xs.map f)) n1) :
    GK K (tLc wi (gName j) tYes te [j]) δ n Φ := by
  refine gk_lc (fun i hi xs => ?_) fun B M G0 H0 G H σ E R r => h B M G0 H0 G H σ E R fun J xs G' H' n' q e s it => r J xs G' H' n' ⟨q.1, fun i acc m => acc = (xs.take i).map f ∧ m = n', ⟨rfl, rfl⟩, ?_, ?_⟩ e s it
  · cases List.mem_singleton.mp hi
    exact ho xs
  · rintro i x acc m hx ⟨rfl, rfl⟩ _
    refine ⟨_, gg_name (List.mem_singleton.mpr rfl), OffD.wipe.set (List.mem_singleton.mpr rfl), gt_yes ⟨fun _ => ?_, fun z => nomatch z⟩⟩
    refine fun B M G0 H0 G H σ E Q k => q.2.1 x (List.mem_of_getElem? hx) B M G0 H0 G H σ E Q fun v d G' H' n' z => k v d G' H' n' ?_
    obtain ⟨rfl, rfl⟩ := z
    refine ⟨?_, rfl⟩
    rw [take_snoc hx, List.map_append]
    rfl
  · rintro acc m ⟨rfl, rfl⟩ _
    rw [List.take_length]
    exact q.2.2
/-- one name, each element drawn -/
theorem gk_draw1 {j : Nat} {Pd : D → Prop} (c : Nat) (ho : ∀ xs, δ[j]? ≠ some (.own xs)) (h : GI K wi δ n fun xs n1 => xs.length ≤ 50000 ∧ (∀ i x m, xs[i]? = some x → m ≤ n1 + c * i → GK K te ((wipeD δ [j]).set j (.d x)) m fun y m2 => Pd y ∧ m2 ≤ n1 + c * (i + 1)) ∧
      ∀ ys m, ys.length = xs.length → (∀ y ∈ ys, Pd y) → m ≤ n1 + c * xs.length → Φ (.lst ys) m) :
    GK K (tLc wi (gName j) tYes te [j]) δ n Φ := by
  refine gk_lc (fun i hi xs => ?_) fun B M G0 H0 G H σ E R r => h B M G0 H0 G H σ E R fun J xs G' H' n' q e s it => r J xs G' H' n' ⟨q.1, fun i acc m => acc.length = i ∧ (∀ y ∈ acc, Pd y) ∧ m ≤ n' + c * i, ⟨rfl, fun _ z => (nomatch z), Nat.le_refl _⟩, ?_, ?_⟩ e s it
  · cases List.mem_singleton.mp hi
    exact ho xs
  · rintro i x acc m hx ⟨hl, hp, hm⟩ _
    refine ⟨_, gg_name (List.mem_singleton.mpr rfl), OffD.wipe.set (List.mem_singleton.mpr rfl), gt_yes ⟨fun _ => ?_, fun z => nomatch z⟩⟩
    refine fun B M G0 H0 G H σ E Q k => q.2.1 i x m hx hm B M G0 H0 G H σ E Q fun v d G' H' n' z => k v d G' H' n' ⟨?_, fun y hy => ?_, z.2⟩
    · rw [List.length_append, hl]
      rfl
    · rcases List.mem_append.mp hy with hy | hy
      · exact hp y hy
      · rw [List.mem_singleton.mp hy]
        exact z.1
  · rintro acc m ⟨hl, hp, hm⟩ _
    exact q.2.2 acc m hl hp hm
/-- [e for x in xs if c] with one name: the test and the element by functions -/
theorem gk_filt1 {j : Nat} {f : D → D} {c : D → Bool} (ho : ∀ xs, δ[j]? ≠ some (.own xs)) (h : GI K wi δ n fun xs n1 => xs.length ≤ 50000 ∧ (∀ x ∈ xs, GT K tt ((wipeD δ [j]).set j (.d x)) n1 fun b n2 => b = c x ∧ n2 = n1 ∧ (b = true → GK K te ((wipeD δ [j]).set j (.d x)) n1 fun y n3 => y = f x ∧ n3 = n1)) ∧ Φ (.lst ((xs.filter c).map f)) n1) :
    GK K (tLc wi (gName j) tt te [j]) δ n Φ := by
  refine gk_lc (fun i hi xs => ?_) fun B M G0 H0 G H σ E R r => h B M G0 H0 G H σ E R fun J xs G' H' n' q e s it => r J xs G' H' n' ⟨q.1, fun i acc m => acc = ((xs.take i).filter c).map f ∧ m = n', ⟨rfl, rfl⟩, ?_, ?_⟩ e s it
  · cases List.mem_singleton.mp hi
    exact ho xs
  · rintro i x acc m hx ⟨rfl, rfl⟩ _
    refine ⟨_, gg_name (List.mem_singleton.mpr rfl), OffD.wipe.set (List.mem_singleton.mpr rfl), ?_⟩
    refine fun B M G0 H0 G H σ E Q k => q.2.1 x (List.mem_of_getElem? hx) B M G0 H0 G H σ E Q fun b G' H' n' z => k b G' H' n' ?_
    obtain ⟨rfl, rfl, z⟩ := z
    refine ⟨fun hb => ?_, fun hb => ?_⟩
    · refine fun B M G0 H0 G H σ E Q k => z hb B M G0 H0 G H σ E Q fun v d G' H' n' y => k v d G' H' n' ?_
      obtain ⟨rfl, rfl⟩ := y
      refine ⟨?_, rfl⟩
      rw [take_snoc hx, List.filter_append, List.map_append]
      simp [hb]
    · refine ⟨?_, rfl⟩
      rw [take_snoc hx, List.filter_append, List.map_append]
      simp [hb]
  · rintro acc m ⟨rfl, rfl⟩ _
    rw [List.take_length]
    exact q.2.2
end
/-! ### calls by keywords: where each parameter's value comes from -/
def kgP {α : Type} (plan : List (Nat × Nat)) (us ms ws : List α) : List α := plan.flatMap fun q => ((if q.1 = 0 then us else if q.1 = 1 then ms else ws)[q.2]?).toList
theorem opt_rel {vs : List V} {us : List Value} (r : Vals vs us) (i : Nat) : Vals (vs[i]?).toList (us[i]?).toList := by
  cases e : vs[i]? with
  | none =>
    have : us[i]? = none := by
      rw [List.getElem?_eq_none_iff] at e ⊢
      rw [← r.length]
      exact e
    rw [this]
    exact .nil
  | some x =>
    obtain ⟨u, h1, h2⟩ := r.get e
    rw [h1]
    exact .cons h2 .nil
theorem kgP_rel {plan : List (Nat × Nat)} {us ms ws : List V} {us' ms' ws' : List Value} (r1 : Vals us us') (r2 : Vals ms ms') (r3 : Vals ws ws') : Vals (kgP plan us ms ws) (kgP plan us' ms' ws') := by
  induction plan with
  | nil => exact .nil
  | cons q plan ih =>
    unfold kgP at ih ⊢
    rw [List.flatMap_cons, List.flatMap_cons]
    refine Vals.append ?_ ih
    by_cases h0 : q.1 = 0
    · rw [if_pos h0, if_pos h0]
      exact opt_rel r1 _
    · by_cases h1 : q.1 = 1
      · rw [if_neg h0, if_pos h1, if_neg h0, if_pos h1]
        exact opt_rel r2 _
      · rw [if_neg h0, if_neg h1, if_neg h0, if_neg h1]
        exact opt_rel r3 _
theorem opt_is {K : PySem.W.Frag} {G : Hp} {vs : List V} {ds : List D} (r : IsAll K G vs ds) (i : Nat) : IsAll K G (vs[i]?).toList (ds[i]?).toList := by
  cases e : vs[i]? with
  | none =>
    have : ds[i]? = none := by
      rw [List.getElem?_eq_none_iff] at e ⊢
      rw [← r.len]
      exact e
    rw [this]
    exact .nil
  | some x =>
    obtain ⟨u, h1, h2⟩ := r.get e
    rw [h1]
    exact .cons h2 .nil
theorem kgP_is {K : PySem.W.Frag} {G : Hp} {plan : List (Nat × Nat)} {us ms ws : List V} {us' ms' ws' : List D} (r1 : IsAll K G us us') (r2 : IsAll K G ms ms') (r3 : IsAll K G ws ws') : IsAll K G (kgP plan us ms ws) (kgP plan us' ms' ws') := by
  induction plan with
  | nil => exact .nil
  | cons q plan ih =>
    unfold kgP at ih ⊢
    rw [List.flatMap_cons, List.flatMap_cons]
    refine IsAll.app ?_ ih
    by_cases h0 : q.1 = 0
    · rw [if_pos h0, if_pos h0]
      exact opt_is r1 _
    · by_cases h1 : q.1 = 1
      · rw [if_neg h0, if_pos h1, if_neg h0, if_pos h1]
        exact opt_is r2 _
      · rw [if_neg h0, if_neg h1, if_neg h0, if_neg h1]
        exact opt_is r3 _
def sclAll (vs : List V) : Bool := vs.all scl
theorem IsAll.scl {K : PySem.W.Frag} {G : Hp} : ∀ {vs : List V}, sclAll vs = true → IsAll K G vs (vs.map ofV)
  | [], _ => .nil
  | v :: vs, h => by
    unfold sclAll at h
    rw [List.all_cons, Bool.and_eq_true] at h
    exact .cons (Is.scl h.1) (IsAll.scl h.2)
theorem gk_kw {K : PySem.W.Frag} {δ : List Slot} {n : Nat} {Φ : D → Nat → Prop} {aa ab : TA} {sp : Sp} {E : XK} {k m : Nat} {plan : List (Nat × Nat)} {ms : List V} (hm : sclAll ms = true)
    (h : GA K aa δ n fun xs n1 => GA K ab δ n1 fun ys n2 => xs.length = k ∧ ys.length = m ∧ SC K sp (kgP plan xs (ms.map ofV) ys) δ n2 Φ) : GK K (tCallN k m sp (fun vs zs => kgP plan vs ms zs) E aa ab) δ n Φ :=
  gk_callN (gD := fun xs ys => kgP plan xs (ms.map ofV) ys) (fun a b => kgP_is a (IsAll.scl hm) b) h
theorem gk_dfl {K : PySem.W.Frag} {δ : List Slot} {n : Nat} {Φ : D → Nat → Prop} {aa : TA} {sp : Sp} {E : XK} {ms : List V} (hm : sclAll ms = true) (h : GA K aa δ n fun xs n1 => SC K sp (xs ++ ms.map ofV) δ n1 Φ) : GK K (tCall sp ms E aa) δ n Φ :=
  gk_callD (fun _ => IsAll.scl hm) h
/-! ### drawn texts -/
theorem ones_of {Pc : Nat → Prop} : ∀ {ys : List D}, (∀ y ∈ ys, ∃ c, Pc c ∧ y = .str (S [c])) → ∃ cs : List Nat, ys = (cs.map fun c => S [c]).map D.str ∧ (∀ c ∈ cs, Pc c) ∧ cs.length = ys.length
  | [], _ => ⟨[], rfl, fun _ z => (nomatch z), rfl⟩
  | y :: ys, h => by
    obtain ⟨c, hc, rfl⟩ := h y List.mem_cons_self
    obtain ⟨cs, rfl, h2, h3⟩ := ones_of (ys := ys) fun y hy => h y (List.mem_cons_of_mem _ hy)
    exact ⟨c :: cs, rfl, fun x hx => (List.mem_cons.mp hx).elim (fun z => z ▸ hc) (h2 x), by rw [List.length_cons, List.length_cons, h3]⟩
theorem ru_ones {K : PySem.W.Frag} {δ : List Slot} {n : Nat} {Φ : D → Nat → Prop} {cs : List Nat} (h : cs.length ≤ 100000) (k : Φ (.str (S cs)) n) :
    RU K (fun w H Q => (fun x xs H Q => ∃ a p, ∃ ys : List Str, x = .str a ∧ xs = [.ref p] ∧ (SqL K H p (ys.map V.str) ∨ SqT K H p (ys.map V.str)) ∧ (ys.map (·.length)).sum + ys.length * a.length ≤ 16777216 ∧ Q (.str (Txt.join a ys)) H) (V.str "") [w] H Q) (.lst ((cs.map fun c => S [c]).map D.str)) δ n Φ := by
  refine ru_join ?_ ?_
  · rw [ones_sum]
    show cs.length * (0 + 1) ≤ 16777216
    omega
  · rw [show (Str.ofString "" : Str) = S [] from rfl, join_ones]
    exact k
theorem at_1 {a : D} {r : Int} (h0 : 0 ≤ r) (h1 : r < 1) : L2.atI [a] r = some a := by
  cases (show r = 0 by omega)
  rfl
theorem at_2 {a b : D} {r : Int} (h0 : 0 ≤ r) (h1 : r < 2) : ∃ d, L2.atI [a, b] r = some d ∧ (d = a ∨ d = b) := by
  obtain ⟨j, rfl⟩ : ∃ j : Nat, r = (j : Int) := ⟨r.toNat, by omega⟩
  match j, h1 with
  | 0, _ => exact ⟨_, rfl, .inl rfl⟩
  | 1, _ => exact ⟨_, rfl, .inr rfl⟩
theorem at_any {xs : List D} {r : Int} (h0 : 0 ≤ r) (h1 : r < (xs.length : Int)) : ∃ d, L2.atI xs r = some d ∧ d ∈ xs := by
  obtain ⟨j, rfl⟩ : ∃ j : Nat, r = (j : Int) := ⟨r.toNat, by omega⟩
  have hj : j < xs.length := by omega
  exact ⟨xs[j], atI_nat (List.getElem?_eq_getElem hj), List.getElem_mem hj⟩
theorem dec_no {p : Prop} [Decidable p] {X : Prop} (h : ¬ p) : decide p = true → X := fun e => absurd (of_decide_eq_true e) h
/-! ### slices from and to -/
theorem cutD_to {xs : List D} {i : Int} (h : 0 ≤ i) : cutD xs none (some i) = xs.take i.toNat := by
  have e : HT.sIx xs.length xs.length (some i) = min i.toNat xs.length := by
    unfold HT.sIx
    simp only
    split <;> omega
  unfold cutD
  rw [show HT.sIx xs.length 0 none = 0 from rfl, e, List.drop_zero, Nat.sub_zero, List.take_eq_take_iff]
  omega
theorem cutD_from {xs : List D} {i : Int} (h : 0 ≤ i) : cutD xs (some i) none = xs.drop i.toNat := by
  have e : HT.sIx xs.length 0 (some i) = min i.toNat xs.length := by
    unfold HT.sIx
    simp only
    split <;> omega
  unfold cutD
  rw [show HT.sIx xs.length xs.length none = xs.length from rfl, e]
  by_cases hl : i.toNat ≤ xs.length
  · rw [Nat.min_eq_left hl, List.take_of_length_le (by rw [List.length_drop]; omega)]
  · rw [Nat.min_eq_right (by omega), List.drop_eq_nil_of_le (Nat.le_refl _), List.drop_eq_nil_of_le (by omega), List.take_nil]
section
variable {K : PySem.W.Frag} {δ : List Slot} {n : Nat} {Φ : D → Nat → Prop}
theorem rs_tupTo {xs : List D} {i : Int} (h : 0 ≤ i) (k : Φ (.tup (xs.take i.toNat)) n) : RS K (rSlA K) (.tup xs) none (some i) δ n Φ := rs_tup (by rw [cutD_to h]; exact k)
theorem rs_tupFrom {xs : List D} {i : Int} (h : 0 ≤ i) (k : Φ (.tup (xs.drop i.toNat)) n) : RS K (rSlA K) (.tup xs) (some i) none δ n Φ := rs_tup (by rw [cutD_from h]; exact k)
theorem rs_lstTo {xs : List D} {i : Int} (h : 0 ≤ i) (k : Φ (.lst (xs.take i.toNat)) n) : RS K (rSlL K) (.lst xs) none (some i) δ n Φ := rs_lst (by rw [cutD_to h]; exact k)
theorem rs_lstFrom {xs : List D} {i : Int} (h : 0 ≤ i) (k : Φ (.lst (xs.drop i.toNat)) n) : RS K (rSlL K) (.lst xs) (some i) none δ n Φ := rs_lst (by rw [cutD_from h]; exact k)
end
end Tl

namespace Tl
open PySem L2 TL
def top (i : Nat) : Stmt := PySem.Challenge.pw_taleless_k11_cards_written.main.body.getD i (.Pass ⟨0, 0, 0, 0⟩)
abbrev s_field : Stmt := top 8
theorem sc_field : FnScope ["text", "sign"] ["text"] (defScope s_field) := ⟨rfl, rfl, rfl, by decide +kernel, rfl, by decide +kernel, by decide +kernel⟩
abbrev s_filled : Stmt := top 9
theorem sc_filled : FnScope ["some"] ["some"] (defScope s_filled) := ⟨rfl, rfl, rfl, by decide +kernel, rfl, by decide +kernel, by decide +kernel⟩
abbrev s_mark_bytes : Stmt := top 10
theorem sc_mark_bytes : FnScope ["mark"] ["mark"] (defScope s_mark_bytes) := ⟨rfl, rfl, rfl, by decide +kernel, rfl, by decide +kernel, by decide +kernel⟩
abbrev s_box_card : Stmt := top 11
theorem sc_box_card : FnScope ["name", "top", "left", "right", "rows"] ["name", "top", "left", "right", "rows"] (defScope s_box_card) := ⟨rfl, rfl, rfl, by decide +kernel, rfl, by decide +kernel, by decide +kernel⟩
abbrev s_row_card : Stmt := top 12
theorem sc_row_card : FnScope ["box", "key", "left", "right", "text", "told"] ["box", "key", "left", "right", "text"] (defScope s_row_card) := ⟨rfl, rfl, rfl, by decide +kernel, rfl, by decide +kernel, by decide +kernel⟩
abbrev s_text_card : Stmt := top 13
theorem sc_text_card : FnScope ["text", "mark", "rank", "rows"] ["text", "mark", "rank", "rows"] (defScope s_text_card) := ⟨rfl, rfl, rfl, by decide +kernel, rfl, by decide +kernel, by decide +kernel⟩
abbrev s_head_card : Stmt := top 14
theorem sc_head_card : FnScope ["seed", "pages", "cards", "top", "shares"] ["seed", "pages", "cards", "top"] (defScope s_head_card) := ⟨rfl, rfl, rfl, by decide +kernel, rfl, by decide +kernel, by decide +kernel⟩
abbrev s_law_bag : Stmt := top 16
theorem sc_law_bag : FnScope ["_law_script", "_law_at", "_law_cell"] ["_law_script", "_law_at"] (defScope s_law_bag) := ⟨rfl, rfl, rfl, by decide +kernel, rfl, by decide +kernel, by decide +kernel⟩
abbrev s_law_take : Stmt := top 17
theorem sc_law_take : FnScope ["_law_bag_here", "_law_many", "_law_digit", "_law_primes", "_law_step", "_law_base", "_law_mixed", "_law_more"] ["_law_bag_here", "_law_many"] (defScope s_law_take) := ⟨rfl, rfl, rfl, by decide +kernel, rfl, by decide +kernel, by decide +kernel⟩
abbrev s_law_field : Stmt := top 18
theorem sc_law_field : FnScope ["_law_words", "_law_sign"] ["_law_words"] (defScope s_law_field) := ⟨rfl, rfl, rfl, by decide +kernel, rfl, by decide +kernel, by decide +kernel⟩
abbrev s_law_card : Stmt := top 19
theorem sc_law_card : FnScope ["_law_some"] ["_law_some"] (defScope s_law_card) := ⟨rfl, rfl, rfl, by decide +kernel, rfl, by decide +kernel, by decide +kernel⟩
abbrev s_law_name : Stmt := top 20
theorem sc_law_name : FnScope ["_law_bag_here", "_law_most", "_law_letters", "_law_k"] ["_law_bag_here", "_law_most"] (defScope s_law_name) := ⟨rfl, rfl, rfl, by decide +kernel, rfl, by decide +kernel, by decide +kernel⟩
abbrev s_law_short : Stmt := top 21
theorem sc_law_short : FnScope ["_law_bag_here", "_law_signs", "_law_k"] ["_law_bag_here"] (defScope s_law_short) := ⟨rfl, rfl, rfl, by decide +kernel, rfl, by decide +kernel, by decide +kernel⟩
abbrev s_law_long : Stmt := top 22
theorem sc_law_long : FnScope ["_law_bag_here", "_law_signs", "_law_many", "_law_k"] ["_law_bag_here"] (defScope s_law_long) := ⟨rfl, rfl, rfl, by decide +kernel, rfl, by decide +kernel, by decide +kernel⟩
abbrev s_law_seed : Stmt := top 23
theorem sc_law_seed : FnScope ["_law_bag_here"] ["_law_bag_here"] (defScope s_law_seed) := ⟨rfl, rfl, rfl, by decide +kernel, rfl, by decide +kernel, by decide +kernel⟩
abbrev s_law_top : Stmt := top 24
theorem sc_law_top : FnScope ["_law_bag_here"] ["_law_bag_here"] (defScope s_law_top) := ⟨rfl, rfl, rfl, by decide +kernel, rfl, by decide +kernel, by decide +kernel⟩
abbrev s_law_row_due : Stmt := top 25
theorem sc_law_row_due : FnScope ["_law_crate", "_law_tag", "_law_sides", "_law_told", "_law_some", "_law_score", "_law_place"] ["_law_crate", "_law_tag", "_law_sides", "_law_told"] (defScope s_law_row_due) := ⟨rfl, rfl, rfl, by decide +kernel, rfl, by decide +kernel, by decide +kernel⟩
abbrev s_law : Stmt := top 26
theorem sc_law : FnScope ["_law_script", "_law_at", "_law_bag_here", "_law_crate", "_law_tag", "_law_sides", "_law_many", "_law_head", "_law_score", "_law_place", "_law_due", "_law_told", "_law_long_here", "_law_salt", "_law_sheets"] ["_law_script"] (defScope s_law) := ⟨rfl, rfl, rfl, by decide +kernel, rfl, by decide +kernel, by decide +kernel⟩
structure Txt (K : PySem.W.Frag) (mg : Str → Option Value) where
  f_field : Addr
  fd_field : FuncData
  F_field : Fun K "field" "field" s_field f_field fd_field
  m_field : mg "field" = some (.ref f_field)
  b_field : Binds K fd_field ["text"] []
  f_filled : Addr
  fd_filled : FuncData
  F_filled : Fun K "filled" "filled" s_filled f_filled fd_filled
  m_filled : mg "filled" = some (.ref f_filled)
  b_filled : Binds K fd_filled ["some"] []
  f_mark_bytes : Addr
  fd_mark_bytes : FuncData
  F_mark_bytes : Fun K "mark_bytes" "mark_bytes" s_mark_bytes f_mark_bytes fd_mark_bytes
  m_mark_bytes : mg "mark_bytes" = some (.ref f_mark_bytes)
  b_mark_bytes : Binds K fd_mark_bytes ["mark"] []
  f_box_card : Addr
  fd_box_card : FuncData
  F_box_card : Fun K "box_card" "box_card" s_box_card f_box_card fd_box_card
  m_box_card : mg "box_card" = some (.ref f_box_card)
  f_row_card : Addr
  fd_row_card : FuncData
  F_row_card : Fun K "row_card" "row_card" s_row_card f_row_card fd_row_card
  m_row_card : mg "row_card" = some (.ref f_row_card)
  f_text_card : Addr
  fd_text_card : FuncData
  F_text_card : Fun K "text_card" "text_card" s_text_card f_text_card fd_text_card
  m_text_card : mg "text_card" = some (.ref f_text_card)
  f_head_card : Addr
  fd_head_card : FuncData
  F_head_card : Fun K "head_card" "head_card" s_head_card f_head_card fd_head_card
  m_head_card : mg "head_card" = some (.ref f_head_card)
  f_law_bag : Addr
  fd_law_bag : FuncData
  F_law_bag : Fun K "_law_bag" "_law_bag" s_law_bag f_law_bag fd_law_bag
  m_law_bag : mg "_law_bag" = some (.ref f_law_bag)
  b_law_bag : Binds K fd_law_bag ["_law_script", "_law_at"] []
  f_law_take : Addr
  fd_law_take : FuncData
  F_law_take : Fun K "_law_take" "_law_take" s_law_take f_law_take fd_law_take
  m_law_take : mg "_law_take" = some (.ref f_law_take)
  b_law_take : Binds K fd_law_take ["_law_bag_here", "_law_many"] []
  f_law_field : Addr
  fd_law_field : FuncData
  F_law_field : Fun K "_law_field" "_law_field" s_law_field f_law_field fd_law_field
  m_law_field : mg "_law_field" = some (.ref f_law_field)
  b_law_field : Binds K fd_law_field ["_law_words"] []
  f_law_card : Addr
  fd_law_card : FuncData
  F_law_card : Fun K "_law_card" "_law_card" s_law_card f_law_card fd_law_card
  m_law_card : mg "_law_card" = some (.ref f_law_card)
  b_law_card : Binds K fd_law_card ["_law_some"] []
  f_law_name : Addr
  fd_law_name : FuncData
  F_law_name : Fun K "_law_name" "_law_name" s_law_name f_law_name fd_law_name
  m_law_name : mg "_law_name" = some (.ref f_law_name)
  b_law_name : Binds K fd_law_name ["_law_bag_here", "_law_most"] []
  f_law_short : Addr
  fd_law_short : FuncData
  F_law_short : Fun K "_law_short" "_law_short" s_law_short f_law_short fd_law_short
  m_law_short : mg "_law_short" = some (.ref f_law_short)
  b_law_short : Binds K fd_law_short ["_law_bag_here"] []
  f_law_long : Addr
  fd_law_long : FuncData
  F_law_long : Fun K "_law_long" "_law_long" s_law_long f_law_long fd_law_long
  m_law_long : mg "_law_long" = some (.ref f_law_long)
  b_law_long : Binds K fd_law_long ["_law_bag_here"] []
  f_law_seed : Addr
  fd_law_seed : FuncData
  F_law_seed : Fun K "_law_seed" "_law_seed" s_law_seed f_law_seed fd_law_seed
  m_law_seed : mg "_law_seed" = some (.ref f_law_seed)
  b_law_seed : Binds K fd_law_seed ["_law_bag_here"] []
  f_law_top : Addr
  fd_law_top : FuncData
  F_law_top : Fun K "_law_top" "_law_top" s_law_top f_law_top fd_law_top
  m_law_top : mg "_law_top" = some (.ref f_law_top)
  b_law_top : Binds K fd_law_top ["_law_bag_here"] []
  f_law_row_due : Addr
  fd_law_row_due : FuncData
  F_law_row_due : Fun K "_law_row_due" "_law_row_due" s_law_row_due f_law_row_due fd_law_row_due
  m_law_row_due : mg "_law_row_due" = some (.ref f_law_row_due)
  b_law_row_due : Binds K fd_law_row_due ["_law_crate", "_law_tag", "_law_sides", "_law_told"] []
  f_law : Addr
  fd_law : FuncData
  F_law : Fun K "law" "law" s_law f_law fd_law
  m_law : mg "law" = some (.ref f_law)
  b_law : Binds K fd_law ["_law_script"] []
  kn_tuple_str : PySem.W.kitOne K (.type "tuple") (.type "str") = some false
  kb_box_card_1_rows_right_left_top : ∃ mv : List Value, KBn K (fd_box_card) ["name", "top", "left", "right", "rows"] 1 ["rows", "right", "left", "top"] (fun us ws => kgP [(0, 0), (2, 3), (2, 2), (2, 1), (2, 0)] us mv ws) (fun vs zs => kgP [(0, 0), (2, 3), (2, 2), (2, 1), (2, 0)] vs [] zs)
  bd_box_card_1 : ∃ ds : List Value, Vals [.str "", .str "", .str "", .int 0] ds ∧ Binds K (fd_box_card) ["name", "top", "left", "right", "rows"] ds
  kb_row_card_2_text_left_right : ∃ mv : List Value, KBn K (fd_row_card) ["box", "key", "left", "right", "text"] 2 ["text", "left", "right"] (fun us ws => kgP [(0, 0), (0, 1), (2, 1), (2, 2), (2, 0)] us mv ws) (fun vs zs => kgP [(0, 0), (0, 1), (2, 1), (2, 2), (2, 0)] vs [] zs)
  kb_row_card_0_key_box_text : ∃ mv : List Value, KBn K (fd_row_card) ["box", "key", "left", "right", "text"] 0 ["key", "box", "text"] (fun us ws => kgP [(2, 1), (2, 0), (1, 0), (1, 1), (2, 2)] us mv ws) (fun vs zs => kgP [(2, 1), (2, 0), (1, 0), (1, 1), (2, 2)] vs [.str "", .str ""] zs)
  kb_text_card_1_mark_rows_rank : ∃ mv : List Value, KBn K (fd_text_card) ["text", "mark", "rank", "rows"] 1 ["mark", "rows", "rank"] (fun us ws => kgP [(0, 0), (2, 0), (2, 2), (2, 1)] us mv ws) (fun vs zs => kgP [(0, 0), (2, 0), (2, 2), (2, 1)] vs [] zs)
  kb_text_card_1_mark : ∃ mv : List Value, KBn K (fd_text_card) ["text", "mark", "rank", "rows"] 1 ["mark"] (fun us ws => kgP [(0, 0), (2, 0), (1, 0), (1, 1)] us mv ws) (fun vs zs => kgP [(0, 0), (2, 0), (1, 0), (1, 1)] vs [.int 0, .int 1] zs)
  kb_head_card_1_cards_top_pages : ∃ mv : List Value, KBn K (fd_head_card) ["seed", "pages", "cards", "top"] 1 ["cards", "top", "pages"] (fun us ws => kgP [(0, 0), (2, 2), (2, 0), (2, 1)] us mv ws) (fun vs zs => kgP [(0, 0), (2, 2), (2, 0), (2, 1)] vs [] zs)
  kb_head_card_0_seed : ∃ mv : List Value, KBn K (fd_head_card) ["seed", "pages", "cards", "top"] 0 ["seed"] (fun us ws => kgP [(2, 0), (1, 0), (1, 1), (1, 2)] us mv ws) (fun vs zs => kgP [(2, 0), (1, 0), (1, 1), (1, 2)] vs [.int 4, .int 0, .str ""] zs)
  z_abs : mg "abs" = none
  z_int : mg "int" = none
  z_isinstance : mg "isinstance" = none
  z_len : mg "len" = none
  z_max : mg "max" = none
  z_min : mg "min" = none
  z_ord : mg "ord" = none
  z_range : mg "range" = none
  z_str : mg "str" = none
  z_tuple : mg "tuple" = none
  t_BOX : Tok
  g_BOX : mg "BOX" = some (.int 1 t_BOX)
  t_BYTE : Tok
  g_BYTE : mg "BYTE" = some (.int 256 t_BYTE)
  t_HEAD : Tok
  g_HEAD : mg "HEAD" = some (.int 9 t_HEAD)
  t_LONG : Tok
  g_LONG : mg "LONG" = some (.int 255 t_LONG)
  t_ROW : Tok
  g_ROW : mg "ROW" = some (.int 2 t_ROW)
  t_SIZE : Tok
  g_SIZE : mg "SIZE" = some (.int 48 t_SIZE)
  t_TEXT : Tok
  g_TEXT : mg "TEXT" = some (.int 3 t_TEXT)
section
variable {P : Program} {w : World} {K : PySem.W.Frag} {mg : Str → Option Value} {base : Heap}
/-! steps of the walk over data -/
local macro_rules | `(tactic| walk_at "ls") => `(tactic| first
  | decide
  | assumption
  | omega
  | (simp only [List.length_append, List.length_map, List.length_cons, List.length_nil, List.length_replicate, List.length_take, List.length_drop]; omega))
local macro_rules | `(tactic| walk_at "e1") => `(tactic| first
  | ((with_reducible apply gk_var); (focus (exact rfl)))
  | with_reducible refine gk_i ?_
  | with_reducible refine gk_s ?_
  | with_reducible refine gk_b ?_
  | with_reducible refine gk_n ?_
  | ((with_reducible apply gk_ownIx); (focus (exact rfl)))
  | ((with_reducible apply gk_ownLen); (focus (exact rfl)))
  | ((with_reducible apply gk_scrLen); (focus (exact rfl)))
  | with_reducible refine gk_isi ?_
  | with_reducible refine gk_op ?_
  | with_reducible refine gk_un ?_
  | with_reducible refine gk_cb ?_
  | ((with_reducible refine gk_callB ?_ ?_); (focus (exact rfl)))
  | with_reducible refine gk_call ?_
  | ((with_reducible refine gk_dfl ?_ ?_); (focus (exact rfl)))
  | ((with_reducible refine gk_kw ?_ ?_); (focus (exact rfl)))
  | with_reducible refine gk_tup ?_
  | with_reducible refine gk_lst ?_
  | with_reducible refine gk_ifE ?_
  | with_reducible refine gk_andV ?_
  | with_reducible refine gk_orV ?_
  | with_reducible refine gk_notV ?_
  | with_reducible refine gk_chain ?_
  | with_reducible refine gk_sl ?_
  | with_reducible refine gk_m1 ?_
  | with_reducible refine go_none ?_
  | with_reducible refine go_some ?_
  | with_reducible refine ga_cons ?_
  | with_reducible refine ga_nil ?_
  | with_reducible refine gt_test ?_
  | with_reducible refine gt_B ?_
  | with_reducible refine gt_not ?_
  | with_reducible refine gt_and ?_
  | with_reducible refine gt_or ?_
  | with_reducible refine gt_yes ?_
  | with_reducible refine rk_add ?_
  | with_reducible refine rk_sub ?_
  | with_reducible refine rk_lt ?_
  | with_reducible refine rk_le ?_
  | with_reducible refine rk_gt ?_
  | with_reducible refine rk_ge ?_
  | ((with_reducible refine rk_mul ?_ ?_); (focus (first | exact .inl ⟨by decide, by decide⟩ | exact .inr ⟨by decide, by decide⟩ | exact .inl ⟨by omega, by omega⟩ | exact .inr ⟨by omega, by omega⟩)))
  | ((with_reducible refine rk_fdiv ?_ ?_); (focus (first | exact ⟨by decide, by decide⟩ | exact ⟨by omega, by omega⟩)))
  | ((with_reducible refine rk_mod ?_ ?_); (focus (first | decide | omega)))
  | with_reducible refine rk_eqI ?_
  | with_reducible refine rk_neI ?_
  | with_reducible refine rk_eqS ?_
  | with_reducible refine rk_neS ?_
  | with_reducible refine rk_eqB ?_
  | with_reducible refine rk_neB ?_
  | with_reducible refine rk_isN ?_
  | with_reducible refine rk_notN ?_
  | with_reducible refine ru_neg ?_
  | ((with_reducible refine rk_cat ?_ ?_); (focus (walk_at "ls")))
  | ((with_reducible refine rk_catT ?_ ?_); (focus (walk_at "ls")))
  | ((with_reducible refine rc_lenS ?_ ?_); (focus (walk_at "ls")))
  | with_reducible refine rc_lenL ?_
  | with_reducible refine rc_lenT ?_
  | with_reducible refine rc_ord ?_
  | with_reducible refine rc_abs ?_
  | with_reducible refine rc_int1 ?_
  | with_reducible refine rc_intB ?_
  | with_reducible refine rc_max2 ?_
  | with_reducible refine rc_min2 ?_
  | with_reducible refine rc_tupL ?_
  | with_reducible refine rc_tupT ?_
  | with_reducible refine rc_listL ?_
  | with_reducible refine rc_listT ?_
  | ((with_reducible refine rs_tupTo ?_ ?_); (focus (first | decide | omega)))
  | ((with_reducible refine rs_tupFrom ?_ ?_); (focus (first | decide | omega)))
  | ((with_reducible refine rs_lstTo ?_ ?_); (focus (first | decide | omega)))
  | ((with_reducible refine rs_lstFrom ?_ ?_); (focus (first | decide | omega)))
  | with_reducible refine rs_lst ?_
  | with_reducible refine rs_tup ?_
  | ((with_reducible refine rs_str ?_ ?_); (focus (walk_at "ls")))
  | with_reducible refine gi_list ?_
  | with_reducible refine gi_tup ?_
  | with_reducible refine gi_str ?_
  | with_reducible refine gi_rng1 ?_
  | with_reducible refine gi_rng2 ?_
  | with_reducible refine gi_enum ?_
  | with_reducible refine ⟨_, rfl, ?_⟩
  | with_reducible refine ⟨_, _, rfl, ?_⟩
  | with_reducible refine ⟨_, _, _, rfl, ?_⟩
  | ((with_reducible apply rk_ixL); (focus (exact rfl)))
  | ((with_reducible apply rk_ixT); (focus (exact rfl)))
  | ((with_reducible refine And.intro (a := List.length _ ≤ 100000) ?_ ?_); (focus (walk_at "ls")))
  | with_reducible refine ⟨fun h => absurd h Bool.false_ne_true, fun _ => ?_⟩
  | with_reducible refine ⟨fun _ => ?_, fun h => absurd h.symm Bool.false_ne_true⟩)
local macro_rules | `(tactic| walk_at "s1") => `(tactic| first
  | with_reducible refine gs_seq ?_
  | with_reducible refine gs_next ?_
  | with_reducible refine gs_brk ?_
  | with_reducible refine gs_cont ?_
  | with_reducible refine gs_ret ?_
  | with_reducible refine gs_par ?_
  | with_reducible refine gs_par3 ?_
  | with_reducible refine gs_asg ?_
  | with_reducible refine gs_if ?_
  | with_reducible refine gs_drop ?_)
local macro_rules | `(tactic| walk_at "e") => `(tactic| repeat (walk_at "e1"))
local macro_rules | `(tactic| walk_at "g") => `(tactic| repeat (first | walk_at "e1" | walk_at "s1"))
local macro_rules | `(tactic| walk_at "k") => `(tactic| try dsimp only [cxOf, Cx.nox])
/-! cards -/
/-- a text as a field of a card -/
def fieldI (z : Str) : List Int := (z.length : Int) :: (tl z).map fun c : Nat => (c : Int)
def fillI (ns : List Int) : List Int := ns ++ List.replicate (48 - ns.length) 0
theorem fieldI_len (z : Str) : (fieldI z).length = z.length + 1 := by
  unfold fieldI
  rw [List.length_cons, List.length_map, ← len_tl]
theorem fill_flat {ns : List Int} : (List.replicate (48 - (ns.length : Int)).toNat [D.int 0]).flatten = (List.replicate (48 - ns.length) (0 : Int)).map D.int := by
  rw [show (48 - (ns.length : Int)).toNat = 48 - ns.length by omega, List.flatten_replicate_singleton, List.map_replicate]
def ordD : D → D
  | .str x => .int (((tl x).getD 0 0 : Nat) : Int)
  | _ => .non
theorem charsD_len (z : Str) : (charsD z).length = z.length := by
  unfold charsD
  rw [List.length_map, ← len_tl]
theorem charsD_mem {z : Str} {x : D} (h : x ∈ charsD z) : ∃ c ∈ tl z, x = .str (S [c]) := by
  unfold charsD at h
  obtain ⟨c, hc, rfl⟩ := List.mem_map.mp h
  exact ⟨c, hc, rfl⟩
theorem ords_is (z : Str) : (charsD z).map ordD = ((tl z).map fun c : Nat => (c : Int)).map D.int := by
  unfold charsD
  rw [List.map_map, List.map_map]
  rfl
theorem fillI_len (ns : List Int) : (fillI ns).length = max 48 ns.length := by
  unfold fillI
  rw [List.length_append, List.length_replicate]
  omega
/-! name -/
theorem letters_ok : ∀ c ∈ tl "abcdefghijklmnopqrstuvwxyz", 97 ≤ c ∧ c ≤ 122 := by decide
/-- so many letters -/
def Nm (cs : List Nat) (most : Int) : Prop := 1 ≤ cs.length ∧ (cs.length : Int) ≤ most ∧ ∀ c ∈ cs, 97 ≤ c ∧ c ≤ 122
/-! field -/
def sp_field (K : PySem.W.Frag) : Sp := spP K fun ds Φ => ∃ z : Str, ds = [.str z] ∧ z.length ≤ 1000 ∧ Φ (.lst ((fieldI z).map D.int))
theorem ok_field (T : Txt K mg) : FnOk P w K mg base CX0 1 T.f_field T.fd_field ["text"] (sp_field K) := by
  refine fn_P T.F_field sc_field (fun ds Φ h => ?_) (fun cdv A outer s H E hr => ⟨_, (pss_one (ps_ret (pe_op op_cat (pe_lst (pa_cons (pe_callB call_len_str (by rfl) T.z_len (by decide +kernel) (pa_cons (pv 0) pa_nil)) pa_nil)) (pe_lc (own := [("sign", 1)]) (g := gName 1) (by rfl) sc_field.nd (pi_str (pv 0)) (blkOk_by (own := [("sign", 1)]) (N := ["text", "sign"]) (sc := defScope s_field) (by decide +kernel)) (fun _ _ _ _ _ => (pg_name (i := 1) sc_field.nd rfl (Or.inl rfl))) (fun _ _ _ _ _ => pts_nil) (fun _ _ _ _ _ => (pe_callB call_ord (by rfl) T.z_ord (by decide +kernel) (pa_cons (pv 1) pa_nil))))))), fun ds Φ h => ?_⟩)
  · obtain ⟨z, rfl, _⟩ := h
    rfl
  · obtain ⟨z, rfl, hz, k⟩ := h
    walk_at "k"
    walk_at "g"
    refine gk_map1 (f := ordD) ?_ ?_
    · exact fun _ h => nomatch h
    walk_at "g"
    have hl := charsD_len z
    refine ⟨by omega, fun x hx => ?_, ?_⟩
    · obtain ⟨c, _, rfl⟩ := charsD_mem hx
      walk_at "g"
      exact ⟨rfl, rfl⟩
    · walk_at "g"
      rw [ords_is]
      exact k
theorem c_field {δ : List Slot} {n : Nat} {Φ : D → Nat → Prop} {z : Str} (hz : z.length ≤ 1000) (k : Φ (.lst ((fieldI z).map D.int)) n) : SC K (sp_field K) [.str z] δ n Φ := sc_P ⟨z, rfl, hz, k⟩
local macro_rules | `(tactic| walk_at "e1") => `(tactic| ((with_reducible refine c_field ?_ ?_); (focus (walk_at "ls"))))
/-! filled -/
def sp_filled (K : PySem.W.Frag) : Sp := spP K fun ds Φ => ∃ ns : List Int, ds = [.lst (ns.map D.int)] ∧ ns.length ≤ 10000 ∧ Φ (.tup ((fillI ns).map D.int))
theorem ok_filled (T : Txt K mg) : FnOk P w K mg base CX0 1 T.f_filled T.fd_filled ["some"] (sp_filled K) := by
  refine fn_P T.F_filled sc_filled (fun ds Φ h => ?_) (fun cdv A outer s H E hr => ⟨_, (pss_one (ps_ret (pe_callTy call_tuple_of (by rfl) T.z_tuple (by decide +kernel) (pa_cons (pe_op op_cat (pv 0) (pe_op op_rep (pe_lst (pa_cons pe_int pa_nil)) (pe_op op_sub (pe_glob (v := .int 48) (by rfl) T.g_SIZE ⟨_, rfl⟩) (pe_callB call_len_seq (by rfl) T.z_len (by decide +kernel) (pa_cons (pv 0) pa_nil))))) pa_nil)))), fun ds Φ h => ?_⟩)
  · obtain ⟨ns, rfl, _⟩ := h
    rfl
  · obtain ⟨ns, rfl, hz, k⟩ := h
    walk_at "k"
    walk_at "g"
    refine rk_rep (by rw [List.length_map]; omega) (by rw [List.length_map]; omega) (by rw [List.length_map]; show 1 * _ ≤ _; omega) ?_
    rw [List.length_map, fill_flat]
    refine rk_cat (by simp only [List.length_map, List.length_replicate]; omega) ?_
    walk_at "g"
    rw [← List.map_append]
    exact k
theorem c_filled {δ : List Slot} {n : Nat} {Φ : D → Nat → Prop} {ns : List Int} {ds : List D} (e : ds = ns.map D.int) (hz : ns.length ≤ 10000) (k : Φ (.tup ((fillI ns).map D.int)) n) : SC K (sp_filled K) [.lst ds] δ n Φ := sc_P ⟨ns, by rw [e], hz, k⟩
/-! mark_bytes -/
def sp_mark_bytes (K : PySem.W.Frag) : Sp := spP K fun ds Φ => ∃ m : Int, ds = [.int m] ∧ Φ (.lst [.int (m / 256), .int (m % 256)])
theorem ok_mark_bytes (T : Txt K mg) : FnOk P w K mg base CX0 1 T.f_mark_bytes T.fd_mark_bytes ["mark"] (sp_mark_bytes K) := by
  refine fn_P T.F_mark_bytes sc_mark_bytes (fun ds Φ h => ?_) (fun cdv A outer s H E hr => ⟨_, (pss_one (ps_ret (pe_lst (pa_cons (pe_op op_fdiv (pv 0) (pe_glob (v := .int 256) (by rfl) T.g_BYTE ⟨_, rfl⟩)) (pa_cons (pe_op op_mod (pv 0) (pe_glob (v := .int 256) (by rfl) T.g_BYTE ⟨_, rfl⟩)) pa_nil))))), fun ds Φ h => ?_⟩)
  · obtain ⟨m, rfl, _⟩ := h
    rfl
  · obtain ⟨m, rfl, k⟩ := h
    walk_at "k"
    walk_at "g"
    exact k
theorem c_mark_bytes {δ : List Slot} {n : Nat} {Φ : D → Nat → Prop} {m : Int} (k : Φ (.lst [.int (m / 256), .int (m % 256)]) n) : SC K (sp_mark_bytes K) [.int m] δ n Φ := sc_P ⟨m, rfl, k⟩
local macro_rules | `(tactic| walk_at "e1") => `(tactic| with_reducible refine c_mark_bytes ?_)
/-! _law_bag -/
def sp_law_bag (K : PySem.W.Frag) : Sp := fun vs H Q _ => ∃ (a : Addr) (ns : List Int) (i : Int), vs = [.ref a, .int i] ∧ SqL K H a (ns.map V.int) ∧ 0 ≤ i ∧ i ≤ 63 ∧
  ∀ (p : Addr) (H' : Hp), H p = none → Bag H' p 0 → Same H H' → Q (.ref p) H'
theorem atI_ints {ns : List Int} {i : Int} (h0 : 0 ≤ i) (h1 : i < (ns.length : Int)) : ∃ z, atI (ns.map V.int) i = some (.int z) ∧ z ∈ ns := by
  obtain ⟨j, rfl⟩ : ∃ j : Nat, i = (j : Int) := ⟨i.toNat, by omega⟩
  have hj : j < ns.length := by omega
  refine ⟨ns[j], atI_nat ?_, List.getElem_mem hj⟩
  rw [List.getElem?_map, List.getElem?_eq_getElem hj]
  rfl
theorem ok_law_bag (T : Txt K mg) : FnOk P w K mg base CX0 1 T.f_law_bag T.fd_law_bag ["_law_script", "_law_at"] (sp_law_bag K) := by
  refine T.F_law_bag.ok sc_law_bag (fun vs H Q E h => ?_) (fun cdv A outer s H vs Q E hr h => ?_)
  · obtain ⟨a, ns, i, rfl, _⟩ := h
    rfl
  · obtain ⟨a, ns, i, rfl, hS, hi0, hi1, k⟩ := h
    refine ⟨_, (pss_cons (ps_set (i := 2) sc_law_bag.nd rfl (Or.inl rfl) pe_int)
      (pss_cons (ps_if (pt_cmpR op_lt (pv 1) (pe_callB call_len_seq (by rfl) T.z_len (by decide +kernel) (pa_cons (pv 0) pa_nil)) (nomark _))
        (pss_one (ps_set (i := 2) sc_law_bag.nd rfl (Or.inl rfl) (pe_callB call_abs (by rfl) T.z_abs (by decide +kernel) (pa_cons (pe_ix ix_list (pv 0) (pv 1) (fun _ _ => rfl)) pa_nil))))
        pss_nil)
      (pss_one (ps_ret (pe_lst (pa_cons (pe_op op_mul (pv 2) (pe_callTy call_int1 (by rfl) T.z_int (by decide +kernel) (pa_cons (pe_cmpR op_ge (pv 2) (pe_op op_powW pe_int pe_int) (nomark _)) pa_nil))) (pa_cons (pe_op op_add (pe_op op_add (pe_op op_add (pe_op op_mod (pv 2) pe_int) (pe_op op_mul (pe_op op_mul pe_int (pv 1)) (pv 1))) (pe_op op_mul pe_int (pv 1))) pe_int) (pa_cons pe_int pa_nil)))))))), ?_⟩
    have fin : ∀ cell : Int, 0 ≤ cell → ∀ p, H p = none → Q (.ref p) (upd H p (.lst [.int (cell * (if decide (10 ^ 18 ≤ cell) = true then 1 else 0)), .int (cell % 2305843009213693951 + 8191 * i * i + 131 * i + 5), .int 0])) := fun cell hc p hp => by
      have m0 := Int.emod_nonneg cell (show (2305843009213693951 : Int) ≠ 0 by decide)
      have m1 := Int.emod_lt_of_pos cell (show (0 : Int) < 2305843009213693951 by decide)
      have e1 : 8191 * i * i ≤ 8191 * 63 * 63 := Int.mul_le_mul (by omega) hi1 hi0 (by omega)
      have e2 : 0 ≤ 8191 * i * i := Int.mul_nonneg (by omega) hi0
      refine k p _ hp ⟨_, _, _, upd_same, ?_, by omega, by omega, by decide, by decide⟩ (Same.new (Same.refl H) hp)
      split <;> omega
    refine ⟨_, rfl, _, rfl, a, _, rfl, .inl hS, _, _, rfl, rfl, _, rfl, ?_⟩
    refine ite2 (fun h0 => ?_) (fun h0 => ?_)
    · have h0 : i < ((ns.map V.int).length : Int) := of_decide_eq_true h0
      rw [List.length_map] at h0
      obtain ⟨z, ez, _⟩ := atI_ints hi0 h0
      refine ⟨_, rfl, _, rfl, a, _, _, _, rfl, rfl, hS, ez, _, rfl, ?_⟩
      refine ⟨_, rfl, _, rfl, _, _, rfl, rfl, ⟨by decide, by decide +kernel⟩, _, _, rfl, rfl, .inr ⟨_, rfl, _, _, rfl, rfl, mul01, ?_⟩⟩
      refine ⟨_, rfl, _, _, rfl, rfl, (by show (0 : Int) < 2305843009213693951; decide), _, rfl, _, _, rfl, rfl, .inl ⟨by decide, by decide⟩, _, rfl, _, _, rfl, rfl, .inr ⟨by omega, by omega⟩, _, _, rfl, rfl, _, rfl, _, _, rfl, rfl, .inl ⟨by decide, by decide⟩, _, _, rfl, rfl, _, _, rfl, rfl, sz3, fun p hp => ?_⟩
      exact fin _ (by split <;> omega) p hp
    · refine ⟨_, rfl, _, rfl, _, _, rfl, rfl, ⟨by decide, by decide +kernel⟩, _, _, rfl, rfl, .inr ⟨_, rfl, _, _, rfl, rfl, mul01, ?_⟩⟩
      refine ⟨_, rfl, _, _, rfl, rfl, (by show (0 : Int) < 2305843009213693951; decide), _, rfl, _, _, rfl, rfl, .inl ⟨by decide, by decide⟩, _, rfl, _, _, rfl, rfl, .inr ⟨by omega, by omega⟩, _, _, rfl, rfl, _, rfl, _, _, rfl, rfl, .inl ⟨by decide, by decide⟩, _, _, rfl, rfl, _, _, rfl, rfl, sz3, fun p hp => ?_⟩
      exact fin 0 (by decide) p hp

theorem gs_lawbag {δ : List Slot} {n : Nat} {te : TE} {N Bk Ct : List Slot → Nat → Prop} {R : D → Nat → Prop} {ts : TS} {X : XK} {i j : Nat} {ns : List Int} (hi : δ[i]? = some (.scr ns)) (hj : ∀ xs, δ[j]? ≠ some (.own xs)) (h : GK K te δ n fun d _ => ∃ k : Int, d = .int k ∧ 0 ≤ k ∧ k ≤ 63 ∧ ∀ p, GS K (some p) ts (δ.set j .bag) 0 (fun δ' _ => N (unbag δ') 0) (fun d _ => R d 0) (fun δ' _ => Bk (unbag δ') 0) (fun δ' _ => Ct (unbag δ') 0)) :
    GS K none (tSeq (tAsg (tCall (sp_law_bag K) [] X (tCons (tVar i) (tCons te tNil))) (gName j)) ts) δ n N R Bk Ct :=
  gs_newbag (fun a i H Q E h0 h1 h2 k => ⟨a, ns, i, rfl, h0, h1, h2, k⟩) hi hj h
/-! _law_take -/
def sp_law_take : Sp := fun vs H Q _ => ∃ (p : Addr) (n : Nat) (many : Int), vs = [.ref p, .int many] ∧ Bag H p n ∧ n < 2 ^ 40 ∧ 0 < many ∧ many < 2 ^ 128 ∧
  ∀ (r : Int) (H' : Hp), 0 ≤ r → r < many → Bag H' p (n + 1) → Fr p H H' → Q (.int r) H'
theorem take_pow {b c : Int} (h1 : 0 ≤ b) (h2 : b < 2 ^ 62) (h3 : 0 ≤ c) (h4 : c ≤ 2 ^ 40) : CPowW (b * (2 * c + 1) + 5003 * c * c + 97) 3 := by
  refine ⟨by decide, ?_⟩
  have e1 : b * (2 * c + 1) ≤ 2 ^ 62 * (2 * c + 1) := Int.mul_le_mul_of_nonneg_right (by omega) (by omega)
  have e2 : 5003 * c * c ≤ 5003 * 2 ^ 40 * 2 ^ 40 := Int.mul_le_mul (by omega) (by omega) (by omega) (by omega)
  have e3 : 0 ≤ b * (2 * c + 1) := Int.mul_nonneg h1 (by omega)
  have e4 : 0 ≤ 5003 * c * c := Int.mul_nonneg (by omega) h3
  have e5 : (b * (2 * c + 1) + 5003 * c * c + 97).natAbs < 2 ^ 120 := by omega
  have e6 : Builtin.Int.intBits (b * (2 * c + 1) + 5003 * c * c + 97) ≤ 120 := PyProof.Rows.intBits_le e5
  omega
theorem ok_law_take (T : Txt K mg) : FnOk P w K mg base CX0 1 T.f_law_take T.fd_law_take ["_law_bag_here", "_law_many"] sp_law_take := by
  refine T.F_law_take.ok sc_law_take (fun vs H Q E h => ?_) (fun cdv A outer s H vs Q E hr h => ?_)
  · obtain ⟨p, n, many, rfl, _⟩ := h
    rfl
  · obtain ⟨p, n, many, rfl, bg, hn, hm0, hm1, k⟩ := h
    obtain ⟨a, b, c, hp, ha, hb0, hb1, hc0, hc1⟩ := bg
    refine ⟨_, (pss_cons (ps_if (pt_cmpR op_gt (pe_ix ix_list (pv 0) pe_int (fun _ _ => rfl)) pe_int (nomark _))
        (pss_cons (ps_set (i := 2) sc_law_take.nd rfl (Or.inl rfl) (pe_op op_mod (pe_ix ix_list (pv 0) pe_int (fun _ _ => rfl)) (pv 1)))
        (pss_cons (ps_asg (pe_op op_fdivW (pe_ix ix_list (pv 0) pe_int (fun _ _ => rfl)) (pv 1)) (pg_sub (pv 0) pe_int set_list))
        (pss_one (ps_ret (pv 2)))))
        pss_nil)
      (pss_cons (ps_set (i := 3) sc_law_take.nd rfl (Or.inl rfl) (pe_tup (pa_cons pe_int (pa_cons pe_int (pa_cons pe_int (pa_cons pe_int (pa_cons pe_int (pa_cons pe_int (pa_cons pe_int pa_nil)))))))))
      (pss_cons (ps_asg (pe_op op_add (pe_ix ix_list (pv 0) pe_int (fun _ _ => rfl)) pe_int) (pg_sub (pv 0) pe_int set_list))
      (pss_cons (ps_set (i := 4) sc_law_take.nd rfl (Or.inl rfl) (pe_ix ix_list (pv 0) pe_int (fun _ _ => rfl)))
      (pss_cons (ps_set (i := 5) sc_law_take.nd rfl (Or.inl rfl) (pe_op op_add (pe_op op_add (pe_op op_mul (pe_ix ix_list (pv 0) pe_int (fun _ _ => rfl)) (pe_op op_add (pe_op op_mul pe_int (pv 4)) pe_int)) (pe_op op_mul (pe_op op_mul pe_int (pv 4)) (pv 4))) pe_int))
      (pss_cons (ps_set (i := 6) sc_law_take.nd rfl (Or.inl rfl) (pe_op op_mod (pe_op op_powW (pv 5) pe_int) (pe_ix ix_tup (pv 3) (pe_op op_mod (pv 4) pe_int) (fun _ _ => rfl))))
      (pss_cons (ps_set (i := 7) sc_law_take.nd rfl (Or.inl rfl) (pe_op op_add (pe_op op_add (pe_op op_fdiv (pv 6) pe_int) (pe_op op_mul pe_int (pv 4))) pe_int))
      (pss_one (ps_ret (pe_op op_mod (pe_op op_fdiv (pe_op op_mod (pe_op op_mul (pv 6) (pv 7)) (pe_ix ix_tup (pv 3) (pe_op op_mod (pe_op op_add (pv 4) pe_int) pe_int) (fun _ _ => rfl))) pe_int) (pv 1))))))))))), ?_⟩
    refine ⟨_, rfl, p, _, _, _, rfl, rfl, SqL.of hp, rfl, _, _, rfl, rfl, _, rfl, ?_⟩
    refine ite2 (fun h0 => ?_) (fun h0 => ?_)
    · have h0 : 0 < a := of_decide_eq_true h0
      refine ⟨_, rfl, p, _, _, _, rfl, rfl, SqL.of hp, rfl, _, rfl, _, _, rfl, rfl, hm0, ?_⟩
      refine ⟨_, rfl, p, _, _, _, rfl, rfl, SqL.of hp, rfl, _, rfl, _, _, rfl, rfl, wide_div hm0 (b := 128) (by omega) (by decide) (by decide), _, rfl, p, _, _, 0, rfl, rfl, hp, rfl, ?_⟩
      refine ⟨_, rfl, ?_⟩
      exact k _ _ (Int.emod_nonneg _ (by omega)) (Int.emod_lt_of_pos _ hm0) ⟨a / many, b, c, upd_same, Int.ediv_nonneg ha (by omega), hb0, hb1, hc0, by omega⟩ Fr.refl.at
    · refine ⟨by decide, fun q hq => ?_⟩
      have nqp : p ≠ q := ne_of_none hp hq
      have hp1 : upd H q (.tup [.int 2147483647, .int 2147483629, .int 2147483587, .int 2147483579, .int 2147483563, .int 2147483549, .int 2147483543]) p = some (.lst [.int a, .int b, .int c]) := by rw [upd_ne nqp]; exact hp
      refine ⟨_, rfl, p, _, _, _, rfl, rfl, SqL.of hp1, rfl, _, _, rfl, rfl, _, rfl, p, _, _, 2, rfl, rfl, hp1, rfl, ?_⟩
      have hp2 : upd (upd H q (.tup [.int 2147483647, .int 2147483629, .int 2147483587, .int 2147483579, .int 2147483563, .int 2147483549, .int 2147483543])) p (.lst [.int a, .int b, .int (c + 1)]) p = some (.lst [.int a, .int b, .int (c + 1)]) := upd_same
      have hq2 : upd (upd H q (.tup [.int 2147483647, .int 2147483629, .int 2147483587, .int 2147483579, .int 2147483563, .int 2147483549, .int 2147483543])) p (.lst [.int a, .int b, .int (c + 1)]) q = some (.tup [.int 2147483647, .int 2147483629, .int 2147483587, .int 2147483579, .int 2147483563, .int 2147483549, .int 2147483543]) := by rw [upd_ne nqp.symm, upd_same]
      have pr : ∀ i : Int, ∃ m : Int, atI [V.int 2147483647, .int 2147483629, .int 2147483587, .int 2147483579, .int 2147483563, .int 2147483549, .int 2147483543] (i % 7) = some (.int m) ∧ 0 < m ∧ m < 2 ^ 31 := fun i => by
        have h1 := Int.emod_nonneg i (show (7 : Int) ≠ 0 by decide)
        have h2 := Int.emod_lt_of_pos i (show (0 : Int) < 7 by decide)
        obtain ⟨j, e⟩ : ∃ j : Nat, i % 7 = (j : Int) := ⟨(i % 7).toNat, by omega⟩
        rw [e] at h2 ⊢
        match j, h2 with
        | 0, _ => exact ⟨_, rfl, by decide, by decide⟩
        | 1, _ => exact ⟨_, rfl, by decide, by decide⟩
        | 2, _ => exact ⟨_, rfl, by decide, by decide⟩
        | 3, _ => exact ⟨_, rfl, by decide, by decide⟩
        | 4, _ => exact ⟨_, rfl, by decide, by decide⟩
        | 5, _ => exact ⟨_, rfl, by decide, by decide⟩
        | 6, _ => exact ⟨_, rfl, by decide, by decide⟩
      obtain ⟨m1, em1, hm10, hm11⟩ := pr (c + 1)
      obtain ⟨m2, em2, hm20, hm21⟩ := pr (c + 1 + 2)
      refine ⟨_, rfl, p, _, _, _, rfl, rfl, SqL.of hp2, rfl, ?_⟩
      refine ⟨_, rfl, p, _, _, _, rfl, rfl, SqL.of hp2, rfl, _, rfl, _, _, rfl, rfl, .inl ⟨by decide, by decide⟩, _, _, rfl, rfl, _, _, rfl, rfl, .inl ⟨by omega, by omega⟩, ?_⟩
      refine ⟨_, rfl, _, _, rfl, rfl, .inl ⟨by decide, by decide⟩, _, rfl, _, _, rfl, rfl, .inr ⟨by omega, by omega⟩, _, _, rfl, rfl, _, _, rfl, rfl, ?_⟩
      refine ⟨_, rfl, _, _, rfl, rfl, take_pow hb0 hb1 (by omega) (by omega), _, rfl, _, rfl, _, _, rfl, rfl, (by show (0 : Int) < 7; decide), q, _, _, _, rfl, rfl, SqT.of hq2, em1, _, _, rfl, rfl, hm10, ?_⟩
      have v1 := Int.emod_nonneg ((b * (2 * (c + 1) + 1) + 5003 * (c + 1) * (c + 1) + 97) ^ Int.toNat 3) (show m1 ≠ 0 by omega)
      have v2 := Int.emod_lt_of_pos ((b * (2 * (c + 1) + 1) + 5003 * (c + 1) * (c + 1) + 97) ^ Int.toNat 3) hm10
      refine ⟨_, rfl, _, _, rfl, rfl, ⟨by decide, by decide⟩, _, rfl, _, _, rfl, rfl, .inl ⟨by decide, by decide⟩, _, _, rfl, rfl, _, _, rfl, rfl, ?_⟩
      refine ⟨_, rfl, _, rfl, _, _, rfl, rfl, .inl ⟨by omega, by omega⟩, _, rfl, _, rfl, _, _, rfl, rfl, _, _, rfl, rfl, (by show (0 : Int) < 7; decide), q, _, _, _, rfl, rfl, SqT.of hq2, em2, _, _, rfl, rfl, hm20, _, _, rfl, rfl, ⟨by decide, by decide⟩, _, rfl, _, _, rfl, rfl, hm0, ?_⟩
      exact k _ _ (Int.emod_nonneg _ (by omega)) (Int.emod_lt_of_pos _ hm0) ⟨a, b, c + 1, hp2, ha, hb0, hb1, by omega, by omega⟩ (Fr.at (Fr.new Fr.refl hq))

theorem sb_take {δ : List Slot} {n : Nat} {Φ : D → Nat → Prop} {many : Int} (hn : n < 2 ^ 40) (h0 : 0 < many) (h1 : many < 2 ^ 128) (k : ∀ r : Int, 0 ≤ r → r < many → Φ (.int r) (n + 1)) : SB K sp_law_take [.int many] δ n Φ := fun p M G0 H0 G H σ E vs h Q X q => by
  cases h with
  | cons a r =>
    cases r
    cases a
    exact ⟨p, n, many, rfl, (E.bagged p rfl).1, hn, h0, h1, fun r H' r0 r1 bg fr => q _ _ G H' (n + 1) (k r r0 r1) (E.drawn bg fr) (Sub.refl G) (.int r)⟩
/-! _law_field -/
def sp_law_field (K : PySem.W.Frag) : Sp := spP K fun ds Φ => ∃ z : Str, ds = [.str z] ∧ z.length ≤ 1000 ∧ Φ (.lst ((fieldI z).map D.int))
theorem ok_law_field (T : Txt K mg) : FnOk P w K mg base CX0 1 T.f_law_field T.fd_law_field ["_law_words"] (sp_law_field K) := by
  refine fn_P T.F_law_field sc_law_field (fun ds Φ h => ?_) (fun cdv A outer s H E hr => ⟨_, (pss_one (ps_ret (pe_op op_cat (pe_lst (pa_cons (pe_callB call_len_str (by rfl) T.z_len (by decide +kernel) (pa_cons (pv 0) pa_nil)) pa_nil)) (pe_lc (own := [("_law_sign", 1)]) (g := gName 1) (by rfl) sc_law_field.nd (pi_str (pv 0)) (blkOk_by (own := [("_law_sign", 1)]) (N := ["_law_words", "_law_sign"]) (sc := defScope s_law_field) (by decide +kernel)) (fun _ _ _ _ _ => (pg_name (i := 1) sc_law_field.nd rfl (Or.inl rfl))) (fun _ _ _ _ _ => pts_nil) (fun _ _ _ _ _ => (pe_callB call_ord (by rfl) T.z_ord (by decide +kernel) (pa_cons (pv 1) pa_nil))))))), fun ds Φ h => ?_⟩)
  · obtain ⟨z, rfl, _⟩ := h
    rfl
  · obtain ⟨z, rfl, hz, k⟩ := h
    walk_at "k"
    walk_at "g"
    refine gk_map1 (f := ordD) ?_ ?_
    · exact fun _ h => nomatch h
    walk_at "g"
    have hl := charsD_len z
    refine ⟨by omega, fun x hx => ?_, ?_⟩
    · obtain ⟨c, _, rfl⟩ := charsD_mem hx
      walk_at "g"
      exact ⟨rfl, rfl⟩
    · walk_at "g"
      rw [ords_is]
      exact k
theorem c_law_field {δ : List Slot} {n : Nat} {Φ : D → Nat → Prop} {z : Str} (hz : z.length ≤ 1000) (k : Φ (.lst ((fieldI z).map D.int)) n) : SC K (sp_law_field K) [.str z] δ n Φ := sc_P ⟨z, rfl, hz, k⟩
local macro_rules | `(tactic| walk_at "e1") => `(tactic| ((with_reducible refine c_law_field ?_ ?_); (focus (walk_at "ls"))))
/-! _law_card -/
def sp_law_card (K : PySem.W.Frag) : Sp := spP K fun ds Φ => ∃ ns : List Int, ds = [.lst (ns.map D.int)] ∧ ns.length ≤ 10000 ∧ Φ (.lst ((fillI ns).map D.int))
theorem ok_law_card (T : Txt K mg) : FnOk P w K mg base CX0 1 T.f_law_card T.fd_law_card ["_law_some"] (sp_law_card K) := by
  refine fn_P T.F_law_card sc_law_card (fun ds Φ h => ?_) (fun cdv A outer s H E hr => ⟨_, (pss_one (ps_ret (pe_op op_cat (pv 0) (pe_op op_rep (pe_lst (pa_cons pe_int pa_nil)) (pe_op op_sub pe_int (pe_callB call_len_seq (by rfl) T.z_len (by decide +kernel) (pa_cons (pv 0) pa_nil))))))), fun ds Φ h => ?_⟩)
  · obtain ⟨ns, rfl, _⟩ := h
    rfl
  · obtain ⟨ns, rfl, hz, k⟩ := h
    walk_at "k"
    walk_at "g"
    refine rk_rep (by rw [List.length_map]; omega) (by rw [List.length_map]; omega) (by rw [List.length_map]; show 1 * _ ≤ _; omega) ?_
    rw [List.length_map, fill_flat]
    refine rk_cat (by simp only [List.length_map, List.length_replicate]; omega) ?_
    rw [← List.map_append]
    exact k
theorem c_law_card {δ : List Slot} {n : Nat} {Φ : D → Nat → Prop} {ns : List Int} {ds : List D} (e : ds = ns.map D.int) (hz : ns.length ≤ 10000) (k : Φ (.lst ((fillI ns).map D.int)) n) : SC K (sp_law_card K) [.lst ds] δ n Φ := sc_P ⟨ns, by rw [e], hz, k⟩
/-! box_card -/
def sp_box_card (K : PySem.W.Frag) : Sp := spP K fun ds Φ => ∃ (nm tp lf rt : Str) (rows : Int), ds = [.str nm, .str tp, .str lf, .str rt, .int rows] ∧ nm.length ≤ 100 ∧ tp.length ≤ 100 ∧ lf.length ≤ 100 ∧ rt.length ≤ 100 ∧ Φ (.tup ((fillI (1 :: (fieldI nm ++ fieldI tp ++ fieldI lf ++ fieldI rt ++ [rows]))).map D.int))
theorem ok_box_card (T : Txt K mg) : FnOk P w K mg base CX0 2 T.f_box_card T.fd_box_card ["name", "top", "left", "right", "rows"] (sp_box_card K) := by
  refine fn_P T.F_box_card sc_box_card (fun ds Φ h => ?_) (fun cdv A outer s H E hr => ⟨_, (pss_one (ps_ret (pe_call (ok_filled T) (hr.mono (by decide)) (by rfl) T.m_filled T.F_filled.kp T.b_filled .nil pass0 (pa_cons (pe_op op_cat (pe_op op_cat (pe_op op_cat (pe_op op_cat (pe_op op_cat (pe_lst (pa_cons (pe_glob (v := .int 1) (by rfl) T.g_BOX ⟨_, rfl⟩) pa_nil)) (pe_call (ok_field T) (hr.mono (by decide)) (by rfl) T.m_field T.F_field.kp T.b_field .nil pass0 (pa_cons (pv 0) pa_nil))) (pe_call (ok_field T) (hr.mono (by decide)) (by rfl) T.m_field T.F_field.kp T.b_field .nil pass0 (pa_cons (pv 1) pa_nil))) (pe_call (ok_field T) (hr.mono (by decide)) (by rfl) T.m_field T.F_field.kp T.b_field .nil pass0 (pa_cons (pv 2) pa_nil))) (pe_call (ok_field T) (hr.mono (by decide)) (by rfl) T.m_field T.F_field.kp T.b_field .nil pass0 (pa_cons (pv 3) pa_nil))) (pe_lst (pa_cons (pv 4) pa_nil))) pa_nil)))), fun ds Φ h => ?_⟩)
  · obtain ⟨nm, tp, lf, rt, rows, rfl, _⟩ := h
    rfl
  · obtain ⟨nm, tp, lf, rt, rows, rfl, h1, h2, h3, h4, k⟩ := h
    walk_at "k"
    have e1 := fieldI_len nm
    have e2 := fieldI_len tp
    have e3 := fieldI_len lf
    have e4 := fieldI_len rt
    walk_at "g"
    refine c_filled (ns := 1 :: (fieldI nm ++ fieldI tp ++ fieldI lf ++ fieldI rt ++ [rows])) (by simp) (by walk_at "ls") ?_
    exact k
/-! row_card -/
inductive Told where
  | txt (z : Str) | long (m r : Int)
def Told.d : Told → D
  | .txt z => .str z
  | .long m r => .tup [.int m, .int r]
def Told.ok : Told → Prop
  | .txt z => z.length ≤ 100
  | .long _ _ => True
def Told.is : Told → List Int
  | .txt z => fieldI z
  | .long m r => [255, m / 256, m % 256, r]
theorem Told.len {t : Told} (h : t.ok) : t.is.length ≤ 101 := by
  cases t with
  | txt z =>
    show (fieldI z).length ≤ 101
    rw [fieldI_len]
    exact Nat.succ_le_succ h
  | long m r => exact (by decide : 4 ≤ 101)
def rowI (bx ky lf rt : Str) (t : Told) : List Int := 2 :: (fieldI bx ++ fieldI ky ++ fieldI lf ++ fieldI rt ++ t.is)
def sp_row_card (K : PySem.W.Frag) : Sp := spP K fun ds Φ => ∃ (bx ky lf rt : Str) (t : Told), ds = [.str bx, .str ky, .str lf, .str rt, t.d] ∧ bx.length ≤ 100 ∧ ky.length ≤ 100 ∧ lf.length ≤ 100 ∧ rt.length ≤ 100 ∧ t.ok ∧ Φ (.tup ((fillI (rowI bx ky lf rt t)).map D.int))
theorem ok_row_card (T : Txt K mg) : FnOk P w K mg base CX0 2 T.f_row_card T.fd_row_card ["box", "key", "left", "right", "text"] (sp_row_card K) := by
  refine fn_P T.F_row_card sc_row_card (fun ds Φ h => ?_) (fun cdv A outer s H E hr => ⟨_, (pss_cons (ps_set (i := 5) sc_row_card.nd rfl (Or.inl rfl) (pe_ifExp (pt_val (pe_callB call_isi (by rfl) T.z_isinstance (by decide +kernel) (pa_cons (pv 4) (pa_cons (pe_bltn (v := .ty "str") (u := .type "str") (by rfl) T.z_str (by decide +kernel) rfl) pa_nil)))) (pe_call (ok_field T) (hr.mono (by decide)) (by rfl) T.m_field T.F_field.kp T.b_field .nil pass0 (pa_cons (pv 4) pa_nil)) (pe_op op_cat (pe_op op_cat (pe_lst (pa_cons (pe_glob (v := .int 255) (by rfl) T.g_LONG ⟨_, rfl⟩) pa_nil)) (pe_call (ok_mark_bytes T) (hr.mono (by decide)) (by rfl) T.m_mark_bytes T.F_mark_bytes.kp T.b_mark_bytes .nil pass0 (pa_cons (pe_ix ix_tup (pv 4) pe_int (fun _ _ => rfl)) pa_nil))) (pe_lst (pa_cons (pe_ix ix_tup (pv 4) pe_int (fun _ _ => rfl)) pa_nil)))))
      (pss_one (ps_ret (pe_call (ok_filled T) (hr.mono (by decide)) (by rfl) T.m_filled T.F_filled.kp T.b_filled .nil pass0 (pa_cons (pe_op op_cat (pe_op op_cat (pe_op op_cat (pe_op op_cat (pe_op op_cat (pe_lst (pa_cons (pe_glob (v := .int 2) (by rfl) T.g_ROW ⟨_, rfl⟩) pa_nil)) (pe_call (ok_field T) (hr.mono (by decide)) (by rfl) T.m_field T.F_field.kp T.b_field .nil pass0 (pa_cons (pv 0) pa_nil))) (pe_call (ok_field T) (hr.mono (by decide)) (by rfl) T.m_field T.F_field.kp T.b_field .nil pass0 (pa_cons (pv 1) pa_nil))) (pe_call (ok_field T) (hr.mono (by decide)) (by rfl) T.m_field T.F_field.kp T.b_field .nil pass0 (pa_cons (pv 2) pa_nil))) (pe_call (ok_field T) (hr.mono (by decide)) (by rfl) T.m_field T.F_field.kp T.b_field .nil pass0 (pa_cons (pv 3) pa_nil))) (pv 5)) pa_nil))))), fun ds Φ h => ?_⟩)
  · obtain ⟨bx, ky, lf, rt, t, rfl, _⟩ := h
    rfl
  · obtain ⟨bx, ky, lf, rt, t, rfl, h1, h2, h3, h4, h5, k⟩ := h
    walk_at "k"
    have e1 := fieldI_len bx
    have e2 := fieldI_len ky
    have e3 := fieldI_len lf
    have e4 := fieldI_len rt
    cases t with
    | txt z =>
      have hz : z.length ≤ 100 := h5
      have e5 := fieldI_len z
      dsimp only [Told.d]
      walk_at "g"
      refine ⟨_, kitOne_self, ?_⟩
      walk_at "g"
      refine c_filled (ns := rowI bx ky lf rt (.txt z)) (by simp [rowI, Told.is]) (by simp only [rowI, Told.is]; walk_at "ls") ?_
      exact k
    | long m r =>
      dsimp only [Told.d]
      walk_at "g"
      refine ⟨_, T.kn_tuple_str, ?_⟩
      walk_at "g"
      refine c_filled (ns := rowI bx ky lf rt (.long m r)) (by simp [rowI, Told.is]) (by simp only [rowI, Told.is]; walk_at "ls") ?_
      exact k
/-! text_card -/
def sp_text_card (K : PySem.W.Frag) : Sp := spP K fun ds Φ => ∃ (z : Str) (m rank rows : Int), ds = [.str z, .int m, .int rank, .int rows] ∧ z.length ≤ 100 ∧ Φ (.tup ((fillI (3 :: m / 256 :: m % 256 :: rank :: rows :: fieldI z)).map D.int))
theorem ok_text_card (T : Txt K mg) : FnOk P w K mg base CX0 2 T.f_text_card T.fd_text_card ["text", "mark", "rank", "rows"] (sp_text_card K) := by
  refine fn_P T.F_text_card sc_text_card (fun ds Φ h => ?_) (fun cdv A outer s H E hr => ⟨_, (pss_one (ps_ret (pe_call (ok_filled T) (hr.mono (by decide)) (by rfl) T.m_filled T.F_filled.kp T.b_filled .nil pass0 (pa_cons (pe_op op_cat (pe_op op_cat (pe_op op_cat (pe_lst (pa_cons (pe_glob (v := .int 3) (by rfl) T.g_TEXT ⟨_, rfl⟩) pa_nil)) (pe_call (ok_mark_bytes T) (hr.mono (by decide)) (by rfl) T.m_mark_bytes T.F_mark_bytes.kp T.b_mark_bytes .nil pass0 (pa_cons (pv 1) pa_nil))) (pe_lst (pa_cons (pv 2) (pa_cons (pv 3) pa_nil)))) (pe_call (ok_field T) (hr.mono (by decide)) (by rfl) T.m_field T.F_field.kp T.b_field .nil pass0 (pa_cons (pv 0) pa_nil))) pa_nil)))), fun ds Φ h => ?_⟩)
  · obtain ⟨z, m, rank, rows, rfl, _⟩ := h
    rfl
  · obtain ⟨z, m, rank, rows, rfl, h1, k⟩ := h
    walk_at "k"
    have e1 := fieldI_len z
    walk_at "g"
    refine c_filled (ns := 3 :: m / 256 :: m % 256 :: rank :: rows :: fieldI z) (by simp) (by walk_at "ls") ?_
    exact k
/-! head_card -/
def sp_head_card (K : PySem.W.Frag) : Sp := spP K fun ds Φ => ∃ (sd pg cd : Int) (tp : Str), ds = [.int sd, .int pg, .int cd, .str tp] ∧ tp.length ≤ 100 ∧ Φ (.tup ((fillI (9 :: sd / 256 / 256 :: sd / 256 % 256 :: sd % 256 :: pg :: cd :: fieldI tp)).map D.int))
theorem ok_head_card (T : Txt K mg) : FnOk P w K mg base CX0 2 T.f_head_card T.fd_head_card ["seed", "pages", "cards", "top"] (sp_head_card K) := by
  refine fn_P T.F_head_card sc_head_card (fun ds Φ h => ?_) (fun cdv A outer s H E hr => ⟨_, (pss_cons (ps_set (i := 4) sc_head_card.nd rfl (Or.inl rfl) (pe_lst (pa_cons (pe_op op_fdiv (pe_op op_fdiv (pv 0) (pe_glob (v := .int 256) (by rfl) T.g_BYTE ⟨_, rfl⟩)) (pe_glob (v := .int 256) (by rfl) T.g_BYTE ⟨_, rfl⟩)) (pa_cons (pe_op op_mod (pe_op op_fdiv (pv 0) (pe_glob (v := .int 256) (by rfl) T.g_BYTE ⟨_, rfl⟩)) (pe_glob (v := .int 256) (by rfl) T.g_BYTE ⟨_, rfl⟩)) (pa_cons (pe_op op_mod (pv 0) (pe_glob (v := .int 256) (by rfl) T.g_BYTE ⟨_, rfl⟩)) pa_nil)))))
      (pss_one (ps_ret (pe_call (ok_filled T) (hr.mono (by decide)) (by rfl) T.m_filled T.F_filled.kp T.b_filled .nil pass0 (pa_cons (pe_op op_cat (pe_op op_cat (pe_op op_cat (pe_lst (pa_cons (pe_glob (v := .int 9) (by rfl) T.g_HEAD ⟨_, rfl⟩) pa_nil)) (pv 4)) (pe_lst (pa_cons (pv 1) (pa_cons (pv 2) pa_nil)))) (pe_call (ok_field T) (hr.mono (by decide)) (by rfl) T.m_field T.F_field.kp T.b_field .nil pass0 (pa_cons (pv 3) pa_nil))) pa_nil))))), fun ds Φ h => ?_⟩)
  · obtain ⟨sd, pg, cd, tp, rfl, _⟩ := h
    rfl
  · obtain ⟨sd, pg, cd, tp, rfl, h1, k⟩ := h
    walk_at "k"
    have e1 := fieldI_len tp
    walk_at "g"
    refine c_filled (ns := 9 :: sd / 256 / 256 :: sd / 256 % 256 :: sd % 256 :: pg :: cd :: fieldI tp) (by simp) (by walk_at "ls") ?_
    exact k
/-! _law_name -/
def sp_law_name : Sp := fun vs H Q _ => ∃ (p : Addr) (n : Nat) (most : Int), vs = [.ref p, .int most] ∧ Bag H p n ∧ n + 20 < 2 ^ 40 ∧ 0 < most ∧ most ≤ 8 ∧
  ∀ (cs : List Nat) (H' : Hp), Nm cs most → Bag H' p (n + 9) → Fr p H H' → Q (.str (S cs)) H'
theorem ok_law_name (T : Txt K mg) : FnOk P w K mg base CX0 2 T.f_law_name T.fd_law_name ["_law_bag_here", "_law_most"] sp_law_name := by
  refine T.F_law_name.ok sc_law_name (fun vs H Q E h => ?_) (fun cdv A outer s H vs Q E hr h => ?_)
  · obtain ⟨p, n, most, rfl, _⟩ := h
    rfl
  · obtain ⟨p, n, most, rfl, bg, hn, hm0, hm1, k⟩ := h
    refine ⟨_, (pss_cons (ps_set (i := 2) sc_law_name.nd rfl (Or.inr rfl) pe_str)
      (pss_one (ps_ret (pe_join pe_str (pe_lc (own := [("_law_k", 3)]) (g := gName 3) (by rfl) sc_law_name.nd (pi_range1 (by rfl) T.z_range (pa_cons (pe_op op_add pe_int (pe_call (ok_law_take T) (hr.mono (by decide)) (by rfl) T.m_law_take T.F_law_take.kp T.b_law_take .nil pass0 (pa_cons (pv 0) (pa_cons (pv 1) pa_nil)))) pa_nil)) (blkOk_by (own := [("_law_k", 3)]) (N := ["_law_bag_here", "_law_most", "_law_letters", "_law_k"]) (sc := defScope s_law_name) (by decide +kernel)) (fun _ _ _ _ _ => (pg_name (i := 3) sc_law_name.nd rfl (Or.inl rfl))) (fun _ _ _ _ _ => pts_nil) (fun _ _ _ _ _ => (pe_ix ix_str (pv 2) (pe_call (ok_law_take T) (hr.mono (by decide)) (by rfl) T.m_law_take T.F_law_take.kp T.b_law_take .nil pass0 (pa_cons (pv 0) (pa_cons pe_int pa_nil))) (fun _ _ => rfl)))))))), ?_⟩
    refine ⟨⟨_, rfl⟩, _, rfl, _, rfl, p, n, most, rfl, bg, by omega, hm0, by omega, fun r H1 h0 h1 bg1 fr1 => ?_⟩
    refine ⟨_, _, rfl, rfl, _, rfl, by omega, by omega, fun D hD => ?_⟩
    have nDp : D ≠ p := bg1.ne hD
    have hD0 : H D = none := fr1.free hD nDp
    refine lc_range (lo := 0) (n := (1 + r).toNat) (fun i H2 => ∃ cs : List Nat, cs.length = i ∧ (∀ c ∈ cs, 97 ≤ c ∧ c ≤ 122) ∧ H2 D = some (.lst (ones cs)) ∧ Bag H2 p (n + 1 + i) ∧ Fr p H H2)
      ⟨[], rfl, (fun _ h => nomatch h), upd_same, bg1.mut nDp, fr1.mut hD0⟩ ?_ ?_
    · rintro i H2 hi ⟨cs, hl, hc, hD2, bg2, fr2⟩
      refine ⟨rfl, tYes_go ?_⟩
      refine ⟨_, rfl, _, rfl, p, _, _, rfl, bg2, by omega, by decide, by decide, fun r2 H3 h20 h21 bg3 fr3 => ?_⟩
      obtain ⟨c, ec, mc⟩ := sign_at (z := "abcdefghijklmnopqrstuvwxyz") h20 h21
      refine ⟨_, _, _, rfl, rfl, by decide, ec, _, fr3 D _ nDp hD2, by rw [ones_len]; exact sz_lt (by omega), cs ++ [c], by rw [List.length_append, hl]; rfl, fun x hx => ?_, ?_, ?_, ?_⟩
      · rcases List.mem_append.mp hx with h | h
        · exact hc x h
        · rw [List.mem_singleton.mp h]
          exact letters_ok c mc
      · rw [← ones_snoc]
        exact upd_same
      · exact (bg3.up (by omega)).mut nDp
      · exact (fr2.trans fr3).mut hD0
    · rintro H2 ⟨cs, hl, hc, hD2, bg2, fr2⟩
      refine ⟨_, D, cs.map fun c => S [c], rfl, rfl, .inl (SqL.of hD2), ?_, ?_⟩
      · rw [ones_sum]
        show cs.length * (0 + 1) ≤ 16777216
        omega
      · rw [show (Str.ofString "" : Str) = S [] from rfl, join_ones]
        exact k cs H2 ⟨by omega, by omega, hc⟩ (bg2.up (by omega)) fr2

theorem sb_name {δ : List Slot} {n : Nat} {Φ : D → Nat → Prop} {most : Int} (hn : n + 20 < 2 ^ 40) (h0 : 0 < most) (h1 : most ≤ 8) (k : ∀ cs, Nm cs most → Φ (.str (S cs)) (n + 9)) : SB K sp_law_name [.int most] δ n Φ := fun p M G0 H0 G H σ E vs h Q X q => by
  cases h with
  | cons a r =>
    cases r
    cases a
    exact ⟨p, n, most, rfl, (E.bagged p rfl).1, hn, h0, h1, fun cs H' nm bg fr => q _ _ G H' (n + 9) (k cs nm) (E.drawn bg fr) (Sub.refl G) (.str _)⟩
/-! _law_short -/
def sp_law_short (K : PySem.W.Frag) : Sp := spB K fun n ds Φ => ds = [] ∧ n ≤ 2 ^ 39 ∧ ∀ cs m, cs.length ≤ 8 → (∀ c ∈ cs, c ∈ tl " az~09AZ:;,.-_|!\"'()") → m ≤ n + 10 → Φ (.str (S cs)) m
theorem ok_law_short (T : Txt K mg) : FnOk P w K mg base CX0 2 T.f_law_short T.fd_law_short ["_law_bag_here"] (sp_law_short K) := by
  refine fn_B T.F_law_short sc_law_short (fun n ds Φ h => ?_) (fun cdv A outer s H E hr => ⟨_, (pss_cons (ps_set (i := 1) sc_law_short.nd rfl (Or.inr rfl) pe_str)
      (pss_one (ps_ret (pe_join pe_str (pe_lc (own := [("_law_k", 2)]) (g := gName 2) (by rfl) sc_law_short.nd (pi_range1 (by rfl) T.z_range (pa_cons (pe_call (ok_law_take T) (hr.mono (by decide)) (by rfl) T.m_law_take T.F_law_take.kp T.b_law_take .nil pass0 (pa_cons (pv 0) (pa_cons pe_int pa_nil))) pa_nil)) (blkOk_by (own := [("_law_k", 2)]) (N := ["_law_bag_here", "_law_signs", "_law_k"]) (sc := defScope s_law_short) (by decide +kernel)) (fun _ _ _ _ _ => (pg_name (i := 2) sc_law_short.nd rfl (Or.inl rfl))) (fun _ _ _ _ _ => pts_nil) (fun _ _ _ _ _ => (pe_ix ix_str (pv 1) (pe_call (ok_law_take T) (hr.mono (by decide)) (by rfl) T.m_law_take T.F_law_take.kp T.b_law_take .nil pass0 (pa_cons (pv 0) (pa_cons (pe_callB call_len_str (by rfl) T.z_len (by decide +kernel) (pa_cons (pv 1) pa_nil)) pa_nil))) (fun _ _ => rfl)))))))), fun p n ds Φ h => ?_⟩)
  · rw [h.1]
    rfl
  · obtain ⟨rfl, hn, k⟩ := h
    walk_at "k"
    walk_at "g"

    refine gk_draw1 (Pd := fun y => ∃ c, c ∈ tl " az~09AZ:;,.-_|!\"'()" ∧ y = .str (S [c])) 1 ?_ ?_
    · exact fun _ h => nomatch h
    walk_at "g"
    refine sb_take (by omega) (by decide) (by decide) fun r h0 h1 => ?_
    walk_at "g"
    refine ⟨by omega, by omega, ?_⟩
    refine ⟨by rw [rangeD_len]; omega, fun i x m hx hm => ?_, fun ys m hl hy hm => ?_⟩
    · obtain ⟨hi, rfl⟩ := rangeD_at hx
      walk_at "g"
      refine sb_take (by omega) (by decide) (by decide) fun r2 h20 h21 => ?_
      obtain ⟨c, ec, mc⟩ := sign_at (z := " az~09AZ:;,.-_|!\"'()") h20 h21
      exact rk_ixS (by decide) ec ⟨⟨c, mc, rfl⟩, by omega⟩
    · obtain ⟨cs, rfl, h2, h3⟩ := ones_of hy
      rw [rangeD_len] at hl hm
      exact ru_ones (by omega) (k cs m (by omega) h2 (by omega))
/-! _law_long -/
def sp_law_long (K : PySem.W.Frag) : Sp := spB K fun n ds Φ => ds = [] ∧ n ≤ 2 ^ 39 ∧ ∀ cs m, cs.length ≤ 40 → (∀ c ∈ cs, c ∈ tl "ab yz~:;-_09") → m ≤ n + 44 → Φ (.str (S cs)) m
theorem ok_law_long (T : Txt K mg) : FnOk P w K mg base CX0 2 T.f_law_long T.fd_law_long ["_law_bag_here"] (sp_law_long K) := by
  refine fn_B T.F_law_long sc_law_long (fun n ds Φ h => ?_) (fun cdv A outer s H E hr => ⟨_, (pss_cons (ps_set (i := 1) sc_law_long.nd rfl (Or.inr rfl) pe_str)
      (pss_cons (ps_set (i := 2) sc_law_long.nd rfl (Or.inl rfl) (pe_ix ix_list (pe_lst (pa_cons pe_int (pa_cons (pe_op op_add pe_int (pe_call (ok_law_take T) (hr.mono (by decide)) (by rfl) T.m_law_take T.F_law_take.kp T.b_law_take .nil pass0 (pa_cons (pv 0) (pa_cons pe_int pa_nil)))) pa_nil))) (pe_call (ok_law_take T) (hr.mono (by decide)) (by rfl) T.m_law_take T.F_law_take.kp T.b_law_take .nil pass0 (pa_cons (pv 0) (pa_cons pe_int pa_nil))) (fun _ _ => rfl)))
      (pss_one (ps_ret (pe_join pe_str (pe_lc (own := [("_law_k", 3)]) (g := gName 3) (by rfl) sc_law_long.nd (pi_range1 (by rfl) T.z_range (pa_cons (pv 2) pa_nil)) (blkOk_by (own := [("_law_k", 3)]) (N := ["_law_bag_here", "_law_signs", "_law_many", "_law_k"]) (sc := defScope s_law_long) (by decide +kernel)) (fun _ _ _ _ _ => (pg_name (i := 3) sc_law_long.nd rfl (Or.inl rfl))) (fun _ _ _ _ _ => pts_nil) (fun _ _ _ _ _ => (pe_ix ix_str (pv 1) (pe_call (ok_law_take T) (hr.mono (by decide)) (by rfl) T.m_law_take T.F_law_take.kp T.b_law_take .nil pass0 (pa_cons (pv 0) (pa_cons (pe_callB call_len_str (by rfl) T.z_len (by decide +kernel) (pa_cons (pv 1) pa_nil)) pa_nil))) (fun _ _ => rfl))))))))), fun p n ds Φ h => ?_⟩)
  · rw [h.1]
    rfl
  · obtain ⟨rfl, hn, k⟩ := h
    walk_at "k"
    walk_at "g"
    refine sb_take (by omega) (by decide) (by decide) fun r h0 h1 => ?_
    walk_at "g"
    refine sb_take (by omega) (by decide) (by decide) fun r1 h10 h11 => ?_
    obtain ⟨d, ed, hd⟩ := at_2 (a := .int 9) (b := .int (9 + r)) h10 h11
    refine rk_ixL ed ?_
    obtain ⟨mm, rfl, m0, m1⟩ : ∃ mm : Int, d = .int mm ∧ 9 ≤ mm ∧ mm ≤ 40 := by
      rcases hd with rfl | rfl
      · exact ⟨_, rfl, by decide, by decide⟩
      · exact ⟨_, rfl, by omega, by omega⟩
    walk_at "g"
    refine gk_draw1 (Pd := fun y => ∃ c, c ∈ tl "ab yz~:;-_09" ∧ y = .str (S [c])) 1 ?_ ?_
    · exact fun _ h => nomatch h
    walk_at "g"
    refine ⟨by omega, by omega, ?_⟩
    refine ⟨by rw [rangeD_len]; omega, fun i x m hx hm => ?_, fun ys m hl hy hm => ?_⟩
    · obtain ⟨hi, rfl⟩ := rangeD_at hx
      walk_at "g"
      refine sb_take (by omega) (by decide) (by decide) fun r2 h20 h21 => ?_
      obtain ⟨c, ec, mc⟩ := sign_at (z := "ab yz~:;-_09") h20 h21
      exact rk_ixS (by decide) ec ⟨⟨c, mc, rfl⟩, by omega⟩
    · obtain ⟨cs, rfl, h2, h3⟩ := ones_of hy
      rw [rangeD_len] at hl hm
      exact ru_ones (by omega) (k cs m (by omega) h2 (by omega))
/-! _law_seed -/
def sp_law_seed : Sp := fun vs H Q _ => ∃ (p : Addr) (n : Nat), vs = [.ref p] ∧ Bag H p n ∧ n + 20 < 2 ^ 40 ∧
  ∀ (r : Int) (H' : Hp), 0 ≤ r → r ≤ 999999 → Bag H' p (n + 2) → Fr p H H' → Q (.int r) H'
theorem ok_law_seed (T : Txt K mg) : FnOk P w K mg base CX0 2 T.f_law_seed T.fd_law_seed ["_law_bag_here"] sp_law_seed := by
  refine T.F_law_seed.ok sc_law_seed (fun vs H Q E h => ?_) (fun cdv A outer s H vs Q E hr h => ?_)
  · obtain ⟨p, n, rfl, _⟩ := h
    rfl
  · obtain ⟨p, n, rfl, bg, hn, k⟩ := h
    refine ⟨_, (pss_one (ps_ret (pe_ix ix_list (pe_lst (pa_cons pe_int (pa_cons pe_int (pa_cons pe_int (pa_cons (pe_call (ok_law_take T) (hr.mono (by decide)) (by rfl) T.m_law_take T.F_law_take.kp T.b_law_take .nil pass0 (pa_cons (pv 0) (pa_cons pe_int pa_nil))) pa_nil))))) (pe_call (ok_law_take T) (hr.mono (by decide)) (by rfl) T.m_law_take T.F_law_take.kp T.b_law_take .nil pass0 (pa_cons (pv 0) (pa_cons pe_int pa_nil))) (fun _ _ => rfl)))), ?_⟩
    refine ⟨_, rfl, p, n, _, rfl, bg, by omega, by decide, by decide, fun r H1 h0 h1 bg1 fr1 => ?_⟩
    refine ⟨sz4, fun q hq => ?_⟩
    have nqp : q ≠ p := bg1.ne hq
    refine ⟨_, rfl, p, _, _, rfl, bg1.mut nqp, by omega, by decide, by decide, fun r2 H2 h20 h21 bg2 fr2 => ?_⟩
    have hq2 : H2 q = some (.lst [.int 0, .int 7, .int 999999, .int r]) := fr2 q _ nqp upd_same
    have e : ∃ v : Int, atI [V.int 0, .int 7, .int 999999, .int r] r2 = some (.int v) ∧ 0 ≤ v ∧ v ≤ 999999 := by
      obtain ⟨j, rfl⟩ : ∃ j : Nat, r2 = (j : Int) := ⟨r2.toNat, by omega⟩
      match j, h21 with
      | 0, _ => exact ⟨_, rfl, by decide, by decide⟩
      | 1, _ => exact ⟨_, rfl, by decide, by decide⟩
      | 2, _ => exact ⟨_, rfl, by decide, by decide⟩
      | 3, _ => exact ⟨_, rfl, h0, by omega⟩
    obtain ⟨v, ev, hv0, hv1⟩ := e
    refine ⟨q, _, _, _, rfl, rfl, SqL.of hq2, ev, ?_⟩
    exact k v H2 hv0 hv1 bg2 ((fr1.new hq).trans fr2)

theorem sb_seed {δ : List Slot} {n : Nat} {Φ : D → Nat → Prop} (hn : n + 20 < 2 ^ 40) (k : ∀ r : Int, 0 ≤ r → r ≤ 999999 → Φ (.int r) (n + 2)) : SB K sp_law_seed [] δ n Φ := fun p M G0 H0 G H σ E vs h Q X q => by
  cases h
  exact ⟨p, n, rfl, (E.bagged p rfl).1, hn, fun r H' r0 r1 bg fr => q _ _ G H' (n + 2) (k r r0 r1) (E.drawn bg fr) (Sub.refl G) (.int r)⟩
/-! _law_row_due -/
def sp_law_row_due (K : PySem.W.Frag) : Sp := spP K fun ds Φ => ∃ (bx ky lf rt : Str) (t : Told), ds = [.str bx, .str ky, .lst [.str lf, .str rt], t.d] ∧ bx.length ≤ 100 ∧ ky.length ≤ 100 ∧ lf.length ≤ 100 ∧ rt.length ≤ 100 ∧ t.ok ∧ Φ (.tup ((fillI (rowI bx ky lf rt t)).map D.int))
theorem ok_law_row_due (T : Txt K mg) : FnOk P w K mg base CX0 2 T.f_law_row_due T.fd_law_row_due ["_law_crate", "_law_tag", "_law_sides", "_law_told"] (sp_law_row_due K) := by
  refine fn_P T.F_law_row_due sc_law_row_due (fun ds Φ h => ?_) (fun cdv A outer s H E hr => ⟨_, (pss_cons (ps_set (i := 4) sc_law_row_due.nd rfl (Or.inl rfl) (pe_op op_cat (pe_op op_cat (pe_lst (pa_cons pe_int pa_nil)) (pe_call (ok_law_field T) (hr.mono (by decide)) (by rfl) T.m_law_field T.F_law_field.kp T.b_law_field .nil pass0 (pa_cons (pv 0) pa_nil))) (pe_call (ok_law_field T) (hr.mono (by decide)) (by rfl) T.m_law_field T.F_law_field.kp T.b_law_field .nil pass0 (pa_cons (pv 1) pa_nil))))
      (pss_cons (ps_set (i := 4) sc_law_row_due.nd rfl (Or.inl rfl) (pe_op op_cat (pe_op op_cat (pv 4) (pe_call (ok_law_field T) (hr.mono (by decide)) (by rfl) T.m_law_field T.F_law_field.kp T.b_law_field .nil pass0 (pa_cons (pe_ix ix_list (pv 2) pe_int (fun _ _ => rfl)) pa_nil))) (pe_call (ok_law_field T) (hr.mono (by decide)) (by rfl) T.m_law_field T.F_law_field.kp T.b_law_field .nil pass0 (pa_cons (pe_ix ix_list (pv 2) pe_int (fun _ _ => rfl)) pa_nil))))
      (pss_cons (ps_if (pt_val (pe_callB call_isi (by rfl) T.z_isinstance (by decide +kernel) (pa_cons (pv 3) (pa_cons (pe_bltn (v := .ty "str") (u := .type "str") (by rfl) T.z_str (by decide +kernel) rfl) pa_nil))))
        (pss_one (ps_ret (pe_callTy call_tuple_of (by rfl) T.z_tuple (by decide +kernel) (pa_cons (pe_call (ok_law_card T) (hr.mono (by decide)) (by rfl) T.m_law_card T.F_law_card.kp T.b_law_card .nil pass0 (pa_cons (pe_op op_cat (pv 4) (pe_call (ok_law_field T) (hr.mono (by decide)) (by rfl) T.m_law_field T.F_law_field.kp T.b_law_field .nil pass0 (pa_cons (pv 3) pa_nil))) pa_nil)) pa_nil))))
        pss_nil)
      (pss_cons (ps_asg (pv 3) (pg_tup (by rfl) (pgs_cons (pg_name (i := 5) sc_law_row_due.nd rfl (Or.inl rfl)) (pgs_cons (pg_name (i := 6) sc_law_row_due.nd rfl (Or.inl rfl)) pgs_nil))))
      (pss_one (ps_ret (pe_callTy call_tuple_of (by rfl) T.z_tuple (by decide +kernel) (pa_cons (pe_call (ok_law_card T) (hr.mono (by decide)) (by rfl) T.m_law_card T.F_law_card.kp T.b_law_card .nil pass0 (pa_cons (pe_op op_cat (pv 4) (pe_lst (pa_cons pe_int (pa_cons (pe_op op_fdiv (pv 5) pe_int) (pa_cons (pe_op op_mod (pv 5) pe_int) (pa_cons (pv 6) pa_nil)))))) pa_nil)) pa_nil)))))))), fun ds Φ h => ?_⟩)
  · obtain ⟨bx, ky, lf, rt, t, rfl, _⟩ := h
    rfl
  · obtain ⟨bx, ky, lf, rt, t, rfl, h1, h2, h3, h4, h5, k⟩ := h
    walk_at "k"
    have e1 := fieldI_len bx
    have e2 := fieldI_len ky
    have e3 := fieldI_len lf
    have e4 := fieldI_len rt
    cases t with
    | txt z =>
      have hz : z.length ≤ 100 := h5
      have e5 := fieldI_len z
      dsimp only [Told.d]
      walk_at "g"
      refine ⟨_, kitOne_self, ?_⟩
      walk_at "g"
      refine c_law_card (ns := rowI bx ky lf rt (.txt z)) (by simp [rowI, Told.is]) (by simp only [rowI, Told.is]; walk_at "ls") ?_
      walk_at "g"
      exact k
    | long m r =>
      dsimp only [Told.d]
      walk_at "g"
      refine ⟨_, T.kn_tuple_str, ?_⟩
      walk_at "g"
      refine gs_unp (vs := [5, 6]) ?_
      walk_at "g"
      refine ⟨_, gg_tup rfl (ggs_cons (gg_name (by decide)) (ggs_cons (gg_name (by decide)) ggs_nil)), ?_⟩
      walk_at "g"
      refine c_law_card (ns := rowI bx ky lf rt (.long m r)) (by simp [rowI, Told.is]) (by simp only [rowI, Told.is]; walk_at "ls") ?_
      walk_at "g"
      exact k
/-! _law_top -/
def sp_law_top (K : PySem.W.Frag) : Sp := spB K fun n ds Φ => ds = [] ∧ n ≤ 2 ^ 39 ∧ ∀ cs m, cs.length ≤ 8 → (∀ c ∈ cs, 97 ≤ c ∧ c ≤ 122) → m ≤ n + 10 → Φ (.str (S cs)) m
theorem ok_law_top (T : Txt K mg) : FnOk P w K mg base CX0 3 T.f_law_top T.fd_law_top ["_law_bag_here"] (sp_law_top K) := by
  refine fn_B T.F_law_top sc_law_top (fun n ds Φ h => ?_) (fun cdv A outer s H E hr => ⟨_, (pss_one (ps_ret (pe_ix ix_list (pe_lst (pa_cons pe_str (pa_cons (pe_call (ok_law_name T) (hr.mono (by decide)) (by rfl) T.m_law_name T.F_law_name.kp T.b_law_name .nil pass0 (pa_cons (pv 0) (pa_cons pe_int pa_nil))) pa_nil))) (pe_call (ok_law_take T) (hr.mono (by decide)) (by rfl) T.m_law_take T.F_law_take.kp T.b_law_take .nil pass0 (pa_cons (pv 0) (pa_cons pe_int pa_nil))) (fun _ _ => rfl)))), fun p n ds Φ h => ?_⟩)
  · rw [h.1]
    rfl
  · obtain ⟨rfl, hn, k⟩ := h
    walk_at "k"
    walk_at "g"
    refine sb_name (by omega) (by decide) (by decide) fun cs nm => ?_
    walk_at "g"
    refine sb_take (by omega) (by decide) (by decide) fun r h0 h1 => ?_
    obtain ⟨d, ed, hd⟩ := at_2 (a := .str "") (b := .str (S cs)) h0 h1
    refine rk_ixL ed ?_
    have := nm.2.1
    rcases hd with rfl | rfl
    · exact k [] _ (by decide) (fun _ z => nomatch z) (by omega)
    · exact k cs _ (by omega) nm.2.2 (by omega)
theorem c_law_top {δ : List Slot} {n : Nat} {Φ : D → Nat → Prop} (hn : n ≤ 2 ^ 39) (k : ∀ cs m, cs.length ≤ 8 → (∀ c ∈ cs, 97 ≤ c ∧ c ≤ 122) → m ≤ n + 10 → Φ (.str (S cs)) m) : SB K (sp_law_top K) [] δ n Φ := sb_P ⟨rfl, hn, k⟩
/-! law -/
def sp_law (K : PySem.W.Frag) : Sp := spL K
theorem nm_len {cs : List Nat} {m : Int} (h : Nm cs m) (hm : m ≤ 8) : (S cs).length ≤ 8 := by
  rw [S_len]
  have := h.2.1
  omega
theorem sl_le {cs : List Nat} {m : Nat} (h : cs.length ≤ m) : (S cs).length ≤ m := by
  rw [S_len]
  exact h
theorem c_box_card {δ : List Slot} {n : Nat} {Φ : D → Nat → Prop} {nm tp lf rt : Str} {rows : Int} (h1 : nm.length ≤ 100) (h2 : tp.length ≤ 100) (h3 : lf.length ≤ 100) (h4 : rt.length ≤ 100) (k : Φ (.tup ((fillI (1 :: (fieldI nm ++ fieldI tp ++ fieldI lf ++ fieldI rt ++ [rows]))).map D.int)) n) : SC K (sp_box_card K) [.str nm, .str tp, .str lf, .str rt, .int rows] δ n Φ :=
  sc_P ⟨_, _, _, _, _, rfl, h1, h2, h3, h4, k⟩
theorem shp_card {ns : List Int} : Shp 1 (.tup (ns.map D.int)) := .tup shp_ints
theorem ok_law (T : Txt K mg) : FnOk P w K mg base CX0 4 T.f_law T.fd_law ["_law_script"] (sp_law K) := by
  refine fn_L T.F_law sc_law rfl (fun cdv A outer s H E hr => ⟨_, (pss_cons (ps_for PassesOwn.never (by rfl) (pi_range1 (by rfl) T.z_range (pa_cons (pe_callB (call_max2 rfl) (by rfl) T.z_max (by decide +kernel) (pa_cons pe_int (pa_cons (pe_callB (call_min2 rfl) (by rfl) T.z_min (by decide +kernel) (pa_cons pe_int (pa_cons (pe_callB call_len_seq (by rfl) T.z_len (by decide +kernel) (pa_cons (pv 0) pa_nil)) pa_nil))) pa_nil))) pa_nil)) (pg_name (i := 1) sc_law.nd rfl (Or.inl rfl))
        (pss_cons (ps_set (i := 2) sc_law.nd rfl (Or.inl rfl) (pe_call (ok_law_bag T) (hr.mono (by decide)) (by rfl) T.m_law_bag T.F_law_bag.kp T.b_law_bag .nil pass0 (pa_cons (pv 0) (pa_cons (pv 1) pa_nil))))
        (pss_cons (ps_par (i := 3) (j := 4) (by rfl) sc_law.nd rfl rfl (by decide) rfl rfl (pa_cons (pe_call (ok_law_name T) (hr.mono (by decide)) (by rfl) T.m_law_name T.F_law_name.kp T.b_law_name .nil pass0 (pa_cons (pv 2) (pa_cons pe_int pa_nil))) (pa_cons (pe_call (ok_law_name T) (hr.mono (by decide)) (by rfl) T.m_law_name T.F_law_name.kp T.b_law_name .nil pass0 (pa_cons (pv 2) (pa_cons pe_int pa_nil))) pa_nil)) (by rfl))
        (pss_cons (ps_par (i := 5) (j := 6) (by rfl) sc_law.nd rfl rfl (by decide) rfl rfl (pa_cons (pe_lst (pa_cons (pe_call (ok_law_top T) (hr.mono (by decide)) (by rfl) T.m_law_top T.F_law_top.kp T.b_law_top .nil pass0 (pa_cons (pv 2) pa_nil)) (pa_cons (pe_call (ok_law_top T) (hr.mono (by decide)) (by rfl) T.m_law_top T.F_law_top.kp T.b_law_top .nil pass0 (pa_cons (pv 2) pa_nil)) pa_nil))) (pa_cons (pe_call (ok_law_take T) (hr.mono (by decide)) (by rfl) T.m_law_take T.F_law_take.kp T.b_law_take .nil pass0 (pa_cons (pv 2) (pa_cons pe_int pa_nil))) pa_nil)) (by rfl))
        (pss_cons (ps_par3 (i := 7) (j := 8) (l := 9) (by rfl) sc_law.nd rfl rfl rfl (by decide) (by decide) (by decide) rfl rfl rfl (pa_cons (pe_call (ok_law_top T) (hr.mono (by decide)) (by rfl) T.m_law_top T.F_law_top.kp T.b_law_top .nil pass0 (pa_cons (pv 2) pa_nil)) (pa_cons (pe_call (ok_law_take T) (hr.mono (by decide)) (by rfl) T.m_law_take T.F_law_take.kp T.b_law_take .nil pass0 (pa_cons (pv 2) (pa_cons pe_int pa_nil))) (pa_cons (pe_call (ok_law_take T) (hr.mono (by decide)) (by rfl) T.m_law_take T.F_law_take.kp T.b_law_take .nil pass0 (pa_cons (pv 2) (pa_cons pe_int pa_nil))) pa_nil))) (by rfl))
        (pss_cons (ps_set (i := 10) sc_law.nd rfl (Or.inl rfl) (pe_op op_cat (pe_op op_cat (pe_lst (pa_cons pe_int pa_nil)) (pe_call (ok_law_field T) (hr.mono (by decide)) (by rfl) T.m_law_field T.F_law_field.kp T.b_law_field .nil pass0 (pa_cons (pv 3) pa_nil))) (pe_call (ok_law_field T) (hr.mono (by decide)) (by rfl) T.m_law_field T.F_law_field.kp T.b_law_field .nil pass0 (pa_cons (pv 7) pa_nil))))
        (pss_cons (ps_set (i := 10) sc_law.nd rfl (Or.inl rfl) (pe_op op_cat (pe_op op_cat (pv 10) (pe_call (ok_law_field T) (hr.mono (by decide)) (by rfl) T.m_law_field T.F_law_field.kp T.b_law_field .nil pass0 (pa_cons (pe_ix ix_list (pv 5) pe_int (fun _ _ => rfl)) pa_nil))) (pe_call (ok_law_field T) (hr.mono (by decide)) (by rfl) T.m_law_field T.F_law_field.kp T.b_law_field .nil pass0 (pa_cons (pe_ix ix_list (pv 5) pe_int (fun _ _ => rfl)) pa_nil))))
        (pss_cons (ps_set (i := 10) sc_law.nd rfl (Or.inl rfl) (pe_callTy call_tuple_of (by rfl) T.z_tuple (by decide +kernel) (pa_cons (pe_call (ok_law_card T) (hr.mono (by decide)) (by rfl) T.m_law_card T.F_law_card.kp T.b_law_card .nil pass0 (pa_cons (pe_op op_cat (pv 10) (pe_lst (pa_cons (pv 6) pa_nil))) pa_nil)) pa_nil)))
        (pss_cons (ps_if (pt_cmpR (op_neD hr.units) (pe_callN (ok_box_card T) (hr.mono (by decide)) (by rfl) T.m_box_card T.F_box_card.kp T.kb_box_card_1_rows_right_left_top.choose_spec pass0 (pa_cons (pv 3) pa_nil) (pk_cons (pv 6) (pk_cons (pe_ix ix_list (pv 5) pe_int (fun _ _ => rfl)) (pk_cons (pe_ix ix_list (pv 5) pe_int (fun _ _ => rfl)) (pk_cons (pv 7) pk_nil))))) (pv 10) (nomark _))
          (pss_one (ps_ret pe_bl))
          pss_nil)
        (pss_cons (ps_if (pt_cmpR (op_neD hr.units) (pe_call (ok_box_card T) (hr.mono (by decide)) (by rfl) T.m_box_card T.F_box_card.kp T.bd_box_card_1.choose_spec.2 T.bd_box_card_1.choose_spec.1 pass0 (pa_cons (pv 3) pa_nil)) (pe_callTy call_tuple_of (by rfl) T.z_tuple (by decide +kernel) (pa_cons (pe_call (ok_law_card T) (hr.mono (by decide)) (by rfl) T.m_law_card T.F_law_card.kp T.b_law_card .nil pass0 (pa_cons (pe_op op_cat (pe_op op_cat (pe_lst (pa_cons pe_int pa_nil)) (pe_call (ok_law_field T) (hr.mono (by decide)) (by rfl) T.m_law_field T.F_law_field.kp T.b_law_field .nil pass0 (pa_cons (pv 3) pa_nil))) (pe_lst (pa_cons pe_int (pa_cons pe_int (pa_cons pe_int (pa_cons pe_int pa_nil)))))) pa_nil)) pa_nil)) (nomark _))
          (pss_one (ps_ret pe_bl))
          pss_nil)
        (pss_cons (ps_for PassesOwn.never (by rfl) (pi_list (pe_lst (pa_cons (pe_call (ok_law_short T) (hr.mono (by decide)) (by rfl) T.m_law_short T.F_law_short.kp T.b_law_short .nil pass0 (pa_cons (pv 2) pa_nil)) (pa_cons pe_str (pa_cons (pe_tup (pa_cons (pv 8) (pa_cons (pv 9) pa_nil))) pa_nil))))) (pg_name (i := 11) sc_law.nd rfl (Or.inl rfl))
          (pss_cons (ps_set (i := 10) sc_law.nd rfl (Or.inl rfl) (pe_call (ok_law_row_due T) (hr.mono (by decide)) (by rfl) T.m_law_row_due T.F_law_row_due.kp T.b_law_row_due .nil pass0 (pa_cons (pv 3) (pa_cons (pv 4) (pa_cons (pv 5) (pa_cons (pv 11) pa_nil))))))
          (pss_cons (ps_if (pt_cmpR (op_neD hr.units) (pe_callN (ok_row_card T) (hr.mono (by decide)) (by rfl) T.m_row_card T.F_row_card.kp T.kb_row_card_2_text_left_right.choose_spec pass0 (pa_cons (pv 3) (pa_cons (pv 4) pa_nil)) (pk_cons (pv 11) (pk_cons (pe_ix ix_list (pv 5) pe_int (fun _ _ => rfl)) (pk_cons (pe_ix ix_list (pv 5) pe_int (fun _ _ => rfl)) pk_nil)))) (pv 10) (nomark _))
            (pss_one (ps_ret pe_bl))
            pss_nil)
          (pss_one (ps_if (pt_cmpR (op_neD hr.units) (pe_callN0 (ok_row_card T) (hr.mono (by decide)) (by rfl) T.m_row_card T.F_row_card.kp T.kb_row_card_0_key_box_text.choose_spec pass0 (pk_cons (pv 4) (pk_cons (pv 3) (pk_cons (pv 11) pk_nil)))) (pe_call (ok_law_row_due T) (hr.mono (by decide)) (by rfl) T.m_law_row_due T.F_law_row_due.kp T.b_law_row_due .nil pass0 (pa_cons (pv 3) (pa_cons (pv 4) (pa_cons (pe_lst (pa_cons pe_str (pa_cons pe_str pa_nil))) (pa_cons (pv 11) pa_nil))))) (nomark _))
            (pss_one (ps_ret pe_bl))
            pss_nil)))))
        (pss_cons (ps_set (i := 12) sc_law.nd rfl (Or.inl rfl) (pe_call (ok_law_long T) (hr.mono (by decide)) (by rfl) T.m_law_long T.F_law_long.kp T.b_law_long .nil pass0 (pa_cons (pv 2) pa_nil)))
        (pss_cons (ps_set (i := 10) sc_law.nd rfl (Or.inl rfl) (pe_callTy call_tuple_of (by rfl) T.z_tuple (by decide +kernel) (pa_cons (pe_call (ok_law_card T) (hr.mono (by decide)) (by rfl) T.m_law_card T.F_law_card.kp T.b_law_card .nil pass0 (pa_cons (pe_op op_cat (pe_lst (pa_cons pe_int (pa_cons (pe_op op_fdiv (pv 8) pe_int) (pa_cons (pe_op op_mod (pv 8) pe_int) (pa_cons (pv 9) (pa_cons (pv 6) pa_nil)))))) (pe_call (ok_law_field T) (hr.mono (by decide)) (by rfl) T.m_law_field T.F_law_field.kp T.b_law_field .nil pass0 (pa_cons (pv 12) pa_nil))) pa_nil)) pa_nil)))
        (pss_cons (ps_if (pt_cmpR (op_neD hr.units) (pe_callN (ok_text_card T) (hr.mono (by decide)) (by rfl) T.m_text_card T.F_text_card.kp T.kb_text_card_1_mark_rows_rank.choose_spec pass0 (pa_cons (pv 12) pa_nil) (pk_cons (pv 8) (pk_cons (pv 6) (pk_cons (pv 9) pk_nil)))) (pv 10) (nomark _))
          (pss_one (ps_ret pe_bl))
          pss_nil)
        (pss_cons (ps_if (pt_cmpR (op_neD hr.units) (pe_callN (ok_text_card T) (hr.mono (by decide)) (by rfl) T.m_text_card T.F_text_card.kp T.kb_text_card_1_mark.choose_spec pass0 (pa_cons (pv 12) pa_nil) (pk_cons (pv 8) pk_nil)) (pe_op op_catA (pe_op op_catA (pe_slice sl_tupA (pv 10) po_none (po_some pe_int)) (pe_tup (pa_cons pe_int (pa_cons pe_int pa_nil)))) (pe_slice sl_tupA (pv 10) (po_some pe_int) po_none)) (nomark _))
          (pss_one (ps_ret pe_bl))
          pss_nil)
        (pss_cons (ps_par (i := 13) (j := 14) (by rfl) sc_law.nd rfl rfl (by decide) rfl rfl (pa_cons (pe_call (ok_law_seed T) (hr.mono (by decide)) (by rfl) T.m_law_seed T.F_law_seed.kp T.b_law_seed .nil pass0 (pa_cons (pv 2) pa_nil)) (pa_cons (pe_ix ix_tup (pe_tup (pa_cons pe_int (pa_cons pe_int (pa_cons pe_int (pa_cons pe_int (pa_cons pe_int (pa_cons pe_int pa_nil))))))) (pe_call (ok_law_take T) (hr.mono (by decide)) (by rfl) T.m_law_take T.F_law_take.kp T.b_law_take .nil pass0 (pa_cons (pv 2) (pa_cons pe_int pa_nil))) (fun _ _ => rfl)) pa_nil)) (by rfl))
        (pss_cons (ps_set (i := 10) sc_law.nd rfl (Or.inl rfl) (pe_op op_cat (pe_lst (pa_cons pe_int (pa_cons (pe_op op_fdiv (pv 13) pe_int) (pa_cons (pe_op op_mod (pe_op op_fdiv (pv 13) pe_int) pe_int) (pa_cons (pe_op op_mod (pv 13) pe_int) (pa_cons (pv 14) (pa_cons (pv 6) pa_nil))))))) (pe_call (ok_law_field T) (hr.mono (by decide)) (by rfl) T.m_law_field T.F_law_field.kp T.b_law_field .nil pass0 (pa_cons (pv 7) pa_nil))))
        (pss_cons (ps_if (pt_cmpR (op_neD hr.units) (pe_callN (ok_head_card T) (hr.mono (by decide)) (by rfl) T.m_head_card T.F_head_card.kp T.kb_head_card_1_cards_top_pages.choose_spec pass0 (pa_cons (pv 13) pa_nil) (pk_cons (pv 6) (pk_cons (pv 7) (pk_cons (pv 14) pk_nil)))) (pe_callTy call_tuple_of (by rfl) T.z_tuple (by decide +kernel) (pa_cons (pe_call (ok_law_card T) (hr.mono (by decide)) (by rfl) T.m_law_card T.F_law_card.kp T.b_law_card .nil pass0 (pa_cons (pv 10) pa_nil)) pa_nil)) (nomark _))
          (pss_one (ps_ret pe_bl))
          pss_nil)
        (pss_one (ps_if (pt_cmpR (op_neD hr.units) (pe_callN0 (ok_head_card T) (hr.mono (by decide)) (by rfl) T.m_head_card T.F_head_card.kp T.kb_head_card_0_seed.choose_spec pass0 (pk_cons (pv 13) pk_nil)) (pe_callTy call_tuple_of (by rfl) T.z_tuple (by decide +kernel) (pa_cons (pe_call (ok_law_card T) (hr.mono (by decide)) (by rfl) T.m_law_card T.F_law_card.kp T.b_law_card .nil pass0 (pa_cons (pe_op op_cat (pe_slice sl_list (pv 10) po_none (po_some pe_int)) (pe_lst (pa_cons pe_int pa_nil))) pa_nil)) pa_nil)) (nomark _))
          (pss_one (ps_ret pe_bl))
          pss_nil))))))))))))))))))))
      (pss_one (ps_ret (pe_cmpR op_eq (pe_glob (v := .int 48) (by rfl) T.g_SIZE ⟨_, rfl⟩) pe_int (nomark _))))), fun ns hns => ?_⟩)
  walk_at "k"
  refine gs_seq (gs_for ?_)
  walk_at "g"
  have mb := mm_b ns.length 6 (by decide)
  refine ⟨by omega, by omega, fun i δ' _ => ∃ s1 s2 s3 s4 s5 s6 s7 s8 s9 s10 s11 s12 s13 s14, δ' = [.scr ns, s1, s2, s3, s4, s5, s6, s7, s8, s9, s10, s11, s12, s13, s14] ∧ ∀ xs, s2 ≠ .own xs, ⟨_, _, _, _, _, _, _, _, _, _, _, _, _, _, rfl, fun _ z => nomatch z⟩, ?_, ?_⟩
  · rintro i x δ' n' hx ⟨s1, s2, s3, s4, s5, s6, s7, s8, s9, s10, s11, s12, s13, s14, rfl, hs2⟩
    obtain ⟨hi, rfl⟩ := rangeD_at hx
    refine ⟨_, [1], gg_name (by decide), ?_⟩
    refine gs_lawbag rfl (fun xs z => hs2 xs (Option.some.inj z)) ?_
    walk_at "g"
    refine ⟨by omega, by omega, fun p => ?_⟩
    have hi6 : i < 6 := by omega
    clear hx hi mb hs2
    walk_at "g"
    refine sb_name (by omega) (by decide) (by decide) fun c3 nm3 => ?_
    walk_at "g"
    refine sb_name (by omega) (by decide) (by decide) fun c4 nm4 => ?_
    walk_at "g"
    refine c_law_top (by omega) fun c5 m5 l5 _ h5 => ?_
    walk_at "g"
    refine c_law_top (by omega) fun c6 m6 l6 _ h6 => ?_
    walk_at "g"
    refine sb_take (by omega) (by decide) (by decide) fun many many0 many1 => ?_
    walk_at "g"
    refine c_law_top (by omega) fun c7 m7 l7 _ h7 => ?_
    walk_at "g"
    refine sb_take (by omega) (by decide) (by decide) fun score score0 score1 => ?_
    walk_at "g"
    refine sb_take (by omega) (by decide) (by decide) fun place place0 place1 => ?_
    have L3 := nm_len nm3 (by decide)
    have L4 := nm_len nm4 (by decide)
    have L5 := sl_le l5
    have L6 := sl_le l6
    have L7 := sl_le l7
    have f3 := fieldI_len (S c3)
    have f4 := fieldI_len (S c4)
    have f5 := fieldI_len (S c5)
    have f6 := fieldI_len (S c6)
    have f7 := fieldI_len (S c7)
    walk_at "g"
    refine c_law_card (ns := 1 :: (fieldI (S c3) ++ fieldI (S c7) ++ fieldI (S c5) ++ fieldI (S c6) ++ [many])) (by simp) (by walk_at "ls") ?_
    walk_at "g"
    refine ⟨rfl, rfl, ?_⟩
    refine c_box_card (by omega) (by omega) (by omega) (by omega) ?_
    walk_at "g"
    refine rk_neSame rfl shp_card (by decide) ?_
    walk_at "g"
    refine c_box_card (by omega) (by decide) (by decide) (by decide) ?_
    walk_at "g"
    refine c_law_card (ns := 1 :: (fieldI (S c3) ++ [0, 0, 0, 0])) (by simp) (by walk_at "ls") ?_
    walk_at "g"
    refine rk_neSame (by simp [fieldI, tl]; rfl) shp_card (by decide) ?_
    walk_at "g"
    refine gs_for ?_
    walk_at "g"
    refine sb_P ⟨rfl, by omega, fun c8 m8 l8 _ h8 => ?_⟩
    walk_at "g"
    refine ⟨fun _ δ' m => ∃ s10 s11, δ' = [.scr ns, .d (.int (0 + (i : Int))), .bag, .d (.str (S c3)), .d (.str (S c4)), .d (.lst [.str (S c5), .str (S c6)]), .d (.int many), .d (.str (S c7)), .d (.int score), .d (.int place), s10, s11, s12, s13, s14] ∧ m ≤ 1000, ⟨_, _, rfl, by omega⟩, ?_, ?_⟩
    · rintro j x δ' m hx ⟨s10, s11, rfl, hm⟩
      obtain ⟨t, rfl, ht⟩ : ∃ t : Told, x = t.d ∧ t.ok := by
        have hm := List.mem_of_getElem? hx
        simp only [List.mem_cons, List.not_mem_nil, or_false] at hm
        rcases hm with rfl | rfl | rfl
        · exact ⟨.txt (S c8), rfl, Nat.le_trans (sl_le l8) (by decide)⟩
        · exact ⟨.txt "", rfl, (by decide : (Str.ofString "").length ≤ 100)⟩
        · exact ⟨.long score place, rfl, True.intro⟩
      clear hx
      refine ⟨_, [11], gg_name (by decide), ?_⟩
      walk_at "g"
      refine sc_P ⟨_, _, _, _, t, rfl, by omega, by omega, by omega, by omega, ht, ?_⟩
      walk_at "g"
      refine ⟨rfl, rfl, ?_⟩
      refine sc_P ⟨_, _, _, _, t, rfl, by omega, by omega, by omega, by omega, ht, ?_⟩
      walk_at "g"
      refine rk_neSame rfl shp_card (by decide) ?_
      walk_at "g"
      refine ⟨rfl, rfl, ?_⟩
      refine sc_P ⟨_, _, _, _, t, rfl, by omega, by omega, by decide, by decide, ht, ?_⟩
      walk_at "g"
      refine sc_P ⟨_, _, _, _, t, rfl, by omega, by omega, by decide, by decide, ht, ?_⟩
      refine rk_neSame rfl shp_card (by decide) ?_
      walk_at "g"
      exact hm
    · rintro δ' m ⟨s10, s11, rfl, hm⟩
      walk_at "g"
      refine sb_P ⟨rfl, by omega, fun c9 m9 l9 _ h9 => ?_⟩
      have L9 := sl_le l9
      have f9 := fieldI_len (S c9)
      walk_at "g"
      refine c_law_card (ns := 3 :: score / 256 :: score % 256 :: place :: many :: fieldI (S c9)) (by simp) (by walk_at "ls") ?_
      walk_at "g"
      refine ⟨rfl, rfl, ?_⟩
      refine sc_P ⟨_, _, _, _, rfl, by omega, ?_⟩
      walk_at "g"
      refine rk_neSame rfl shp_card (by decide) ?_
      walk_at "g"
      refine ⟨rfl, rfl, ?_⟩
      refine sc_P ⟨_, _, _, _, rfl, by omega, ?_⟩
      have lf := fillI_len (3 :: score / 256 :: score % 256 :: place :: many :: fieldI (S c9))
      simp only [List.length_cons] at lf
      walk_at "g"
      refine rk_neSame (by simp [fillI]) shp_card (by decide) ?_
      walk_at "g"
      refine sb_seed (by omega) fun salt salt0 salt1 => ?_
      walk_at "g"
      refine sb_take (by omega) (by decide) (by decide) fun r r0 r1 => ?_
      obtain ⟨d, ed, hd⟩ := at_any (xs := [.int 4, .int 8, .int 16, .int 32, .int 64, .int 128]) r0 r1
      refine rk_ixT ed ?_
      obtain ⟨sheets, rfl⟩ : ∃ sheets, d = .int sheets := by
        simp only [List.mem_cons, List.not_mem_nil, or_false] at hd
        rcases hd with rfl | rfl | rfl | rfl | rfl | rfl <;> exact ⟨_, rfl⟩
      walk_at "g"
      refine ⟨rfl, rfl, ?_⟩
      refine sc_P ⟨_, _, _, _, rfl, by omega, ?_⟩
      walk_at "g"
      refine c_law_card (ns := 9 :: salt / 65536 :: salt / 256 % 256 :: salt % 256 :: sheets :: many :: fieldI (S c7)) (by simp) (by walk_at "ls") ?_
      walk_at "g"
      refine rk_neSame (by rw [show salt / 256 / 256 = salt / 65536 by omega]) shp_card (by decide) ?_
      walk_at "g"
      refine ⟨rfl, rfl, ?_⟩
      refine sc_P ⟨_, _, _, _, rfl, by decide, ?_⟩
      walk_at "g"
      refine c_law_card (ns := [9, salt / 65536, salt / 256 % 256, salt % 256, 4]) (by simp) (by simp) ?_
      walk_at "g"
      refine rk_neSame (by rw [show salt / 256 / 256 = salt / 65536 by omega]; rfl) shp_card (by decide) ?_
      walk_at "g"
      exact ⟨_, _, _, _, _, _, _, _, _, _, _, _, _, _, rfl, fun _ z => nomatch z⟩
  · rintro δ' n' ⟨s1, s2, s3, s4, s5, s6, s7, s8, s9, s10, s11, s12, s13, s14, rfl, hs2⟩
    walk_at "g"
    rfl
end
theorem all_mk {l : PySem.W.OpenLaw} {w : World} {K : PySem.W.Frag} {h : Heap} {mg : Str → Option Value} {fa : Addr} (X : K.In h) (G : h.Ns mainGlobals mg) (hfa : mg "law" = some (.ref fa))
    {f_field : Addr} {od_field an_field : Option Addr} {sl_field : Array (Option Value)} {oc_field kV_field dc_field pm_field cd_field ct_field : Value}
    {f_filled : Addr} {od_filled an_filled : Option Addr} {sl_filled : Array (Option Value)} {oc_filled kV_filled dc_filled pm_filled cd_filled ct_filled : Value}
    {f_mark_bytes : Addr} {od_mark_bytes an_mark_bytes : Option Addr} {sl_mark_bytes : Array (Option Value)} {oc_mark_bytes kV_mark_bytes dc_mark_bytes pm_mark_bytes cd_mark_bytes ct_mark_bytes : Value}
    {f_box_card : Addr} {od_box_card an_box_card : Option Addr} {sl_box_card : Array (Option Value)} {oc_box_card dc_box_card pm_box_card cd_box_card ct_box_card : Value} {kd_box_card : Addr}
    {tkd_box_card_top : Tok}
    {tkd_box_card_left : Tok}
    {tkd_box_card_right : Tok}
    {tkd_box_card_rows : Tok}
    {f_row_card : Addr} {od_row_card an_row_card : Option Addr} {sl_row_card : Array (Option Value)} {oc_row_card dc_row_card pm_row_card cd_row_card ct_row_card : Value} {kd_row_card : Addr}
    {tkd_row_card_left : Tok}
    {tkd_row_card_right : Tok}
    {f_text_card : Addr} {od_text_card an_text_card : Option Addr} {sl_text_card : Array (Option Value)} {oc_text_card dc_text_card pm_text_card cd_text_card ct_text_card : Value} {kd_text_card : Addr}
    {tkd_text_card_rank : Tok}
    {tkd_text_card_rows : Tok}
    {f_head_card : Addr} {od_head_card an_head_card : Option Addr} {sl_head_card : Array (Option Value)} {oc_head_card dc_head_card pm_head_card cd_head_card ct_head_card : Value} {kd_head_card : Addr}
    {tkd_head_card_pages : Tok}
    {tkd_head_card_cards : Tok}
    {tkd_head_card_top : Tok}
    {f_law_bag : Addr} {od_law_bag an_law_bag : Option Addr} {sl_law_bag : Array (Option Value)} {oc_law_bag kV_law_bag dc_law_bag pm_law_bag cd_law_bag ct_law_bag : Value}
    {f_law_take : Addr} {od_law_take an_law_take : Option Addr} {sl_law_take : Array (Option Value)} {oc_law_take kV_law_take dc_law_take pm_law_take cd_law_take ct_law_take : Value}
    {f_law_field : Addr} {od_law_field an_law_field : Option Addr} {sl_law_field : Array (Option Value)} {oc_law_field kV_law_field dc_law_field pm_law_field cd_law_field ct_law_field : Value}
    {f_law_card : Addr} {od_law_card an_law_card : Option Addr} {sl_law_card : Array (Option Value)} {oc_law_card kV_law_card dc_law_card pm_law_card cd_law_card ct_law_card : Value}
    {f_law_name : Addr} {od_law_name an_law_name : Option Addr} {sl_law_name : Array (Option Value)} {oc_law_name kV_law_name dc_law_name pm_law_name cd_law_name ct_law_name : Value}
    {f_law_short : Addr} {od_law_short an_law_short : Option Addr} {sl_law_short : Array (Option Value)} {oc_law_short kV_law_short dc_law_short pm_law_short cd_law_short ct_law_short : Value}
    {f_law_long : Addr} {od_law_long an_law_long : Option Addr} {sl_law_long : Array (Option Value)} {oc_law_long kV_law_long dc_law_long pm_law_long cd_law_long ct_law_long : Value}
    {f_law_seed : Addr} {od_law_seed an_law_seed : Option Addr} {sl_law_seed : Array (Option Value)} {oc_law_seed kV_law_seed dc_law_seed pm_law_seed cd_law_seed ct_law_seed : Value}
    {f_law_top : Addr} {od_law_top an_law_top : Option Addr} {sl_law_top : Array (Option Value)} {oc_law_top kV_law_top dc_law_top pm_law_top cd_law_top ct_law_top : Value}
    {f_law_row_due : Addr} {od_law_row_due an_law_row_due : Option Addr} {sl_law_row_due : Array (Option Value)} {oc_law_row_due kV_law_row_due dc_law_row_due pm_law_row_due cd_law_row_due ct_law_row_due : Value}
    {f_law : Addr} {od_law an_law : Option Addr} {sl_law : Array (Option Value)} {oc_law kV_law dc_law pm_law cd_law ct_law : Value}
    {t_BOX : Tok}
    {t_BYTE : Tok}
    {t_HEAD : Tok}
    {t_LONG : Tok}
    {t_ROW : Tok}
    {t_SIZE : Tok}
    {t_TEXT : Tok}
    (a_field : PySem.W.nsIn K mainGlobals "field" = some (some (.ref f_field)))
    (l_field : K.lookup f_field = some ⟨oc_field, od_field, .func (PySem.W.fnOf "field" "field" (defArgs s_field) (defBody s_field) (defScope s_field) .none kV_field dc_field pm_field an_field cd_field ct_field), sl_field⟩)
    (c_field : PySem.W.codeIn K cd_field "field" = true)
    (k_field : PySem.W.keepIn K (.ref f_field) = true)
    (a_filled : PySem.W.nsIn K mainGlobals "filled" = some (some (.ref f_filled)))
    (l_filled : K.lookup f_filled = some ⟨oc_filled, od_filled, .func (PySem.W.fnOf "filled" "filled" (defArgs s_filled) (defBody s_filled) (defScope s_filled) .none kV_filled dc_filled pm_filled an_filled cd_filled ct_filled), sl_filled⟩)
    (c_filled : PySem.W.codeIn K cd_filled "filled" = true)
    (k_filled : PySem.W.keepIn K (.ref f_filled) = true)
    (a_mark_bytes : PySem.W.nsIn K mainGlobals "mark_bytes" = some (some (.ref f_mark_bytes)))
    (l_mark_bytes : K.lookup f_mark_bytes = some ⟨oc_mark_bytes, od_mark_bytes, .func (PySem.W.fnOf "mark_bytes" "mark_bytes" (defArgs s_mark_bytes) (defBody s_mark_bytes) (defScope s_mark_bytes) .none kV_mark_bytes dc_mark_bytes pm_mark_bytes an_mark_bytes cd_mark_bytes ct_mark_bytes), sl_mark_bytes⟩)
    (c_mark_bytes : PySem.W.codeIn K cd_mark_bytes "mark_bytes" = true)
    (k_mark_bytes : PySem.W.keepIn K (.ref f_mark_bytes) = true)
    (a_box_card : PySem.W.nsIn K mainGlobals "box_card" = some (some (.ref f_box_card)))
    (l_box_card : K.lookup f_box_card = some ⟨oc_box_card, od_box_card, .func (PySem.W.fnOf "box_card" "box_card" (defArgs s_box_card) (defBody s_box_card) (defScope s_box_card) .none (.ref kd_box_card) dc_box_card pm_box_card an_box_card cd_box_card ct_box_card), sl_box_card⟩)
    (c_box_card : PySem.W.codeIn K cd_box_card "box_card" = true)
    (k_box_card : PySem.W.keepIn K (.ref f_box_card) = true)
    (kd_box_card_top : PySem.W.nsIn K kd_box_card "top" = some (some (.str "" tkd_box_card_top)))
    (kd_box_card_left : PySem.W.nsIn K kd_box_card "left" = some (some (.str "" tkd_box_card_left)))
    (kd_box_card_right : PySem.W.nsIn K kd_box_card "right" = some (some (.str "" tkd_box_card_right)))
    (kd_box_card_rows : PySem.W.nsIn K kd_box_card "rows" = some (some (.int 0 tkd_box_card_rows)))
    (a_row_card : PySem.W.nsIn K mainGlobals "row_card" = some (some (.ref f_row_card)))
    (l_row_card : K.lookup f_row_card = some ⟨oc_row_card, od_row_card, .func (PySem.W.fnOf "row_card" "row_card" (defArgs s_row_card) (defBody s_row_card) (defScope s_row_card) .none (.ref kd_row_card) dc_row_card pm_row_card an_row_card cd_row_card ct_row_card), sl_row_card⟩)
    (c_row_card : PySem.W.codeIn K cd_row_card "row_card" = true)
    (k_row_card : PySem.W.keepIn K (.ref f_row_card) = true)
    (kd_row_card_left : PySem.W.nsIn K kd_row_card "left" = some (some (.str "" tkd_row_card_left)))
    (kd_row_card_right : PySem.W.nsIn K kd_row_card "right" = some (some (.str "" tkd_row_card_right)))
    (a_text_card : PySem.W.nsIn K mainGlobals "text_card" = some (some (.ref f_text_card)))
    (l_text_card : K.lookup f_text_card = some ⟨oc_text_card, od_text_card, .func (PySem.W.fnOf "text_card" "text_card" (defArgs s_text_card) (defBody s_text_card) (defScope s_text_card) .none (.ref kd_text_card) dc_text_card pm_text_card an_text_card cd_text_card ct_text_card), sl_text_card⟩)
    (c_text_card : PySem.W.codeIn K cd_text_card "text_card" = true)
    (k_text_card : PySem.W.keepIn K (.ref f_text_card) = true)
    (kd_text_card_rank : PySem.W.nsIn K kd_text_card "rank" = some (some (.int 0 tkd_text_card_rank)))
    (kd_text_card_rows : PySem.W.nsIn K kd_text_card "rows" = some (some (.int 1 tkd_text_card_rows)))
    (a_head_card : PySem.W.nsIn K mainGlobals "head_card" = some (some (.ref f_head_card)))
    (l_head_card : K.lookup f_head_card = some ⟨oc_head_card, od_head_card, .func (PySem.W.fnOf "head_card" "head_card" (defArgs s_head_card) (defBody s_head_card) (defScope s_head_card) .none (.ref kd_head_card) dc_head_card pm_head_card an_head_card cd_head_card ct_head_card), sl_head_card⟩)
    (c_head_card : PySem.W.codeIn K cd_head_card "head_card" = true)
    (k_head_card : PySem.W.keepIn K (.ref f_head_card) = true)
    (kd_head_card_pages : PySem.W.nsIn K kd_head_card "pages" = some (some (.int 4 tkd_head_card_pages)))
    (kd_head_card_cards : PySem.W.nsIn K kd_head_card "cards" = some (some (.int 0 tkd_head_card_cards)))
    (kd_head_card_top : PySem.W.nsIn K kd_head_card "top" = some (some (.str "" tkd_head_card_top)))
    (a_law_bag : PySem.W.nsIn K mainGlobals "_law_bag" = some (some (.ref f_law_bag)))
    (l_law_bag : K.lookup f_law_bag = some ⟨oc_law_bag, od_law_bag, .func (PySem.W.fnOf "_law_bag" "_law_bag" (defArgs s_law_bag) (defBody s_law_bag) (defScope s_law_bag) .none kV_law_bag dc_law_bag pm_law_bag an_law_bag cd_law_bag ct_law_bag), sl_law_bag⟩)
    (c_law_bag : PySem.W.codeIn K cd_law_bag "_law_bag" = true)
    (k_law_bag : PySem.W.keepIn K (.ref f_law_bag) = true)
    (a_law_take : PySem.W.nsIn K mainGlobals "_law_take" = some (some (.ref f_law_take)))
    (l_law_take : K.lookup f_law_take = some ⟨oc_law_take, od_law_take, .func (PySem.W.fnOf "_law_take" "_law_take" (defArgs s_law_take) (defBody s_law_take) (defScope s_law_take) .none kV_law_take dc_law_take pm_law_take an_law_take cd_law_take ct_law_take), sl_law_take⟩)
    (c_law_take : PySem.W.codeIn K cd_law_take "_law_take" = true)
    (k_law_take : PySem.W.keepIn K (.ref f_law_take) = true)
    (a_law_field : PySem.W.nsIn K mainGlobals "_law_field" = some (some (.ref f_law_field)))
    (l_law_field : K.lookup f_law_field = some ⟨oc_law_field, od_law_field, .func (PySem.W.fnOf "_law_field" "_law_field" (defArgs s_law_field) (defBody s_law_field) (defScope s_law_field) .none kV_law_field dc_law_field pm_law_field an_law_field cd_law_field ct_law_field), sl_law_field⟩)
    (c_law_field : PySem.W.codeIn K cd_law_field "_law_field" = true)
    (k_law_field : PySem.W.keepIn K (.ref f_law_field) = true)
    (a_law_card : PySem.W.nsIn K mainGlobals "_law_card" = some (some (.ref f_law_card)))
    (l_law_card : K.lookup f_law_card = some ⟨oc_law_card, od_law_card, .func (PySem.W.fnOf "_law_card" "_law_card" (defArgs s_law_card) (defBody s_law_card) (defScope s_law_card) .none kV_law_card dc_law_card pm_law_card an_law_card cd_law_card ct_law_card), sl_law_card⟩)
    (c_law_card : PySem.W.codeIn K cd_law_card "_law_card" = true)
    (k_law_card : PySem.W.keepIn K (.ref f_law_card) = true)
    (a_law_name : PySem.W.nsIn K mainGlobals "_law_name" = some (some (.ref f_law_name)))
    (l_law_name : K.lookup f_law_name = some ⟨oc_law_name, od_law_name, .func (PySem.W.fnOf "_law_name" "_law_name" (defArgs s_law_name) (defBody s_law_name) (defScope s_law_name) .none kV_law_name dc_law_name pm_law_name an_law_name cd_law_name ct_law_name), sl_law_name⟩)
    (c_law_name : PySem.W.codeIn K cd_law_name "_law_name" = true)
    (k_law_name : PySem.W.keepIn K (.ref f_law_name) = true)
    (a_law_short : PySem.W.nsIn K mainGlobals "_law_short" = some (some (.ref f_law_short)))
    (l_law_short : K.lookup f_law_short = some ⟨oc_law_short, od_law_short, .func (PySem.W.fnOf "_law_short" "_law_short" (defArgs s_law_short) (defBody s_law_short) (defScope s_law_short) .none kV_law_short dc_law_short pm_law_short an_law_short cd_law_short ct_law_short), sl_law_short⟩)
    (c_law_short : PySem.W.codeIn K cd_law_short "_law_short" = true)
    (k_law_short : PySem.W.keepIn K (.ref f_law_short) = true)
    (a_law_long : PySem.W.nsIn K mainGlobals "_law_long" = some (some (.ref f_law_long)))
    (l_law_long : K.lookup f_law_long = some ⟨oc_law_long, od_law_long, .func (PySem.W.fnOf "_law_long" "_law_long" (defArgs s_law_long) (defBody s_law_long) (defScope s_law_long) .none kV_law_long dc_law_long pm_law_long an_law_long cd_law_long ct_law_long), sl_law_long⟩)
    (c_law_long : PySem.W.codeIn K cd_law_long "_law_long" = true)
    (k_law_long : PySem.W.keepIn K (.ref f_law_long) = true)
    (a_law_seed : PySem.W.nsIn K mainGlobals "_law_seed" = some (some (.ref f_law_seed)))
    (l_law_seed : K.lookup f_law_seed = some ⟨oc_law_seed, od_law_seed, .func (PySem.W.fnOf "_law_seed" "_law_seed" (defArgs s_law_seed) (defBody s_law_seed) (defScope s_law_seed) .none kV_law_seed dc_law_seed pm_law_seed an_law_seed cd_law_seed ct_law_seed), sl_law_seed⟩)
    (c_law_seed : PySem.W.codeIn K cd_law_seed "_law_seed" = true)
    (k_law_seed : PySem.W.keepIn K (.ref f_law_seed) = true)
    (a_law_top : PySem.W.nsIn K mainGlobals "_law_top" = some (some (.ref f_law_top)))
    (l_law_top : K.lookup f_law_top = some ⟨oc_law_top, od_law_top, .func (PySem.W.fnOf "_law_top" "_law_top" (defArgs s_law_top) (defBody s_law_top) (defScope s_law_top) .none kV_law_top dc_law_top pm_law_top an_law_top cd_law_top ct_law_top), sl_law_top⟩)
    (c_law_top : PySem.W.codeIn K cd_law_top "_law_top" = true)
    (k_law_top : PySem.W.keepIn K (.ref f_law_top) = true)
    (a_law_row_due : PySem.W.nsIn K mainGlobals "_law_row_due" = some (some (.ref f_law_row_due)))
    (l_law_row_due : K.lookup f_law_row_due = some ⟨oc_law_row_due, od_law_row_due, .func (PySem.W.fnOf "_law_row_due" "_law_row_due" (defArgs s_law_row_due) (defBody s_law_row_due) (defScope s_law_row_due) .none kV_law_row_due dc_law_row_due pm_law_row_due an_law_row_due cd_law_row_due ct_law_row_due), sl_law_row_due⟩)
    (c_law_row_due : PySem.W.codeIn K cd_law_row_due "_law_row_due" = true)
    (k_law_row_due : PySem.W.keepIn K (.ref f_law_row_due) = true)
    (a_law : PySem.W.nsIn K mainGlobals "law" = some (some (.ref f_law)))
    (l_law : K.lookup f_law = some ⟨oc_law, od_law, .func (PySem.W.fnOf "law" "law" (defArgs s_law) (defBody s_law) (defScope s_law) .none kV_law dc_law pm_law an_law cd_law ct_law), sl_law⟩)
    (c_law : PySem.W.codeIn K cd_law "law" = true)
    (k_law : PySem.W.keepIn K (.ref f_law) = true)
    (kn_tuple_str : PySem.W.kitOne K (.type "tuple") (.type "str") = some false)
    (z_abs : PySem.W.nsIn K mainGlobals "abs" = some none)
    (z_int : PySem.W.nsIn K mainGlobals "int" = some none)
    (z_isinstance : PySem.W.nsIn K mainGlobals "isinstance" = some none)
    (z_len : PySem.W.nsIn K mainGlobals "len" = some none)
    (z_max : PySem.W.nsIn K mainGlobals "max" = some none)
    (z_min : PySem.W.nsIn K mainGlobals "min" = some none)
    (z_ord : PySem.W.nsIn K mainGlobals "ord" = some none)
    (z_range : PySem.W.nsIn K mainGlobals "range" = some none)
    (z_str : PySem.W.nsIn K mainGlobals "str" = some none)
    (z_tuple : PySem.W.nsIn K mainGlobals "tuple" = some none)
    (g_BOX : PySem.W.nsIn K mainGlobals "BOX" = some (some (.int 1 t_BOX)))
    (g_BYTE : PySem.W.nsIn K mainGlobals "BYTE" = some (some (.int 256 t_BYTE)))
    (g_HEAD : PySem.W.nsIn K mainGlobals "HEAD" = some (some (.int 9 t_HEAD)))
    (g_LONG : PySem.W.nsIn K mainGlobals "LONG" = some (some (.int 255 t_LONG)))
    (g_ROW : PySem.W.nsIn K mainGlobals "ROW" = some (some (.int 2 t_ROW)))
    (g_SIZE : PySem.W.nsIn K mainGlobals "SIZE" = some (some (.int 48 t_SIZE)))
    (g_TEXT : PySem.W.nsIn K mainGlobals "TEXT" = some (some (.int 3 t_TEXT))) :
    ∃ fd : FuncData, (∀ (s : Shared) (v : Value), BindsTo s fd ⟨[v], []⟩ [("_law_script", v)]) ∧ ∀ base : Heap, K.In base → base.Ns mainGlobals mg → FnOk l.prog w K mg base CX0 4 fa fd ["_law_script"] (sp_law K) := by
  have e := hfa.symm.trans (PySem.W.mg_of X G a_law)
  have e : fa = f_law := by injection (Option.some.inj e)
  rw [e]
  have F_field := fun_mk (st := s_field) l_field c_field k_field
  have b_field := F_field.binds (ps := ["text"]) fun _ _ _ _ _ _ us hl => match us, hl with | [_], _ => rfl
  have F_filled := fun_mk (st := s_filled) l_filled c_filled k_filled
  have b_filled := F_filled.binds (ps := ["some"]) fun _ _ _ _ _ _ us hl => match us, hl with | [_], _ => rfl
  have F_mark_bytes := fun_mk (st := s_mark_bytes) l_mark_bytes c_mark_bytes k_mark_bytes
  have b_mark_bytes := F_mark_bytes.binds (ps := ["mark"]) fun _ _ _ _ _ _ us hl => match us, hl with | [_], _ => rfl
  have F_box_card := fun_mk (st := s_box_card) l_box_card c_box_card k_box_card
  have FD_box_card : FunD K "box_card" "box_card" (defArgs s_box_card) (defBody s_box_card) (defScope s_box_card) [] [("top", .str ""), ("left", .str ""), ("right", .str ""), ("rows", .int 0)] f_box_card (PySem.W.fnOf "box_card" "box_card" (defArgs s_box_card) (defBody s_box_card) (defScope s_box_card) .none (.ref kd_box_card) dc_box_card pm_box_card an_box_card cd_box_card ct_box_card) := ⟨⟨_, _, _, _, _, _, _, _, _, _, rfl, l_box_card, c_box_card, .inl ⟨rfl, rfl⟩, .inr ⟨kd_box_card, rfl, fun q hq => by
      simp only [List.mem_cons, List.not_mem_nil, or_false] at hq
      rcases hq with rfl | rfl | rfl | rfl
      · exact ⟨_, kd_box_card_top, ⟨_, rfl⟩⟩
      · exact ⟨_, kd_box_card_left, ⟨_, rfl⟩⟩
      · exact ⟨_, kd_box_card_right, ⟨_, rfl⟩⟩
      · exact ⟨_, kd_box_card_rows, ⟨_, rfl⟩⟩⟩⟩, k_box_card⟩
  have F_row_card := fun_mk (st := s_row_card) l_row_card c_row_card k_row_card
  have FD_row_card : FunD K "row_card" "row_card" (defArgs s_row_card) (defBody s_row_card) (defScope s_row_card) [] [("left", .str ""), ("right", .str "")] f_row_card (PySem.W.fnOf "row_card" "row_card" (defArgs s_row_card) (defBody s_row_card) (defScope s_row_card) .none (.ref kd_row_card) dc_row_card pm_row_card an_row_card cd_row_card ct_row_card) := ⟨⟨_, _, _, _, _, _, _, _, _, _, rfl, l_row_card, c_row_card, .inl ⟨rfl, rfl⟩, .inr ⟨kd_row_card, rfl, fun q hq => by
      simp only [List.mem_cons, List.not_mem_nil, or_false] at hq
      rcases hq with rfl | rfl
      · exact ⟨_, kd_row_card_left, ⟨_, rfl⟩⟩
      · exact ⟨_, kd_row_card_right, ⟨_, rfl⟩⟩⟩⟩, k_row_card⟩
  have F_text_card := fun_mk (st := s_text_card) l_text_card c_text_card k_text_card
  have FD_text_card : FunD K "text_card" "text_card" (defArgs s_text_card) (defBody s_text_card) (defScope s_text_card) [] [("rank", .int 0), ("rows", .int 1)] f_text_card (PySem.W.fnOf "text_card" "text_card" (defArgs s_text_card) (defBody s_text_card) (defScope s_text_card) .none (.ref kd_text_card) dc_text_card pm_text_card an_text_card cd_text_card ct_text_card) := ⟨⟨_, _, _, _, _, _, _, _, _, _, rfl, l_text_card, c_text_card, .inl ⟨rfl, rfl⟩, .inr ⟨kd_text_card, rfl, fun q hq => by
      simp only [List.mem_cons, List.not_mem_nil, or_false] at hq
      rcases hq with rfl | rfl
      · exact ⟨_, kd_text_card_rank, ⟨_, rfl⟩⟩
      · exact ⟨_, kd_text_card_rows, ⟨_, rfl⟩⟩⟩⟩, k_text_card⟩
  have F_head_card := fun_mk (st := s_head_card) l_head_card c_head_card k_head_card
  have FD_head_card : FunD K "head_card" "head_card" (defArgs s_head_card) (defBody s_head_card) (defScope s_head_card) [] [("pages", .int 4), ("cards", .int 0), ("top", .str "")] f_head_card (PySem.W.fnOf "head_card" "head_card" (defArgs s_head_card) (defBody s_head_card) (defScope s_head_card) .none (.ref kd_head_card) dc_head_card pm_head_card an_head_card cd_head_card ct_head_card) := ⟨⟨_, _, _, _, _, _, _, _, _, _, rfl, l_head_card, c_head_card, .inl ⟨rfl, rfl⟩, .inr ⟨kd_head_card, rfl, fun q hq => by
      simp only [List.mem_cons, List.not_mem_nil, or_false] at hq
      rcases hq with rfl | rfl | rfl
      · exact ⟨_, kd_head_card_pages, ⟨_, rfl⟩⟩
      · exact ⟨_, kd_head_card_cards, ⟨_, rfl⟩⟩
      · exact ⟨_, kd_head_card_top, ⟨_, rfl⟩⟩⟩⟩, k_head_card⟩
  have F_law_bag := fun_mk (st := s_law_bag) l_law_bag c_law_bag k_law_bag
  have b_law_bag := F_law_bag.binds (ps := ["_law_script", "_law_at"]) fun _ _ _ _ _ _ us hl => match us, hl with | [_, _], _ => rfl
  have F_law_take := fun_mk (st := s_law_take) l_law_take c_law_take k_law_take
  have b_law_take := F_law_take.binds (ps := ["_law_bag_here", "_law_many"]) fun _ _ _ _ _ _ us hl => match us, hl with | [_, _], _ => rfl
  have F_law_field := fun_mk (st := s_law_field) l_law_field c_law_field k_law_field
  have b_law_field := F_law_field.binds (ps := ["_law_words"]) fun _ _ _ _ _ _ us hl => match us, hl with | [_], _ => rfl
  have F_law_card := fun_mk (st := s_law_card) l_law_card c_law_card k_law_card
  have b_law_card := F_law_card.binds (ps := ["_law_some"]) fun _ _ _ _ _ _ us hl => match us, hl with | [_], _ => rfl
  have F_law_name := fun_mk (st := s_law_name) l_law_name c_law_name k_law_name
  have b_law_name := F_law_name.binds (ps := ["_law_bag_here", "_law_most"]) fun _ _ _ _ _ _ us hl => match us, hl with | [_, _], _ => rfl
  have F_law_short := fun_mk (st := s_law_short) l_law_short c_law_short k_law_short
  have b_law_short := F_law_short.binds (ps := ["_law_bag_here"]) fun _ _ _ _ _ _ us hl => match us, hl with | [_], _ => rfl
  have F_law_long := fun_mk (st := s_law_long) l_law_long c_law_long k_law_long
  have b_law_long := F_law_long.binds (ps := ["_law_bag_here"]) fun _ _ _ _ _ _ us hl => match us, hl with | [_], _ => rfl
  have F_law_seed := fun_mk (st := s_law_seed) l_law_seed c_law_seed k_law_seed
  have b_law_seed := F_law_seed.binds (ps := ["_law_bag_here"]) fun _ _ _ _ _ _ us hl => match us, hl with | [_], _ => rfl
  have F_law_top := fun_mk (st := s_law_top) l_law_top c_law_top k_law_top
  have b_law_top := F_law_top.binds (ps := ["_law_bag_here"]) fun _ _ _ _ _ _ us hl => match us, hl with | [_], _ => rfl
  have F_law_row_due := fun_mk (st := s_law_row_due) l_law_row_due c_law_row_due k_law_row_due
  have b_law_row_due := F_law_row_due.binds (ps := ["_law_crate", "_law_tag", "_law_sides", "_law_told"]) fun _ _ _ _ _ _ us hl => match us, hl with | [_, _, _, _], _ => rfl
  have F_law := fun_mk (st := s_law) l_law c_law k_law
  have b_law := F_law.binds (ps := ["_law_script"]) fun _ _ _ _ _ _ us hl => match us, hl with | [_], _ => rfl
  have kb_box_card_1_rows_right_left_top : ∃ mv : List Value, KBn K (PySem.W.fnOf "box_card" "box_card" (defArgs s_box_card) (defBody s_box_card) (defScope s_box_card) .none (.ref kd_box_card) dc_box_card pm_box_card an_box_card cd_box_card ct_box_card) ["name", "top", "left", "right", "rows"] 1 ["rows", "right", "left", "top"] (fun us ws => kgP [(0, 0), (2, 3), (2, 2), (2, 1), (2, 0)] us mv ws) (fun vs zs => kgP [(0, 0), (2, 3), (2, 2), (2, 1), (2, 0)] vs [] zs) := ⟨[], ⟨fun s us ws _ h1 h2 => match us, h1, ws, h2 with | [_], _, [_, _, _, _], _ => .of_eq (fd := PySem.W.fnOf "box_card" "box_card" (defArgs s_box_card) (defBody s_box_card) (defScope s_box_card) .none (.ref kd_box_card) dc_box_card pm_box_card an_box_card cd_box_card ct_box_card) rfl, fun r1 r2 => kgP_rel r1 .nil r2⟩⟩
  have bd_box_card_1 : ∃ ds : List Value, Vals [.str "", .str "", .str "", .int 0] ds ∧ Binds K (PySem.W.fnOf "box_card" "box_card" (defArgs s_box_card) (defBody s_box_card) (defScope s_box_card) .none (.ref kd_box_card) dc_box_card pm_box_card an_box_card cd_box_card ct_box_card) ["name", "top", "left", "right", "rows"] ds := FD_box_card.binds0 (ps := ["name", "top", "left", "right", "rows"]) 1 (by simp) rfl (fun D doc pm an cdv ct us ks l1 l2 => match us, l1, ks, l2 with | [_], _, [_, _, _, _], _ => ⟨_, _, _, _, _, _, rfl, rfl, ⟨_, _, _, _, _, _, rfl, rfl, ⟨_, _, _, _, _, _, rfl, rfl, ⟨_, _, _, _, _, _, rfl, rfl, rfl⟩⟩⟩⟩)
  have kb_row_card_2_text_left_right : ∃ mv : List Value, KBn K (PySem.W.fnOf "row_card" "row_card" (defArgs s_row_card) (defBody s_row_card) (defScope s_row_card) .none (.ref kd_row_card) dc_row_card pm_row_card an_row_card cd_row_card ct_row_card) ["box", "key", "left", "right", "text"] 2 ["text", "left", "right"] (fun us ws => kgP [(0, 0), (0, 1), (2, 1), (2, 2), (2, 0)] us mv ws) (fun vs zs => kgP [(0, 0), (0, 1), (2, 1), (2, 2), (2, 0)] vs [] zs) := ⟨[], ⟨fun s us ws _ h1 h2 => match us, h1, ws, h2 with | [_, _], _, [_, _, _], _ => .of_eq (fd := PySem.W.fnOf "row_card" "row_card" (defArgs s_row_card) (defBody s_row_card) (defScope s_row_card) .none (.ref kd_row_card) dc_row_card pm_row_card an_row_card cd_row_card ct_row_card) rfl, fun r1 r2 => kgP_rel r1 .nil r2⟩⟩
  have kb_row_card_0_key_box_text : ∃ mv : List Value, KBn K (PySem.W.fnOf "row_card" "row_card" (defArgs s_row_card) (defBody s_row_card) (defScope s_row_card) .none (.ref kd_row_card) dc_row_card pm_row_card an_row_card cd_row_card ct_row_card) ["box", "key", "left", "right", "text"] 0 ["key", "box", "text"] (fun us ws => kgP [(2, 1), (2, 0), (1, 0), (1, 1), (2, 2)] us mv ws) (fun vs zs => kgP [(2, 1), (2, 0), (1, 0), (1, 1), (2, 2)] vs [.str "", .str ""] zs) := FD_row_card.kbinds0 (ps := ["box", "key", "left", "right", "text"]) 0 ["key", "box", "text"] [("left", .str ""), ("right", .str "")] (fun us mv ws => kgP [(2, 1), (2, 0), (1, 0), (1, 1), (2, 2)] us mv ws) (by simp) (by simp) (fun r1 r2 r3 => kgP_rel r1 r2 r3) (fun D doc pm an cdv ct us mv ws l1 l2 l3 => match us, l1, mv, l2, ws, l3 with | [], _, [_, _], _, [_, _, _], _ => ⟨_, _, _, _, _, _, rfl, rfl, ⟨_, _, _, _, _, _, rfl, rfl, rfl⟩⟩)
  have kb_text_card_1_mark_rows_rank : ∃ mv : List Value, KBn K (PySem.W.fnOf "text_card" "text_card" (defArgs s_text_card) (defBody s_text_card) (defScope s_text_card) .none (.ref kd_text_card) dc_text_card pm_text_card an_text_card cd_text_card ct_text_card) ["text", "mark", "rank", "rows"] 1 ["mark", "rows", "rank"] (fun us ws => kgP [(0, 0), (2, 0), (2, 2), (2, 1)] us mv ws) (fun vs zs => kgP [(0, 0), (2, 0), (2, 2), (2, 1)] vs [] zs) := ⟨[], ⟨fun s us ws _ h1 h2 => match us, h1, ws, h2 with | [_], _, [_, _, _], _ => .of_eq (fd := PySem.W.fnOf "text_card" "text_card" (defArgs s_text_card) (defBody s_text_card) (defScope s_text_card) .none (.ref kd_text_card) dc_text_card pm_text_card an_text_card cd_text_card ct_text_card) rfl, fun r1 r2 => kgP_rel r1 .nil r2⟩⟩
  have kb_text_card_1_mark : ∃ mv : List Value, KBn K (PySem.W.fnOf "text_card" "text_card" (defArgs s_text_card) (defBody s_text_card) (defScope s_text_card) .none (.ref kd_text_card) dc_text_card pm_text_card an_text_card cd_text_card ct_text_card) ["text", "mark", "rank", "rows"] 1 ["mark"] (fun us ws => kgP [(0, 0), (2, 0), (1, 0), (1, 1)] us mv ws) (fun vs zs => kgP [(0, 0), (2, 0), (1, 0), (1, 1)] vs [.int 0, .int 1] zs) := FD_text_card.kbinds0 (ps := ["text", "mark", "rank", "rows"]) 1 ["mark"] [("rank", .int 0), ("rows", .int 1)] (fun us mv ws => kgP [(0, 0), (2, 0), (1, 0), (1, 1)] us mv ws) (by simp) (by simp) (fun r1 r2 r3 => kgP_rel r1 r2 r3) (fun D doc pm an cdv ct us mv ws l1 l2 l3 => match us, l1, mv, l2, ws, l3 with | [_], _, [_, _], _, [_], _ => ⟨_, _, _, _, _, _, rfl, rfl, ⟨_, _, _, _, _, _, rfl, rfl, rfl⟩⟩)
  have kb_head_card_1_cards_top_pages : ∃ mv : List Value, KBn K (PySem.W.fnOf "head_card" "head_card" (defArgs s_head_card) (defBody s_head_card) (defScope s_head_card) .none (.ref kd_head_card) dc_head_card pm_head_card an_head_card cd_head_card ct_head_card) ["seed", "pages", "cards", "top"] 1 ["cards", "top", "pages"] (fun us ws => kgP [(0, 0), (2, 2), (2, 0), (2, 1)] us mv ws) (fun vs zs => kgP [(0, 0), (2, 2), (2, 0), (2, 1)] vs [] zs) := ⟨[], ⟨fun s us ws _ h1 h2 => match us, h1, ws, h2 with | [_], _, [_, _, _], _ => .of_eq (fd := PySem.W.fnOf "head_card" "head_card" (defArgs s_head_card) (defBody s_head_card) (defScope s_head_card) .none (.ref kd_head_card) dc_head_card pm_head_card an_head_card cd_head_card ct_head_card) rfl, fun r1 r2 => kgP_rel r1 .nil r2⟩⟩
  have kb_head_card_0_seed : ∃ mv : List Value, KBn K (PySem.W.fnOf "head_card" "head_card" (defArgs s_head_card) (defBody s_head_card) (defScope s_head_card) .none (.ref kd_head_card) dc_head_card pm_head_card an_head_card cd_head_card ct_head_card) ["seed", "pages", "cards", "top"] 0 ["seed"] (fun us ws => kgP [(2, 0), (1, 0), (1, 1), (1, 2)] us mv ws) (fun vs zs => kgP [(2, 0), (1, 0), (1, 1), (1, 2)] vs [.int 4, .int 0, .str ""] zs) := FD_head_card.kbinds0 (ps := ["seed", "pages", "cards", "top"]) 0 ["seed"] [("pages", .int 4), ("cards", .int 0), ("top", .str "")] (fun us mv ws => kgP [(2, 0), (1, 0), (1, 1), (1, 2)] us mv ws) (by simp) (by simp) (fun r1 r2 r3 => kgP_rel r1 r2 r3) (fun D doc pm an cdv ct us mv ws l1 l2 l3 => match us, l1, mv, l2, ws, l3 with | [], _, [_, _, _], _, [_], _ => ⟨_, _, _, _, _, _, rfl, rfl, ⟨_, _, _, _, _, _, rfl, rfl, ⟨_, _, _, _, _, _, rfl, rfl, rfl⟩⟩⟩)
  have T0 : ∃ T : Txt K mg, T.f_law = f_law ∧ T.fd_law = PySem.W.fnOf "law" "law" (defArgs s_law) (defBody s_law) (defScope s_law) .none kV_law dc_law pm_law an_law cd_law ct_law := ⟨⟨f_field, _, F_field, PySem.W.mg_of X G a_field, b_field,
    f_filled, _, F_filled, PySem.W.mg_of X G a_filled, b_filled,
    f_mark_bytes, _, F_mark_bytes, PySem.W.mg_of X G a_mark_bytes, b_mark_bytes,
    f_box_card, _, F_box_card, PySem.W.mg_of X G a_box_card,
    f_row_card, _, F_row_card, PySem.W.mg_of X G a_row_card,
    f_text_card, _, F_text_card, PySem.W.mg_of X G a_text_card,
    f_head_card, _, F_head_card, PySem.W.mg_of X G a_head_card,
    f_law_bag, _, F_law_bag, PySem.W.mg_of X G a_law_bag, b_law_bag,
    f_law_take, _, F_law_take, PySem.W.mg_of X G a_law_take, b_law_take,
    f_law_field, _, F_law_field, PySem.W.mg_of X G a_law_field, b_law_field,
    f_law_card, _, F_law_card, PySem.W.mg_of X G a_law_card, b_law_card,
    f_law_name, _, F_law_name, PySem.W.mg_of X G a_law_name, b_law_name,
    f_law_short, _, F_law_short, PySem.W.mg_of X G a_law_short, b_law_short,
    f_law_long, _, F_law_long, PySem.W.mg_of X G a_law_long, b_law_long,
    f_law_seed, _, F_law_seed, PySem.W.mg_of X G a_law_seed, b_law_seed,
    f_law_top, _, F_law_top, PySem.W.mg_of X G a_law_top, b_law_top,
    f_law_row_due, _, F_law_row_due, PySem.W.mg_of X G a_law_row_due, b_law_row_due,
    f_law, _, F_law, PySem.W.mg_of X G a_law, b_law,
    kn_tuple_str,
    kb_box_card_1_rows_right_left_top,
    bd_box_card_1,
    kb_row_card_2_text_left_right,
    kb_row_card_0_key_box_text,
    kb_text_card_1_mark_rows_rank,
    kb_text_card_1_mark,
    kb_head_card_1_cards_top_pages,
    kb_head_card_0_seed,
    PySem.W.mg_none_of X G z_abs,
    PySem.W.mg_none_of X G z_int,
    PySem.W.mg_none_of X G z_isinstance,
    PySem.W.mg_none_of X G z_len,
    PySem.W.mg_none_of X G z_max,
    PySem.W.mg_none_of X G z_min,
    PySem.W.mg_none_of X G z_ord,
    PySem.W.mg_none_of X G z_range,
    PySem.W.mg_none_of X G z_str,
    PySem.W.mg_none_of X G z_tuple,
    t_BOX, PySem.W.mg_of X G g_BOX,
    t_BYTE, PySem.W.mg_of X G g_BYTE,
    t_HEAD, PySem.W.mg_of X G g_HEAD,
    t_LONG, PySem.W.mg_of X G g_LONG,
    t_ROW, PySem.W.mg_of X G g_ROW,
    t_SIZE, PySem.W.mg_of X G g_SIZE,
    t_TEXT, PySem.W.mg_of X G g_TEXT⟩, rfl, rfl⟩
  obtain ⟨T, e1, e2⟩ := T0
  exact ⟨PySem.W.fnOf "law" "law" (defArgs s_law) (defBody s_law) (defScope s_law) .none kV_law dc_law pm_law an_law cd_law ct_law, fun s v => .of_eq rfl, fun base _ _ => e1 ▸ e2 ▸ ok_law T⟩
theorem walk {l : PySem.W.OpenLaw} {q : Program} {loose : List Str} {XP : (Str → Option Value) → Heap → Prop} {YP : World → Heap → Prop} {d : DefRec} {K : Params → PySem.W.Frag} (hn : l.most = some 63) (hdf : d.params.defaults = [])
    (hY : ∀ (w : World) (h : Heap), YP w h → (K w.params).In h)
    (F : ∀ (w : World) (mg : Str → Option Value) (fa : Addr) (h : Heap), (K w.params).In h → h.Ns mainGlobals mg → mg d.name = some (.ref fa) →
      ∃ fd : FuncData, (∀ (s : Shared) (u : Value), BindsTo s fd ⟨[u], []⟩ [("_law_script", u)]) ∧ ∀ base : Heap, (K w.params).In base → base.Ns mainGlobals mg → FnOk l.prog w (K w.params) mg base CX0 4 fa fd ["_law_script"] (sp_law (K w.params))) :
    PySem.W.WalkO q loose XP YP l.row.toRowW d [] (fun f vs => PySem.call f vs) :=
  L2.walk_of (n := 63) (k := 4) (x := "_law_script") (CX := fun _ => CX0) (sp := fun w => sp_law (K w.params)) hn (by decide) hdf ⟨rfl, by decide, by decide⟩ hY F (fun _ _ a ns hl _ hS => ⟨a, ns, rfl, hS, hl, fun _ => rfl⟩) fun _ _ _ _ _ z => z
end Tl
open PySem PySem.W PyProof.Rows
set_option maxRecDepth 100000 in
set_option maxHeartbeats 0 in
theorem PySem.Challenge.cw_taleless_k11_cards_written_holds : PySem.Challenge.rw_taleless_k11_cards_written.Holds := by
  w_on; o_law; k_head; (case hw => w_witness2)
  k_fill
  refine Tl.walk (l := PySem.Challenge.rw_taleless_k11_cards_written) rfl rfl (fun w h Y => PySem.W.kIn_of Y) ?F
  case F =>
    intro w mg fa h KX G hmg
    refine' Tl.all_mk KX G hmg ?a_field ?l_field ?c_field ?k_field ?a_filled ?l_filled ?c_filled ?k_filled ?a_mark_bytes ?l_mark_bytes ?c_mark_bytes ?k_mark_bytes ?a_box_card ?l_box_card ?c_box_card ?k_box_card ?kd_box_card_top ?kd_box_card_left ?kd_box_card_right ?kd_box_card_rows ?a_row_card ?l_row_card ?c_row_card ?k_row_card ?kd_row_card_left ?kd_row_card_right ?a_text_card ?l_text_card ?c_text_card ?k_text_card ?kd_text_card_rank ?kd_text_card_rows ?a_head_card ?l_head_card ?c_head_card ?k_head_card ?kd_head_card_pages ?kd_head_card_cards ?kd_head_card_top ?a_law_bag ?l_law_bag ?c_law_bag ?k_law_bag ?a_law_take ?l_law_take ?c_law_take ?k_law_take ?a_law_field ?l_law_field ?c_law_field ?k_law_field ?a_law_card ?l_law_card ?c_law_card ?k_law_card ?a_law_name ?l_law_name ?c_law_name ?k_law_name ?a_law_short ?l_law_short ?c_law_short ?k_law_short ?a_law_long ?l_law_long ?c_law_long ?k_law_long ?a_law_seed ?l_law_seed ?c_law_seed ?k_law_seed ?a_law_top ?l_law_top ?c_law_top ?k_law_top ?a_law_row_due ?l_law_row_due ?c_law_row_due ?k_law_row_due ?a_law ?l_law ?c_law ?k_law ?kn_tuple_str ?z_abs ?z_int ?z_isinstance ?z_len ?z_max ?z_min ?z_ord ?z_range ?z_str ?z_tuple ?g_BOX ?g_BYTE ?g_HEAD ?g_LONG ?g_ROW ?g_SIZE ?g_TEXT
    (case a_field => k_is)
    (case l_field => k_is)
    (case c_field => k_is)
    (case k_field => k_is)
    (case a_filled => k_is)
    (case l_filled => k_is)
    (case c_filled => k_is)
    (case k_filled => k_is)
    (case a_mark_bytes => k_is)
    (case l_mark_bytes => k_is)
    (case c_mark_bytes => k_is)
    (case k_mark_bytes => k_is)
    (case a_box_card => k_is)
    (case l_box_card => k_is)
    (case c_box_card => k_is)
    (case k_box_card => k_is)
    (case kd_box_card_top => k_is)
    (case kd_box_card_left => k_is)
    (case kd_box_card_right => k_is)
    (case kd_box_card_rows => k_is)
    (case a_row_card => k_is)
    (case l_row_card => k_is)
    (case c_row_card => k_is)
    (case k_row_card => k_is)
    (case kd_row_card_left => k_is)
    (case kd_row_card_right => k_is)
    (case a_text_card => k_is)
    (case l_text_card => k_is)
    (case c_text_card => k_is)
    (case k_text_card => k_is)
    (case kd_text_card_rank => k_is)
    (case kd_text_card_rows => k_is)
    (case a_head_card => k_is)
    (case l_head_card => k_is)
    (case c_head_card => k_is)
    (case k_head_card => k_is)
    (case kd_head_card_pages => k_is)
    (case kd_head_card_cards => k_is)
    (case kd_head_card_top => k_is)
    (case a_law_bag => k_is)
    (case l_law_bag => k_is)
    (case c_law_bag => k_is)
    (case k_law_bag => k_is)
    (case a_law_take => k_is)
    (case l_law_take => k_is)
    (case c_law_take => k_is)
    (case k_law_take => k_is)
    (case a_law_field => k_is)
    (case l_law_field => k_is)
    (case c_law_field => k_is)
    (case k_law_field => k_is)
    (case a_law_card => k_is)
    (case l_law_card => k_is)
    (case c_law_card => k_is)
    (case k_law_card => k_is)
    (case a_law_name => k_is)
    (case l_law_name => k_is)
    (case c_law_name => k_is)
    (case k_law_name => k_is)
    (case a_law_short => k_is)
    (case l_law_short => k_is)
    (case c_law_short => k_is)
    (case k_law_short => k_is)
    (case a_law_long => k_is)
    (case l_law_long => k_is)
    (case c_law_long => k_is)
    (case k_law_long => k_is)
    (case a_law_seed => k_is)
    (case l_law_seed => k_is)
    (case c_law_seed => k_is)
    (case k_law_seed => k_is)
    (case a_law_top => k_is)
    (case l_law_top => k_is)
    (case c_law_top => k_is)
    (case k_law_top => k_is)
    (case a_law_row_due => k_is)
    (case l_law_row_due => k_is)
    (case c_law_row_due => k_is)
    (case k_law_row_due => k_is)
    (case a_law => k_is)
    (case l_law => k_is)
    (case c_law => k_is)
    (case k_law => k_is)
    (case kn_tuple_str => first | k_is | kit_is | kts_exm)
    (case z_abs => k_is)
    (case z_int => k_is)
    (case z_isinstance => k_is)
    (case z_len => k_is)
    (case z_max => k_is)
    (case z_min => k_is)
    (case z_ord => k_is)
    (case z_range => k_is)
    (case z_str => k_is)
    (case z_tuple => k_is)
    (case g_BOX => k_is)
    (case g_BYTE => k_is)
    (case g_HEAD => k_is)
    (case g_LONG => k_is)
    (case g_ROW => k_is)
    (case g_SIZE => k_is)
    (case g_TEXT => k_is)
#print axioms PySem.Challenge.cw_taleless_k11_cards_written_holds
